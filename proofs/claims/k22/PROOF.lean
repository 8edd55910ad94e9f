import PyProof.Rows.All
import Wide.All
import OpenK.AllK
import Wide.FinOn
import HandS.TupAny
import HandS.TupMul
import HandS.Zip
import HandS.Conv
import HandS.ForMost
import HandS.ForExc
import HandS.Walk
import HandS.CallSlots
import HandS.Lambda
import HandS.Nested
import HandS.Star
import HandS.Wide
import HandS.Style
import HandS.Deep
import HandS.IsInst
import HandS.RaiseMore
import HandS.SortInts
import HandS.SetFor
import HandS.Strs
import HandS.Ends
import HandS.HeadEnd
import HandS.Defaults
import HandS.Head2
import HandS.HeadHook2
import HandS.EndTab
import PyProof.Rows.RegStrFacts
import HandS.ExcInit
import KE.KExcSuper
import HandS.ExcIs
import HandS.ExcField
import HandS.HeadHook4
import HandS.SortRule
import HandS.TupSets
import HandS.SortKw
import KE.KMinKey
import PySem.Challenge.RW_endforend_k22_what_stretches_and_knots_r
import HandS.Head0
import HandS.Head1
import HandS.HeadHook1
import HandS.Codes
set_option Elab.async false
set_option linter.all false
set_option maxRecDepth 100000
set_option maxHeartbeats 4000000
/-! the rules that make tuples (the library's, turned): the new tuple's very object is known -/
namespace MI
open PySem L2
/-- a tuple's object, without a dict -/
structure TupO (o : Obj) : Prop where
  cls : o.cls = .type "tuple"
  dict : o.dict = none
end MI
namespace L2
open PySem PySem.Spec PyProof.Rows
section
variable {X : Cx} {e : Expr} {es : List Expr} {te : TE} {t : TA} {pos : Pos}
def tTupF (t : TA) : TE := fun σ H Q => t σ H fun xs H1 => xs.length ≤ sizeLine ∧ ∀ (p : Addr) (o : Obj), H1 p = none → MI.TupO o → Q (.ref p) (upd H1 p (.frz o (.tup xs)))
theorem pe_tupF {x1} (h : PA X es t) : PE X (.Tuple es x1 pos) (tTupF t) := by
  refine ⟨fun pins s σ H Q I hq8 => ?_⟩
  refine wpAny_Tuple_spliced (thn (h.run pos pins s σ H _ I hq8) fun us s18 ⟨xs, H1, I18, r, z, q⟩ => ⟨by rw [← r.length]; exact z, ?_⟩)
  have hf8 : H1 s18.heap.objs.size = none := I18.hok.fresh (Nat.le_refl _)
  refine ⟨.ref s18.heap.objs.size, upd H1 s18.heap.objs.size (.frz { cls := .type "tuple", data := .seq us.toArray } (.tup xs)), I18.laid (t' := s18.toks) (fun b u e => Heap.get?_push_of_some _ e) (Nat.le_refl _) ?_, rfl, q _ { cls := .type "tuple", data := .seq us.toArray } hf8 ?_⟩
  exact ⟨Heap.get?_push_size _ rfl, z, us, r, ⟨_, Heap.get?_push_size _ rfl, rfl, _, rfl⟩⟩
  exact ⟨rfl, rfl⟩
def rCatTF (K : PySem.W.Frag) : R2 := fun x y H Q => ∃ a b xs ys, x = .ref a ∧ y = .ref b ∧ SqT K H a xs ∧ SqT K H b ys ∧ xs ≠ [] ∧ xs.length + ys.length ≤ sizeLine ∧
  (ys = [] → Q (.ref a) H) ∧ (ys ≠ [] → ∀ (p : Addr) (o : Obj), H p = none → MI.TupO o → Q (.ref p) (upd H p (.frz o (.tup (xs ++ ys)))))
theorem op_catTF : OpR X (binaryOp .Add) (rCatTF X.K) := by
  intro pins s σ H x y v u Q I rx ry h
  obtain ⟨a, b, xs, ys, rfl, rfl, ha, hb, hx, hz8, q1, q2⟩ := h
  cases rx
  cases ry
  obtain ⟨its8, r18, p18, _⟩ := I.tuple ha
  obtain ⟨its28, r28, p28, _⟩ := I.tuple hb
  refine HT.cat_tup p18 p28 (fun z => hx (r18.nil_iff.mp z)) (fun z => ⟨.ref a, H, I, rfl, q1 (r28.nil_iff.mp z)⟩) (fun z => ?_) (by rw [← r18.length, ← r28.length]; exact hz8)
  refine ⟨.ref s.heap.objs.size, _, I.laid (t' := s.toks) (o := .frz { cls := .type "tuple", data := .seq (its8 ++ its28).toArray } (.tup (xs ++ ys))) (fun b ob q => Heap.get?_push_of_some _ q) (Nat.le_refl _) ?_, rfl, q2 (fun w => z (r28.nil_iff.mpr w)) _ { cls := .type "tuple", data := .seq (its8 ++ its28).toArray } (I.hok.fresh (Nat.le_refl _)) ?_⟩
  exact ⟨Heap.get?_push_size _ rfl, by rw [List.length_append]; exact hz8, _, r18.append r28, IsTup.new _ _⟩
  exact ⟨rfl, rfl⟩
def rCatAF (K : PySem.W.Frag) : R2 := fun x y H Q => ∃ a b xs ys, x = .ref a ∧ y = .ref b ∧ SqT K H a xs ∧ SqT K H b ys ∧ xs.length + ys.length ≤ sizeLine ∧
  (xs = [] → Q (.ref b) H) ∧ (xs ≠ [] → ys = [] → Q (.ref a) H) ∧ (xs ≠ [] → ys ≠ [] → ∀ (p : Addr) (o : Obj), H p = none → MI.TupO o → Q (.ref p) (upd H p (.frz o (.tup (xs ++ ys)))))
theorem op_catAF : OpR X (binaryOp .Add) (rCatAF X.K) := by
  intro pins s σ H x y v u Q I rx ry h
  obtain ⟨a, b, xs, ys, rfl, rfl, ha, hb, hz8, q08, q18, q28⟩ := h
  by_cases hx : xs = []
  · subst hx
    cases rx
    cases ry
    obtain ⟨its8, r18, p18, _⟩ := I.tuple ha
    obtain ⟨its28, r28, p28, _⟩ := I.tuple hb
    cases r18
    exact cat_tup0 p18 p28 ⟨.ref b, H, I, rfl, q08 rfl⟩
  · exact op_catTF pins s σ H _ _ v u Q I rx ry ⟨a, b, xs, ys, rfl, rfl, ha, hb, hx, hz8, q18 hx, q28 hx⟩
def rSlTF (K : PySem.W.Frag) : V → Option Int → Option Int → Hp → VK → Prop := fun x lo hi H Q => ∃ a xs, x = .ref a ∧ SqT K H a xs ∧
  ¬ (HT.sIx xs.length 0 lo = 0 ∧ HT.sIx xs.length xs.length hi = xs.length) ∧ ∀ (p : Addr) (o : Obj), H p = none → MI.TupO o → Q (.ref p) (upd H p (.frz o (.tup (cutV xs lo hi))))
theorem sl_tupF : SlR X (rSlTF X.K) := by
  intro pins s σ H x v vl vu lo hi sl Q I rx hs pl pu h
  obtain ⟨a, xs, rfl, hx8, hw8, q⟩ := h
  cases rx
  obtain ⟨its8, r, ht8, hz8⟩ := I.tuple hx8
  have hlen8 : its8.toArray.size = xs.length := by rw [List.size_toArray]; exact r.length.symm
  refine ⟨"tuple", _, PyProof.Rows.slot_tuple_getitem.lookup, ht8.typeIs, ?_⟩
  refine HT.getItem_tuple_cut ht8 hs pl pu (by rw [hlen8]; exact hw8) ?_ (by rw [hlen8]; exact hz8)
  rw [hlen8]
  refine ⟨.ref s.heap.objs.size, _, I.laid (t' := s.toks) (o := .frz { cls := .type "tuple", data := .seq ((its8.toArray.toList.drop (HT.sIx xs.length 0 lo)).take (HT.sIx xs.length xs.length hi - HT.sIx xs.length 0 lo)).toArray } (.tup (cutV xs lo hi))) (fun b ob q => Heap.get?_push_of_some _ q) (Nat.le_refl _) ?_, rfl, q _ { cls := .type "tuple", data := .seq ((its8.toArray.toList.drop (HT.sIx xs.length 0 lo)).take (HT.sIx xs.length xs.length hi - HT.sIx xs.length 0 lo)).toArray } (I.hok.fresh (Nat.le_refl _)) ?_⟩
  exact ⟨Heap.get?_push_size _ rfl, Nat.le_trans (cutV_length xs lo hi) hz8, _, (r.drop (HT.sIx xs.length 0 lo)).take (HT.sIx xs.length xs.length hi - HT.sIx xs.length 0 lo), IsTup.new _ _⟩
  exact ⟨rfl, rfl⟩
def rSlAF (K : PySem.W.Frag) : V → Option Int → Option Int → Hp → VK → Prop := fun x lo hi H Q => ∃ a xs, x = .ref a ∧ SqT K H a xs ∧
  (HT.sIx xs.length 0 lo = 0 ∧ HT.sIx xs.length xs.length hi = xs.length → Q (.ref a) H) ∧ (¬ (HT.sIx xs.length 0 lo = 0 ∧ HT.sIx xs.length xs.length hi = xs.length) → ∀ (p : Addr) (o : Obj), H p = none → MI.TupO o → Q (.ref p) (upd H p (.frz o (.tup (cutV xs lo hi)))))
theorem sl_tupAF : SlR X (rSlAF X.K) := by
  intro pins s σ H x v vl vu lo hi sl Q I rx hs pl pu h
  obtain ⟨a, xs, rfl, hx8, q18, q28⟩ := h
  by_cases hw8 : HT.sIx xs.length 0 lo = 0 ∧ HT.sIx xs.length xs.length hi = xs.length
  · cases rx
    obtain ⟨its8, r, ht8, hz8⟩ := I.tuple hx8
    have hlen8 : its8.toArray.size = xs.length := by rw [List.size_toArray]; exact r.length.symm
    refine ⟨"tuple", _, PyProof.Rows.slot_tuple_getitem.lookup, ht8.typeIs, ?_⟩
    exact getItem_tuple_whole ht8 hs pl pu (by rw [hlen8]; exact hw8) ⟨.ref a, H, I, rfl, q18 hw8⟩
  · exact sl_tupF pins s σ H _ v vl vu lo hi sl Q I rx hs pl pu ⟨a, xs, rfl, hx8, hw8, q28 hw8⟩
theorem call_tuple_ofF : CallR X (.type "tuple") (fun xs H Q => ∃ p ys, xs = [.ref p] ∧ ((SqL X.K H p ys ∧ ∀ (l : Addr) (o : Obj), H l = none → MI.TupO o → Q (.ref l) (upd H l (.frz o (.tup ys)))) ∨ (SqT X.K H p ys ∧ Q (.ref p) H))) := by
  intro pins s σ H xs us Q I r h
  obtain ⟨p, ys, rfl, h⟩ := h
  obtain ⟨u, rfl, rx⟩ := vals1 r
  cases rx
  rcases h with ⟨hq, q⟩ | ⟨hq, q⟩
  · obtain ⟨its8, r', pl, hz⟩ := I.list hq
    have hlen8 := r'.length
    refine call_tuple_list pl.isList (fun h' kp8 => ?_) (by simp only [List.size_toArray] <;> omega)
    have I18 : Inv X pins σ H { s with heap := h' } := I.kept (t' := s.toks) kp8
    have I28 : Inv X pins σ (upd H h'.objs.size (.frz { cls := .type "tuple", data := .seq its8.toArray } (.tup ys))) { s with heap := h'.push { cls := .type "tuple", data := .seq its8.toArray } } :=
      I18.laid (t' := s.toks) (fun b o e => Heap.get?_push_of_some _ e) (Nat.le_refl _) (show ObjOk X.prog X.w _ _ _ (.frz { cls := .type "tuple", data := .seq its8.toArray } (.tup ys)) from ⟨Heap.get?_push_size _ rfl, hz, its8, r', IsTup.new _ _⟩)
    exact ⟨.ref h'.objs.size, _, I28, rfl, q _ _ (I18.hok.fresh (Nat.le_refl _)) ⟨rfl, rfl⟩⟩
  · obtain ⟨its8, r', pl, hz⟩ := I.tuple hq
    exact call_tuple_same pl ⟨.ref p, H, I, rfl, q⟩
section
variable {te : St → Hp → (Int → Int → Hp → Prop) → Prop}
def tTupRgF (te : St → Hp → (Int → Int → Hp → Prop) → Prop) : TE := fun σ H Q => te σ H fun a b H1 => RgOk a b ∧ ∀ (q : Addr) (o : Obj), H1 q = none → MI.TupO o → Q (.ref q) (upd H1 q (.frz o (.tup (rgV a b))))
theorem pe_tupRgF {p pos : Pos} (hc : X.calm = true) (hg : Gl X "tuple") (hm : X.mg "tuple" = none) (he : PRg X e te) (na : starEach [e] X.env = (false, eval e X.env) :: starEach [] X.env := by rfl) : PE X (.Call (.Name "tuple" p) [e] [] pos) (tTupRgF te) := by
  refine ⟨fun pins s σ H Q I h => ?_⟩
  refine Call_ (ld_blt I hg hm boot_tuple (PyProof.Rows.callWith_type1 (args_cons (thn (he pins s σ H _ I h) fun x s1 ⟨r, a, b, t, u, v, H1, ex, hr, I1, ok, q⟩ => args_nil ?_) na) na))
  subst ex
  obtain ⟨b1, b2, b3, b4, b5⟩ := ok
  refine call_tuple_range (n := (b - a).toNat) (I1.ok.hd hc) hr (small_one b1 b2 b3 b4) (rangeSize_nat a b) b5 fun h' tk acc hk hi => ?_
  have I2 : Inv X pins σ H1 { s1 with heap := h', toks := tk } := I1.kept hk
  refine ⟨.ref h'.objs.size, upd H1 h'.objs.size (.frz _ (.tup (rgV a b))), I2.laid (t' := tk) (fun c o e => Heap.get?_push_of_some _ e) (Nat.le_refl _) (show ObjOk X.prog X.w _ _ _ (.frz { cls := .type "tuple", data := .seq acc } (.tup (rgV a b))) from ⟨Heap.get?_push_size _ rfl, ?_, acc.toList, vals_rg hi, ?_⟩), rfl, q _ _ (I2.hok.fresh (Nat.le_refl _)) ⟨rfl, rfl⟩⟩
  · rw [rgV_length, sizeLine_eq]; omega
  · rw [Array.toArray_toList]; exact IsTup.new _ _
end
def rRepTF (K : PySem.W.Frag) : R2 := fun x y H Q => ∃ l k xs, x = .ref l ∧ y = .int k ∧ SqT K H l xs ∧ xs ≠ [] ∧ 2 ≤ k ∧ k ≤ 1000 ∧ xs.length ≤ 1000 ∧ ∀ (p : Addr) (o : Obj), H p = none → MI.TupO o → Q (.ref p) (upd H p (.frz o (.tup (List.replicate k.toNat xs).flatten)))
theorem op_repTF : OpR X (binaryOp .Mult) (rRepTF X.K) := by
  intro pins s σ H x y v u Q I rx ry h
  obtain ⟨l, k, xs, rfl, rfl, hT, hne8, h1, h2, hz, q⟩ := h
  cases rx
  obtain ⟨t, rfl⟩ := ry
  obtain ⟨its8, r, ⟨⟨cls, dd, data, sl⟩, ho, hc, n, hd⟩, hs⟩ := I.tuple hT
  simp only at hc hd
  subst hc hd
  have hle8 : its8.length = xs.length := r.length.symm
  have hn8 : its8 ≠ [] := fun e => hne8 (by
    rw [e] at hle8
    exact List.eq_nil_of_length_eq_zero hle8.symm)
  have hi8 : its8.toArray.isEmpty = false := by
    cases its8 with
    | nil => exact absurd rfl hn8
    | cons a b => rfl
  have hsz08 : its8.toArray.size = xs.length := by rw [List.size_toArray, hle8]
  have hm8 : ((its8.toArray.size : Nat) : Int) * k ≤ 1000000 := by
    rw [hsz08]
    have a1 : ((xs.length : Nat) : Int) * k ≤ 1000 * k := Int.mul_le_mul_of_nonneg_right (by omega) (by omega)
    omega
  have flen8 : (List.replicate k.toNat its8).flatten.length ≤ sizeLine := by
    rw [PyProof.Rows.lm_len_rep_flat, hle8, sizeLine_eq]
    have a1 : k.toNat * xs.length ≤ 1000 * 1000 := Nat.mul_le_mul (by omega) hz
    omega
  have c08 : (decide (k < -(2 ^ 63)) || decide (k ≥ 2 ^ 63)) = false := by
    rw [decide_eq_false (by omega), decide_eq_false (by omega)] <;> rfl
  have c18 : (its8.toArray.isEmpty || k == 1) = false := by
    rw [hi8, Bool.false_or]
    exact beq_eq_false_iff_ne.mpr (by omega)
  have c28 : (decide (k ≤ 0) || its8.toArray.isEmpty) = false := by
    rw [hi8, Bool.or_false]
    exact decide_eq_false (by omega)
  have c48 : Builtin.Tuple.tupleTooMany (((its8.toArray.size : Nat) : Int) * k) = false := by
    unfold Builtin.Tuple.tupleTooMany
    rw [sizeLine_eq]
    exact decide_eq_false (by omega)
  refine wpAny_binaryOp_repeat_ref (T := "tuple") (U := "int") (by decide) ⟨_, ho, rfl⟩ (fun s' => typeIs_int s' k t) noFill_tuple_mul F.fills_int_mul F.slot_int_rmul repeat_tuple F.slot_int_index.lookup
    (call_meets F.slot_int_rmul (typeIs_int s k t) F.entry_int_rmul (F.args_int_rmul_2 _ _) (int_rmul_tuple k t l its8.toArray n dd sl)
      ⟨ho, rfl, ⟨_, ho, rfl⟩, call_meets F.slot_tuple_mul ⟨_, ho, rfl⟩ F.entry_tuple_mul (F.args_tuple_mul_2 _ _) (tuple_mulW l its8.toArray n dd sl k t c08 c18 c28 (by omega) c48 (by rw [size_rep, List.size_toArray]; exact flen8)) ⟨ho, ?_⟩⟩)
  rw [size_rep]
  refine ⟨.ref s.heap.objs.size, _, I.laid (t' := s.toks) (o := .frz { cls := .type "tuple", data := .seq (List.replicate k.toNat its8).flatten.toArray } (.tup (List.replicate k.toNat xs).flatten)) (fun b ob q => Heap.get?_push_of_some _ q) (Nat.le_refl _) ?_, rfl, q _ { cls := .type "tuple", data := .seq (List.replicate k.toNat its8).flatten.toArray } (I.hok.fresh (Nat.le_refl _)) ?_⟩
  exact ⟨Heap.get?_push_size _ rfl, by rw [PyProof.Rows.lm_len_rep_flat, sizeLine_eq]; have a1 : k.toNat * xs.length ≤ 1000 * 1000 := Nat.mul_le_mul (by omega) hz; omega, _, r.rep k.toNat, IsTup.new _ _⟩
  exact ⟨rfl, rfl⟩
end
end L2
namespace RZ
open PySem PySem.Spec PyProof.Rows L2
def ItzF (K : PySem.W.Frag) (a b : Addr) : It :=
  ⟨fun i H => ∃ (xs ys : List V) (x y : V), SqL K H a xs ∧ SqL K H b ys ∧ xs[i]? = some x ∧ ys[i]? = some y,
    fun i H v H' => ∃ T x y o, v = .ref T ∧ H T = none ∧ MI.TupO o ∧ H' = upd H T (.frz o (.tup [x, y])) ∧ (∀ xs, SqL K H a xs → xs[i]? = some x) ∧ ∀ ys, SqL K H b ys → ys[i]? = some y,
    fun i H => ∃ xs ys : List V, SqL K H a xs ∧ SqL K H b ys ∧ (xs.length ≤ i ∨ ys.length ≤ i)⟩
theorem turn_zipF {P : Program} {w : World} {K : PySem.W.Frag} {elts : List Expr} {kk : Nat} {tpos : Pos} {a b z TI TO i1 i2 : Addr} (D : ZipApart z TI TO i1 i2 a b) :
    Turn P w K (.Tuple elts kk tpos) (ItzF K a b) [z, TI, TO, i1, i2] z (fun i h => IsZip h z TI TO .none ∧ IsPair h TI (.ref i1) (.ref i2) ∧ (∃ x y, IsPair h TO x y) ∧ h.IsListIter i1 a i ∧ h.IsListIter i2 b i) where
  mem := by simp
  obj := fun i h st c hc => by
    obtain ⟨hz, hTI8, ⟨x, y, hTO8⟩, ⟨o1, e1, _, d1⟩, ⟨o2, e2, _, d2⟩⟩ := st
    have e' : c = z ∨ c = TI ∨ c = TO ∨ c = i1 ∨ c = i2 := by simpa using hc
    rcases e' with q | q | q | q | q
    · rw [q]; exact ⟨_, hz, fun v q => nomatch q⟩
    · rw [q]; exact ⟨_, hTI8, fun v q => nomatch q⟩
    · rw [q]; exact ⟨_, hTO8, fun v q => nomatch q⟩
    · rw [q]; exact ⟨o1, e1, fun v q => by rw [d1] at q; cases q⟩
    · rw [q]; exact ⟨o2, e2, fun v q => by rw [d2] at q; cases q⟩
  keep := fun i h h' st k => by
    obtain ⟨hz, hTI8, ⟨x, y, hTO8⟩, h1, h2⟩ := st
    exact ⟨k z (by simp) _ hz, k TI (by simp) _ hTI8, ⟨x, y, k TO (by simp) _ hTO8⟩, h1.at fun o q => k i1 (by simp) o q, h2.at fun o q => k i2 (by simp) o q⟩
  item := by
    intro X hP hw hK hc i pins s σ H E I hf st hg
    subst hP hw hK
    obtain ⟨hz, hTI8, ⟨x08, y08, hTO8⟩, h1, h2⟩ := st
    obtain ⟨xs, ys, x, y, hqx8, hqy8, hx, hy⟩ := hg
    obtain ⟨its, rv8, p, _⟩ := I.list hqx8
    obtain ⟨its2, rv28, p2, _⟩ := I.list hqy8
    obtain ⟨u, hu8, ru8⟩ := rv8.get hx
    obtain ⟨u2, hu28, ru28⟩ := rv28.get hy
    have hzl8 : z < s.heap.objs.size := Heap.lt_size hz
    refine wpAny_pyNext_zip_item D hz hTI8 hTO8 h1 h2 p.isList p2.isList (x := u) (y := u2) (by simpa using hu8) (by simpa using hu28) fun h' z' TO' h1' h2' hT hsz8 hk => ?_
    refine ⟨_, rfl, wpAny_letOwnedTupleGo_zip (s := { s with heap := h' }) z' fun h'' z'' sb => ?_⟩
    have hT28 : h''.get? s.heap.objs.size = some { cls := .type "tuple", data := .seq #[u, u2] } := (sb.2 _ (Nat.ne_of_gt hzl8)).trans hT
    have new8 : ObjOk X.prog X.w (upd H s.heap.objs.size (.frz { cls := .type "tuple", data := .seq #[u, u2] } (.tup [x, y]))) h'' s.heap.objs.size (.frz { cls := .type "tuple", data := .seq #[u, u2] } (.tup [x, y])) :=
      ⟨hT28, by show 2 ≤ sizeLine; decide, [u, u2], .cons ru8 (.cons ru28 .nil), ⟨_, hT28, rfl, _, rfl⟩⟩
    have I18 : Inv X pins σ (upd H s.heap.objs.size (.frz { cls := .type "tuple", data := .seq #[u, u2] } (.tup [x, y]))) { s with heap := h'' } :=
      I.turnedNew (t' := s.toks) (ch := [z, TI, TO, i1, i2]) (fun c o hb q => (sb.2 c (fun q' => hb (by simp [q']))).trans (hk c o (fun q' => hb (by simp [q'])) (fun q' => hb (by simp [q'])) (fun q' => hb (by simp [q'])) (fun q' => hb (by simp [q'])) q)) hf (Nat.le_refl _) new8
    refine ⟨.ref s.heap.objs.size, _, I18, rfl, ⟨_, x, y, _, rfl, I.hok.fresh (Nat.le_refl _), ⟨rfl, rfl⟩, rfl, fun l hl => by rw [I.list_inj hl hqx8]; exact hx, fun l hl => by rw [I.list_inj hl hqy8]; exact hy⟩, ⟨z'', ?_, ⟨u, u2, ?_⟩, ?_, ?_⟩, fun c hcm => ?_⟩
    · exact (sb.2 _ D.TIz).trans (hk _ _ D.TIz D.TITO D.TIi1 D.TIi2 hTI8)
    · exact (sb.2 _ D.TOz).trans TO'
    · exact h1'.at fun o q => (sb.2 _ D.i1z).trans q
    · exact h2'.at fun o q => (sb.2 _ D.i2z).trans q
    · have hlt8 : c < s.heap.objs.size := by
        have e' : c = z ∨ c = TI ∨ c = TO ∨ c = i1 ∨ c = i2 := by simpa using hcm
        rcases e' with q | q | q | q | q
        · rw [q]; exact hzl8
        · rw [q]; exact Heap.lt_size hTI8
        · rw [q]; exact Heap.lt_size hTO8
        · rw [q]; obtain ⟨_, e1, _⟩ := h1; exact Heap.lt_size e1
        · rw [q]; obtain ⟨_, e2, _⟩ := h2; exact Heap.lt_size e2
      rw [upd_ne (Nat.ne_of_lt hlt8)]
      exact (hf c hcm).1
  done := by
    intro X hP hw hK hc i pins s σ H E I hf st hg
    subst hP hw hK
    obtain ⟨hz, hTI8, ⟨x08, y08, hTO8⟩, h1, h2⟩ := st
    obtain ⟨xs, ys, hqx8, hqy8, hend⟩ := hg
    obtain ⟨its, rv8, p, _⟩ := I.list hqx8
    obtain ⟨its2, rv28, p2, _⟩ := I.list hqy8
    have l18 := rv8.length
    have l28 := rv28.length
    have he : its.toArray[i]? = none ∨ its2.toArray[i]? = none := by
      rcases hend with q | q
      · exact .inl (by simp; omega)
      · exact .inr (by simp; omega)
    exact wpAny_pyNext_zip_end (I.ok.hd hc) D hz hTI8 hTO8 h1 h2 p.isList p2.isList he fun h' hk => ⟨rfl, I.turnedL (t' := s.toks) (ch := [z, TI, TO, i1, i2]) (fun c o hb q =>
      hk c o (fun q' => hb (by simp [q'])) (fun q' => hb (by simp [q'])) (fun q' => hb (by simp [q'])) (fun q' => hb (by simp [q'])) q) hf⟩
  self := fun A i s Q E st h => wpAny_pyIter_zip st.1 h
def ItzTF (K : PySem.W.Frag) (a b : Addr) : It :=
  ⟨fun i H => ∃ (xs ys : List V) (x y : V), SqT K H a xs ∧ SqT K H b ys ∧ xs[i]? = some x ∧ ys[i]? = some y,
    fun i H v H' => ∃ T x y o, v = .ref T ∧ H T = none ∧ MI.TupO o ∧ H' = upd H T (.frz o (.tup [x, y])) ∧ (∀ xs, SqT K H a xs → xs[i]? = some x) ∧ ∀ ys, SqT K H b ys → ys[i]? = some y,
    fun i H => ∃ xs ys : List V, SqT K H a xs ∧ SqT K H b ys ∧ (xs.length ≤ i ∨ ys.length ≤ i)⟩
theorem turn_zipTF {P : Program} {w : World} {K : PySem.W.Frag} {elts : List Expr} {kk : Nat} {tpos : Pos} {a b z TI TO i1 i2 : Addr} (D : ZipApart z TI TO i1 i2 a b) :
    Turn P w K (.Tuple elts kk tpos) (ItzTF K a b) [z, TI, TO, i1, i2] z (fun i h => IsZip h z TI TO .none ∧ IsPair h TI (.ref i1) (.ref i2) ∧ (∃ x y, IsPair h TO x y) ∧ h.IsTupleIter i1 a i ∧ h.IsTupleIter i2 b i) where
  mem := by simp
  obj := fun i h st c hc => by
    obtain ⟨hz, hTI8, ⟨x, y, hTO8⟩, ⟨o1, e1, _, d1⟩, ⟨o2, e2, _, d2⟩⟩ := st
    have e' : c = z ∨ c = TI ∨ c = TO ∨ c = i1 ∨ c = i2 := by simpa using hc
    rcases e' with q | q | q | q | q
    · rw [q]; exact ⟨_, hz, fun v q => nomatch q⟩
    · rw [q]; exact ⟨_, hTI8, fun v q => nomatch q⟩
    · rw [q]; exact ⟨_, hTO8, fun v q => nomatch q⟩
    · rw [q]; exact ⟨o1, e1, fun v q => by rw [d1] at q; cases q⟩
    · rw [q]; exact ⟨o2, e2, fun v q => by rw [d2] at q; cases q⟩
  keep := fun i h h' st k => by
    obtain ⟨hz, hTI8, ⟨x, y, hTO8⟩, h1, h2⟩ := st
    exact ⟨k z (by simp) _ hz, k TI (by simp) _ hTI8, ⟨x, y, k TO (by simp) _ hTO8⟩, h1.at fun o q => k i1 (by simp) o q, h2.at fun o q => k i2 (by simp) o q⟩
  item := by
    intro X hP hw hK hc i pins s σ H E I hf st hg
    subst hP hw hK
    obtain ⟨hz, hTI8, ⟨x08, y08, hTO8⟩, h1, h2⟩ := st
    obtain ⟨xs, ys, x, y, hqx8, hqy8, hx, hy⟩ := hg
    obtain ⟨its, rv8, p, _⟩ := I.tuple hqx8
    obtain ⟨its2, rv28, p2, _⟩ := I.tuple hqy8
    obtain ⟨u, hu8, ru8⟩ := rv8.get hx
    obtain ⟨u2, hu28, ru28⟩ := rv28.get hy
    have hzl8 : z < s.heap.objs.size := Heap.lt_size hz
    refine pyNext_zipT_item D hz hTI8 hTO8 h1 h2 p p2 (x := u) (y := u2) (by simpa using hu8) (by simpa using hu28) fun h' z' TO' h1' h2' hT hsz8 hk => ?_
    refine ⟨_, rfl, wpAny_letOwnedTupleGo_zip (s := { s with heap := h' }) z' fun h'' z'' sb => ?_⟩
    have hT28 : h''.get? s.heap.objs.size = some { cls := .type "tuple", data := .seq #[u, u2] } := (sb.2 _ (Nat.ne_of_gt hzl8)).trans hT
    have new8 : ObjOk X.prog X.w (upd H s.heap.objs.size (.frz { cls := .type "tuple", data := .seq #[u, u2] } (.tup [x, y]))) h'' s.heap.objs.size (.frz { cls := .type "tuple", data := .seq #[u, u2] } (.tup [x, y])) :=
      ⟨hT28, by show 2 ≤ sizeLine; decide, [u, u2], .cons ru8 (.cons ru28 .nil), ⟨_, hT28, rfl, _, rfl⟩⟩
    have I18 : Inv X pins σ (upd H s.heap.objs.size (.frz { cls := .type "tuple", data := .seq #[u, u2] } (.tup [x, y]))) { s with heap := h'' } :=
      I.turnedNew (t' := s.toks) (ch := [z, TI, TO, i1, i2]) (fun c o hb q => (sb.2 c (fun q' => hb (by simp [q']))).trans (hk c o (fun q' => hb (by simp [q'])) (fun q' => hb (by simp [q'])) (fun q' => hb (by simp [q'])) (fun q' => hb (by simp [q'])) q)) hf (Nat.le_refl _) new8
    refine ⟨.ref s.heap.objs.size, _, I18, rfl, ⟨_, x, y, _, rfl, I.hok.fresh (Nat.le_refl _), ⟨rfl, rfl⟩, rfl, fun l hl => by rw [I.tuple_inj hl hqx8]; exact hx, fun l hl => by rw [I.tuple_inj hl hqy8]; exact hy⟩, ⟨z'', ?_, ⟨u, u2, ?_⟩, ?_, ?_⟩, fun c hcm => ?_⟩
    · exact (sb.2 _ D.TIz).trans (hk _ _ D.TIz D.TITO D.TIi1 D.TIi2 hTI8)
    · exact (sb.2 _ D.TOz).trans TO'
    · exact h1'.at fun o q => (sb.2 _ D.i1z).trans q
    · exact h2'.at fun o q => (sb.2 _ D.i2z).trans q
    · have hlt8 : c < s.heap.objs.size := by
        have e' : c = z ∨ c = TI ∨ c = TO ∨ c = i1 ∨ c = i2 := by simpa using hcm
        rcases e' with q | q | q | q | q
        · rw [q]; exact hzl8
        · rw [q]; exact Heap.lt_size hTI8
        · rw [q]; exact Heap.lt_size hTO8
        · rw [q]; obtain ⟨_, e1, _⟩ := h1; exact Heap.lt_size e1
        · rw [q]; obtain ⟨_, e2, _⟩ := h2; exact Heap.lt_size e2
      rw [upd_ne (Nat.ne_of_lt hlt8)]
      exact (hf c hcm).1
  done := by
    intro X hP hw hK hc i pins s σ H E I hf st hg
    subst hP hw hK
    obtain ⟨hz, hTI8, ⟨x08, y08, hTO8⟩, h1, h2⟩ := st
    obtain ⟨xs, ys, hqx8, hqy8, hend⟩ := hg
    obtain ⟨its, rv8, p, _⟩ := I.tuple hqx8
    obtain ⟨its2, rv28, p2, _⟩ := I.tuple hqy8
    have l18 := rv8.length
    have l28 := rv28.length
    have he : its.toArray[i]? = none ∨ its2.toArray[i]? = none := by
      rcases hend with q | q
      · exact .inl (by simp; omega)
      · exact .inr (by simp; omega)
    exact pyNext_zipT_end (I.ok.hd hc) D hz hTI8 hTO8 h1 h2 p p2 he fun h' hk => ⟨rfl, I.turnedL (t' := s.toks) (ch := [z, TI, TO, i1, i2]) (fun c o hb q =>
      hk c o (fun q' => hb (by simp [q'])) (fun q' => hb (by simp [q'])) (fun q' => hb (by simp [q'])) (fun q' => hb (by simp [q'])) q) hf⟩
  self := fun A i s Q E st h => wpAny_pyIter_zip st.1 h
def iZipAF (K : PySem.W.Frag) (ta : TA) : TI := fun σ H R => ta σ H fun vs H1 => ∃ a b xs ys, vs = [.ref a, .ref b] ∧ ((SqL K H1 a xs ∧ SqL K H1 b ys ∧ R (ItzF K a b) H1) ∨ (SqT K H1 a xs ∧ SqT K H1 b ys ∧ R (ItzTF K a b) H1))
theorem pi_zipAF {X : Cx} {e e2 : Expr} {ta : TA} {p pos tpos : Pos} {elts : List Expr} {kk : Nat} (hg : Gl X "zip") (hm : X.mg "zip" = none) (ha : PA X [e, e2] ta)
    (hs : starEach [e, e2] X.env = (false, eval e X.env) :: starEach [e2] X.env := by rfl) (hpl : (backTo pos (starEach [e2] X.env)).any (·.1) = false := by rfl) :
    PI X (.Tuple elts kk tpos) (.Call (.Name "zip" p) [e, e2] [] pos) (iZipAF X.K ta) := by
  refine ⟨fun pins s σ H R I h => ?_⟩
  refine Call_ (ld_blt I hg hm PyProof.Rows.boot_zip (PyProof.Rows.callWith_type1 (thn (ha.run pos pins s σ H _ I h) fun us s1 ⟨vs, H1, I1, r1, q18⟩ => ?_) hs hpl))
  obtain ⟨a, b, xs, ys, ex, q18⟩ := q18
  subst ex
  cases r1 with
  | cons r rr =>
    cases rr with
    | cons r' rr =>
      cases rr
      cases r
      cases r'
      have fresh58 : ∀ c, c ∈ [s1.heap.objs.size + 4, s1.heap.objs.size + 2, s1.heap.objs.size + 3, s1.heap.objs.size, s1.heap.objs.size + 1] → FpOk X pins H1 c := fun c hcm => by
        have e' : c = s1.heap.objs.size + 4 ∨ c = s1.heap.objs.size + 2 ∨ c = s1.heap.objs.size + 3 ∨ c = s1.heap.objs.size ∨ c = s1.heap.objs.size + 1 := by simpa using hcm
        have hle : s1.heap.objs.size ≤ c := by
          rcases e' with z | z | z | z | z
          · rw [z]; exact Nat.le_add_right _ _
          · rw [z]; exact Nat.le_add_right _ _
          · rw [z]; exact Nat.le_add_right _ _
          · rw [z]; exact Nat.le_refl _
          · rw [z]; exact Nat.le_add_right _ _
        exact I1.fpOk hle (I1.hok.fresh hle)
      rcases q18 with ⟨hqx8, hqy8, q⟩ | ⟨hqx8, hqy8, q⟩
      · obtain ⟨its, rv8, p1, _⟩ := I1.list hqx8
        obtain ⟨its2, rv28, p2, _⟩ := I1.list hqy8
        refine call_zip_2 p1.isList p2.isList fun h' hz hTI hTO h1 h2 hsz hk => wpAny_pyIter_zip hz ?_
        have I28 : Inv X pins σ H1 { s1 with heap := h' } := I1.kept (t' := s1.toks) hk
        exact ⟨s1.heap.objs.size + 4, [s1.heap.objs.size + 4, s1.heap.objs.size + 2, s1.heap.objs.size + 3, s1.heap.objs.size, s1.heap.objs.size + 1], _, _, H1, rfl, I28, turn_zipF (PySem.W.ktu_apart s1.heap.objs.size a b p1.lt p2.lt), ⟨hz, hTI, ⟨_, _, hTO⟩, h1, h2⟩, fresh58, q⟩
      · obtain ⟨its, rv8, p1, _⟩ := I1.tuple hqx8
        obtain ⟨its2, rv28, p2, _⟩ := I1.tuple hqy8
        obtain ⟨o1, ho1, _⟩ := id p1
        obtain ⟨o2, ho2, _⟩ := id p2
        refine call_zipT (show s1.heap.IsTuple a its.toArray from p1) (show s1.heap.IsTuple b its2.toArray from p2) fun h' hz hTI hTO h1 h2 hsz hk => wpAny_pyIter_zip hz ?_
        have I28 : Inv X pins σ H1 { s1 with heap := h' } := I1.kept (t' := s1.toks) hk
        exact ⟨s1.heap.objs.size + 4, [s1.heap.objs.size + 4, s1.heap.objs.size + 2, s1.heap.objs.size + 3, s1.heap.objs.size, s1.heap.objs.size + 1], _, _, H1, rfl, I28, turn_zipTF (PySem.W.ktu_apart s1.heap.objs.size a b (Heap.lt_size ho1) (Heap.lt_size ho2)), ⟨hz, hTI, ⟨_, _, hTO⟩, h1, h2⟩, fresh58, q⟩
end RZ
set_option maxRecDepth 100000
set_option maxHeartbeats 4000000
namespace MI
open PySem L2 LamX

/-! ## values, stores, outcomes -/
inductive IV where
  | d (x : PyData)
  | ref (n : Nat)
  | gl (x : Str)
  | tup (xs : List IV)
  | lam (k : Nat)
  | clo (k : Nat) (vs : List PyData)
  | exc (c : Str) (v : PyData)
  | scr (ns : List Int)
inductive IO where
  | lst (xs : List PyData)
  | lsx (xs : List IV)
  | dct (kvs : List (PyData × PyData))
  | dead
abbrev Sto := List IO
abbrev Rho := List (Option IV)
inductive Out (α : Type) where
  | ok (a : α) (S : Sto)
  | exn (c : Str) (v : PyData) (S : Sto)
  | bad
def Out.bind {α β : Type} (o : Out α) (f : α → Sto → Out β) : Out β := match o with
  | .ok a S => f a S
  | .exn c v S => .exn c v S
  | .bad => .bad
abbrev FE := Rho → Sto → Out IV
abbrev FT := Rho → Sto → Out Bool
abbrev FA := Rho → Sto → Out (List IV)

/-! ## the relation -/
/-- a lambda of the text: where it stands among its def's names -/
structure LI where
  params : Arguments
  body : Expr
  scope : Scope
  qual : Str
  fr : List Str
structure Ct where
  K : PySem.W.Frag
  mg : Str → Option Value
  T : List (Addr × Str) := []
  lam : Nat → Option LI := fun _ => none
  own : List (Str × Addr) := []
/-- what is no table of code objects -/
abbrev NT (o : HO) : Prop := ∀ ps, o ≠ .tbl ps
theorem ntL {xs : List V} : NT (.lst xs) := fun _ z => by cases z
theorem ntT {xs : List V} : NT (.tup xs) := fun _ z => by cases z
theorem ntD {xs : List (Key × V)} : NT (.dK xs) := fun _ z => by cases z
theorem ntX {xs : List (Str × V)} : NT (.xd xs) := fun _ z => by cases z
theorem ntF {o : Obj} {u : HO} : NT (.frz o u) := fun _ z => by cases z
/-- one object, as it stands -/
def KpO (a : Addr) (o : Obj) : HO := .ext fun h => h.get? a = some o
/-- the lambda's object -/
def LamO (f : Addr) (L : LI) (cl : List (Str × Addr)) (cc : Addr) : HO := .ext fun h => ∃ pm ctv : Value, h.get? f = some (PySem.W.kla_obj "<lambda>" L.qual L.params L.body L.scope cl pm cc ctv)
/-- an exception of the class at C, caught -/
def ExcO (a C dx : Addr) : HO := .ext fun h => ∃ (oe : Obj) (vs : Array Value), h.get? a = some oe ∧ Zc (.ref C) (some dx) oe ∧ oe.data = .fields vs
theorem ntK {a : Addr} {o : Obj} : NT (KpO a o) := fun _ z => by unfold KpO at z; cases z
theorem ntM {f cc : Addr} {L : LI} {cl : List (Str × Addr)} : NT (LamO f L cl cc) := fun _ z => by unfold LamO at z; cases z
theorem ntE {a C dx : Addr} : NT (ExcO a C dx) := fun _ z => by unfold ExcO at z; cases z
theorem ntC {c : Addr} {q : Str} : NT (CodeO c q) := fun _ z => codeO_ne _ z
/-- the captured cells, held -/
structure CellsT (H : Hp) (bd : List Addr) (cl : List (Str × Addr)) (fr : List Str) (ws : List V) : Prop where
  len : ws.length = fr.length
  inj : ∀ x y a, cl.lookup x = some a → cl.lookup y = some a → x = y
  all : ∀ y a, cl.lookup y = some a → y ∈ fr
  at_ : ∀ (i : Nat) (y : Str), fr[i]? = some y → ∃ (a : Addr) (o : Obj) (w : V) (u : Value), cl.lookup y = some a ∧ H a = some (KpO a o) ∧ a ∉ bd ∧ o.data = .cell (some u) ∧ ws[i]? = some w ∧ RelV w u
def KTup (K : PySem.W.Frag) (a : Addr) (xs : List V) : Prop :=
  ∃ (o : Obj) (its : Array Value) (n : Nat), K.lookup a = some o ∧ o.cls = .type "tuple" ∧ o.data = .seq its n ∧ its.size ≤ sizeLine ∧ Vals xs its.toList
/-- it has no dict -/
def KNd (K : PySem.W.Frag) (a : Addr) : Prop := ∀ o, K.lookup a = some o → o.dict = none
def KLst (K : PySem.W.Frag) (a : Addr) (xs : List V) : Prop :=
  ∃ (o : Obj) (its : Array Value) (n : Nat), K.lookup a = some o ∧ o.cls = .type "list" ∧ o.dict = none ∧ o.data = .seq its n ∧ its.size ≤ sizeLine ∧ Vals xs its.toList
@[simp] def kD : Key → PyData
  | .inl i => .int i
  | .inr x => .str x
theorem sqF {K : PySem.W.Frag} {H : Hp} {a : Addr} {o : Obj} {xs : List V} (h : H a = some (.frz o (.tup xs))) : SqT K H a xs := .inl (.inr ⟨o, h⟩)
mutual
inductive RD (K : PySem.W.Frag) (H : Hp) (bd : List Addr) : PyData → V → Prop
  | non : RD K H bd .none .non
  | bl (b : Bool) : RD K H bd (.bool b) (.bl b)
  | int (i : Int) : RD K H bd (.int i) (.int i)
  | str (x : Str) : RD K H bd (.str x) (.str x)
  | lst {a : Addr} {xs : List V} {ds : List PyData} (h : H a = some (.lst xs)) (hb : a ∉ bd) (r : RDs K H bd ds xs) : RD K H bd (.list ds) (.ref a)
  | tup {a : Addr} {xs : List V} {ds : List PyData} {o : Obj} (h : H a = some (.frz o (.tup xs))) (to : TupO o) (hb : a ∉ bd) (r : RDs K H bd ds xs) : RD K H bd (.tuple ds) (.ref a)
  | tupK {a : Addr} {xs : List V} {ds : List PyData} (h : KTup K a xs) (nd : KNd K a) (r : RDs K H bd ds xs) : RD K H bd (.tuple ds) (.ref a)
  | dct {a : Addr} {ks : List (Key × V)} {ds : List (PyData × PyData)} (h : H a = some (.dK ks)) (hb : a ∉ bd) (hk : ds.map (·.1) = ks.map fun p => kD p.1) (r : RDs K H bd (ds.map (·.2)) (ks.map (·.2))) : RD K H bd (.dict ds) (.ref a)
inductive RDs (K : PySem.W.Frag) (H : Hp) (bd : List Addr) : List PyData → List V → Prop
  | nil : RDs K H bd [] []
  | cons {d : PyData} {ds : List PyData} {v : V} {vs : List V} (h : RD K H bd d v) (t : RDs K H bd ds vs) : RDs K H bd (d :: ds) (v :: vs)
end
mutual
inductive RI (c : Ct) (H : Hp) (B Z : List Addr) : IV → V → Prop
  | d {x : PyData} {v : V} (h : RD c.K H (B ++ Z) x v) : RI c H B Z (.d x) v
  | ref {n : Nat} {b : Addr} (h : B[n]? = some b) : RI c H B Z (.ref n) (.ref b)
  | gl {x : Str} {a : Addr} (h : c.mg x = some (.ref a)) : RI c H B Z (.gl x) (.ref a)
  | tup {a : Addr} {xs : List V} {vs : List IV} {o : Obj} (h : H a = some (.frz o (.tup xs))) (to : TupO o) (hb : a ∉ B ++ Z) (r : RIs c H B Z vs xs) : RI c H B Z (.tup vs) (.ref a)
  | scr {a : Addr} {ns : List Int} (h : Rd H a (.lst (ns.map V.int))) (hb : a ∉ B ++ Z) : RI c H B Z (.scr ns) (.ref a)
  | scrK {a : Addr} {ns : List Int} (h : KLst c.K a (ns.map V.int)) : RI c H B Z (.scr ns) (.ref a)
  | lam {k : Nat} {f cc : Addr} {L : LI} (hk : c.lam k = some L) (h : H f = some (LamO f L (cloFrom c.own L.scope.names []) cc)) (hb : f ∉ B ++ Z) (hc : H cc = some (CodeO cc L.qual)) (hcb : cc ∉ B ++ Z) : RI c H B Z (.lam k) (.ref f)
  | clo {k : Nat} {f cc : Addr} {L : LI} {cl : List (Str × Addr)} {vs : List PyData} {ws : List V} (hk : c.lam k = some L) (h : H f = some (LamO f L cl cc)) (hb : f ∉ B ++ Z) (hc : H cc = some (CodeO cc L.qual)) (hcb : cc ∉ B ++ Z)
      (cs : CellsT H (B ++ Z) cl L.fr ws) (r : RDs c.K H (B ++ Z) vs ws) : RI c H B Z (.clo k vs) (.ref f)
  | exc {n : Str} {v : PyData} {a C dx : Addr} {y : V} (hC : c.mg n = some (.ref C)) (h : H a = some (ExcO a C dx)) (hb : a ∉ B ++ Z) (hd : H dx = some (.xd [("value", y)])) (hdb : dx ∉ B ++ Z) (r : RD c.K H (B ++ Z) v y) : RI c H B Z (.exc n v) (.ref a)
inductive RIs (c : Ct) (H : Hp) (B Z : List Addr) : List IV → List V → Prop
  | nil : RIs c H B Z [] []
  | cons {i : IV} {is : List IV} {v : V} {vs : List V} (h : RI c H B Z i v) (t : RIs c H B Z is vs) : RIs c H B Z (i :: is) (v :: vs)
end
def RO (c : Ct) (H : Hp) (B Z : List Addr) (b : Addr) : IO → Prop
  | .lst ds => ∃ xs, H b = some (.lst xs) ∧ RDs c.K H (B ++ Z) ds xs
  | .lsx vs => ∃ xs, H b = some (.lst xs) ∧ RIs c H B Z vs xs
  | .dct kvs => ∃ ks : List (Key × V), H b = some (.dK ks) ∧ (kvs.map (·.1) = ks.map fun p => kD p.1) ∧ RDs c.K H (B ++ Z) (kvs.map (·.2)) (ks.map (·.2))
  | .dead => ∃ xs, H b = some (.lst xs)
/-- a list, a dict -/
abbrev Kd (H : Hp) (z : Addr) : Prop := (∃ xs, H z = some (.lst xs)) ∨ ∃ ks, H z = some (.dK ks)
theorem kdNe {H : Hp} {z : Addr} (h : Kd H z) : H z ≠ none := by
  rcases h with ⟨xs, h⟩ | ⟨xs, h⟩ <;> (rw [h]; simp)
theorem kdKeep {H H' : Hp} {z : Addr} (h : Kd H z) (k : ∀ o, H z = some o → NT o → H' z = some o) : Kd H' z := by
  rcases h with ⟨xs, h⟩ | ⟨xs, h⟩
  · exact .inl ⟨_, k _ h ntL⟩
  · exact .inr ⟨_, k _ h ntD⟩
/-- the store S stands at the addresses B; Z: what others may change -/
structure SR (c : Ct) (H : Hp) (B Z : List Addr) (S : Sto) : Prop where
  len : B.length = S.length
  nd : B.Nodup
  zt : ∀ z, z ∈ Z → Kd H z
  zb : ∀ z, z ∈ Z → z ∉ B
  ob : ∀ (n : Nat) (b : Addr) (o : IO), B[n]? = some b → S[n]? = some o → RO c H B Z b o
  tb : Tabs c.T H
/-- how heaps go on -/
structure Ev (B : List Addr) (H : Hp) (B' : List Addr) (H' : Hp) : Prop where
  pre : ∃ N, B' = B ++ N ∧ ∀ b, b ∈ N → H b = none
  keep : ∀ a o, H a = some o → a ∉ B → NT o → H' a = some o
  trk : ∀ b, b ∈ B' → H' b ≠ none
  there : ∀ a, H a ≠ none → H' a ≠ none
theorem RO.there {c : Ct} {H : Hp} {B Z : List Addr} {b : Addr} {o : IO} (h : RO c H B Z b o) : H b ≠ none := by
  cases o with
  | lst ds => obtain ⟨xs, e, _⟩ := h; rw [e]; simp
  | lsx ds => obtain ⟨xs, e, _⟩ := h; rw [e]; simp
  | dct _ => obtain ⟨xs, e, _⟩ := h; rw [e]; simp
  | dead => obtain ⟨xs, e⟩ := h; rw [e]; simp
theorem RO.kind {c : Ct} {H : Hp} {B Z : List Addr} {b : Addr} {o : IO} (h : RO c H B Z b o) : (∃ xs, H b = some (.lst xs)) ∨ ∃ ks, H b = some (.dK ks) := by
  cases o with
  | lst ds => obtain ⟨xs, e, _⟩ := h; exact .inl ⟨_, e⟩
  | lsx ds => obtain ⟨xs, e, _⟩ := h; exact .inl ⟨_, e⟩
  | dct _ => obtain ⟨xs, e, _⟩ := h; exact .inr ⟨_, e⟩
  | dead => obtain ⟨xs, e⟩ := h; exact .inl ⟨_, e⟩
theorem tabS_upd {H : Hp} {P b : Addr} {q : Str} {o : HO} (t : TabS H P q) (h1 : ∀ ps, H b ≠ some (.tbl ps)) (h2 : ∀ φ, H b ≠ some (.ext φ)) : TabS (upd H b o) P q := by
  obtain ⟨ps, a1, a2, a3⟩ := t
  refine ⟨ps, by rw [upd_ne fun e => h1 ps (by rw [← e]; exact a1)]; exact a1, a2, fun pos cv hc => ?_⟩
  obtain ⟨c, e1, e2⟩ := a3 pos cv hc
  exact ⟨c, e1, by rw [upd_ne fun e => h2 _ (by rw [← e]; exact e2)]; exact e2⟩
theorem SR.kind {c : Ct} {H : Hp} {B Z : List Addr} {S : Sto} (s : SR c H B Z S) {b : Addr} (hb : b ∈ B) : (∃ xs, H b = some (.lst xs)) ∨ ∃ ks, H b = some (.dK ks) := by
  obtain ⟨n, hn⟩ := List.getElem?_of_mem hb
  have hl : n < S.length := by rw [← s.len]; exact (List.getElem?_eq_some_iff.mp hn).1
  exact (s.ob n b _ hn (List.getElem?_eq_getElem hl)).kind
theorem kind_tab {H : Hp} {P b : Addr} {q : Str} {o : HO} (h : (∃ xs, H b = some (.lst xs)) ∨ ∃ ks, H b = some (.dK ks)) (t : TabS H P q) : TabS (L2.upd H b o) P q := by
  rcases h with ⟨xs, h⟩ | ⟨xs, h⟩ <;> exact tabS_upd t (fun _ z => by rw [h] at z; cases z) (fun _ z => by rw [h] at z; cases z)
theorem SR.trk {c : Ct} {H : Hp} {B Z : List Addr} {S : Sto} (s : SR c H B Z S) : ∀ b, b ∈ B → H b ≠ none := fun b hb => by
  obtain ⟨n, hn⟩ := List.getElem?_of_mem hb
  have hl : n < S.length := by rw [← s.len]; exact (List.getElem?_eq_some_iff.mp hn).1
  exact (s.ob n b _ hn (List.getElem?_eq_getElem hl)).there
theorem Ev.refl {c : Ct} {H : Hp} {B Z : List Addr} {S : Sto} (s : SR c H B Z S) : Ev B H B H := ⟨⟨[], by simp, fun _ h => by cases h⟩, fun _ _ h _ _ => h, s.trk, fun _ h => h⟩
theorem Ev.trans {H H1 H2 : Hp} {B B1 B2 : List Addr} (e : Ev B H B1 H1) (f : Ev B1 H1 B2 H2) : Ev B H B2 H2 := by
  obtain ⟨N, rfl, n1⟩ := e.pre
  obtain ⟨N2, rfl, n2⟩ := f.pre
  have key : ∀ b, H1 b = none → H b = none := fun b hb => by
    cases q : H b with
    | none => rfl
    | some o => exact absurd hb (e.there b (by rw [q]; simp))
  refine ⟨⟨N ++ N2, by rw [List.append_assoc], fun b hb => ?_⟩, fun a o h hB nt => ?_, f.trk, fun a h => f.there a (e.there a h)⟩
  · rcases List.mem_append.mp hb with h | h
    · exact n1 b h
    · exact key b (n2 b h)
  · refine f.keep a o (e.keep a o h hB nt) (fun hm => ?_) nt
    rcases List.mem_append.mp hm with z | z
    · exact hB z
    · rw [n1 a z] at h; cases h
theorem rd_mono {H H' : Hp} {a : Addr} {u : HO} (r : Rd H a u) (nu : NT u) (k : ∀ o, H a = some o → NT o → H' a = some o) : Rd H' a u := by
  rcases r with r | ⟨o, r⟩
  · exact .inl (k _ r nu)
  · exact .inr ⟨o, k _ r ntF⟩
theorem rd_there {H : Hp} {a : Addr} {u : HO} (r : Rd H a u) : H a ≠ none := by
  rcases r with r | ⟨o, r⟩ <;> (rw [r]; simp)
section
variable {K : PySem.W.Frag} {H H' : Hp} {bd bd' : List Addr}
mutual
theorem RD.mono (k : ∀ a o, H a = some o → a ∉ bd → NT o → H' a = some o) (g : ∀ a, a ∈ bd' → a ∈ bd ∨ H a = none) : ∀ {d : PyData} {v : V}, RD K H bd d v → RD K H' bd' d v
  | _, _, .non => .non
  | _, _, .bl b => .bl b
  | _, _, .int i => .int i
  | _, _, .str x => .str x
  | _, _, .lst h hb r => .lst (k _ _ h hb ntL) (fun m => (g _ m).elim hb fun z => by rw [h] at z; cases z) (RDs.mono k g r)
  | _, _, .tup h to hb r => .tup (k _ _ h hb ntF) to (fun m => (g _ m).elim hb fun z => by rw [h] at z; cases z) (RDs.mono k g r)
  | _, _, .tupK h nd r => .tupK h nd (RDs.mono k g r)
  | _, _, .dct h hb hk r => .dct (k _ _ h hb ntD) (fun m => (g _ m).elim hb fun z => by rw [h] at z; cases z) hk (RDs.mono k g r)
theorem RDs.mono (k : ∀ a o, H a = some o → a ∉ bd → NT o → H' a = some o) (g : ∀ a, a ∈ bd' → a ∈ bd ∨ H a = none) : ∀ {d : List PyData} {v : List V}, RDs K H bd d v → RDs K H' bd' d v
  | _, _, .nil => .nil
  | _, _, .cons h t => .cons (RD.mono k g h) (RDs.mono k g t)
end
end
theorem Ev.far {H H' : Hp} {B B' Z : List Addr} (e : Ev B H B' H') : ∀ a, a ∈ B' ++ Z → a ∈ B ++ Z ∨ H a = none := fun a h => by
  obtain ⟨N, rfl, n⟩ := e.pre
  rcases List.mem_append.mp h with h | h
  · rcases List.mem_append.mp h with h | h
    · exact .inl (List.mem_append_left _ h)
    · exact .inr (n a h)
  · exact .inl (List.mem_append_right _ h)
theorem Ev.kp {H H' : Hp} {B B' Z : List Addr} (e : Ev B H B' H') : ∀ a o, H a = some o → a ∉ B ++ Z → NT o → H' a = some o := fun a o h hb nt => e.keep a o h (fun m => hb (List.mem_append_left _ m)) nt
theorem CellsT.mono {H H' : Hp} {bd bd' : List Addr} {cl : List (Str × Addr)} {fr : List Str} {ws : List V} (t : CellsT H bd cl fr ws) (k : ∀ a o, H a = some o → a ∉ bd → NT o → H' a = some o) (g : ∀ a, a ∈ bd' → a ∈ bd ∨ H a = none) : CellsT H' bd' cl fr ws :=
  ⟨t.len, t.inj, t.all, fun i y h => by
    obtain ⟨a, o, w, u, h1, h2, h3, h4, h5, h6⟩ := t.at_ i y h
    exact ⟨a, o, w, u, h1, k _ _ h2 h3 ntK, (fun m => (g _ m).elim h3 fun z => by (rw [h2] at z; cases z)), h4, h5, h6⟩⟩
theorem far_out {H : Hp} {bd bd' : List Addr} {a : Addr} {o : HO} (h : H a = some o) (hb : a ∉ bd) (g : ∀ a, a ∈ bd' → a ∈ bd ∨ H a = none) : a ∉ bd' := fun m => (g _ m).elim hb fun z => by rw [h] at z; cases z
theorem RD.ev {K : PySem.W.Frag} {H H' : Hp} {B B' Z : List Addr} (e : Ev B H B' H') {d : PyData} {v : V} (r : RD K H (B ++ Z) d v) : RD K H' (B' ++ Z) d v := r.mono e.kp e.far
theorem RDs.ev {K : PySem.W.Frag} {H H' : Hp} {B B' Z : List Addr} (e : Ev B H B' H') {d : List PyData} {v : List V} (r : RDs K H (B ++ Z) d v) : RDs K H' (B' ++ Z) d v := r.mono e.kp e.far
section
variable {c : Ct} {H H' : Hp} {B B' Z : List Addr}
mutual
theorem RI.ev (e : Ev B H B' H') : ∀ {i : IV} {v : V}, RI c H B Z i v → RI c H' B' Z i v
  | _, _, .d h => .d (h.ev e)
  | _, _, .ref h => .ref (by
      obtain ⟨N, rfl, _⟩ := e.pre
      rw [List.getElem?_append_left (List.getElem?_eq_some_iff.mp h).1]; exact h)
  | _, _, .gl h => .gl h
  | _, _, .tup h to hb r => .tup (e.kp _ _ h hb ntF) to (fun m => (e.far _ m).elim hb fun z => by rw [h] at z; cases z) (RIs.ev e r)
  | _, _, .scr h hb => .scr (rd_mono h ntL fun o q => e.kp _ o q hb) (fun m => (e.far _ m).elim hb (rd_there h))
  | _, _, .scrK h => .scrK h
  | _, _, .lam hk h hb hc hcb => .lam hk (e.kp _ _ h hb ntM) (far_out h hb e.far) (e.kp _ _ hc hcb ntC) (far_out hc hcb e.far)
  | _, _, .clo hk h hb hc hcb cs r => .clo hk (e.kp _ _ h hb ntM) (far_out h hb e.far) (e.kp _ _ hc hcb ntC) (far_out hc hcb e.far) (cs.mono e.kp e.far) (r.ev e)
  | _, _, .exc hC h hb hd hdb r => .exc hC (e.kp _ _ h hb ntE) (far_out h hb e.far) (e.kp _ _ hd hdb ntX) (far_out hd hdb e.far) (r.ev e)
theorem RIs.ev (e : Ev B H B' H') : ∀ {i : List IV} {v : List V}, RIs c H B Z i v → RIs c H' B' Z i v
  | _, _, .nil => .nil
  | _, _, .cons h t => .cons (RI.ev e h) (RIs.ev e t)
end
end
theorem RO.evs {c : Ct} {H H' : Hp} {B B' Z : List Addr} {b : Addr} {o : IO} (r : RO c H B Z b o) (e : Ev B H B' H') (kb : H' b = H b) : RO c H' B' Z b o := by
  cases o with
  | lst ds => obtain ⟨xs, h1, h2⟩ := r; exact ⟨xs, by rw [kb]; exact h1, h2.ev e⟩
  | lsx ds => obtain ⟨xs, h1, h2⟩ := r; exact ⟨xs, by rw [kb]; exact h1, h2.ev e⟩
  | dct _ => obtain ⟨xs, h1, h2, h3⟩ := r; exact ⟨xs, by rw [kb]; exact h1, h2, h3.ev e⟩
  | dead => obtain ⟨xs, h1⟩ := r; exact ⟨xs, by rw [kb]; exact h1⟩
/-- slots -/
structure RR (c : Ct) (H : Hp) (B Z : List Addr) (r : Rho) (σ : L2.St) : Prop where
  len : r.length = σ.length
  at_ : ∀ (i : Nat) (v : IV), r[i]? = some (some v) → ∃ x, σ[i]? = some (some x) ∧ RI c H B Z v x
theorem RR.ev {c : Ct} {H H' : Hp} {B B' Z : List Addr} {r : Rho} {σ : L2.St} (e : Ev B H B' H') (h : RR c H B Z r σ) : RR c H' B' Z r σ := ⟨h.len, fun i v q => by
  obtain ⟨x, h1, h2⟩ := h.at_ i v q
  exact ⟨x, h1, h2.ev e⟩⟩
theorem RR.set {c : Ct} {H : Hp} {B Z : List Addr} {r : Rho} {σ : L2.St} (h : RR c H B Z r σ) {v : IV} {x : V} (hv : RI c H B Z v x) (i : Nat) : RR c H B Z (r.set i (some v)) (σ.set i (some x)) := by
  refine ⟨by rw [List.length_set, List.length_set]; exact h.len, fun j w q => ?_⟩
  by_cases hj : i = j
  · subst hj
    by_cases hl : i < r.length
    · rw [List.getElem?_set_self hl] at q
      cases q
      exact ⟨x, List.getElem?_set_self (by rw [← h.len]; exact hl), hv⟩
    · rw [List.getElem?_eq_none (by simpa using hl)] at q; cases q
  · rw [List.getElem?_set_ne hj] at q
    obtain ⟨y, h1, h2⟩ := h.at_ j w q
    exact ⟨y, by rw [List.getElem?_set_ne hj]; exact h1, h2⟩
/-- exceptions of the program's own classes -/
def RX (c : Ct) (H : Hp) (bd : List Addr) (n : Str) (v : PyData) (cls : Value) (dd : Option Addr) : Prop :=
  ∃ C dx y, c.mg n = some (.ref C) ∧ cls = .ref C ∧ dd = some dx ∧ H dx = some (.xd [("value", y)]) ∧ dx ∉ bd ∧ RD c.K H bd v y

/-- behind an outcome -/
def Post (c : Ct) (W : WX) (B Z : List Addr) (H : Hp) (σ : L2.St) {α : Type} (o : Out α) (Q : α → Sto → List Addr → Hp → Prop) : Prop := match o with
  | .ok v S' => ∀ B' H', Ev B H B' H' → SR c H' B' Z S' → Q v S' B' H'
  | .exn n v S' => ∀ cls dd B' H', Ev B H B' H' → SR c H' B' Z S' → RX c H' (B' ++ Z) n v cls dd → W cls dd σ H'
  | .bad => False
section
variable {c : Ct} {W : WX} {B Z B1 : List Addr} {H H1 : Hp} {σ : L2.St} {α β : Type}
theorem Post.far {o : Out α} {Q : α → Sto → List Addr → Hp → Prop} (e : Ev B H B1 H1) (h : Post c W B Z H σ o Q) : Post c W B1 Z H1 σ o Q := by
  cases o with
  | ok v S => exact fun B' H' f s => h B' H' (e.trans f) s
  | exn n v S => exact fun cls dd B' H' f s r => h cls dd B' H' (e.trans f) s r
  | bad => exact h
theorem Post.imp {o : Out α} {Q R : α → Sto → List Addr → Hp → Prop} (h : Post c W B Z H σ o Q) (k : ∀ v S' B' H', Ev B H B' H' → SR c H' B' Z S' → Q v S' B' H' → R v S' B' H') : Post c W B Z H σ o R := by
  cases o with
  | ok v S => exact fun B' H' f s => k v S B' H' f s (h B' H' f s)
  | exn n v S => exact h
  | bad => exact h
/-- one after the other -/
theorem Post.bind {o : Out α} {f : α → Sto → Out β} {Q : β → Sto → List Addr → Hp → Prop} (h : Post c W B Z H σ (o.bind f) Q) : Post c W B Z H σ o fun v S' B' H' => Post c W B' Z H' σ (f v S') Q := by
  cases o with
  | ok v S =>
    have h : Post c W B Z H σ (f v S) Q := h
    exact fun B' H' e s => h.far e
  | exn n v S => exact h
  | bad => exact h
theorem Post.ret {v : α} {S : Sto} {Q : α → Sto → List Addr → Hp → Prop} (s : SR c H B Z S) (h : Post c W B Z H σ (.ok v S) Q) : Q v S B H := h B H (Ev.refl s) s
end

/-! ## new objects -/
section
variable {c : Ct} {W : WX} {B Z : List Addr} {H : Hp} {S : Sto}
theorem SR.out {p : Addr} (s : SR c H B Z S) (hp : H p = none) : p ∉ B ++ Z := fun m => by
  rcases List.mem_append.mp m with m | m
  · exact s.trk p m hp
  · exact kdNe (s.zt p m) hp
theorem Ev.new {p : Addr} {o : HO} (s : SR c H B Z S) (hp : H p = none) : Ev B H B (upd H p o) := by
  refine ⟨⟨[], by simp, fun _ h => by cases h⟩, fun a u h _ _ => ?_, fun b hb => ?_, fun a h => ?_⟩
  rotate_left
  rotate_left
  · by_cases q : a = p
    · rw [q, upd_same]; simp
    · rw [upd_ne q]; exact h
  · rw [upd_ne (ne_of_none h hp)]; exact h
  · have nb : b ≠ p := fun e => s.trk b hb (by rw [e]; exact hp)
    rw [upd_ne nb]; exact s.trk b hb
/-- a step that leaves the store's own objects -/
theorem SR.same {H' : Hp} (s : SR c H B Z S) (e : Ev B H B H') (tb : Tabs c.T H') (k : ∀ b, b ∈ B → H' b = H b) : SR c H' B Z S := by
  refine ⟨s.len, s.nd, fun z hz => kdKeep (s.zt z hz) fun o h nt => e.keep z o h (s.zb z hz) nt, s.zb, fun n b o hb ho => ?_, tb⟩
  · have r := s.ob n b o hb ho
    have kb := k b (List.mem_of_getElem? hb)
    exact r.evs e kb
theorem SR.new {p : Addr} {o : HO} (s : SR c H B Z S) (hp : H p = none) : SR c (upd H p o) B Z S :=
  s.same (Ev.new s hp) (Tabs.ext s.tb fun b u h => by rw [upd_ne (ne_of_none h hp)]; exact h) fun b hb => upd_ne fun e => s.trk b hb (by rw [e]; exact hp)
theorem RD.newList {p : Addr} {ds : List PyData} {xs : List V} (s : SR c H B Z S) (hp : H p = none) (r : RDs c.K H (B ++ Z) ds xs) : RD c.K (upd H p (.lst xs)) (B ++ Z) (.list ds) (.ref p) :=
  .lst upd_same (s.out hp) (r.ev (Ev.new s hp))
theorem RD.newTup {p : Addr} {o : Obj} {ds : List PyData} {xs : List V} (s : SR c H B Z S) (hp : H p = none) (to : TupO o) (r : RDs c.K H (B ++ Z) ds xs) : RD c.K (upd H p (.frz o (.tup xs))) (B ++ Z) (.tuple ds) (.ref p) :=
  .tup upd_same to (s.out hp) (r.ev (Ev.new s hp))
/-- a new object of the store -/
theorem Ev.push {p : Addr} {o : HO} (s : SR c H B Z S) (hp : H p = none) : Ev B H (B ++ [p]) (upd H p o) := by
  have e := Ev.new (o := o) s hp
  refine ⟨⟨[p], rfl, fun b hb => by rw [List.mem_singleton.mp hb]; exact hp⟩, e.keep, fun b hb => ?_, e.there⟩
  rcases List.mem_append.mp hb with h | h
  · exact e.trk b h
  · rw [List.mem_singleton.mp h, upd_same]; simp
theorem SR.push {p : Addr} {o : HO} {io : IO} (s : SR c H B Z S) (hp : H p = none) (r : RO c (upd H p o) (B ++ [p]) Z p io) : SR c (upd H p o) (B ++ [p]) Z (S ++ [io]) := by
  have e := Ev.push (o := o) s hp
  have np : p ∉ B := fun m => s.trk p m hp
  refine ⟨by rw [List.length_append, List.length_append, s.len] <;> rfl, List.nodup_append.mpr ⟨s.nd, by simp, fun a ha b hb q => by rw [List.mem_singleton.mp hb] at q; exact np (q ▸ ha)⟩, fun z hz => kdKeep (s.zt z hz) fun o h nt => e.keep z o h (s.zb z hz) nt, fun z hz m => ?_, fun n b o' hb ho => ?_, Tabs.ext s.tb fun b u h => by rw [upd_ne (ne_of_none h hp)]; exact h⟩
  · rcases List.mem_append.mp m with m | m
    · exact s.zb z hz m
    · rw [List.mem_singleton.mp m] at hz; exact kdNe (s.zt p hz) hp
  · by_cases hn : n < S.length
    · rw [List.getElem?_append_left (by rw [s.len]; exact hn)] at hb
      rw [List.getElem?_append_left hn] at ho
      have r' := s.ob n b o' hb ho
      have nb : b ≠ p := fun q => np (q ▸ List.mem_of_getElem? hb)
      exact r'.evs e (upd_ne nb)
    · have hl := (List.getElem?_eq_some_iff.mp ho).1
      rw [List.length_append] at hl
      have en : n = S.length := by simp at hl; omega
      subst en
      rw [List.getElem?_append_right (Nat.le_refl _)] at ho
      rw [← s.len, List.getElem?_append_right (Nat.le_refl _)] at hb
      simp at ho hb
      subst ho hb
      exact r
/-- an object of the store written -/
theorem Ev.put {n : Nat} {b : Addr} {o : HO} (s : SR c H B Z S) (hb : B[n]? = some b) : Ev B H B (upd H b o) := by
  have th : ∀ a, H a ≠ none → upd H b o a ≠ none := fun a ha => by
    by_cases q : a = b
    · rw [q, upd_same]; simp
    · rw [upd_ne q]; exact ha
  refine ⟨⟨[], by simp, fun _ h => by cases h⟩, fun a u h ha _ => ?_, fun a ha => th a (s.trk a ha), th⟩
  have nb : a ≠ b := fun q => ha (by rw [q]; exact List.mem_of_getElem? hb)
  rw [upd_ne nb]; exact h
theorem SR.put {n : Nat} {b : Addr} {o : HO} {io : IO} (s : SR c H B Z S) (hb : B[n]? = some b) (r : RO c (upd H b o) B Z b io) : SR c (upd H b o) B Z (S.set n io) := by
  have e := Ev.put (o := o) s hb
  refine ⟨by rw [List.length_set]; exact s.len, s.nd, fun z hz => kdKeep (s.zt z hz) fun o h nt => e.keep z o h (s.zb z hz) nt, s.zb, fun m b' o' hb' ho => ?_, fun p hp => kind_tab (s.kind (List.mem_of_getElem? hb)) (s.tb p hp)⟩
  · by_cases hm : n = m
    · subst hm
      rw [hb] at hb'
      cases hb'
      have hl : n < S.length := by
        have := (List.getElem?_eq_some_iff.mp ho).1
        rw [List.length_set] at this; exact this
      rw [List.getElem?_set_self hl] at ho
      cases ho
      exact r
    · rw [List.getElem?_set_ne hm] at ho
      have r' := s.ob m b' o' hb' ho
      have nb : b' ≠ b := fun q => by
        obtain ⟨h1, e1⟩ := List.getElem?_eq_some_iff.mp hb
        obtain ⟨h2, e2⟩ := List.getElem?_eq_some_iff.mp hb'
        exact hm ((List.getElem_inj s.nd).mp (e1.trans (q.symm.trans e2.symm)))
      exact r'.evs e (upd_ne nb)
end
/-! data, for the library's rules -/
section
variable {K : PySem.W.Frag} {H : Hp} {bd : List Addr}
mutual
theorem RD.dp0 : ∀ {d : PyData} {v : V}, RD K H bd d v → d.hasDict = false → Dp K H v d
  | _, _, .non, _ => .non
  | _, _, .bl b, _ => .bl b
  | _, _, .int i, _ => .int i
  | _, _, .str x, _ => .str x
  | _, _, .lst h _ r, n => .lst (.of h) (RDs.dp0 r n)
  | _, _, .tup h _ _ r, n => .tup (sqF h) (RDs.dp0 r n)
  | _, _, .tupK h _ r, n => .tup (.inr h) (RDs.dp0 r n)
  | _, _, .dct _ _ _ _, n => by cases n
theorem RDs.dp0 : ∀ {d : List PyData} {v : List V}, RDs K H bd d v → PyData.hasDictAll d = false → DpAll K H v d
  | _, _, .nil, _ => .nil
  | d :: ds, _, .cons h t, n => by
    have n : (d.hasDict || PyData.hasDictAll ds) = false := n
    rw [Bool.or_eq_false_iff] at n
    exact .cons (RD.dp0 h n.1) (RDs.dp0 t n.2)
end
mutual
theorem noDict : ∀ d : PyData, d.canLay0 = true → d.hasDict = false
  | .none, _ => rfl
  | .bool _, _ => rfl
  | .int _, _ => rfl
  | .str _, _ => rfl
  | .list xs, h => noDicts xs h
  | .tuple xs, h => noDicts xs h
  | .dict _, h => by cases h
theorem noDicts : ∀ d : List PyData, PyData.canLayAll0 d = true → PyData.hasDictAll d = false
  | [], _ => rfl
  | x :: t, h => by
    have h : (x.canLay0 && PyData.canLayAll0 t) = true := h
    rw [Bool.and_eq_true] at h
    show (x.hasDict || PyData.hasDictAll t) = false
    rw [noDict x h.1, noDicts t h.2]
    rfl
end
theorem RD.dp {d : PyData} {v : V} (r : RD K H bd d v) (h : SeqAt.shaped d = true) : Dp K H v d := r.dp0 (noDict d (SeqAt.canLay_of_shaped h))
theorem RDs.dp {d : List PyData} {v : List V} (r : RDs K H bd d v) (h : SeqAt.shaped (.list d) = true) : DpAll K H v d := r.dp0 (noDicts d (SeqAt.canLay_of_shaped h))
theorem RD.tupS {ds : List PyData} {v : V} (r : RD K H bd (.tuple ds) v) : ∃ a xs, v = .ref a ∧ SqT K H a xs ∧ RDs K H bd ds xs := by
  cases r with
  | tup h to hb t => exact ⟨_, _, rfl, sqF h, t⟩
  | tupK h nd t => exact ⟨_, _, rfl, .inr h, t⟩
theorem RD.lstS {ds : List PyData} {v : V} (r : RD K H bd (.list ds) v) : ∃ a xs, v = .ref a ∧ H a = some (.lst xs) ∧ RDs K H bd ds xs := by
  cases r with
  | lst h hb t => exact ⟨_, _, rfl, h, t⟩
theorem RDs.length : ∀ {ds : List PyData} {xs : List V}, RDs K H bd ds xs → ds.length = xs.length
  | _, _, .nil => rfl
  | _, _, .cons _ t => congrArg (· + 1) (RDs.length t)
theorem RDs.app : ∀ {ds es : List PyData} {xs ys : List V}, RDs K H bd ds xs → RDs K H bd es ys → RDs K H bd (ds ++ es) (xs ++ ys)
  | _, _, _, _, .nil, s => s
  | _, _, _, _, .cons h t, s => .cons h (RDs.app t s)
theorem RDs.get : ∀ {ds : List PyData} {xs : List V} {i : Nat} {d : PyData}, RDs K H bd ds xs → ds[i]? = some d → ∃ x, xs[i]? = some x ∧ RD K H bd d x
  | _, _, _, _, .nil, e => by simp at e
  | _, _, 0, _, .cons h _, e => by simp at e; subst e; exact ⟨_, rfl, h⟩
  | _, _, i + 1, _, .cons _ t, e => by
    obtain ⟨x, h1, h2⟩ := RDs.get (i := i) t (by simpa using e)
    exact ⟨x, by simpa using h1, h2⟩
theorem RDs.take : ∀ {ds : List PyData} {xs : List V} (n : Nat), RDs K H bd ds xs → RDs K H bd (ds.take n) (xs.take n)
  | _, _, 0, _ => by simp; exact .nil
  | _, _, n + 1, .nil => by simp; exact .nil
  | _, _, n + 1, .cons h t => .cons h (RDs.take n t)
theorem RDs.drop : ∀ {ds : List PyData} {xs : List V} (n : Nat), RDs K H bd ds xs → RDs K H bd (ds.drop n) (xs.drop n)
  | _, _, 0, r => r
  | _, _, n + 1, .nil => .nil
  | _, _, n + 1, .cons h t => RDs.drop n t
theorem RDs.rev : ∀ {ds : List PyData} {xs : List V}, RDs K H bd ds xs → RDs K H bd ds.reverse xs.reverse
  | _, _, .nil => .nil
  | _, _, .cons h t => by
    rw [List.reverse_cons, List.reverse_cons]
    exact (RDs.rev t).app (.cons h .nil)
theorem RDs.set : ∀ {ds : List PyData} {xs : List V} {d : PyData} {x : V} (i : Nat), RDs K H bd ds xs → RD K H bd d x → RDs K H bd (ds.set i d) (xs.set i x)
  | _, _, _, _, _, .nil, _ => .nil
  | _, _, _, _, 0, .cons _ t, h => .cons h t
  | _, _, _, _, i + 1, .cons g t, h => .cons g (RDs.set i t h)
theorem RDs.erase : ∀ {ds : List PyData} {xs : List V} (i : Nat), RDs K H bd ds xs → RDs K H bd (ds.eraseIdx i) (xs.eraseIdx i)
  | _, _, _, .nil => .nil
  | _, _, 0, .cons _ t => t
  | _, _, i + 1, .cons g t => .cons g (RDs.erase i t)
/-- ints -/
theorem RDs.ints : ∀ {ns : List Int} {xs : List V}, RDs K H bd (ns.map PyData.int) xs → xs = ns.map V.int
  | [], _, .nil => rfl
  | n :: ns, _, .cons h t => by
    cases h
    rw [RDs.ints t] <;> rfl
theorem rds_ints : ∀ ns : List Int, RDs K H bd (ns.map PyData.int) (ns.map V.int)
  | [] => .nil
  | n :: ns => .cons (.int n) (rds_ints ns)
theorem RDs.bools : ∀ {ns : List Bool} {xs : List V}, RDs K H bd (ns.map PyData.bool) xs → xs = ns.map V.bl
  | [], _, .nil => rfl
  | n :: ns, _, .cons h t => by
    cases h
    rw [RDs.bools t] <;> rfl
theorem RDs.strs : ∀ {ns : List Str} {xs : List V}, RDs K H bd (ns.map PyData.str) xs → xs = ns.map V.str
  | [], _, .nil => rfl
  | n :: ns, _, .cons h t => by
    cases h
    rw [RDs.strs t] <;> rfl
theorem rds_strs : ∀ ns : List Str, RDs K H bd (ns.map PyData.str) (ns.map V.str)
  | [] => .nil
  | n :: ns => .cons (.str n) (rds_strs ns)
end
/-! ## readings -/
def TEx (c : Ct) (W : WX) (f : FE) : TE := fun σ H Q => ∃ B Z r S, SR c H B Z S ∧ RR c H B Z r σ ∧ Post c W B Z H σ (f r S) fun v _ B' H' => ∀ x, RI c H' B' Z v x → Q x H'
def TTx (c : Ct) (W : WX) (f : FT) : TT := fun σ H Q => ∃ B Z r S, SR c H B Z S ∧ RR c H B Z r σ ∧ Post c W B Z H σ (f r S) fun v _ _ H' => Q v H'
def TAx (c : Ct) (W : WX) (f : FA) : TA := fun σ H Q => ∃ B Z r S, SR c H B Z S ∧ RR c H B Z r σ ∧ Post c W B Z H σ (f r S) fun vs _ B' H' => ∀ xs, RIs c H' B' Z vs xs → Q xs H'
theorem pe_imp {X : Cx} {e : Expr} {t t' : TE} (h : PE X e t) (k : ∀ σ H Q, t' σ H Q → t σ H Q) : PE X e t' := ⟨fun pins s σ H Q I q => h.run pins s σ H Q I (k σ H Q q)⟩
theorem pt_imp {X : Cx} {e : Expr} {t t' : TT} (h : PT X e t) (k : ∀ σ H Q, t' σ H Q → t σ H Q) : PT X e t' := ⟨fun pins s σ H Q I q => h.run pins s σ H Q I (k σ H Q q)⟩
theorem pw_imp {X : Cx} {e : Expr} {t t' : TT} (h : PW X e t) (k : ∀ σ H Q, t' σ H Q → t σ H Q) : PW X e t' := ⟨fun wh pins s σ H Q I q => h.run wh pins s σ H Q I (k σ H Q q)⟩
theorem pa_imp {X : Cx} {e : List Expr} {t t' : TA} (h : PA X e t) (k : ∀ σ H Q, t' σ H Q → t σ H Q) : PA X e t' := ⟨fun pos pins s σ H Q I q => h.run pos pins s σ H Q I (k σ H Q q)⟩
theorem ps_imp {X : Cx} {e : Stmt} {t t' : TS} (h : PS X e t) (k : ∀ D σ H, t' D σ H → t D σ H) : PS X e t' := ⟨fun pins s σ H D I q => h.run pins s σ H D I (k D σ H q)⟩
theorem pss_imp {X : Cx} {e : List Stmt} {t t' : TS} (h : PSs X e t) (k : ∀ D σ H, t' D σ H → t D σ H) : PSs X e t' := ⟨fun pins s σ H D I q => h.run pins s σ H D I (k D σ H q)⟩
end MI
set_option maxRecDepth 100000
set_option maxHeartbeats 4000000
namespace MI
open PySem L2
section
variable {c : Ct} {W : WX} {X : Cx}

/-! ## names and constants -/
@[simp] def eVar (i : Nat) : FE := fun r S => match r[i]? with
  | some (some v) => .ok v S
  | _ => .bad
@[simp] def eC (d : PyData) : FE := fun _ S => .ok (.d d) S
def eGl (x : Str) : FE := fun _ S => .ok (.gl x) S
theorem s_var {i : Nat} {e : Expr} (h : PE X e (tVar i)) : PE X e (TEx c W (eVar i)) := pe_imp h fun σ H Q ⟨B, Z, r, S, s, rr, p⟩ => by
  unfold eVar at p
  split at p
  · rename_i v q
    obtain ⟨x, h1, h2⟩ := rr.at_ i v q
    exact ⟨x, h1, p.ret s x h2⟩
  · exact p.elim
theorem s_c {d : PyData} {v : V} {e : Expr} (h : PE X e (tC v)) (k : ∀ H bd, RD c.K H bd d v) : PE X e (TEx c W (eC d)) := pe_imp h fun σ H Q ⟨B, Z, r, S, s, rr, p⟩ =>
  Post.ret (W := W) (σ := σ) s p v (.d (k _ _))
theorem s_int {i j pos} : PE X (.Constant (.int i) j pos) (TEx c W (eC (.int i))) := s_c pe_int fun _ _ => .int i
theorem s_str {i j pos} : PE X (.Constant (.str i) j pos) (TEx c W (eC (.str i))) := s_c pe_str fun _ _ => .str i
theorem s_bool {i j pos} : PE X (.Constant (.bool i) j pos) (TEx c W (eC (.bool i))) := s_c pe_bl fun _ _ => .bl i
theorem s_none {j pos} : PE X (.Constant .none j pos) (TEx c W (eC .none)) := s_c pe_non fun _ _ => .non
/-- a module's name that holds an int, a text -/
theorem s_gint {x : Str} {pos : Pos} {i : Int} (hg : Gl X x) (hm : ∃ t, X.mg x = some (.int i t)) (hd : (x == ("__debug__" : Str)) = false := by decide) : PE X (.Name x pos) (TEx c W (eC (.int i))) := by
  obtain ⟨t, hm⟩ := hm
  exact s_c (pe_glob (v := V.int i) hg hm ⟨t, rfl⟩ hd) fun _ _ => .int i
theorem s_gstr {x : Str} {pos : Pos} {i : Str} (hg : Gl X x) (hm : ∃ t, X.mg x = some (.str i t)) (hd : (x == ("__debug__" : Str)) = false := by decide) : PE X (.Name x pos) (TEx c W (eC (.str i))) := by
  obtain ⟨t, hm⟩ := hm
  exact s_c (pe_glob (v := V.str i) hg hm ⟨t, rfl⟩ hd) fun _ _ => .str i
/-- a def's name, a class's name as a value -/
theorem s_gl {x : Str} {pos : Pos} {a : Addr} (hg : Gl X x) (hm : X.mg x = some (.ref a)) (hc : c.mg = X.mg) (hd : (x == ("__debug__" : Str)) = false := by decide) : PE X (.Name x pos) (TEx c W (eGl x)) :=
  pe_imp (pe_glob (v := V.ref a) hg hm rfl hd) fun σ H Q ⟨B, Z, r, S, s, rr, p⟩ => Post.ret (W := W) (σ := σ) s p (.ref a) (.gl (by rw [hc]; exact hm))

/-! ## one, two operands -/
abbrev O1 := IV → Sto → Out IV
abbrev O2 := IV → IV → Sto → Out IV
@[simp] def eOp1 (op : O1) (f : FE) : FE := fun r S => (f r S).bind op
@[simp] def eOp2 (op : O2) (f g : FE) : FE := fun r S => (f r S).bind fun v S1 => (g r S1).bind fun w S2 => op v w S2
/-- an operator's rule r takes op's answers -/
def Ok1 (c : Ct) (W : WX) (r : V → Hp → VK → Prop) (op : O1) : Prop := ∀ σ B Z H S v x Q, SR c H B Z S → RI c H B Z v x →
  Post c W B Z H σ (op v S) (fun z _ B' H' => ∀ y, RI c H' B' Z z y → Q y H') → r x H Q
def Ok2 (c : Ct) (W : WX) (r : R2) (op : O2) : Prop := ∀ σ B Z H S v w x y Q, SR c H B Z S → RI c H B Z v x → RI c H B Z w y →
  Post c W B Z H σ (op v w S) (fun z _ B' H' => ∀ y, RI c H' B' Z z y → Q y H') → r x y H Q
theorem one_of {f : FE} {op : O1} {r : V → Hp → VK → Prop} (k : Ok1 c W r op) {σ : L2.St} {H : Hp} {Q : VK} (h : TEx c W (eOp1 op f) σ H Q) : TEx c W f σ H fun x H1 => r x H1 Q := by
  obtain ⟨B, Z, r', S, s, rr, p⟩ := h
  exact ⟨B, Z, r', S, s, rr, (Post.bind p).imp fun v S' B' H' e s' q x hx => k σ B' Z H' S' v x Q s' hx q⟩
theorem two_of {f g : FE} {op : O2} {r : R2} (k : Ok2 c W r op) {σ : L2.St} {H : Hp} {Q : VK} (h : TEx c W (eOp2 op f g) σ H Q) : tOp r (TEx c W f) (TEx c W g) σ H Q := by
  obtain ⟨B, Z, r', S, s, rr, p⟩ := h
  refine ⟨B, Z, r', S, s, rr, (Post.bind p).imp fun v S' B' H' e s' q x hx => ?_⟩
  exact ⟨B', Z, r', S', s', rr.ev e, (Post.bind q).imp fun w S2 B2 H2 e2 s2 q2 y hy => k σ B2 Z H2 S2 v w x y Q s2 (hx.ev e2) hy q2⟩
theorem s_op {a b : Expr} {op : Operator} {f g : FE} {o : O2} {r : R2} {pos : Pos} (ho : OpR X (binaryOp op) r) (k : Ok2 c W r o) (ha : PE X a (TEx c W f)) (hb : PE X b (TEx c W g)) : PE X (.BinOp a op b pos) (TEx c W (eOp2 o f g)) :=
  pe_imp (pe_op ho ha hb) fun _ _ _ => two_of k
theorem s_un {a : Expr} {op : UnaryOp} {f : FE} {o : O1} {r : V → Hp → VK → Prop} {pos : Pos} (ho : UnR X (unaryOp op) r) (k : Ok1 c W r o) (ha : PE X a (TEx c W f)) : PE X (.UnaryOp op a pos) (TEx c W (eOp1 o f)) :=
  pe_imp (pe_un ho ha) fun _ _ _ => one_of k
theorem Ok2.or {r r' : R2} {o : O2} (h : ∀ σ B Z H S v w x y Q, SR c H B Z S → RI c H B Z v x → RI c H B Z w y → Post c W B Z H σ (o v w S) (fun z _ B' H' => ∀ y, RI c H' B' Z z y → Q y H') → r x y H Q ∨ r' x y H Q) :
    Ok2 c W (fun x y H Q => r x y H Q ∨ r' x y H Q) o := h

/-! ### + -/
@[simp] def oAdd : O2 := fun v w S => match v, w with
  | .d (.int i), .d (.int j) => .ok (.d (.int (i + j))) S
  | .d (.str x), .d (.str y) => if x.length + y.length ≤ sizeLine then .ok (.d (.str (x ++ y))) S else .bad
  | .d (.tuple xs), .d (.tuple ys) => if xs.length + ys.length ≤ sizeLine then .ok (.d (.tuple (xs ++ ys))) S else .bad
  | .d (.list xs), .d (.list ys) => if xs.length + ys.length ≤ sizeLine then .ok (.d (.list (xs ++ ys))) S else .bad
  | _, _ => .bad
/-- the same where the new list is to be changed later -/
@[simp] def oAddM : O2 := fun v w S => match v, w with
  | .d (.list xs), .d (.list ys) => if xs.length + ys.length ≤ sizeLine then .ok (.ref S.length) (S ++ [.lst (xs ++ ys)]) else .bad
  | _, _ => .bad
def rAddA (K : PySem.W.Frag) : R2 := fun x y H Q => rI0 (fun i j => .int (i + j)) x y H Q ∨ (∃ i j, x = .str i ∧ y = .str j ∧ i.length + j.length ≤ sizeLine ∧ Q (.str (i ++ j)) H) ∨ rCatAF K x y H Q ∨ rCat x y H Q
theorem op_addA : OpR X (binaryOp .Add) (rAddA X.K) := op_add.or (op_add_str.or (op_catAF.or op_cat))
theorem k_add : Ok2 c W (rAddA c.K) oAdd := by
  intro σ B Z H S v w x y Q s rv rw_ p
  unfold oAdd at p
  split at p
  · rename_i i j
    cases rv with | d rv => cases rv; cases rw_ with | d rw_ => cases rw_; exact .inl ⟨_, _, rfl, rfl, p.ret s _ (.d (.int _))⟩
  · rename_i i j
    cases rv with | d rv => cases rv; cases rw_ with | d rw_ => cases rw_; split at p; exact .inr (.inl ⟨_, _, rfl, rfl, by assumption, p.ret s _ (.d (.str _))⟩); exact p.elim
  · rename_i xs ys
    cases rv with
    | d rv =>
      cases rw_ with
      | d rw_ =>
        split at p
        · rename_i hl
          have rv0 := rv
          have rw0 := rw_
          obtain ⟨a, us, rfl, ha, ru⟩ := rv.tupS
          obtain ⟨b, ws, rfl, hb, rw2⟩ := rw_.tupS
          refine .inr (.inr (.inl ⟨a, b, us, ws, rfl, rfl, ha, hb, by rw [← ru.length, ← rw2.length]; exact hl, fun e => ?_, fun _ e => ?_, fun _ _ q oq hq toq => ?_⟩))
          · subst e
            cases ru
            exact p.ret s _ (.d rw0)
          · subst e
            cases rw2
            rw [List.append_nil] at p
            exact p.ret s _ (.d rv0)
          · exact p B _ (Ev.new s hq) (s.new hq) _ (.d (RD.newTup s hq toq (ru.app rw2)))
        · exact p.elim
  · rename_i xs ys
    cases rv with
    | d rv =>
      cases rw_ with
      | d rw_ =>
        split at p
        · rename_i hl
          obtain ⟨a, us, rfl, ha, ru⟩ := rv.lstS
          obtain ⟨b, ws, rfl, hb, rw2⟩ := rw_.lstS
          exact .inr (.inr (.inr ⟨a, b, us, ws, rfl, rfl, ha, hb, by rw [← ru.length, ← rw2.length]; exact hl, fun q hq => p B _ (Ev.new s hq) (s.new hq) _ (.d (RD.newList s hq (ru.app rw2)))⟩))
        · exact p.elim
  · exact p.elim
/-- a frozen list made anew, as an object of the store -/
theorem push_list {B Z : List Addr} {H : Hp} {S : Sto} {σ : L2.St} {ds : List PyData} {xs : List V} {Q : VK} {p : Addr} (s : SR c H B Z S) (r : RDs c.K H (B ++ Z) ds xs)
    (h : Post c W B Z H σ (.ok (IV.ref S.length) (S ++ [IO.lst ds])) (fun z _ B' H' => ∀ y, RI c H' B' Z z y → Q y H')) (hp : H p = none) : Q (.ref p) (upd H p (.lst xs)) := by
  have e := Ev.push (o := HO.lst xs) s hp
  exact h (B ++ [p]) _ e (s.push hp ⟨xs, upd_same, r.ev e⟩) _ (.ref (by rw [← s.len]; simp))
theorem k_addM : Ok2 c W (rAddA c.K) oAddM := by
  intro σ B Z H S v w x y Q s rv rw_ p
  unfold oAddM at p
  split at p
  · rename_i xs ys
    cases rv with
    | d rv =>
      cases rw_ with
      | d rw_ =>
        split at p
        · rename_i hl
          obtain ⟨a, us, rfl, ha, ru⟩ := rv.lstS
          obtain ⟨b, ws, rfl, hb, rw2⟩ := rw_.lstS
          exact .inr (.inr (.inr ⟨a, b, us, ws, rfl, rfl, ha, hb, by rw [← ru.length, ← rw2.length]; exact hl, fun q hq => push_list s (ru.app rw2) p hq⟩))
        · exact p.elim
  · exact p.elim

/-! ### -, *, //, %, ** -/
@[simp] def oInt (g : Int → Int → Option Int) : O2 := fun v w S => match v, w with
  | .d (.int i), .d (.int j) => (match g i j with
    | some k => .ok (.d (.int k)) S
    | none => .bad)
  | _, _ => .bad
theorem k_int {C : Int → Int → Prop} {f : Int → Int → Int} {g : Int → Int → Option Int} (h : ∀ i j k, g i j = some k → C i j ∧ k = f i j) : Ok2 c W (rI C fun i j => .int (f i j)) (oInt g) := by
  intro σ B Z H S v w x y Q s rv rw_ p
  unfold oInt at p
  split at p
  · rename_i i j
    cases rv with
    | d rv =>
      cases rv
      cases rw_ with
      | d rw_ =>
        cases rw_
        split at p
        · rename_i k e
          obtain ⟨h1, h2⟩ := h i j k e
          subst h2
          exact ⟨_, _, rfl, rfl, h1, p.ret s _ (.d (.int _))⟩
        · exact p.elim
  · exact p.elim
@[simp] def gSub : Int → Int → Option Int := fun i j => some (i - j)
/-- both factors' bits together below some 4,000 -/
@[simp] def gMul : Int → Int → Option Int := fun i j => if i.natAbs < 2 ^ 2000 ∧ j.natAbs < 2 ^ 2000 then some (i * j) else none
@[simp] def gDiv : Int → Int → Option Int := fun i j => if 0 < j ∧ j.natAbs < 2 ^ 2000 then some (i / j) else none
@[simp] def gMod : Int → Int → Option Int := fun i j => if 0 < j then some (i % j) else none
def gPow : Int → Int → Option Int := fun i j => if 0 ≤ j ∧ j ≤ 1000 ∧ i.natAbs < 2 ^ 64 then some (i ^ j.toNat) else none
theorem op_subC : OpR X (binaryOp .Sub) (rI (fun _ _ => True) fun i j => .int (i - j)) := by
  intro pins s σ H x y v u Q I rx ry h
  obtain ⟨i, j, e1, e2, _, q⟩ := h
  exact op_sub pins s σ H x y v u Q I rx ry ⟨i, j, e1, e2, q⟩
theorem k_sub : Ok2 c W (rI (fun _ _ => True) fun i j => .int (i - j)) (oInt gSub) := k_int fun i j k e => ⟨trivial, (Option.some.inj e).symm⟩
theorem k_mul : Ok2 c W (rI CMulW fun i j => .int (i * j)) (oInt gMul) := k_int fun i j k e => by
  unfold gMul at e
  split at e
  · rename_i h
    exact ⟨wide_mul h.1 h.2 (by decide) (by decide) (by decide), (Option.some.inj e).symm⟩
  · cases e
theorem k_div : Ok2 c W (rI CDivW fun i j => .int (i / j)) (oInt gDiv) := k_int fun i j k e => by
  unfold gDiv at e
  split at e
  · rename_i h
    exact ⟨wide_div h.1 h.2 (by decide) (by decide), (Option.some.inj e).symm⟩
  · cases e
theorem k_mod : Ok2 c W (rI (fun _ j => 0 < j) fun i j => .int (i % j)) (oInt gMod) := k_int fun i j k e => by
  unfold gMod at e
  split at e
  · exact ⟨by assumption, (Option.some.inj e).symm⟩
  · cases e
theorem k_pow : Ok2 c W (rI CPow fun i j => .int (i ^ j.toNat)) (oInt gPow) := k_int fun i j k e => by
  unfold gPow at e
  split at e
  · rename_i h
    exact ⟨⟨h.1, by omega, h.2.2⟩, (Option.some.inj e).symm⟩
  · cases e
@[simp] def oNeg : O1 := fun v S => match v with
  | .d (.int i) => .ok (.d (.int (-i))) S
  | _ => .bad
theorem k_neg : Ok1 c W (rU fun i => .int (-i)) oNeg := by
  intro σ B Z H S v x Q s rv p
  unfold oNeg at p
  split at p
  · cases rv with | d rv => cases rv; exact ⟨_, rfl, p.ret s _ (.d (.int _))⟩
  · exact p.elim
end
end MI
set_option maxRecDepth 100000
set_option maxHeartbeats 4000000
namespace MI
open PySem L2
section
variable {c : Ct} {W : WX} {X : Cx}

/-! ## comparisons -/
def shp (d : PyData) : Bool := SeqAt.shaped d
/-- == of data -/
@[simp] def cEq : O2 := fun v w S => match v, w with
  | .d (.int i), .d (.int j) => .ok (.d (.bool (decide (i = j)))) S
  | .d (.str i), .d (.str j) => .ok (.d (.bool (decide (i = j)))) S
  | .d x, .d y => if shp x = true ∧ shp y = true then .ok (.d (.bool (PyData.eqv x y))) S else .bad
  | _, _ => .bad
@[simp] def cNe : O2 := fun v w S => match v, w with
  | .d (.int i), .d (.int j) => .ok (.d (.bool (!decide (i = j)))) S
  | .d (.str i), .d (.str j) => .ok (.d (.bool (!decide (i = j)))) S
  | .d x, .d y => if shp x = true ∧ shp y = true then .ok (.d (.bool (!PyData.eqv x y))) S else .bad
  | _, _ => .bad
def rEqA (K : PySem.W.Frag) : R2 := fun x y H Q => rEq x y H Q ∨ rEqD K x y H Q
def rNeA (K : PySem.W.Frag) : R2 := fun x y H Q => rNe x y H Q ∨ rNeD K x y H Q
theorem op_eqA (hu : X.A.units + 64 < cLine) : OpR X (compareOp .Eq) (rEqA X.K) := op_eq.or (op_eqD hu)
theorem op_neA (hu : X.A.units + 64 < cLine) : OpR X (compareOp .NotEq) (rNeA X.K) := op_ne.or (op_neD hu)
theorem k_eq : Ok2 c W (rEqA c.K) cEq := by
  intro σ B Z H S v w x y Q s rv rw_ p
  unfold cEq at p
  split at p
  · rename_i i j
    cases rv with
    | d rv =>
      cases rw_ with
      | d rw_ =>
        cases rv
        cases rw_
        refine .inl ⟨rfl, ?_⟩
        have q := p.ret s _ (.d (.bl _))
        by_cases e : i = j
        · subst e; simpa using q
        · have e2 : ¬ (V.int i = V.int j) := fun z => e (V.int.inj z)
          rw [decide_eq_false e2]
          rw [decide_eq_false e] at q; exact q
  · rename_i i j
    cases rv with
    | d rv =>
      cases rw_ with
      | d rw_ =>
        cases rv
        cases rw_
        refine .inl ⟨rfl, ?_⟩
        have q := p.ret s _ (.d (.bl _))
        by_cases e : i = j
        · subst e; simpa using q
        · have e2 : ¬ (V.str i = V.str j) := fun z => e (V.str.inj z)
          rw [decide_eq_false e2]
          rw [decide_eq_false e] at q; exact q
  · cases rv with
    | d rv =>
      cases rw_ with
      | d rw_ =>
        split at p
        · rename_i h
          exact .inr ⟨_, _, rv.dp h.1, rw_.dp h.2, h.1, h.2, p.ret s _ (.d (.bl _))⟩
        · exact p.elim
  · exact p.elim
theorem k_ne : Ok2 c W (rNeA c.K) cNe := by
  intro σ B Z H S v w x y Q s rv rw_ p
  unfold cNe at p
  split at p
  · rename_i i j
    cases rv with
    | d rv =>
      cases rw_ with
      | d rw_ =>
        cases rv
        cases rw_
        refine .inl ⟨rfl, ?_⟩
        have q := p.ret s _ (.d (.bl _))
        by_cases e : i = j
        · subst e; simpa using q
        · have e2 : ¬ (V.int i = V.int j) := fun z => e (V.int.inj z)
          rw [decide_eq_false e2]
          rw [decide_eq_false e] at q; exact q
  · rename_i i j
    cases rv with
    | d rv =>
      cases rw_ with
      | d rw_ =>
        cases rv
        cases rw_
        refine .inl ⟨rfl, ?_⟩
        have q := p.ret s _ (.d (.bl _))
        by_cases e : i = j
        · subst e; simpa using q
        · have e2 : ¬ (V.str i = V.str j) := fun z => e (V.str.inj z)
          rw [decide_eq_false e2]
          rw [decide_eq_false e] at q; exact q
  · cases rv with
    | d rv =>
      cases rw_ with
      | d rw_ =>
        split at p
        · rename_i h
          exact .inr ⟨_, _, rv.dp h.1, rw_.dp h.2, h.1, h.2, p.ret s _ (.d (.bl _))⟩
        · exact p.elim
  · exact p.elim
/-- <, <=, >, >= of ints -/
@[simp] def cInt (g : Int → Int → Bool) : O2 := fun v w S => match v, w with
  | .d (.int i), .d (.int j) => .ok (.d (.bool (g i j))) S
  | _, _ => .bad
theorem k_cint {g : Int → Int → Bool} : Ok2 c W (rI0 fun i j => .bl (g i j)) (cInt g) := by
  intro σ B Z H S v w x y Q s rv rw_ p
  unfold cInt at p
  split at p
  · cases rv with | d rv => cases rv; cases rw_ with | d rw_ => cases rw_; exact ⟨_, _, rfl, rfl, p.ret s _ (.d (.bl _))⟩
  · exact p.elim
@[simp] abbrev gLt : Int → Int → Bool := fun i j => decide (i < j)
@[simp] abbrev gLe : Int → Int → Bool := fun i j => decide (i ≤ j)
@[simp] abbrev gGt : Int → Int → Bool := fun i j => decide (j < i)
@[simp] abbrev gGe : Int → Int → Bool := fun i j => decide (j ≤ i)
/-- in, not in -/
def rInTD (K : PySem.W.Frag) (neg : Bool) : R2 := fun x y H Q => ∃ d ds, Dp K H x d ∧ Dp K H y (.tuple ds) ∧ SeqAt.shaped d = true ∧ SeqAt.shaped (.list ds) = true ∧ Q (.bl (if neg then !ds.any fun z => PyData.eqv z d else ds.any fun z => PyData.eqv z d)) H
theorem op_inTD (hu : X.A.units + 65 < cLine) : OpR X (compareOp .In) (rInTD X.K false) := by
  intro pins s σ H x y v u Q I rx ry ⟨d, ds, hd, he, sd, se, q⟩
  obtain ⟨as, r1⟩ := Dp.reads I d x v hd rx
  obtain ⟨bs, r2⟩ := Dp.reads I (.tuple ds) y u he ry
  refine SeqAt.in_tuple_reads r2 r1 ?_ (SeqAt.canLay_of_shaped sd) (PyProof.Rows.room_in_shaped sd hu) ⟨.bl _, H, I, rfl, q⟩
  exact SeqAt.canLay_of_shaped se
theorem op_notInTD (hu : X.A.units + 65 < cLine) : OpR X (compareOp .NotIn) (rInTD X.K true) := by
  intro pins s σ H x y v u Q I rx ry ⟨d, ds, hd, he, sd, se, q⟩
  obtain ⟨as, r1⟩ := Dp.reads I d x v hd rx
  obtain ⟨bs, r2⟩ := Dp.reads I (.tuple ds) y u he ry
  refine SeqAt.notIn_tuple_reads r2 r1 ?_ (SeqAt.canLay_of_shaped sd) (PyProof.Rows.room_in_shaped sd hu) ⟨.bl _, H, I, rfl, q⟩
  exact SeqAt.canLay_of_shaped se
def isIn (d : PyData) (ds : List PyData) : Bool := ds.any fun z => PyData.eqv z d
@[simp] def cInN (neg : Bool) : O2 := fun v w S => match v, w with
  | .d x, .d (.list ys) => if shp x = true ∧ shp (.list ys) = true then .ok (.d (.bool (if neg then !isIn x ys else isIn x ys))) S else .bad
  | .d x, .d (.tuple ys) => if shp x = true ∧ shp (.list ys) = true then .ok (.d (.bool (if neg then !isIn x ys else isIn x ys))) S else .bad
  | .d x, .ref n => (match S[n]? with
    | some (.lst ys) => if shp x = true ∧ shp (.list ys) = true then .ok (.d (.bool (if neg then !isIn x ys else isIn x ys))) S else .bad
    | _ => .bad)
  | .d (.str x), .d (.str y) => (match x.cps.toList with
    | [k] => .ok (.d (.bool (if neg then !decide (k ∈ y.cps.toList) else decide (k ∈ y.cps.toList)))) S
    | _ => .bad)
  | _, _ => .bad
def rSg (neg : Bool) : R2 := fun x y H Q => ∃ (c : Nat) (z : Str), x = .str ⟨#[c]⟩ ∧ y = .str z ∧ Q (.bl (if neg then !decide (c ∈ z.cps.toList) else decide (c ∈ z.cps.toList))) H
theorem op_sgF : OpR X (compareOp .In) (rSg false) := op_in_sign
theorem op_sgT : OpR X (compareOp .NotIn) (rSg true) := op_notIn_sign
def rInA (K : PySem.W.Frag) : R2 := fun x y H Q => rInD K x y H Q ∨ rInTD K false x y H Q ∨ rSg false x y H Q
def rNotInA (K : PySem.W.Frag) : R2 := fun x y H Q => rNotInD K x y H Q ∨ rInTD K true x y H Q ∨ rSg true x y H Q
theorem op_inA (hu : X.A.units + 65 < cLine) : OpR X (compareOp .In) (rInA X.K) := (op_inD hu).or ((op_inTD hu).or op_sgF)
theorem op_notInA (hu : X.A.units + 65 < cLine) : OpR X (compareOp .NotIn) (rNotInA X.K) := (op_notInD hu).or ((op_notInTD hu).or op_sgT)
theorem SR.lst {B Z : List Addr} {H : Hp} {S : Sto} {n : Nat} {ds : List PyData} {x : V} (s : SR c H B Z S) (h : S[n]? = some (.lst ds)) (r : RI c H B Z (.ref n) x) : ∃ b xs, x = .ref b ∧ B[n]? = some b ∧ H b = some (.lst xs) ∧ RDs c.K H (B ++ Z) ds xs := by
  cases r with
  | ref hb =>
    obtain ⟨xs, h1, h2⟩ := s.ob n _ _ hb h
    exact ⟨_, xs, rfl, hb, h1, h2⟩
theorem shapedT {ds : List PyData} (h : SeqAt.shaped (.list ds) = true) : SeqAt.shaped (.tuple ds) = true := h
theorem in_all {neg : Bool} {B Z : List Addr} {H : Hp} {S : Sto} {σ : L2.St} {v w : IV} {x y : V} {Q : VK} (s : SR c H B Z S) (rv : RI c H B Z v x) (rw_ : RI c H B Z w y)
    (p : Post c W B Z H σ (cInN neg v w S) (fun z _ B' H' => ∀ y, RI c H' B' Z z y → Q y H')) :
    (∃ d ds, Dp c.K H x d ∧ Dp c.K H y (.list ds) ∧ SeqAt.shaped d = true ∧ SeqAt.shaped (.list ds) = true ∧ Q (.bl (if neg then !isIn d ds else isIn d ds)) H) ∨ rInTD c.K neg x y H Q ∨ rSg neg x y H Q := by
  unfold cInN at p
  split at p
  · cases rv with
    | d rv =>
      cases rw_ with
      | d rw_ =>
        split at p
        · rename_i h
          exact .inl ⟨_, _, rv.dp h.1, rw_.dp h.2, h.1, h.2, p.ret s _ (.d (.bl _))⟩
        · exact p.elim
  · cases rv with
    | d rv =>
      cases rw_ with
      | d rw_ =>
        split at p
        · rename_i h
          exact .inr (.inl ⟨_, _, rv.dp h.1, rw_.dp (shapedT h.2), h.1, h.2, p.ret s _ (.d (.bl _))⟩)
        · exact p.elim
  · split at p
    · rename_i e
      cases rv with
      | d rv =>
        split at p
        · rename_i h
          obtain ⟨b, xs, rfl, hb, h1, h2⟩ := s.lst e rw_
          exact .inl ⟨_, _, rv.dp h.1, .lst (.of h1) (h2.dp h.2), h.1, h.2, p.ret s _ (.d (.bl _))⟩
        · exact p.elim
    · exact p.elim
  · rename_i x' y'
    cases rv with
    | d rv =>
      cases rw_ with
      | d rw_ =>
        cases rv
        cases rw_
        split at p
        · rename_i k e
          refine .inr (.inr ⟨k, y', ?_, rfl, p.ret s _ (.d (.bl _))⟩)
          have e2 : x' = ⟨#[k]⟩ := by
            obtain ⟨⟨l⟩⟩ := x'
            have : l = [k] := e
            rw [this]
          rw [e2]
        · exact p.elim
  · exact p.elim
theorem k_in : Ok2 c W (rInA c.K) (cInN false) := fun σ B Z H S v w x y Q s rv rw_ p => in_all s rv rw_ p
theorem k_notIn : Ok2 c W (rNotInA c.K) (cInN true) := fun σ B Z H S v w x y Q s rv rw_ p => in_all s rv rw_ p
/-- is None, is not None -/
@[simp] def cIsN (neg : Bool) : O2 := fun v w S => match v, w with
  | .d x, .d .none => .ok (.d (.bool (if neg then !(match x with | .none => true | _ => false) else (match x with | .none => true | _ => false)))) S
  | _, .d .none => .ok (.d (.bool neg)) S
  | _, _ => .bad
theorem k_isN : Ok2 c W (fun x y H Q => y = .non ∧ Q (.bl (decide (x = .non))) H) (cIsN false) := by
  intro σ B Z H S v w x y Q s rv rw_ p
  unfold cIsN at p
  split at p
  · cases rv with
    | d rv =>
      cases rw_ with
      | d rw_ =>
        cases rw_
        refine ⟨rfl, ?_⟩
        have q := p.ret s _ (.d (.bl _))
        cases rv <;> simpa using q
  · cases rw_ with
    | d rw_ =>
      cases rw_
      refine ⟨rfl, ?_⟩
      have q := p.ret s _ (.d (.bl _))
      rename_i hne
      cases rv with
      | d h => exact (hne _ rfl).elim
      | _ => simpa using q
  · exact p.elim
theorem k_notN : Ok2 c W (fun x y H Q => y = .non ∧ Q (.bl (!decide (x = .non))) H) (cIsN true) := by
  intro σ B Z H S v w x y Q s rv rw_ p
  unfold cIsN at p
  split at p
  · cases rv with
    | d rv =>
      cases rw_ with
      | d rw_ =>
        cases rw_
        refine ⟨rfl, ?_⟩
        have q := p.ret s _ (.d (.bl _))
        cases rv <;> simpa using q
  · cases rw_ with
    | d rw_ =>
      cases rw_
      refine ⟨rfl, ?_⟩
      have q := p.ret s _ (.d (.bl _))
      rename_i hne
      cases rv with
      | d h => exact (hne _ rfl).elim
      | _ => simpa using q
  · exact p.elim
theorem s_cmp {a b : Expr} {op : CmpOp} {f g : FE} {o : O2} {r : R2} {pos : Pos} (ho : OpR X (compareOp op) r) (k : Ok2 c W r o) (ha : PE X a (TEx c W f)) (hb : PE X b (TEx c W g)) (hm : behindInMarks op b = false) : PE X (.Compare a [op] [b] pos) (TEx c W (eOp2 o f g)) :=
  pe_imp (pe_cmpR ho ha hb hm) fun _ _ _ => two_of k

/-! ## tests -/
@[simp] def asB : IV → Sto → Out Bool := fun v S => match v with
  | .d (.bool b) => .ok b S
  | _ => .bad
@[simp] def tE (f : FE) : FT := fun r S => (f r S).bind asB
theorem test_of {t : TE} {f : FE} {σ : L2.St} {H : Hp} {Q : Bool → Hp → Prop} (k : ∀ Q', TEx c W f σ H Q' → t σ H Q') (h : TTx c W (tE f) σ H Q) : t σ H fun x H1 => ∃ b, x = .bl b ∧ Q b H1 := by
  obtain ⟨B, Z, r, S, s, rr, p⟩ := h
  refine k _ ⟨B, Z, r, S, s, rr, (Post.bind p).imp fun v S' B' H' e s' q x hx => ?_⟩
  unfold asB at q
  split at q
  · cases hx with | d hx => cases hx; exact ⟨_, rfl, q.ret s'⟩
  · exact q.elim
theorem s_tcmp {a b : Expr} {op : CmpOp} {f g : FE} {o : O2} {r : R2} {pos : Pos} (ho : OpR X (compareOp op) r) (k : Ok2 c W r o) (ha : PE X a (TEx c W f)) (hb : PE X b (TEx c W g)) (hm : behindInMarks op b = false) : PT X (.Compare a [op] [b] pos) (TTx c W (tE (eOp2 o f g))) :=
  pt_imp (pt_cmpR ho ha hb hm) fun σ H Q h => test_of (fun _ => two_of k) h
theorem s_tval {e : Expr} {f : FE} (h : PE X e (TEx c W f)) (he : ∀ whole, isTrue e X.env whole = (do let v ← whole; standAt e.pos; holding [v] (truthy v)) := by intro _; rfl) : PT X e (TTx c W (tE f)) :=
  pt_imp (pt_val h he) fun σ H Q q => test_of (fun _ z => z) q
@[simp] def tNt (f : FT) : FT := fun r S => (f r S).bind fun b S' => .ok (!b) S'
theorem s_tnot {a : Expr} {f : FT} {pos : Pos} (h : PT X a (TTx c W f)) : PT X (.UnaryOp .Not a pos) (TTx c W (tNt f)) :=
  pt_imp (pt_not h) fun σ H Q ⟨B, Z, r, S, s, rr, p⟩ => ⟨B, Z, r, S, s, rr, (Post.bind p).imp fun v S' B' H' e s' q => q.ret s'⟩
@[simp] def tAn (f g : FT) : FT := fun r S => (f r S).bind fun b S' => if b = true then g r S' else .ok false S'
@[simp] def tOr' (f g : FT) : FT := fun r S => (f r S).bind fun b S' => if b = true then .ok true S' else g r S'
theorem s_tand1 {a : Expr} {f : FT} {pos : Pos} (h : PT X a (TTx c W f)) : PW X (.BoolOp .And [a] pos) (TTx c W f) := pw_and1 h
theorem s_tor1 {a : Expr} {f : FT} {pos : Pos} (h : PT X a (TTx c W f)) : PW X (.BoolOp .Or [a] pos) (TTx c W f) := pw_or1 h
theorem s_tand {a b : Expr} {rest : List Expr} {f g : FT} {pos : Pos} (ha : PT X a (TTx c W f)) (hb : PW X (.BoolOp .And (b :: rest) pos) (TTx c W g)) : PW X (.BoolOp .And (a :: b :: rest) pos) (TTx c W (tAn f g)) :=
  pw_imp (pw_and ha hb) fun σ H Q ⟨B, Z, r, S, s, rr, p⟩ => ⟨B, Z, r, S, s, rr, (Post.bind p).imp fun v S' B' H' e s' q => by
    cases v with
    | true => exact ⟨B', Z, r, S', s', rr.ev e, q⟩
    | false => exact q.ret s'⟩
theorem s_tor {a b : Expr} {rest : List Expr} {f g : FT} {pos : Pos} (ha : PT X a (TTx c W f)) (hb : PW X (.BoolOp .Or (b :: rest) pos) (TTx c W g)) : PW X (.BoolOp .Or (a :: b :: rest) pos) (TTx c W (tOr' f g)) :=
  pw_imp (pw_or ha hb) fun σ H Q ⟨B, Z, r, S, s, rr, p⟩ => ⟨B, Z, r, S, s, rr, (Post.bind p).imp fun v S' B' H' e s' q => by
    cases v with
    | false => exact ⟨B', Z, r, S', s', rr.ev e, q⟩
    | true => exact q.ret s'⟩
/-! as values -/
@[simp] def eAn (f g : FE) : FE := fun r S => (f r S).bind fun v S' => match v with
  | .d (.bool true) => g r S'
  | .d (.bool false) => .ok (.d (.bool false)) S'
  | _ => .bad
@[simp] def eOr (f g : FE) : FE := fun r S => (f r S).bind fun v S' => match v with
  | .d (.bool false) => g r S'
  | .d (.bool true) => .ok (.d (.bool true)) S'
  | _ => .bad
@[simp] def eNt (f : FE) : FE := fun r S => (f r S).bind fun v S' => match v with
  | .d (.bool b) => .ok (.d (.bool (!b))) S'
  | _ => .bad
theorem s_one {a : Expr} {f : FE} {op : BoolOp} {pos : Pos} (h : PE X a (TEx c W f)) : PE X (.BoolOp op [a] pos) (TEx c W f) := pe_one h
theorem s_and {a b : Expr} {rest : List Expr} {f g : FE} {pos : Pos} (ha : PE X a (TEx c W f)) (hb : PE X (.BoolOp .And (b :: rest) pos) (TEx c W g)) : PE X (.BoolOp .And (a :: b :: rest) pos) (TEx c W (eAn f g)) :=
  pe_imp (pe_and ha hb) fun σ H Q ⟨B, Z, r, S, s, rr, p⟩ => ⟨B, Z, r, S, s, rr, (Post.bind p).imp fun v S' B' H' e s' q x hx => by
    split at q
    · cases hx with | d hx => cases hx; exact ⟨_, rfl, ⟨B', Z, r, S', s', rr.ev e, q⟩⟩
    · cases hx with | d hx => cases hx; exact ⟨_, rfl, q.ret s' _ (.d (.bl _))⟩
    · exact q.elim⟩
theorem s_or {a b : Expr} {rest : List Expr} {f g : FE} {pos : Pos} (ha : PE X a (TEx c W f)) (hb : PE X (.BoolOp .Or (b :: rest) pos) (TEx c W g)) : PE X (.BoolOp .Or (a :: b :: rest) pos) (TEx c W (eOr f g)) :=
  pe_imp (pe_or ha hb) fun σ H Q ⟨B, Z, r, S, s, rr, p⟩ => ⟨B, Z, r, S, s, rr, (Post.bind p).imp fun v S' B' H' e s' q x hx => by
    split at q
    · cases hx with | d hx => cases hx; exact ⟨_, rfl, ⟨B', Z, r, S', s', rr.ev e, q⟩⟩
    · cases hx with | d hx => cases hx; exact ⟨_, rfl, q.ret s' _ (.d (.bl _))⟩
    · exact q.elim⟩
theorem s_not {a : Expr} {f : FE} {pos : Pos} (ha : PE X a (TEx c W f)) : PE X (.UnaryOp .Not a pos) (TEx c W (eNt f)) :=
  pe_imp (pe_not ha) fun σ H Q ⟨B, Z, r, S, s, rr, p⟩ => ⟨B, Z, r, S, s, rr, (Post.bind p).imp fun v S' B' H' e s' q x hx => by
    split at q
    · cases hx with | d hx => cases hx; exact ⟨_, rfl, q.ret s' _ (.d (.bl _))⟩
    · exact q.elim⟩
@[simp] def eIf (t : FT) (f g : FE) : FE := fun r S => (t r S).bind fun b S' => if b = true then f r S' else g r S'
theorem s_if {t a b : Expr} {ft : FT} {f g : FE} {pos : Pos} (ht : PT X t (TTx c W ft)) (ha : PE X a (TEx c W f)) (hb : PE X b (TEx c W g)) : PE X (.IfExp t a b pos) (TEx c W (eIf ft f g)) :=
  pe_imp (pe_ifExp ht ha hb) fun σ H Q ⟨B, Z, r, S, s, rr, p⟩ => ⟨B, Z, r, S, s, rr, (Post.bind p).imp fun v S' B' H' e s' q => by
    cases v with
    | true => exact ⟨B', Z, r, S', s', rr.ev e, q⟩
    | false => exact ⟨B', Z, r, S', s', rr.ev e, q⟩⟩
/-! chains of two -/
@[simp] def eCh (o o' : O2) (f g h : FE) : FE := fun r S => (f r S).bind fun v S1 => (g r S1).bind fun w S2 => (o v w S2).bind fun z S3 => match z with
  | .d (.bool true) => (h r S3).bind fun u S4 => o' w u S4
  | .d (.bool false) => .ok (.d (.bool false)) S3
  | _ => .bad
theorem chain_of {f g h : FE} {o o' : O2} {r r' : R2} (k : Ok2 c W r o) (k' : Ok2 c W r' o') {σ : L2.St} {H : Hp} {Q : VK} (q : TEx c W (eCh o o' f g h) σ H Q) : tChain r r' (TEx c W f) (TEx c W g) (TEx c W h) σ H Q := by
  obtain ⟨B, Z, r0, S, s, rr, p⟩ := q
  refine ⟨B, Z, r0, S, s, rr, (Post.bind p).imp fun v S1 B1 H1 e1 s1 q1 x hx => ?_⟩
  refine ⟨B1, Z, r0, S1, s1, rr.ev e1, (Post.bind q1).imp fun w S2 B2 H2 e2 s2 q2 y hy => ?_⟩
  refine k σ B2 Z H2 S2 v w x y _ s2 (hx.ev e2) hy ((Post.bind q2).imp fun z S3 B3 H3 e3 s3 q3 t ht => ?_)
  split at q3
  · cases ht with
    | d ht =>
      cases ht
      refine ⟨true, rfl, ?_⟩
      rw [if_pos rfl]
      refine ⟨B3, Z, r0, S3, s3, (rr.ev (e1.trans e2)).ev e3, (Post.bind q3).imp fun u S4 B4 H4 e4 s4 q4 x4 h4 => ?_⟩
      exact k' σ B4 Z H4 S4 w u y x4 Q s4 ((hy.ev e3).ev e4) h4 q4
  · cases ht with
    | d ht =>
      cases ht
      refine ⟨false, rfl, ?_⟩
      rw [if_neg (by decide)]
      exact q3.ret s3 _ (.d (.bl _))
  · exact q3.elim
end
end MI
set_option maxRecDepth 100000
set_option maxHeartbeats 4000000
namespace MI
open PySem L2
section
variable {c : Ct} {W : WX} {X : Cx}
theorem s_chain {a b d : Expr} {op op' : CmpOp} {f g h : FE} {o o' : O2} {r r' : R2} {pos : Pos} (ho : OpR X (compareOp op) r) (ho' : OpR X (compareOp op') r') (k : Ok2 c W r o) (k' : Ok2 c W r' o')
    (ha : PE X a (TEx c W f)) (hb : PE X b (TEx c W g)) (hd : PE X d (TEx c W h)) (hm : lastMarks [op, op'] [b, d] = false := by with_unfolding_all rfl) : PE X (.Compare a [op, op'] [b, d] pos) (TEx c W (eCh o o' f g h)) :=
  pe_imp (pe_chain ho ho' ha hb hd hm) fun _ _ _ => chain_of k k'
theorem s_tchain {a b d : Expr} {op op' : CmpOp} {f g h : FE} {o o' : O2} {r r' : R2} {pos : Pos} (ho : OpR X (compareOp op) r) (ho' : OpR X (compareOp op') r') (k : Ok2 c W r o) (k' : Ok2 c W r' o')
    (ha : PE X a (TEx c W f)) (hb : PE X b (TEx c W g)) (hd : PE X d (TEx c W h)) (hm : lastMarks [op, op'] [b, d] = false := by with_unfolding_all rfl) : PT X (.Compare a [op, op'] [b, d] pos) (TTx c W (tE (eCh o o' f g h))) :=
  pt_imp (pt_chain ho ho' ha hb hd hm) fun σ H Q q => test_of (fun _ => chain_of k k') q

/-! ## arguments, displays -/
@[simp] def aNil : FA := fun _ S => .ok [] S
@[simp] def aCons (f : FE) (g : FA) : FA := fun r S => (f r S).bind fun v S1 => (g r S1).bind fun vs S2 => .ok (v :: vs) S2
theorem RI.evs {H H' : Hp} {B B' Z : List Addr} {v : IV} {x : V} (h : RI c H B Z v x) (e : Ev B H B' H') : RI c H' B' Z v x := h.ev e
theorem s_nil : PA X [] (TAx c W aNil) := pa_imp pa_nil fun σ H Q ⟨B, Z, r, S, s, rr, p⟩ => p.ret s [] .nil
theorem s_cons {e : Expr} {es : List Expr} {f : FE} {g : FA} (h : PE X e (TEx c W f)) (t : PA X es (TAx c W g)) (hs : starEach (e :: es) X.env = (false, eval e X.env) :: starEach es X.env := by rfl) : PA X (e :: es) (TAx c W (aCons f g)) :=
  pa_imp (pa_cons h t hs) fun σ H Q ⟨B, Z, r, S, s, rr, p⟩ => ⟨B, Z, r, S, s, rr, (Post.bind p).imp fun v S1 B1 H1 e1 s1 q x hx =>
    ⟨B1, Z, r, S1, s1, rr.ev e1, (Post.bind q).imp fun vs S2 B2 H2 e2 s2 q2 xs hxs => q2.ret s2 (x :: xs) (.cons (hx.ev e2) hxs)⟩⟩
/-- *e -/
@[simp] def itemsOf (v : IV) (S : Sto) : Option (List PyData) := match v with
  | .d (.list ds) => some ds
  | .d (.tuple ds) => some ds
  | .ref n => (match S[n]? with
    | some (.lst ds) => some ds
    | _ => none)
  | _ => none
theorem items_of {B Z : List Addr} {H : Hp} {S : Sto} {v : IV} {x : V} {ds : List PyData} (s : SR c H B Z S) (h : RI c H B Z v x) (e : itemsOf v S = some ds) : ∃ a xs, x = .ref a ∧ (SqT c.K H a xs ∨ SqL c.K H a xs) ∧ RDs c.K H (B ++ Z) ds xs := by
  unfold itemsOf at e
  split at e
  · cases e
    cases h with
    | d h => obtain ⟨a, xs, h1, h2, h3⟩ := h.lstS; exact ⟨a, xs, h1, .inr (.of h2), h3⟩
  · cases e
    cases h with
    | d h => obtain ⟨a, xs, h1, h2, h3⟩ := h.tupS; exact ⟨a, xs, h1, .inl h2, h3⟩
  · split at e
    · rename_i q
      cases e
      obtain ⟨b, xs, h1, _, h2, h3⟩ := s.lst q h
      exact ⟨b, xs, h1, .inr (.of h2), h3⟩
    · cases e
  · cases e
@[simp] def aStar (f : FE) (g : FA) : FA := fun r S => (f r S).bind fun v S1 => match itemsOf v S1 with
  | some ds => (g r S1).bind fun vs S2 => .ok (ds.map IV.d ++ vs) S2
  | none => .bad
theorem RIs.ofDs {H : Hp} {B Z : List Addr} : ∀ {ds : List PyData} {xs : List V}, RDs c.K H (B ++ Z) ds xs → RIs c H B Z (ds.map IV.d) xs
  | _, _, .nil => .nil
  | _, _, .cons h t => .cons (.d h) (RIs.ofDs t)
theorem RIs.app {H : Hp} {B Z : List Addr} : ∀ {is js : List IV} {xs ys : List V}, RIs c H B Z is xs → RIs c H B Z js ys → RIs c H B Z (is ++ js) (xs ++ ys)
  | _, _, _, _, .nil, s => s
  | _, _, _, _, .cons h t, s => .cons h (RIs.app t s)
theorem s_star {e : Expr} {es : List Expr} {f : FE} {g : FA} {p : Pos} (hc : X.calm = true) (hK : c.K = X.K) (h : PE X e (TEx c W f)) (t : PA X es (TAx c W g)) (hs : starEach (.Starred e p :: es) X.env = (true, eval e X.env) :: starEach es X.env := by rfl) : PA X (.Starred e p :: es) (TAx c W (aStar f g)) :=
  pa_imp (StX.pa_star h t hs) fun σ H Q ⟨B, Z, r, S, s, rr, p⟩ => ⟨B, Z, r, S, s, rr, (Post.bind p).imp fun v S1 B1 H1 e1 s1 q x hx => by
    split at q
    · rename_i ds q1
      obtain ⟨a, xs, h1, h2, h3⟩ := items_of s1 hx q1
      refine ⟨a, xs, h1, by rw [← hK]; exact h2, ⟨B1, Z, r, S1, s1, rr.ev e1, (Post.bind q).imp fun vs S2 B2 H2 e2 s2 q2 ys hys => q2.ret s2 _ (.app (.ofDs (h3.ev e2)) hys)⟩⟩
    · exact q.elim⟩
/-- all data -/
@[simp] def datas : List IV → Option (List PyData)
  | [] => some []
  | .d x :: r => (match datas r with
    | some ds => some (x :: ds)
    | none => none)
  | _ :: _ => none
theorem RIs.datas {H : Hp} {B Z : List Addr} : ∀ {is : List IV} {xs : List V} {ds : List PyData}, RIs c H B Z is xs → MI.datas is = some ds → RDs c.K H (B ++ Z) ds xs
  | [], _, _, .nil, e => by cases e; exact .nil
  | .d x :: r, _, ds, .cons h t, e => by
    unfold MI.datas at e
    split at e
    · rename_i ds' q
      cases e
      cases h with
      | d h => exact .cons h (RIs.datas t q)
    · cases e
theorem RIs.length {H : Hp} {B Z : List Addr} : ∀ {is : List IV} {xs : List V}, RIs c H B Z is xs → is.length = xs.length
  | _, _, .nil => rfl
  | _, _, .cons _ t => congrArg (· + 1) (RIs.length t)
@[simp] def mkTup : List IV → Sto → Out IV := fun vs S => if vs.length ≤ 1000 then (match datas vs with
  | some ds => .ok (.d (.tuple ds)) S
  | none => .ok (.tup vs) S) else .bad
@[simp] def eTup (f : FA) : FE := fun r S => (f r S).bind mkTup
/-- a list display: frozen, or an object of the store -/
@[simp] def mkLst : List IV → Sto → Out IV := fun vs S => if vs.length ≤ 1000 then (match datas vs with
  | some ds => .ok (.d (.list ds)) S
  | none => .bad) else .bad
@[simp] def mkLstM : List IV → Sto → Out IV := fun vs S => if vs.length ≤ 1000 then (match datas vs with
  | some ds => .ok (.ref S.length) (S ++ [.lst ds])
  | none => .bad) else .bad
/-- a list that holds more than data -/
def mkLstX : List IV → Sto → Out IV := fun vs S => if vs.length ≤ 1000 then .ok (.ref S.length) (S ++ [.lsx vs]) else .bad
@[simp] def eLst (f : FA) : FE := fun r S => (f r S).bind mkLst
@[simp] def eLstM (f : FA) : FE := fun r S => (f r S).bind mkLstM
def eLstX (f : FA) : FE := fun r S => (f r S).bind mkLstX
theorem k1000 {n : Nat} (h : n ≤ 1000) : n ≤ sizeLine := Nat.le_trans h (by decide)
theorem s_tup {es : List Expr} {f : FA} {x1} {pos : Pos} (h : PA X es (TAx c W f)) : PE X (.Tuple es x1 pos) (TEx c W (eTup f)) :=
  pe_imp (pe_tupF h) fun σ H Q ⟨B, Z, r, S, s, rr, p⟩ => ⟨B, Z, r, S, s, rr, (Post.bind p).imp fun vs S1 B1 H1 e1 s1 q xs hxs => by
    unfold mkTup at q
    split at q
    · rename_i hl
      refine ⟨k1000 (by rw [← hxs.length]; exact hl), fun a oa ha toa => ?_⟩
      split at q
      · rename_i ds q1
        exact q B1 _ (Ev.new s1 ha) (s1.new ha) _ (.d (RD.newTup s1 ha toa (hxs.datas q1)))
      · exact q B1 _ (Ev.new s1 ha) (s1.new ha) _ (.tup upd_same toa (s1.out ha) (hxs.ev (Ev.new s1 ha)))
    · exact q.elim⟩
theorem s_lst {es : List Expr} {f : FA} {pos : Pos} (h : PA X es (TAx c W f)) : PE X (.List es pos) (TEx c W (eLst f)) :=
  pe_imp (pe_lst h) fun σ H Q ⟨B, Z, r, S, s, rr, p⟩ => ⟨B, Z, r, S, s, rr, (Post.bind p).imp fun vs S1 B1 H1 e1 s1 q xs hxs => by
    unfold mkLst at q
    split at q
    · rename_i hl
      refine ⟨k1000 (by rw [← hxs.length]; exact hl), fun a ha => ?_⟩
      split at q
      · rename_i ds q1
        exact q B1 _ (Ev.new s1 ha) (s1.new ha) _ (.d (RD.newList s1 ha (hxs.datas q1)))
      · exact q.elim
    · exact q.elim⟩
theorem s_lstM {es : List Expr} {f : FA} {pos : Pos} (h : PA X es (TAx c W f)) : PE X (.List es pos) (TEx c W (eLstM f)) :=
  pe_imp (pe_lst h) fun σ H Q ⟨B, Z, r, S, s, rr, p⟩ => ⟨B, Z, r, S, s, rr, (Post.bind p).imp fun vs S1 B1 H1 e1 s1 q xs hxs => by
    unfold mkLstM at q
    split at q
    · rename_i hl
      refine ⟨k1000 (by rw [← hxs.length]; exact hl), fun a ha => ?_⟩
      split at q
      · rename_i ds q1
        exact push_list s1 (hxs.datas q1) q ha
      · exact q.elim
    · exact q.elim⟩
theorem s_lstX {es : List Expr} {f : FA} {pos : Pos} (h : PA X es (TAx c W f)) : PE X (.List es pos) (TEx c W (eLstX f)) :=
  pe_imp (pe_lst h) fun σ H Q ⟨B, Z, r, S, s, rr, p⟩ => ⟨B, Z, r, S, s, rr, (Post.bind p).imp fun vs S1 B1 H1 e1 s1 q xs hxs => by
    unfold mkLstX at q
    split at q
    · rename_i hl
      refine ⟨k1000 (by rw [← hxs.length]; exact hl), fun a ha => ?_⟩
      have e := Ev.push (o := HO.lst xs) s1 ha
      exact q (B1 ++ [a]) _ e (s1.push ha ⟨xs, upd_same, hxs.ev e⟩) _ (.ref (by rw [← s1.len]; simp))
    · exact q.elim⟩

/-! ## subscripts -/
def ixD (ds : List PyData) (i : Int) : Option PyData := atI ds i
theorem atI_of {K : PySem.W.Frag} {H : Hp} {bd : List Addr} {ds : List PyData} {xs : List V} {i : Int} {d : PyData} (r : RDs K H bd ds xs) (e : atI ds i = some d) : ∃ x, atI xs i = some x ∧ RD K H bd d x := by
  unfold atI at e ⊢
  rw [← r.length]
  cases q : ixN ds.length i with
  | none => rw [q] at e; cases e
  | some j =>
    rw [q] at e
    have e : ds[j]? = some d := e
    exact r.get e
theorem RIs.nth {H : Hp} {B Z : List Addr} : ∀ {us : List IV} {xs : List V} {i : Nat} {u : IV}, RIs c H B Z us xs → us[i]? = some u → ∃ x, xs[i]? = some x ∧ RI c H B Z u x
  | _, _, _, _, .nil, q => by simp at q
  | _, _, 0, _, .cons h _, q => by simp at q; subst q; exact ⟨_, rfl, h⟩
  | _, _, i + 1, _, .cons _ t, q => by simpa using RIs.nth (i := i) t (by simpa using q)
theorem atIs {H : Hp} {B Z : List Addr} {us : List IV} {xs : List V} {i : Int} {u : IV} (r : RIs c H B Z us xs) (e : atI us i = some u) : ∃ x, atI xs i = some x ∧ RI c H B Z u x := by
  unfold atI at e ⊢
  rw [← r.length]
  cases q : ixN us.length i with
  | none => rw [q] at e; cases e
  | some j =>
    rw [q] at e
    have e : us[j]? = some u := e
    exact r.nth e
@[simp] def oIx : O2 := fun v w S => match w with
  | .d (.int i) => (match v with
    | .d (.str z) => if z.length ≤ sizeLine then (match atI z.cps.toList i with
      | some k => .ok (.d (.str ⟨#[k]⟩)) S
      | none => .bad) else .bad
    | .scr ns => (match atI ns i with
      | some k => .ok (.d (.int k)) S
      | none => .bad)
    | .tup us => (match atI us i with
      | some u => .ok u S
      | none => .bad)
    | _ => (match itemsOf v S with
      | some ds => (match atI ds i with
        | some d => .ok (.d d) S
        | none => .bad)
      | none => .bad))
  | _ => .bad
theorem RI.scrS {H : Hp} {B Z : List Addr} {ns : List Int} {x : V} (h : RI c H B Z (.scr ns) x) : ∃ a, x = .ref a ∧ SqL c.K H a (ns.map V.int) := by
  cases h with
  | scr h _ => exact ⟨_, rfl, .inl h⟩
  | scrK h => exact ⟨_, rfl, .inr h⟩
theorem atI_map {α β : Type} (f : α → β) {xs : List α} {i : Int} {v : α} (h : atI xs i = some v) : atI (xs.map f) i = some (f v) := by
  unfold atI at h ⊢
  rw [List.length_map]
  cases q : ixN xs.length i with
  | none => rw [q] at h; cases h
  | some j =>
    rw [q] at h
    have h : xs[j]? = some v := h
    show (xs.map f)[j]? = some (f v)
    rw [List.getElem?_map, h] <;> rfl
theorem k_ix : Ok2 c W (rIx c.K) oIx := by
  intro σ B Z H S v w x y Q s rv rw_ p
  unfold oIx at p
  split at p
  · rename_i i
    cases rw_ with
    | d rw_ =>
      cases rw_
      split at p
      · rename_i z
        split at p
        · rename_i hl
          split at p
          · rename_i k e
            cases rv with | d rv => cases rv; exact .inr (.inr ⟨_, _, k, rfl, rfl, hl, e, p.ret s _ (.d (.str _))⟩)
          · exact p.elim
        · exact p.elim
      · split at p
        · rename_i ns k e
          obtain ⟨a, rfl, h⟩ := rv.scrS
          exact .inl ⟨a, _, _, _, rfl, rfl, h, atI_map V.int e, p.ret s _ (.d (.int _))⟩
        · exact p.elim
      · rename_i us
        split at p
        · rename_i u e
          cases rv with
          | tup h to hb r =>
            obtain ⟨z, h3, h4⟩ := atIs r e
            exact .inr (.inl ⟨_, _, _, z, rfl, rfl, sqF h, h3, p.ret s _ h4⟩)
        · exact p.elim
      · split at p
        · rename_i ds e
          split at p
          · rename_i d q
            obtain ⟨a, xs, rfl, h1, h2⟩ := items_of s rv e
            obtain ⟨z, h3, h4⟩ := atI_of h2 q
            rcases h1 with h1 | h1
            · exact .inr (.inl ⟨a, xs, _, z, rfl, rfl, h1, h3, p.ret s _ (.d h4)⟩)
            · exact .inl ⟨a, xs, _, z, rfl, rfl, h1, h3, p.ret s _ (.d h4)⟩
          · exact p.elim
        · exact p.elim
  · exact p.elim
theorem s_ix {a b : Expr} {f g : FE} {pos : Pos} (hK : c.K = X.K) (ha : PE X a (TEx c W f)) (hb : PE X b (TEx c W g)) (hs : PlainIx b) : PE X (.Subscript a b pos) (TEx c W (eOp2 oIx f g)) :=
  pe_imp (pe_ix ix_seq ha hb hs) fun σ H Q h => two_of (by rw [← hK]; exact k_ix) h

/-! slices -/
abbrev FO := Rho → Sto → Out (Option Int)
@[simp] def pNo : FO := fun _ S => .ok none S
@[simp] def pSm (f : FE) : FO := fun r S => (f r S).bind fun v S' => match v with
  | .d (.int i) => .ok (some i) S'
  | _ => .bad
def TOx (c : Ct) (W : WX) (f : FO) : TO := fun σ H Q => ∃ B Z r S, SR c H B Z S ∧ RR c H B Z r σ ∧ Post c W B Z H σ (f r S) fun v _ _ H' => Q v H'
theorem s_pno : PO X none (TOx c W pNo) := ⟨fun pins s σ H Q I ⟨B, Z, r, S, sr, rr, p⟩ => po_none.run pins s σ H Q I (p.ret sr)⟩
theorem s_psm {e : Expr} {f : FE} (h : PE X e (TEx c W f)) : PO X (some e) (TOx c W (pSm f)) := ⟨fun pins s σ H Q I ⟨B, Z, r, S, sr, rr, p⟩ => (po_some h).run pins s σ H Q I
  ⟨B, Z, r, S, sr, rr, (Post.bind p).imp fun v S' B' H' e s' q x hx => by
    split at q
    · cases hx with | d hx => cases hx; exact ⟨_, rfl, q.ret s'⟩
    · exact q.elim⟩⟩
def cutD (xs : List PyData) (lo hi : Option Int) : List PyData := (xs.drop (HT.sIx xs.length 0 lo)).take (HT.sIx xs.length xs.length hi - HT.sIx xs.length 0 lo)
@[simp] def oSl (v : IV) (lo hi : Option Int) (S : Sto) : Out IV := match v with
  | .d (.str z) => if z.length ≤ sizeLine then .ok (.d (.str (cutS z lo hi))) S else .bad
  | .d (.tuple ds) => .ok (.d (.tuple (cutD ds lo hi))) S
  | .d (.list ds) => .ok (.d (.list (cutD ds lo hi))) S
  | .ref n => (match S[n]? with
    | some (.lst ds) => .ok (.d (.list (cutD ds lo hi))) S
    | _ => .bad)
  | .scr ns => .ok (.d (.list (cutD (ns.map PyData.int) lo hi))) S
  | _ => .bad
@[simp] def eSl (f : FE) (lo hi : FO) : FE := fun r S => (f r S).bind fun v S1 => (lo r S1).bind fun l S2 => (hi r S2).bind fun h S3 => oSl v l h S3
def rSl (K : PySem.W.Frag) : V → Option Int → Option Int → Hp → VK → Prop := fun x lo hi H Q => rSlAF K x lo hi H Q ∨ rSlL K x lo hi H Q ∨ rSlS x lo hi H Q
theorem RDs.cut {K : PySem.W.Frag} {H : Hp} {bd : List Addr} {ds : List PyData} {xs : List V} (r : RDs K H bd ds xs) (lo hi : Option Int) : RDs K H bd (cutD ds lo hi) (cutV xs lo hi) := by
  unfold cutD cutV
  rw [r.length]
  exact (r.drop _).take _
theorem cut_all {xs : List PyData} {lo hi : Option Int} (h : HT.sIx xs.length 0 lo = 0 ∧ HT.sIx xs.length xs.length hi = xs.length) : cutD xs lo hi = xs := by
  unfold cutD
  rw [h.1, h.2]
  simp
theorem k_sl {σ : L2.St} {B Z : List Addr} {H : Hp} {S : Sto} {v : IV} {x : V} {lo hi : Option Int} {Q : VK} (s : SR c H B Z S) (rv : RI c H B Z v x)
    (p : Post c W B Z H σ (oSl v lo hi S) (fun z _ B' H' => ∀ y, RI c H' B' Z z y → Q y H')) : rSl c.K x lo hi H Q := by
  unfold oSl at p
  split at p
  · split at p
    · rename_i hl
      cases rv with | d rv => cases rv; exact .inr (.inr ⟨_, rfl, hl, p.ret s _ (.d (.str _))⟩)
    · exact p.elim
  · cases rv with
    | d rv =>
      have r0 := rv
      obtain ⟨a, xs, rfl, h1, h2⟩ := rv.tupS
      refine .inl ⟨a, xs, rfl, h1, fun hw => ?_, fun hw q oq hq toq => p B _ (Ev.new s hq) (s.new hq) _ (.d (RD.newTup s hq toq (h2.cut lo hi)))⟩
      rw [← h2.length] at hw
      rw [cut_all hw] at p
      exact p.ret s _ (.d r0)
  · cases rv with
    | d rv =>
      obtain ⟨a, xs, rfl, h1, h2⟩ := rv.lstS
      exact .inr (.inl ⟨a, xs, rfl, .of h1, fun q hq => p B _ (Ev.new s hq) (s.new hq) _ (.d (RD.newList s hq (h2.cut lo hi)))⟩)
  · split at p
    · rename_i e
      obtain ⟨b, xs, rfl, _, h1, h2⟩ := s.lst e rv
      exact .inr (.inl ⟨b, xs, rfl, .of h1, fun q hq => p B _ (Ev.new s hq) (s.new hq) _ (.d (RD.newList s hq (h2.cut lo hi)))⟩)
    · exact p.elim
  · obtain ⟨a, rfl, h⟩ := rv.scrS
    exact .inr (.inl ⟨a, _, rfl, h, fun q hq => p B _ (Ev.new s hq) (s.new hq) _ (.d (RD.newList s hq ((rds_ints _).cut lo hi)))⟩)
  · exact p.elim
theorem s_sl {e : Expr} {lo hi : Option Expr} {f : FE} {l h : FO} {p2 pos : Pos} (hK : c.K = X.K) (he : PE X e (TEx c W f)) (hl : PO X lo (TOx c W l)) (hh : PO X hi (TOx c W h)) : PE X (.Subscript e (.Slice lo hi none p2) pos) (TEx c W (eSl f l h)) :=
  pe_imp (pe_slice (r := rSl X.K) (sl_tupAF.or (sl_list.or sl_str)) he hl hh) fun σ H Q ⟨B, Z, r, S, s, rr, p⟩ => ⟨B, Z, r, S, s, rr, (Post.bind p).imp fun v S1 B1 H1 e1 s1 q1 x hx =>
    ⟨B1, Z, r, S1, s1, rr.ev e1, (Post.bind q1).imp fun l S2 B2 H2 e2 s2 q2 => ⟨B2, Z, r, S2, s2, (rr.ev e1).ev e2, (Post.bind q2).imp fun h S3 B3 H3 e3 s3 q3 => by
      rw [← hK]
      exact k_sl s3 ((hx.ev e2).ev e3) q3⟩⟩⟩
end
end MI
set_option maxRecDepth 100000
set_option maxHeartbeats 4000000
namespace MI
open PySem L2

/-! ## statements -/
inductive SOut where
  | nx (r : Rho) (S : Sto)
  | ret (v : IV) (S : Sto)
  | brk (r : Rho) (S : Sto)
  | ct (r : Rho) (S : Sto)
  | exn (n : Str) (v : PyData) (r : Rho) (S : Sto)
  | bad
abbrev FS := Rho → Sto → SOut
abbrev FG := IV → Rho → Sto → SOut
/-- a statement goes on behind an expression -/
def Out.to {α : Type} (o : Out α) (r : Rho) (f : α → Sto → SOut) : SOut := match o with
  | .ok a S => f a S
  | .exn n v S => .exn n v r S
  | .bad => .bad
def SOut.seq (o : SOut) (f : Rho → Sto → SOut) : SOut := match o with
  | .nx r S => f r S
  | o => o
def PostS (c : Ct) (W : WX) (B Z : List Addr) (H : Hp) (D : Ends) (o : SOut) : Prop := match o with
  | .nx r S => ∀ σ B' H', Ev B H B' H' → SR c H' B' Z S → RR c H' B' Z r σ → D.nx σ H'
  | .brk r S => ∀ σ B' H', Ev B H B' H' → SR c H' B' Z S → RR c H' B' Z r σ → D.bk σ H'
  | .ct r S => ∀ σ B' H', Ev B H B' H' → SR c H' B' Z S → RR c H' B' Z r σ → D.ct σ H'
  | .ret v S => ∀ x B' H', Ev B H B' H' → SR c H' B' Z S → RI c H' B' Z v x → D.rt x H'
  | .exn n v r S => ∀ cls dd σ B' H', Ev B H B' H' → SR c H' B' Z S → RR c H' B' Z r σ → RX c H' (B' ++ Z) n v cls dd → W cls dd σ H'
  | .bad => False
def TSx (c : Ct) (W : WX) (f : FS) : TS := fun D σ H => ∃ B Z r S, SR c H B Z S ∧ RR c H B Z r σ ∧ PostS c W B Z H D (f r S)
def TGx (c : Ct) (W : WX) (g : FG) : TG := fun x σ H Q => ∃ B Z r S v, SR c H B Z S ∧ RR c H B Z r σ ∧ RI c H B Z v x ∧ PostS c W B Z H { nx := Q, rt := fun _ _ => False, bk := fun _ _ => False, ct := fun _ _ => False } (g v r S)
section
variable {c : Ct} {W : WX} {X : Cx} {B Z B1 : List Addr} {H H1 : Hp} {σ : L2.St} {α : Type} {D D' : Ends}
theorem PostS.far {o : SOut} (e : Ev B H B1 H1) (h : PostS c W B Z H D o) : PostS c W B1 Z H1 D o := by
  cases o with
  | nx r S => exact fun σ B' H' f => h σ B' H' (e.trans f)
  | brk r S => exact fun σ B' H' f => h σ B' H' (e.trans f)
  | ct r S => exact fun σ B' H' f => h σ B' H' (e.trans f)
  | ret v S => exact fun x B' H' f => h x B' H' (e.trans f)
  | exn n v r S => exact fun cls dd σ B' H' f => h cls dd σ B' H' (e.trans f)
  | bad => exact h
/-- the end of an expression -/
theorem Post.to {o : Out α} {r : Rho} {f : α → Sto → SOut} (rr : RR c H B Z r σ) (h : PostS c W B Z H D (o.to r f)) : Post c W B Z H σ o fun v S' B' H' => PostS c W B' Z H' D (f v S') := by
  cases o with
  | ok v S =>
    have h : PostS c W B Z H D (f v S) := h
    exact fun B' H' e s => h.far e
  | exn n v S => exact fun cls dd B' H' e s rx => h cls dd σ B' H' e s (rr.ev e) rx
  | bad => exact h
theorem PostS.nxr {r : Rho} {S : Sto} (s : SR c H B Z S) (rr : RR c H B Z r σ) (h : PostS c W B Z H D (.nx r S)) : D.nx σ H := h σ B H (Ev.refl s) s rr
theorem PostS.retr {v : IV} {x : V} {S : Sto} (s : SR c H B Z S) (rv : RI c H B Z v x) (h : PostS c W B Z H D (.ret v S)) : D.rt x H := h x B H (Ev.refl s) s rv
/-- one after the other, in another's ends -/
theorem PostS.seq {o : SOut} {f : Rho → Sto → SOut} (h : PostS c W B Z H D (o.seq f)) (hn : ∀ r S σ B' H', Ev B H B' H' → SR c H' B' Z S → RR c H' B' Z r σ → PostS c W B' Z H' D (f r S) → D'.nx σ H')
    (h1 : D'.rt = D.rt) (h2 : D'.bk = D.bk) (h3 : D'.ct = D.ct) : PostS c W B Z H D' o := by
  cases o with
  | nx r S =>
    have h : PostS c W B Z H D (f r S) := h
    exact fun σ B' H' e s rr => hn r S σ B' H' e s rr (h.far e)
  | brk r S =>
    show ∀ σ B' H', _ → _ → _ → D'.bk σ H'
    rw [h2]; exact h
  | ct r S =>
    show ∀ σ B' H', _ → _ → _ → D'.ct σ H'
    rw [h3]; exact h
  | ret v S =>
    show ∀ x B' H', _ → _ → _ → D'.rt x H'
    rw [h1]; exact h
  | exn n v r S => exact h
  | bad => exact h

/-! ### blocks, small statements -/
@[simp] def sNil : FS := fun r S => .nx r S
@[simp] def sCons (a b : FS) : FS := fun r S => (a r S).seq b
theorem s_snil : PSs X [] (TSx c W sNil) := pss_imp pss_nil fun D σ H ⟨B, Z, r, S, s, rr, p⟩ => p.nxr s rr
theorem s_scons {st : Stmt} {rest : List Stmt} {a b : FS} (h1 : PS X st (TSx c W a)) (h2 : PSs X rest (TSx c W b)) : PSs X (st :: rest) (TSx c W (sCons a b)) :=
  pss_imp (pss_cons h1 h2) fun D σ H ⟨B, Z, r, S, s, rr, p⟩ => ⟨B, Z, r, S, s, rr, p.seq (fun r' S' σ' B' H' e s' rr' q => ⟨B', Z, r', S', s', rr', q⟩) rfl rfl rfl⟩
theorem s_sone {st : Stmt} {a : FS} (h1 : PS X st (TSx c W a)) : PSs X [st] (TSx c W a) := pss_one h1
@[simp] def sPass : FS := fun r S => .nx r S
@[simp] def sBrk : FS := fun r S => .brk r S
@[simp] def sCt : FS := fun r S => .ct r S
theorem s_pass {pos : Pos} : PS X (.Pass pos) (TSx c W sPass) := ps_imp ps_pass fun D σ H ⟨B, Z, r, S, s, rr, p⟩ => p.nxr s rr
theorem s_brk {pos : Pos} : PS X (.Break pos) (TSx c W sBrk) := ps_imp ps_break fun D σ H ⟨B, Z, r, S, s, rr, p⟩ => p σ B H (Ev.refl s) s rr
theorem s_ct {pos : Pos} : PS X (.Continue pos) (TSx c W sCt) := ps_imp ps_continue fun D σ H ⟨B, Z, r, S, s, rr, p⟩ => p σ B H (Ev.refl s) s rr
@[simp] def sEx (f : FE) : FS := fun r S => (f r S).to r fun _ S' => .nx r S'
theorem s_ex {e : Expr} {f : FE} {pos : Pos} (h : PE X e (TEx c W f)) (hs : swapsWith e none pos.line X.env = pure false := by rfl) : PS X (.Expr e pos) (TSx c W (sEx f)) :=
  ps_imp (ps_expr h hs) fun D σ H ⟨B, Z, r, S, s, rr, p⟩ => ⟨B, Z, r, S, s, rr, (Post.to rr p).imp fun v S' B' H' e s' q x hx => q.nxr s' (rr.ev e)⟩
@[simp] def sRet (f : FE) : FS := fun r S => (f r S).to r fun v S' => .ret v S'
theorem s_ret {e : Expr} {f : FE} {pos : Pos} (h : PE X e (TEx c W f)) : PS X (.Return (some e) pos) (TSx c W (sRet f)) :=
  ps_imp (ps_ret h) fun D σ H ⟨B, Z, r, S, s, rr, p⟩ => ⟨B, Z, r, S, s, rr, (Post.to rr p).imp fun v S' B' H' e s' q x hx => q.retr s' hx⟩
@[simp] def sIf (t : FT) (a b : FS) : FS := fun r S => (t r S).to r fun k S' => if k = true then a r S' else b r S'
theorem s_sif {t : Expr} {a b : List Stmt} {ft : FT} {fa fb : FS} {pos : Pos} (ht : PT X t (TTx c W ft)) (ha : PSs X a (TSx c W fa)) (hb : PSs X b (TSx c W fb)) : PS X (.If t a b pos) (TSx c W (sIf ft fa fb)) :=
  ps_imp (ps_if ht ha hb) fun D σ H ⟨B, Z, r, S, s, rr, p⟩ => ⟨B, Z, r, S, s, rr, (Post.to rr p).imp fun k S' B' H' e s' q => by
    cases k with
    | true => exact ⟨B', Z, r, S', s', rr.ev e, q⟩
    | false => exact ⟨B', Z, r, S', s', rr.ev e, q⟩⟩

/-! ### targets -/
@[simp] def gNm (i : Nat) : FG := fun v r S => .nx (r.set i (some v)) S
theorem s_gnm {i : Nat} {x : Str} {pos : Pos} (h : PG X (.Name x pos) (gName i)) : PG X (.Name x pos) (TGx c W (gNm i)) :=
  ⟨fun pins s σ H v u Q I rv ⟨B, Z, r, S, iv, sr, rr, ri, p⟩ => h.run pins s σ H v u Q I rv (p (σ.set i (some v)) B H (Ev.refl sr) sr (rr.set ri i))⟩
/-- several targets -/
abbrev FGs := List IV → Rho → Sto → SOut
@[simp] def gsNil : FGs := fun vs r S => match vs with
  | [] => .nx r S
  | _ => .bad
@[simp] def gsCons (g : FG) (t : FGs) : FGs := fun vs r S => match vs with
  | v :: rest => (g v r S).seq (t rest)
  | [] => .bad
def TGsx (c : Ct) (W : WX) (g : FGs) : TGs := fun xs σ H Q => ∃ B Z r S vs, SR c H B Z S ∧ RR c H B Z r σ ∧ RIs c H B Z vs xs ∧ PostS c W B Z H { nx := Q, rt := fun _ _ => False, bk := fun _ _ => False, ct := fun _ _ => False } (g vs r S)
theorem s_gsnil : PGs X [] (TGsx c W gsNil) := ⟨fun pins s σ H xs us Q I rv ⟨B, Z, r, S, vs, sr, rr, ri, p⟩ => pgs_nil.run pins s σ H xs us Q I rv (by
  unfold gsNil at p
  split at p
  · cases ri; exact ⟨rfl, p.nxr sr rr⟩
  · exact p.elim)⟩
theorem RIs.evs {vs : List IV} {xs : List V} (h : RIs c H B Z vs xs) (e : Ev B H B1 H1) : RIs c H1 B1 Z vs xs := h.ev e
theorem s_gscons {e : Expr} {es : List Expr} {g : FG} {t : FGs} (h1 : PG X e (TGx c W g)) (h2 : PGs X es (TGsx c W t)) (hs : (assignEach (e :: es) X.env).map (·.2) = assign e X.env :: (assignEach es X.env).map (·.2) := by rfl) : PGs X (e :: es) (TGsx c W (gsCons g t)) :=
  ⟨fun pins s σ H xs us Q I rv ⟨B, Z, r, S, vs, sr, rr, ri, p⟩ => (pgs_cons h1 h2 hs).run pins s σ H xs us Q I rv (by
    unfold gsCons at p
    split at p
    · cases ri with
      | cons hv ht =>
        refine ⟨_, _, rfl, B, Z, r, S, _, sr, rr, hv, ?_⟩
        exact p.seq (fun r' S' σ' B' H' e' s' rr' q => ⟨B', Z, r', S', _, s', rr', ht.ev e', q⟩) rfl rfl rfl
    · exact p.elim)⟩
/-- a tuple's items -/
@[simp] def partsT : IV → Option (List IV)
  | .d (.tuple ds) => some (ds.map IV.d)
  | .tup vs => some vs
  | _ => none
@[simp] def gTp (n : Nat) (t : FGs) : FG := fun v r S => match partsT v with
  | some vs => if vs.length = n then t vs r S else .bad
  | none => .bad
theorem parts_of {v : IV} {x : V} {vs : List IV} (h : RI c H B Z v x) (e : partsT v = some vs) : ∃ a xs, x = .ref a ∧ SqT c.K H a xs ∧ RIs c H B Z vs xs := by
  unfold partsT at e
  split at e
  · cases e
    cases h with
    | d h => obtain ⟨a, xs, h1, h2, h3⟩ := h.tupS; exact ⟨a, xs, h1, h2, .ofDs h3⟩
  · cases e
    cases h with
    | tup h to hb r => exact ⟨_, _, rfl, sqF h, r⟩
  · cases e
theorem s_gtp {es : List Expr} {k n : Nat} {t : FGs} {pos : Pos} (hc : X.calm = true) (hK : c.K = X.K) (h : PGs X es (TGsx c W t)) (hn : (assignEach es X.env).length = n := by rfl) (hst : (assignEach es X.env).findIdx? (·.1) = none := by rfl) :
    PG X (.Tuple es k pos) (TGx c W (gTp n t)) := ⟨fun pins s σ H v u Q I rv ⟨B, Z, r, S, iv, sr, rr, ri, p⟩ => (pg_tup hc h hn hst).run pins s σ H v u Q I rv (by
  unfold gTp at p
  split at p
  · rename_i vs q
    split at p
    · rename_i hl
      obtain ⟨a, xs, h1, h2, h3⟩ := parts_of ri q
      exact ⟨a, xs, h1, by rw [← hK]; exact h2, by rw [← h3.length]; exact hl, B, Z, r, S, vs, sr, rr, h3, p⟩
    · exact p.elim
  · exact p.elim)⟩
/-- xs[i] = v of an object of the store -/
@[simp] def stPut (o i v : IV) (S : Sto) : Option Sto := match o, i with
  | .ref n, .d (.int k) => (match S[n]?, v with
    | some (.lst ds), .d d => (match ixN ds.length k with
      | some j => some (S.set n (.lst (ds.set j d)))
      | none => none)
    | _, _ => none)
  | _, _ => none
@[simp] def gSb (o i : FE) : FG := fun v r S => (o r S).to r fun ov S1 => (i r S1).to r fun iv S2 => match stPut ov iv v S2 with
  | some S3 => .nx r S3
  | none => .bad
theorem SR.putL {S : Sto} {n : Nat} {b : Addr} {ds : List PyData} {xs : List V} (s : SR c H B Z S) (hb : B[n]? = some b) (r : RDs c.K H (B ++ Z) ds xs) : SR c (upd H b (.lst xs)) B Z (S.set n (.lst ds)) ∧ Ev B H B (upd H b (.lst xs)) := by
  have e := Ev.put (o := HO.lst xs) s hb
  exact ⟨s.put hb ⟨xs, upd_same, r.ev e⟩, e⟩
theorem k_put {o i v : IV} {xo xi xv : V} {S S' : Sto} {Q : Hp → Prop} (s : SR c H B Z S) (ro : RI c H B Z o xo) (ri : RI c H B Z i xi) (rv : RI c H B Z v xv) (e : stPut o i v S = some S')
    (h : ∀ H', Ev B H B H' → SR c H' B Z S' → Q H') : rSetL xo xi xv H Q := by
  unfold stPut at e
  split at e
  · rename_i n k
    split at e
    · rename_i ds d q
      split at e
      · rename_i j hj
        cases e
        obtain ⟨b, xs, rfl, hb, h1, h2⟩ := s.lst q ro
        cases ri with
        | d ri =>
          cases ri
          cases rv with
          | d rv =>
            have w := s.putL hb (h2.set j rv)
            exact ⟨b, xs, k, j, rfl, rfl, h1, by rw [← h2.length]; exact hj, h _ w.2 w.1⟩
      · cases e
    · cases e
  · cases e
theorem s_gsb {o i : Expr} {fo fi : FE} {pos : Pos} (ho : PE X o (TEx c W fo)) (hi : PE X i (TEx c W fi))
    (ha : ∀ v, assign (.Subscript o i pos) X.env v = (do
      let ov ← holding [v] (eval o X.env); let iv ← holding [v, ov] (eval i X.env); standAt pos; holding [v, ov, iv] (setItem ov iv v); release [v, ov, iv] []) := by intro _; rfl) : PG X (.Subscript o i pos) (TGx c W (gSb fo fi)) :=
  ⟨fun pins s σ H v u Q I rv ⟨B, Z, r, S, iv, sr, rr, ri, p⟩ => (pg_sub ho hi set_list ha).run pins s σ H v u Q I rv
    ⟨B, Z, r, S, sr, rr, (Post.to rr p).imp fun ov S1 B1 H1 e1 s1 q1 xo hxo => ⟨B1, Z, r, S1, s1, rr.ev e1, (Post.to (rr.ev e1) q1).imp fun jv S2 B2 H2 e2 s2 q2 xi hxi => by
      split at q2
      · rename_i S3 q3
        exact k_put s2 (hxo.ev e2) hxi ((ri.ev e1).ev e2) q3 fun H' e3 s3 => q2 σ B2 H' e3 s3 (((rr.ev e1).ev e2).ev e3)
      · exact q2.elim⟩⟩⟩
@[simp] def sAs (f : FE) (g : FG) : FS := fun r S => (f r S).to r fun v S' => g v r S'
theorem asg_of {f : FE} {g : FG} {D : Ends} {σ : L2.St} {H : Hp} (h : TSx c W (sAs f g) D σ H) (hg : ∀ v r S B Z H x σ, SR c H B Z S → RR c H B Z r σ → RI c H B Z v x → PostS c W B Z H D (g v r S) → PostS c W B Z H { nx := D.nx, rt := fun _ _ => False, bk := fun _ _ => False, ct := fun _ _ => False } (g v r S)) :
    tAsg (TEx c W f) (TGx c W g) D σ H := by
  obtain ⟨B, Z, r, S, s, rr, p⟩ := h
  exact ⟨B, Z, r, S, s, rr, (Post.to rr p).imp fun v S' B' H' e s' q x hx => ⟨B', Z, r, S', v, s', rr.ev e, hx, hg _ _ _ _ _ _ _ _ s' (rr.ev e) hx q⟩⟩
/-- a target's outcome is no break, no continue, no return -/
def GOk (g : FG) : Prop := ∀ v r S, match g v r S with
  | .nx _ _ => True
  | .exn _ _ _ _ => True
  | .bad => True
  | _ => False
theorem GOk.post {g : FG} (k : GOk g) {v : IV} {r : Rho} {S : Sto} (h : PostS c W B Z H D (g v r S)) : PostS c W B Z H { nx := D.nx, rt := fun _ _ => False, bk := fun _ _ => False, ct := fun _ _ => False } (g v r S) := by
  have q := k v r S
  cases e : g v r S with
  | nx r' S' => rw [e] at h; exact h
  | exn n v r' S' => rw [e] at h; exact h
  | bad => rw [e] at h; exact h
  | ret v S' => rw [e] at q; exact q.elim
  | brk r' S' => rw [e] at q; exact q.elim
  | ct r' S' => rw [e] at q; exact q.elim
theorem s_as {tg e : Expr} {f : FE} {g : FG} {pos : Pos} (he : PE X e (TEx c W f)) (hg : PG X tg (TGx c W g)) (k : GOk g) (hs : swapsWithSole [tg] e pos.line X.env = pure false := by rfl) (hw : swappedStores [tg] e X.env = pure none := by rfl)
    (h1 : (assignEach [tg] X.env).map (·.2) = [assign tg X.env] := by rfl) : PS X (.Assign [tg] e pos) (TSx c W (sAs f g)) :=
  ps_imp (ps_asg he hg hs hw h1) fun D σ H h => asg_of h fun v r S B Z H x σ _ _ _ q => k.post q
@[simp] def sSet (f : FE) (i : Nat) : FS := fun r S => (f r S).to r fun v S' => .nx (r.set i (some v)) S'
theorem s_set {i : Nat} {x : Str} {e : Expr} {f : FE} {pos' pos : Pos} (hN : X.N.Nodup) (hi : X.N[i]? = some x) (hx : Loc X.env.scope x) (he : PE X e (TEx c W f)) (hs : swapsWith e (some (.Name x pos')) pos.line X.env = pure false := by rfl)
    (hf : X.fn x = true ∨ X.env.scope.names.lookup x = some .local := by first | exact .inl rfl | exact .inr rfl | assumption) : PS X (.Assign [.Name x pos'] e pos) (TSx c W (sSet f i)) :=
  ps_imp (ps_set hN hi hx he hs hf) fun D σ H ⟨B, Z, r, S, s, rr, p⟩ => ⟨B, Z, r, S, s, rr, (Post.to rr p).imp fun v S' B' H' e s' q x hx => q.nxr s' ((rr.ev e).set hx i)⟩
/-- a, b = x, y -/
@[simp] def sPar (i j : Nat) (f : FA) : FS := fun r S => (f r S).to r fun vs S' => match vs with
  | [v, w] => .nx ((r.set i (some v)).set j (some w)) S'
  | _ => .bad
theorem s_par {i j : Nat} {x y : Str} {a b : Expr} {f : FA} {px py pt pos : Pos} {kt k2 pt2} (hc : X.calm = true) (hN : X.N.Nodup) (hi : X.N[i]? = some x) (hj : X.N[j]? = some y) (hij : i ≠ j) (hx : X.env.scope.names.lookup x = some .local) (hy : X.env.scope.names.lookup y = some .local)
    (ha : PA X [a, b] (TAx c W f)) (hw : swappedStores [.Tuple [.Name x px, .Name y py] kt pt] (.Tuple [a, b] k2 pt2) X.env = pure (some [x, y])) (hs : swapsWithSole [.Tuple [.Name x px, .Name y py] kt pt] (.Tuple [a, b] k2 pt2) pos.line X.env = pure false := by rfl) :
    PS X (.Assign [.Tuple [.Name x px, .Name y py] kt pt] (.Tuple [a, b] k2 pt2) pos) (TSx c W (sPar i j f)) :=
  ps_imp (ps_par hc hN hi hj hij hx hy ha hw hs) fun D σ H ⟨B, Z, r, S, s, rr, p⟩ => ⟨B, Z, r, S, s, rr, (Post.to rr p).imp fun vs S' B' H' e s' q xs hxs => by
    split at q
    · cases hxs with
      | cons h1 t =>
        cases t with
        | cons h2 t =>
          cases t
          exact ⟨_, _, rfl, q.nxr s' (((rr.ev e).set h1 i).set h2 j)⟩
    · exact q.elim⟩
end
end MI
set_option maxRecDepth 100000
set_option maxHeartbeats 4000000
namespace MI
open PySem L2
section
variable {c : Ct} {W : WX} {X : Cx} {B Z B1 : List Addr} {H H1 : Hp} {σ : L2.St} {α : Type} {D D' : Ends}
theorem g_nm {i : Nat} : GOk (gNm i) := fun v r S => trivial
theorem SOut.seq_ok {o : SOut} {f : Rho → Sto → SOut} (h : match o with | .nx _ _ => True | .exn _ _ _ _ => True | .bad => True | _ => False) (k : ∀ r S, match f r S with | .nx _ _ => True | .exn _ _ _ _ => True | .bad => True | _ => False) :
    match o.seq f with | .nx _ _ => True | .exn _ _ _ _ => True | .bad => True | _ => False := by
  cases o with
  | nx r S => exact k r S
  | exn n v r S => trivial
  | bad => trivial
  | ret v S => exact h.elim
  | brk r S => exact h.elim
  | ct r S => exact h.elim
def GsOk (g : FGs) : Prop := ∀ v r S, match g v r S with
  | .nx _ _ => True
  | .exn _ _ _ _ => True
  | .bad => True
  | _ => False
theorem g_snil : GsOk gsNil := fun v r S => by
  unfold gsNil
  cases v <;> trivial
theorem g_scons {g : FG} {t : FGs} (h : GOk g) (k : GsOk t) : GsOk (gsCons g t) := fun v r S => by
  unfold gsCons
  cases v with
  | nil => trivial
  | cons a b => exact SOut.seq_ok (h a r S) fun r S => k b r S
theorem g_tp {n : Nat} {t : FGs} (k : GsOk t) : GOk (gTp n t) := fun v r S => by
  unfold gTp
  cases partsT v with
  | none => trivial
  | some vs =>
    show match (if vs.length = n then t vs r S else SOut.bad) with | .nx _ _ => True | .exn _ _ _ _ => True | .bad => True | _ => False
    by_cases h : vs.length = n
    · rw [if_pos h]; exact k vs r S
    · rw [if_neg h]; trivial
theorem g_sb {o i : FE} : GOk (gSb o i) := fun v r S => by
  unfold gSb
  cases o r S with
  | exn n v S => trivial
  | bad => trivial
  | ok ov S1 =>
    show match (Out.to (i r S1) r fun iv S2 => _) with | .nx _ _ => True | .exn _ _ _ _ => True | .bad => True | _ => False
    cases i r S1 with
    | exn n v S => trivial
    | bad => trivial
    | ok iv S2 =>
      show match (match stPut ov iv v S2 with | some S3 => SOut.nx r S3 | none => SOut.bad) with | .nx _ _ => True | .exn _ _ _ _ => True | .bad => True | _ => False
      cases stPut ov iv v S2 <;> trivial

/-! ## what is walked -/
abbrev FI := Rho → Sto → Out (List PyData)
/-- J gives the items ds one by one, whatever goes on meanwhile -/
def Gives (c : Ct) (B Z : List Addr) (H : Hp) (J : It) (ds : List PyData) : Prop := ∃ (G : Hp → Prop) (Y : Nat → Hp → V → Hp → Prop), Walk J ds.length G Y ∧ (∀ B' H', Ev B H B' H' → G H') ∧
  ∀ (Z' : List Addr), (∀ z, z ∈ Z' → z ∈ Z ∨ H z = none) → ∀ i B' H' S x H2, i < ds.length → Ev B H B' H' → SR c H' B' Z' S → Y i H' x H2 → Ev B' H' B' H2 ∧ SR c H2 B' Z' S ∧ ∃ d, ds[i]? = some d ∧ RD c.K H2 (B' ++ Z') d x
theorem Ev.farZ {H H' : Hp} {B B' Z Z' : List Addr} (e : Ev B H B' H') (hz : ∀ z, z ∈ Z' → z ∈ Z ∨ H z = none) : ∀ a, a ∈ B' ++ Z' → a ∈ B ++ Z ∨ H a = none := fun a m => by
  rcases List.mem_append.mp m with m | m
  · exact e.far a (List.mem_append_left _ m)
  · exact (hz a m).imp (List.mem_append_right _) id
theorem RD.evZ {K : PySem.W.Frag} {H H' : Hp} {B B' Z Z' : List Addr} (e : Ev B H B' H') (hz : ∀ z, z ∈ Z' → z ∈ Z ∨ H z = none) {d : PyData} {v : V} (r : RD K H (B ++ Z) d v) : RD K H' (B' ++ Z') d v := r.mono e.kp (e.farZ hz)
theorem RDs.evZ {K : PySem.W.Frag} {H H' : Hp} {B B' Z Z' : List Addr} (e : Ev B H B' H') (hz : ∀ z, z ∈ Z' → z ∈ Z ∨ H z = none) {d : List PyData} {v : List V} (r : RDs K H (B ++ Z) d v) : RDs K H' (B' ++ Z') d v := r.mono e.kp (e.farZ hz)
def TIx (c : Ct) (W : WX) (f : FI) : TI := fun σ H R => ∃ B Z r S, SR c H B Z S ∧ RR c H B Z r σ ∧ Post c W B Z H σ (f r S) fun ds _ B' H' => ∀ J, Gives c B' Z H' J ds → R J H'
theorem pi_imp {X : Cx} {tg e : Expr} {t t' : TI} (h : PI X tg e t) (k : ∀ σ H Q, t' σ H Q → t σ H Q) : PI X tg e t' := ⟨fun pins s σ H Q I q => h.run pins s σ H Q I (k σ H Q q)⟩
/-- a list or a tuple -/
def iAny (K : PySem.W.Frag) (tl : TE) : TI := fun σ H R => tl σ H fun x H1 => ∃ a xs, x = .ref a ∧ ((SqL K H1 a xs ∧ R (Itl K a) H1) ∨ (SqT K H1 a xs ∧ R (Itt K a) H1))
theorem pi_any {tg l : Expr} {tl : TE} (hl : PE X l tl) : PI X tg l (iAny X.K tl) := by
  refine ⟨fun pins s σ H R I h => thn (hl.run pins s σ H _ I h) fun v s1 ⟨x, H1, I1, r1, a, xs, e, q⟩ => ?_⟩
  subst e
  cases r1
  have fresh : ∀ b, b ∈ [s1.heap.objs.size] → FpOk X pins H1 b := fun b hb => by
    rw [List.mem_singleton.mp hb]
    exact I1.fpOk (Nat.le_refl _) (I1.hok.fresh (Nat.le_refl _))
  rcases q with ⟨hq, q⟩ | ⟨hq, q⟩
  · obtain ⟨its, rv, p, hz⟩ := I1.list hq
    exact wpAny_pyIter_list p.isList ⟨s1.heap.objs.size, [s1.heap.objs.size], _, _, H1, rfl, I1.kept (t' := s1.toks) fun b o e => Heap.get?_push_of_some _ e, turn_list a _, ⟨_, Heap.get?_push_size _ rfl, rfl, rfl⟩, fresh, q⟩
  · obtain ⟨its, rv, p, hz⟩ := I1.tuple hq
    exact wpAny_pyIter_tuple (show s1.heap.IsTuple a its.toArray from p) ⟨s1.heap.objs.size, [s1.heap.objs.size], _, _, H1, rfl, I1.kept (t' := s1.toks) fun b o e => Heap.get?_push_of_some _ e, turn_tuple a _, ⟨_, Heap.get?_push_size _ rfl, rfl, rfl⟩, fresh, q⟩
/-- frozen data -/
@[simp] def frozen : IV → Option (List PyData)
  | .d (.list ds) => some ds
  | .d (.tuple ds) => some ds
  | _ => none
@[simp] def iSeq (f : FE) : FI := fun r S => (f r S).bind fun v S' => match frozen v with
  | some ds => if ds.length < sizeLine then .ok ds S' else .bad
  | none => .bad
theorem SqT.evd {K : PySem.W.Frag} {a : Addr} {xs : List V} {bd : List Addr} (h : SqT K H a xs) (hb : (∃ o, H a = some o) → a ∉ bd) (k : ∀ o, H a = some o → a ∉ bd → H1 a = some o) : SqT K H1 a xs := by
  rcases h with (h | ⟨o, h⟩) | h
  · exact .inl (.inl (k _ h (hb ⟨_, h⟩)))
  · exact .inl (.inr ⟨o, k _ h (hb ⟨_, h⟩)⟩)
  · exact .inr h
theorem gives_tup {a : Addr} {ds : List PyData} (rd : RD c.K H (B ++ Z) (.tuple ds) (.ref a)) : Gives c B Z H (Itt c.K a) ds := by
  have main : ∀ xs, (∀ B' H', Ev B H B' H' → SqT c.K H' a xs) → RDs c.K H (B ++ Z) ds xs → Gives c B Z H (Itt c.K a) ds := fun xs k r => by
    refine ⟨fun H => SqT c.K H a xs, YAt xs, ?_, k, fun Z' hz i B' H' S x H2 hi e s y => ?_⟩
    · rw [r.length]; exact walk_tup
    · obtain ⟨rfl, hx⟩ := y
      refine ⟨Ev.refl s, s, ds[i], List.getElem?_eq_getElem hi, ?_⟩
      obtain ⟨z, h1, h2⟩ := (r.evZ e hz).get (List.getElem?_eq_getElem hi)
      rw [hx] at h1
      cases h1
      exact h2
  cases rd with
  | tup h to hb r => exact main _ (fun B' H' e => sqF (e.kp _ _ h hb ntF)) r
  | tupK h nd r => exact main _ (fun B' H' e => .inr h) r
theorem gives_lst {a : Addr} {ds : List PyData} (rd : RD c.K H (B ++ Z) (.list ds) (.ref a)) : Gives c B Z H (Itl c.K a) ds := by
  cases rd with
  | lst h hb r =>
    rename_i xs
    refine ⟨fun H => SqL c.K H a xs, YAt xs, ?_, fun B' H' e => .of (e.kp _ _ h hb ntL), fun Z' hz i B' H' S x H2 hi e s y => ?_⟩
    · rw [r.length]; exact walk_list
    · obtain ⟨rfl, hx⟩ := y
      refine ⟨Ev.refl s, s, ds[i], List.getElem?_eq_getElem hi, ?_⟩
      obtain ⟨z, h1, h2⟩ := (r.evZ e hz).get (List.getElem?_eq_getElem hi)
      rw [hx] at h1
      cases h1
      exact h2
theorem s_iseq {tg e : Expr} {f : FE} (hK : c.K = X.K) (h : PE X e (TEx c W f)) : PI X tg e (TIx c W (iSeq f)) :=
  pi_imp (pi_any h) fun σ H R ⟨B, Z, r, S, s, rr, p⟩ => ⟨B, Z, r, S, s, rr, (Post.bind p).imp fun v S1 B1 H1 e1 s1 q x hx => by
    rw [← hK]
    split at q
    · rename_i ds q1
      split at q
      · unfold frozen at q1
        split at q1
        · cases q1
          cases hx with
          | d rd =>
            have rd0 := rd
            obtain ⟨a, xs, rfl, h1, h2⟩ := rd.lstS
            exact ⟨a, xs, rfl, .inl ⟨.of h1, q.ret s1 _ (gives_lst rd0)⟩⟩
        · cases q1
          cases hx with
          | d rd =>
            have rd0 := rd
            obtain ⟨a, xs, rfl, h1, h2⟩ := rd.tupS
            exact ⟨a, xs, rfl, .inr ⟨h1, q.ret s1 _ (gives_tup rd0)⟩⟩
        · cases q1
      · exact q.elim
    · exact q.elim⟩
/-- ranges -/
def rngD (lo hi : Int) : List PyData := (List.range (hi - lo).toNat).map fun (k : Nat) => PyData.int (lo + k)
@[simp] def iR1 (f : FE) : FI := fun r S => (f r S).bind fun v S' => match v with
  | .d (.int j) => if j.natAbs < 2 ^ 24 then .ok (rngD 0 j) S' else .bad
  | _ => .bad
@[simp] def iR2 (f g : FE) : FI := fun r S => (f r S).bind fun v S1 => (g r S1).bind fun w S2 => match v, w with
  | .d (.int i), .d (.int j) => if i.natAbs < 2 ^ 23 ∧ j.natAbs < 2 ^ 23 then .ok (rngD i j) S2 else .bad
  | _, _ => .bad
theorem gives_rng {lo hi : Int} : Gives c B Z H (Itr lo (hi - lo).toNat) (rngD lo hi) := by
  refine ⟨fun _ => True, YFn fun i => .int (lo + i), ?_, fun _ _ _ => trivial, fun Z' hz i B' H' S x H2 hi' e s y => ?_⟩
  · have : (rngD lo hi).length = (hi - lo).toNat := by simp [rngD]
    rw [this]; exact walk_range
  · obtain ⟨rfl, rfl⟩ := y
    have hl : i < (hi - lo).toNat := by simpa [rngD] using hi'
    exact ⟨Ev.refl s, s, .int (lo + i), by simp [rngD, hl], .int _⟩
theorem s_ir1 {tg a : Expr} {f : FE} {p pos : Pos} (hg : Gl X "range") (hm : X.mg "range" = none) (h : PE X a (TEx c W f)) (hs : starEach [a] X.env = [(false, eval a X.env)] := by rfl) : PI X tg (.Call (.Name "range" p) [a] [] pos) (TIx c W (iR1 f)) :=
  pi_imp (pi_range1 hg hm (pa_cons h pa_nil hs) hs) fun σ H R ⟨B, Z, r, S, s, rr, q⟩ => ⟨B, Z, r, S, s, rr, (Post.bind q).imp fun v S1 B1 H1 e1 s1 q x hx => by
    split at q
    · rename_i j
      split at q
      · rename_i hj
        cases hx with
        | d hx =>
          cases hx
          refine ⟨j, rfl, by omega, by omega, q.ret s1 _ ?_⟩
          have := gives_rng (c := c) (B := B1) (Z := Z) (H := H1) (lo := 0) (hi := j)
          rw [Int.sub_zero] at this
          exact this
      · exact q.elim
    · exact q.elim⟩
theorem s_ir2 {tg a b : Expr} {f g : FE} {p pos : Pos} (hg : Gl X "range") (hm : X.mg "range" = none) (h : PE X a (TEx c W f)) (h2 : PE X b (TEx c W g)) (hs : starEach [a, b] X.env = [(false, eval a X.env), (false, eval b X.env)] := by rfl) (hs2 : starEach [b] X.env = [(false, eval b X.env)] := by rfl) :
    PI X tg (.Call (.Name "range" p) [a, b] [] pos) (TIx c W (iR2 f g)) :=
  pi_imp (pi_range2 hg hm (pa_cons h (pa_cons h2 pa_nil hs2) (by rw [hs, hs2])) hs hs2) fun σ H R ⟨B, Z, r, S, s, rr, q⟩ => ⟨B, Z, r, S, s, rr, (Post.bind q).imp fun v S1 B1 H1 e1 s1 q1 x hx =>
    ⟨B1, Z, r, S1, s1, rr.ev e1, (Post.bind q1).imp fun w S2 B2 H2 e2 s2 q y hy => by
    split at q
    · rename_i i j
      split at q
      · rename_i hj
        have hx := hx.ev e2
        cases hx with
        | d hx =>
          cases hx
          cases hy with
          | d hy =>
            cases hy
            exact ⟨i, j, rfl, ⟨by omega, by omega, by omega, by omega⟩, q.ret s2 _ gives_rng⟩
      · exact q.elim
    · exact q.elim⟩⟩
/-- new pairs -/
def YPairF (xs ys : Nat → Option V) : Nat → Hp → V → Hp → Prop := fun i H v H' => ∃ (T : Addr) (x y : V) (o : Obj), v = .ref T ∧ H T = none ∧ TupO o ∧ H' = upd H T (.frz o (.tup [x, y])) ∧ xs i = some x ∧ ys i = some y
theorem gives_pair {J : It} {G : Hp → Prop} {as bs : List PyData} {xs ys : Nat → Option V} (n : Nat) (w : Walk J n G (YPairF xs ys)) (kg : ∀ B' H', Ev B H B' H' → G H') (ds : List PyData) (hn : ds.length = n)
    (k : ∀ i, i < n → ∃ d e, ds[i]? = some (.tuple [d, e]) ∧ (∀ x, xs i = some x → RD c.K H (B ++ Z) d x) ∧ (∀ y, ys i = some y → RD c.K H (B ++ Z) e y)) : Gives c B Z H J ds := by
  refine ⟨G, YPairF xs ys, by rw [hn]; exact w, kg, fun Z' hz i B' H' S x H2 hi e s y => ?_⟩
  obtain ⟨T, x1, y1, oT, rfl, hT, toT, rfl, h1, h2⟩ := y
  obtain ⟨d, e', hd, k1, k2⟩ := k i (by rw [← hn]; exact hi)
  refine ⟨Ev.new s hT, s.new hT, _, hd, RD.newTup s hT toT (.cons ((k1 _ h1).evZ e hz) (.cons ((k2 _ h2).evZ e hz) .nil))⟩
def zipD (as bs : List PyData) : List PyData := (as.zip bs).map fun p => .tuple [p.1, p.2]
def enumD (as : List PyData) : List PyData := (List.range as.length).zip as |>.map fun p => .tuple [.int (p.1 : Nat), p.2]
/-- zip of two lists, of two tuples -/
@[simp] def zipOf (v w : IV) : Option (List PyData) := match v, w with
  | .d (.list as), .d (.list bs) => some (zipD as bs)
  | .d (.tuple as), .d (.tuple bs) => some (zipD as bs)
  | _, _ => none
@[simp] def iZp (f g : FE) : FI := fun r S => (f r S).bind fun v S1 => (g r S1).bind fun w S2 => match zipOf v w with
  | some ds => if ds.length < sizeLine then .ok ds S2 else .bad
  | none => .bad
theorem zip_at {as bs : List PyData} {i : Nat} (h1 : i < as.length) (h2 : i < bs.length) : (zipD as bs)[i]? = some (.tuple [as[i], bs[i]]) := by
  have h : i < (as.zip bs).length := by rw [List.length_zip]; omega
  unfold zipD
  rw [List.getElem?_map, List.getElem?_eq_getElem h, List.getElem_zip] <;> rfl
theorem gives_zip {as bs : List PyData} {xs ys : List V} {J : It} {G : Hp → Prop} (w : Walk J (min xs.length ys.length) G (YPairF (fun i => xs[i]?) fun i => ys[i]?)) (kg : ∀ B' H', Ev B H B' H' → G H') (ra : RDs c.K H (B ++ Z) as xs) (rb : RDs c.K H (B ++ Z) bs ys) : Gives c B Z H J (zipD as bs) := by
  refine gives_pair (as := as) (bs := bs) _ w kg _ (by simp [zipD, ra.length, rb.length]) fun i hi => ?_
  have h1 : i < as.length := by rw [ra.length]; omega
  have h2 : i < bs.length := by rw [rb.length]; omega
  refine ⟨as[i], bs[i], zip_at h1 h2, fun x q => ?_, fun x q => ?_⟩
  · obtain ⟨z, g1, g2⟩ := ra.get (List.getElem?_eq_getElem h1)
    rw [g1] at q; cases q; exact g2
  · obtain ⟨z, g1, g2⟩ := rb.get (List.getElem?_eq_getElem h2)
    rw [g1] at q; cases q; exact g2
theorem walk_zipT {K : PySem.W.Frag} {a b : Addr} {xs ys : List V} : Walk (RZ.ItzTF K a b) (min xs.length ys.length) (fun H => SqT K H a xs ∧ SqT K H b ys) (YPairF (fun i => xs[i]?) (fun i => ys[i]?)) := by
  refine ⟨fun i _ hi q => ?_, fun _ q => ⟨xs, ys, q.1, q.2, by omega⟩, fun i H v H' _ q y => ?_⟩
  · have h1 : i < xs.length := by omega
    have h2 : i < ys.length := by omega
    exact ⟨xs, ys, xs[i], ys[i], q.1, q.2, by simp [h1], by simp [h2]⟩
  · obtain ⟨T, x, z, o, h1, h2, to, h3, h4, h5⟩ := y
    exact ⟨T, x, z, o, h1, h2, to, h3, h4 xs q.1, h5 ys q.2⟩
theorem walk_zipF {K : PySem.W.Frag} {a b : Addr} {xs ys : List V} : Walk (RZ.ItzF K a b) (min xs.length ys.length) (fun H => SqL K H a xs ∧ SqL K H b ys) (YPairF (fun i => xs[i]?) (fun i => ys[i]?)) := by
  refine ⟨fun i _ hi q => ?_, fun _ q => ⟨xs, ys, q.1, q.2, by omega⟩, fun i H v H' _ q y => ?_⟩
  · have h1 : i < xs.length := by omega
    have h2 : i < ys.length := by omega
    exact ⟨xs, ys, xs[i], ys[i], q.1, q.2, by simp [h1], by simp [h2]⟩
  · obtain ⟨T, x, z, o, h1, h2, to, h3, h4, h5⟩ := y
    exact ⟨T, x, z, o, h1, h2, to, h3, h4 xs q.1, h5 ys q.2⟩
theorem RD.tupE {a : Addr} {ds : List PyData} (rd : RD c.K H (B ++ Z) (.tuple ds) (.ref a)) : ∃ xs, (∀ B' H', Ev B H B' H' → SqT c.K H' a xs) ∧ RDs c.K H (B ++ Z) ds xs := by
  cases rd with
  | tup h to hb r => exact ⟨_, fun B' H' e => sqF (e.kp _ _ h hb ntF), r⟩
  | tupK h nd r => exact ⟨_, fun B' H' e => .inr h, r⟩
theorem RD.lstE {a : Addr} {ds : List PyData} (rd : RD c.K H (B ++ Z) (.list ds) (.ref a)) : ∃ xs, (∀ B' H', Ev B H B' H' → SqL c.K H' a xs) ∧ RDs c.K H (B ++ Z) ds xs := by
  cases rd with
  | lst h hb r => exact ⟨_, fun B' H' e => .of (e.kp _ _ h hb ntL), r⟩
theorem s_izp {e e2 : Expr} {f g : FE} {p pos tpos : Pos} {elts : List Expr} {kk : Nat} (hK : c.K = X.K) (hg : Gl X "zip") (hm : X.mg "zip" = none) (h : PE X e (TEx c W f)) (h2 : PE X e2 (TEx c W g))
    (hs : starEach [e, e2] X.env = (false, eval e X.env) :: starEach [e2] X.env := by rfl) (hs2 : starEach [e2] X.env = (false, eval e2 X.env) :: starEach [] X.env := by rfl) (hpl : (backTo pos (starEach [e2] X.env)).any (·.1) = false := by rfl) :
    PI X (.Tuple elts kk tpos) (.Call (.Name "zip" p) [e, e2] [] pos) (TIx c W (iZp f g)) :=
  pi_imp (RZ.pi_zipAF hg hm (pa_cons h (pa_cons h2 pa_nil hs2) hs) hs hpl) fun σ H R ⟨B, Z, r, S, s, rr, q⟩ => ⟨B, Z, r, S, s, rr, (Post.bind q).imp fun v S1 B1 H1 e1 s1 q x hx =>
    ⟨B1, Z, r, S1, s1, rr.ev e1, (Post.bind q).imp fun w S2 B2 H2 e2 s2 q y hy => by
    rw [← hK]
    split at q
    · rename_i ds q1
      split at q
      · have hx := hx.ev e2
        unfold zipOf at q1
        split at q1
        · cases q1
          cases hx with
          | d hx =>
            cases hy with
            | d hy =>
              obtain ⟨a, _, rfl, _⟩ := id hx.lstS
              obtain ⟨b, _, rfl, _⟩ := id hy.lstS
              obtain ⟨xs, k1, r1⟩ := hx.lstE
              obtain ⟨ys, k2, r2⟩ := hy.lstE
              exact ⟨a, b, xs, ys, rfl, .inl ⟨k1 _ _ (Ev.refl s2), k2 _ _ (Ev.refl s2), q.ret s2 _ (gives_zip walk_zipF (fun B' H' e => ⟨k1 _ _ e, k2 _ _ e⟩) r1 r2)⟩⟩
        · cases q1
          cases hx with
          | d hx =>
            cases hy with
            | d hy =>
              obtain ⟨a, _, rfl, _⟩ := id hx.tupS
              obtain ⟨b, _, rfl, _⟩ := id hy.tupS
              obtain ⟨xs, k1, r1⟩ := hx.tupE
              obtain ⟨ys, k2, r2⟩ := hy.tupE
              exact ⟨a, b, xs, ys, rfl, .inr ⟨k1 _ _ (Ev.refl s2), k2 _ _ (Ev.refl s2), q.ret s2 _ (gives_zip walk_zipT (fun B' H' e => ⟨k1 _ _ e, k2 _ _ e⟩) r1 r2)⟩⟩
        · cases q1
      · exact q.elim
    · exact q.elim⟩⟩

/-! ## for -/
def forL (g : FG) (b : FS) : List PyData → Rho → Sto → SOut
  | [], r, S => .nx r S
  | d :: ds, r, S => match (g (.d d) r S).seq b with
    | .nx r' S' => forL g b ds r' S'
    | .ct r' S' => forL g b ds r' S'
    | .brk r' S' => .nx r' S'
    | o => o
@[simp] def sFor (it : FI) (g : FG) (b : FS) : FS := fun r S => (it r S).to r fun ds S' => forL g b ds r S'
/-- a loop's turn: what comes behind next and continue is N, behind break what follows the loop -/
theorem loop_turn {g : FG} {b : FS} {o : SOut} {k : Rho → Sto → SOut} {v : IV} {r : Rho} {S : Sto} {N : L2.St → Hp → Prop} (ho : o = (match (g v r S).seq b with | .nx r' S' => k r' S' | .ct r' S' => k r' S' | .brk r' S' => .nx r' S' | o => o)) (hg : GOk g)
    (h : PostS c W B Z H D o) (hn : ∀ r' S' σ B' H', Ev B H B' H' → SR c H' B' Z S' → RR c H' B' Z r' σ → PostS c W B' Z H' D (k r' S') → N σ H') :
    PostS c W B Z H { nx := fun σ2 H2 => TSx c W b { D with nx := N, ct := N, bk := D.nx } σ2 H2, rt := fun _ _ => False, bk := fun _ _ => False, ct := fun _ _ => False } (g v r S) := by
  have go := hg v r S
  have body : ∀ r1 S1, g v r S = .nx r1 S1 → PostS c W B Z H { D with nx := N, ct := N, bk := D.nx } (b r1 S1) := fun r1 S1 e => by
    rw [e] at ho
    have ho : o = (match b r1 S1 with | .nx r' S' => k r' S' | .ct r' S' => k r' S' | .brk r' S' => .nx r' S' | o => o) := ho
    cases q : b r1 S1 with
    | nx r' S' =>
      rw [q] at ho
      subst ho
      exact fun σ B' H' e s rr => hn r' S' σ B' H' e s rr (h.far e)
    | ct r' S' =>
      rw [q] at ho
      subst ho
      exact fun σ B' H' e s rr => hn r' S' σ B' H' e s rr (h.far e)
    | brk r' S' =>
      rw [q] at ho
      subst ho
      exact h
    | ret v S' =>
      rw [q] at ho
      subst ho
      exact h
    | exn n v r' S' =>
      rw [q] at ho
      subst ho
      exact h
    | bad =>
      rw [q] at ho
      subst ho
      exact h
  cases q : g v r S with
  | nx r1 S1 => exact fun σ B' H' e s rr => ⟨B', Z, r1, S1, s, rr, (body r1 S1 q).far e⟩
  | exn n v r1 S1 =>
    rw [q] at ho
    subst ho
    exact h
  | bad =>
    rw [q] at ho
    subst ho
    exact h
  | ret v S1 => rw [q] at go; exact go.elim
  | brk r1 S1 => rw [q] at go; exact go.elim
  | ct r1 S1 => rw [q] at go; exact go.elim
theorem for_of {J : It} {g : FG} {b : FS} {ds : List PyData} {r : Rho} {S : Sto} (hg : GOk g) (w : Gives c B Z H J ds) (s : SR c H B Z S) (rr : RR c H B Z r σ) (p : PostS c W B Z H D (forL g b ds r S)) :
    ∃ Wd : Nat → Nat → L2.St → Hp → Prop, (∃ m, Wd 0 m σ H) ∧ ∀ i m σ H, Wd i m σ H →
      (J.stop i H ∧ D.nx σ H) ∨ (J.go i H ∧ ∃ N : L2.St → Hp → Prop, (∀ σ' H', N σ' H' → ∃ m', m' < m ∧ Wd (i + 1) m' σ' H') ∧ ∀ x H', J.yld i H x H' → TGx c W g x σ H' fun σ2 H2 => TSx c W b { D with nx := N, ct := N, bk := D.nx } σ2 H2) := by
  obtain ⟨G, Y, wk, kg, ky⟩ := w
  refine for_it wk (fun i σ' H' => ∃ B' r' S', Ev B H B' H' ∧ SR c H' B' Z S' ∧ RR c H' B' Z r' σ' ∧ PostS c W B' Z H' D (forL g b (ds.drop i) r' S')) ⟨B, r, S, Ev.refl s, s, rr, p⟩ (fun i σ' H' _ ⟨B', r', S', e, _⟩ => kg B' H' e) ?_ ?_
  · rintro i x σ' H' H2 hi ⟨B', r', S', e, s', rr', p'⟩ y
    obtain ⟨e2, s2, d, hd, rd⟩ := ky Z (fun z m => .inl m) i B' H' S' x H2 hi e s' y
    have hds : ds.drop i = d :: ds.drop (i + 1) := by
      rw [List.drop_eq_getElem_cons hi]
      have := List.getElem?_eq_getElem hi
      rw [hd] at this
      cases this
      rfl
    rw [hds] at p'
    refine ⟨B', Z, r', S', .d d, s2, rr'.ev e2, .d rd, ?_⟩
    exact loop_turn (k := fun r' S' => forL g b (ds.drop (i + 1)) r' S') rfl hg (p'.far e2) fun r3 S3 σ3 B3 H3 e3 s3 rr3 q => ⟨B3, r3, S3, (e.trans e2).trans e3, s3, rr3, q⟩
  · rintro σ' H' ⟨B', r', S', e, s', rr', p'⟩
    rw [List.drop_length] at p'
    exact p'.nxr s' rr'
theorem s_for {tg iter : Expr} {body : List Stmt} {it : FI} {g : FG} {b : FS} {pos : Pos} (hp : PassesOwn (model X.prog X.w) X.A X.env X.xe) (hc : X.calm = true) (hi : PI X tg iter (TIx c W it)) (hg : PG X tg (TGx c W g)) (k : GOk g) (hb : PSs X body (TSx c W b))
    (hs : ∀ x, foldedSetIterable iter X.env x = pure x := by intro _; rfl) : PS X (.For tg iter body [] pos) (TSx c W (sFor it g b)) :=
  ps_imp (ps_for hp hc hi hg hb hs) fun D σ H ⟨B, Z, r, S, s, rr, p⟩ => ⟨B, Z, r, S, s, rr, (Post.to rr p).imp fun ds S1 B1 H1 e1 s1 q J w => for_of k w s1 (rr.ev e1) q⟩
/-- over a list of the store as it stands at each turn -/
def forV (g : FG) (b : FS) (n : Nat) : Nat → Nat → Rho → Sto → SOut
  | 0, _, _, _ => .bad
  | f + 1, i, r, S => match S[n]? with
    | some (.lst ds) => (match ds[i]? with
      | none => .nx r S
      | some d => (match (g (.d d) r S).seq b with
        | .nx r' S' => forV g b n f (i + 1) r' S'
        | .ct r' S' => forV g b n f (i + 1) r' S'
        | .brk r' S' => .nx r' S'
        | o => o))
    | _ => .bad
def sForV (f : FE) (g : FG) (b : FS) : FS := fun r S => (f r S).to r fun v S' => match v with
  | .ref n => forV g b n 100000 0 r S'
  | _ => .bad
theorem s_forV {tg e : Expr} {body : List Stmt} {f : FE} {g : FG} {b : FS} {pos : Pos} (hK : c.K = X.K) (hp : PassesOwn (model X.prog X.w) X.A X.env X.xe) (hc : X.calm = true) (he : PE X e (TEx c W f)) (hg : PG X tg (TGx c W g)) (k : GOk g) (hb : PSs X body (TSx c W b))
    (hs : ∀ x, foldedSetIterable e X.env x = pure x := by intro _; rfl) : PS X (.For tg e body [] pos) (TSx c W (sForV f g b)) :=
  ps_imp (ps_for hp hc (pi_list he) hg hb hs) fun D σ H ⟨B, Z, r, S, s, rr, p⟩ => ⟨B, Z, r, S, s, rr, (Post.to rr p).imp fun v S1 B1 H1 e1 s1 q x hx => by
    rw [← hK]
    split at q
    · rename_i n
      cases hx with
      | ref hb' =>
        rename_i b0
        have rr1 := rr.ev e1
        clear p rr s e1
        have start : ∃ ds, S1[n]? = some (.lst ds) := by
          unfold forV at q
          split at q
          · exact ⟨_, by assumption⟩
          · exact q.elim
        obtain ⟨ds0, h0⟩ := start
        obtain ⟨xs0, hH0, r0⟩ := s1.ob n b0 _ hb' h0
        refine ⟨b0, rfl, ⟨xs0, .of hH0⟩, fun i m σ H => ∃ B' r' S', Ev B1 H1 B' H ∧ SR c H B' Z S' ∧ RR c H B' Z r' σ ∧ B'[n]? = some b0 ∧ PostS c W B' Z H D (forV g b n m i r' S'), ⟨100000, B1, r, S1, Ev.refl s1, s1, rr1, hb', q⟩, ?_⟩
        rintro i m σ' H' ⟨B', r', S', e', s', rr', hb2, q'⟩
        cases m with
        | zero => exact q'.elim
        | succ m =>
          unfold forV at q'
          split at q'
          · rename_i ds hds
            obtain ⟨xs, hH, rds⟩ := s'.ob n b0 _ hb2 hds
            split at q'
            · rename_i hn
              refine .inl ⟨⟨xs, .of hH, ?_⟩, q'.nxr s' rr'⟩
              rw [← rds.length]
              exact List.getElem?_eq_none_iff.mp hn
            · rename_i d hd
              obtain ⟨x, hx1, hx2⟩ := rds.get hd
              refine .inr ⟨⟨xs, x, .of hH, hx1⟩, fun σ H => ∃ B2 r2 S2, Ev B1 H1 B2 H ∧ SR c H B2 Z S2 ∧ RR c H B2 Z r2 σ ∧ B2[n]? = some b0 ∧ PostS c W B2 Z H D (forV g b n m (i + 1) r2 S2), fun σ3 H3 w => ⟨m, Nat.lt_succ_self m, w⟩, fun y H2 hy => ?_⟩
              obtain ⟨rfl, hy⟩ := hy
              have hxy := hy xs (.of hH)
              rw [hx1] at hxy
              cases hxy
              refine ⟨B', Z, r', S', .d d, s', rr', .d hx2, ?_⟩
              refine loop_turn (k := fun r3 S3 => forV g b n m (i + 1) r3 S3) rfl k q' fun r3 S3 σ3 B3 H3 e3 s3 rr3 q3 => ⟨B3, r3, S3, e'.trans e3, s3, rr3, ?_, q3⟩
              obtain ⟨N, rfl, _⟩ := e3.pre
              rw [List.getElem?_append_left (List.getElem?_eq_some_iff.mp hb2).1]
              exact hb2
          · exact q'.elim
    · exact q.elim⟩
/-! ## while -/
def whl (t : FT) (b : FS) : Nat → Rho → Sto → SOut
  | 0, _, _ => .bad
  | f + 1, r, S => (t r S).to r fun k S1 => if k = true then (match b r S1 with
    | .nx r' S' => whl t b f r' S'
    | .ct r' S' => whl t b f r' S'
    | .brk r' S' => .nx r' S'
    | o => o) else .nx r S1
def sWh (t : FT) (b : FS) : FS := fun r S => whl t b 100000 r S
theorem s_wh {t : Expr} {body : List Stmt} {ft : FT} {b : FS} {pos : Pos} (hp : PassesOwn (model X.prog X.w) X.A X.env X.xe) (ht : PT X t (TTx c W ft)) (hb : PSs X body (TSx c W b)) : PS X (.While t body [] pos) (TSx c W (sWh ft b)) :=
  ps_imp (ps_while hp ht hb) fun D σ H ⟨B, Z, r, S, s, rr, p⟩ => by
    refine ⟨fun m σ H => ∃ B r S, SR c H B Z S ∧ RR c H B Z r σ ∧ PostS c W B Z H D (whl ft b m r S), ⟨100000, B, r, S, s, rr, p⟩, ?_⟩
    rintro m σ' H' ⟨B', r', S', s', rr', q'⟩
    cases m with
    | zero => exact q'.elim
    | succ m =>
      unfold whl at q'
      refine ⟨B', Z, r', S', s', rr', (Post.to rr' q').imp fun k S2 B2 H2 e2 s2 q2 => ?_⟩
      cases k with
      | false => exact q2.nxr s2 (rr'.ev e2)
      | true =>
        rw [if_pos rfl]
        refine ⟨fun σ H => ∃ B r S, SR c H B Z S ∧ RR c H B Z r σ ∧ PostS c W B Z H D (whl ft b m r S), fun σ3 H3 w => ⟨m, Nat.lt_succ_self m, w⟩, B2, Z, r', S2, s2, rr'.ev e2, ?_⟩
        rw [if_pos rfl] at q2
        cases q : b r' S2 with
        | nx r3 S3 => rw [q] at q2; exact fun σ B' H' e s rr => ⟨B', r3, S3, s, rr, q2.far e⟩
        | ct r3 S3 => rw [q] at q2; exact fun σ B' H' e s rr => ⟨B', r3, S3, s, rr, q2.far e⟩
        | brk r3 S3 => rw [q] at q2; exact q2
        | ret v S3 => rw [q] at q2; exact q2
        | exn n v r3 S3 => rw [q] at q2; exact q2
        | bad => rw [q] at q2; exact q2
end
end MI
set_option maxRecDepth 100000
set_option maxHeartbeats 4000000
namespace MI
open PySem L2
abbrev W0 : WX := fun _ _ _ _ => False
section
variable {c : Ct} {W : WX} {X : Cx} {B Z B1 : List Addr} {H H1 : Hp} {σ : L2.St} {α β : Type} {D D' : Ends}

/-! ## comprehensions -/
def Out.nox {α : Type} : Out α → Out α
  | .exn _ _ _ => .bad
  | o => o
def wipeR (r : Rho) : List Nat → Rho
  | [] => r
  | v :: vs => (wipeR r vs).set v none
theorem wipeR_len (r : Rho) : ∀ vs, (wipeR r vs).length = r.length
  | [] => rfl
  | v :: vs => by unfold wipeR; rw [List.length_set]; exact wipeR_len r vs
theorem wipeR_some {r : Rho} {i : Nat} {x : IV} : ∀ {vs : List Nat}, (wipeR r vs)[i]? = some (some x) → r[i]? = some (some x) ∧ i ∉ vs
  | [], h => ⟨h, by simp⟩
  | v :: vs, h => by
    unfold wipeR at h
    by_cases hi : v = i
    · subst hi
      by_cases hv : v < (wipeR r vs).length
      · rw [List.getElem?_set_self hv] at h; cases h
      · rw [List.getElem?_eq_none (by simpa using hv)] at h; cases h
    · rw [List.getElem?_set_ne hi] at h
      have z := wipeR_some h
      exact ⟨z.1, fun m => by
        rcases List.mem_cons.mp m with m | m
        · exact hi m.symm
        · exact z.2 m⟩
theorem RR.wipe {r : Rho} (h : RR c H B Z r σ) (vs : List Nat) : RR c H B Z (wipeR r vs) (L2.wipe σ vs) := by
  refine ⟨by rw [wipeR_len, L2.wipe_length]; exact h.len, fun i v q => ?_⟩
  obtain ⟨h1, h2⟩ := wipeR_some q
  obtain ⟨x, h3, h4⟩ := h.at_ i v h1
  exact ⟨x, by rw [L2.wipe_out h2]; exact h3, h4⟩
theorem wipe_set {i : Nat} {x : Option V} : ∀ {vs : List Nat}, i ∈ vs → ∀ σ : L2.St, L2.wipe (σ.set i x) vs = L2.wipe σ vs
  | v :: vs, h, σ => by
    unfold L2.wipe
    by_cases hi : i ∈ vs
    · rw [wipe_set hi σ]
    · have e : v = i := by
        rcases List.mem_cons.mp h with e | e
        · exact e.symm
        · exact absurd e hi
      subst e
      have go : ∀ ws : List Nat, v ∉ ws → L2.wipe (σ.set v x) ws = (L2.wipe σ ws).set v x := by
        intro ws
        induction ws with
        | nil => intro _; rfl
        | cons w ws ih =>
          intro hw
          unfold L2.wipe
          rw [ih fun m => hw (List.mem_cons_of_mem _ m)]
          rw [List.set_comm _ _ fun q => hw (by rw [q]; exact List.mem_cons_self)]
      rw [go vs hi, List.set_set]
theorem wipe_idem (σ : L2.St) : ∀ vs : List Nat, L2.wipe (L2.wipe σ vs) vs = L2.wipe σ vs
  | [] => rfl
  | v :: vs => by
    show L2.wipe ((L2.wipe σ vs).set v none) (v :: vs) = (L2.wipe σ vs).set v none
    rw [wipe_set List.mem_cons_self]
    show (L2.wipe (L2.wipe σ vs) vs).set v none = (L2.wipe σ vs).set v none
    rw [wipe_idem σ vs]
/-- a target that touches the slots vs alone -/
def TGw (c : Ct) (W : WX) (vs : List Nat) (g : FG) : TG := fun x σ H Q => ∃ B Z r S v, SR c H B Z S ∧ RR c H B Z r σ ∧ RI c H B Z v x ∧ PostS c W B Z H { nx := fun σ2 H2 => L2.wipe σ2 vs = L2.wipe σ vs → Q σ2 H2, rt := fun _ _ => False, bk := fun _ _ => False, ct := fun _ _ => False } (g v r S)
def TGsw (c : Ct) (W : WX) (vs : List Nat) (g : FGs) : TGs := fun xs σ H Q => ∃ B Z r S is, SR c H B Z S ∧ RR c H B Z r σ ∧ RIs c H B Z is xs ∧ PostS c W B Z H { nx := fun σ2 H2 => L2.wipe σ2 vs = L2.wipe σ vs → Q σ2 H2, rt := fun _ _ => False, bk := fun _ _ => False, ct := fun _ _ => False } (g is r S)
theorem w_gnm {i : Nat} {x : Str} {pos : Pos} {vs : List Nat} (hm : i ∈ vs) (h : PG X (.Name x pos) (gName i)) : PG X (.Name x pos) (TGw c W vs (gNm i)) :=
  ⟨fun pins s σ H v u Q I rv ⟨B, Z, r, S, iv, sr, rr, ri, p⟩ => h.run pins s σ H v u Q I rv (p (σ.set i (some v)) B H (Ev.refl sr) sr (rr.set ri i) (wipe_set hm σ))⟩
theorem w_gsnil {vs : List Nat} : PGs X [] (TGsw c W vs gsNil) := ⟨fun pins s σ H xs us Q I rv ⟨B, Z, r, S, is, sr, rr, ri, p⟩ => pgs_nil.run pins s σ H xs us Q I rv (by
  unfold gsNil at p
  split at p
  · cases ri; exact ⟨rfl, p.nxr sr rr rfl⟩
  · exact p.elim)⟩
theorem w_gscons {e : Expr} {es : List Expr} {g : FG} {t : FGs} {vs : List Nat} (h1 : PG X e (TGw c W vs g)) (h2 : PGs X es (TGsw c W vs t)) (hs : (assignEach (e :: es) X.env).map (·.2) = assign e X.env :: (assignEach es X.env).map (·.2) := by rfl) : PGs X (e :: es) (TGsw c W vs (gsCons g t)) :=
  ⟨fun pins s σ H xs us Q I rv ⟨B, Z, r, S, is, sr, rr, ri, p⟩ => (pgs_cons h1 h2 hs).run pins s σ H xs us Q I rv (by
    unfold gsCons at p
    split at p
    · cases ri with
      | cons hv ht =>
        refine ⟨_, _, rfl, B, Z, r, S, _, sr, rr, hv, ?_⟩
        refine p.seq (fun r' S' σ' B' H' e' s' rr' q => ?_) rfl rfl rfl
        exact fun hw => ⟨B', Z, r', S', _, s', rr', ht.ev e', by rw [hw]; exact q⟩
    · exact p.elim)⟩
theorem w_gtp {es : List Expr} {k n : Nat} {t : FGs} {pos : Pos} {vs : List Nat} (hc : X.calm = true) (hK : c.K = X.K) (h : PGs X es (TGsw c W vs t)) (hn : (assignEach es X.env).length = n := by rfl) (hst : (assignEach es X.env).findIdx? (·.1) = none := by rfl) :
    PG X (.Tuple es k pos) (TGw c W vs (gTp n t)) := ⟨fun pins s σ H v u Q I rv ⟨B, Z, r, S, iv, sr, rr, ri, p⟩ => (pg_tup hc h hn hst).run pins s σ H v u Q I rv (by
  unfold gTp at p
  split at p
  · rename_i is q
    split at p
    · rename_i hl
      obtain ⟨a, xs, h1, h2, h3⟩ := parts_of ri q
      exact ⟨a, xs, h1, by rw [← hK]; exact h2, by rw [← h3.length]; exact hl, B, Z, r, S, is, sr, rr, h3, p⟩
    · exact p.elim
  · exact p.elim)⟩
/-- a clause's tests -/
def TTs (c : Ct) (W : WX) (f : FT) : TT := TTx c W f
@[simp] def tYe : FT := fun _ S => .ok true S
theorem s_tnil : PTs X [] (TTx c W tYe) := ⟨fun pins s σ H Q I ⟨B, Z, r, S, sr, rr, p⟩ => pts_nil.run pins s σ H Q I (p.ret sr)⟩
theorem s_tone {e : Expr} {f : FT} (h : PT X e (TTx c W f)) : PTs X [e] (TTx c W f) := pts_one h
/-- the turns; an element is data -/
def lcL (g : FG) (t : FT) (e : FE) (r0 : Rho) : List PyData → Sto → Out (List PyData)
  | [], S => .ok [] S
  | d :: ds, S => match g (.d d) r0 S with
    | .nx r1 S1 => (t r1 S1).bind fun k S2 => if k = true then (e r1 S2).bind fun v S3 => (match v with
        | .d x => (lcL g t e r0 ds S3).bind fun xs S4 => .ok (x :: xs) S4
        | _ => .bad) else lcL g t e r0 ds S2
    | _ => .bad
@[simp] def lcR (it : FI) (g : FG) (t : FT) (e : FE) (vs : List Nat) : Rho → Sto → Out (List PyData) := fun r S => (it r S).bind fun ds S1 => if ds.length ≤ 1000000 then (lcL g t e (wipeR r vs) ds S1).nox else .bad
@[simp] def eLc (it : FI) (g : FG) (t : FT) (e : FE) (vs : List Nat) : FE := fun r S => (lcR it g t e vs r S).bind fun xs S' => .ok (.d (.list xs)) S'
@[simp] def eLcM (it : FI) (g : FG) (t : FT) (e : FE) (vs : List Nat) : FE := fun r S => (lcR it g t e vs r S).bind fun xs S' => .ok (.ref S'.length) (S' ++ [.lst xs])
/-- Z may hold more -/
theorem SR.less {z : Addr} {S : Sto} (s : SR c H B (z :: Z) S) : SR c H B Z S := by
  have k : ∀ a o, H a = some o → a ∉ B ++ z :: Z → NT o → H a = some o := fun _ _ h _ _ => h
  have g : ∀ a, a ∈ B ++ Z → a ∈ B ++ z :: Z ∨ H a = none := fun a m => .inl (by
    rcases List.mem_append.mp m with m | m
    · exact List.mem_append_left _ m
    · exact List.mem_append_right _ (List.mem_cons_of_mem _ m))
  refine ⟨s.len, s.nd, fun y m => s.zt y (List.mem_cons_of_mem _ m), fun y m => s.zb y (List.mem_cons_of_mem _ m), fun n b o hb ho => ?_, s.tb⟩
  have r := s.ob n b o hb ho
  cases o with
  | lst ds => obtain ⟨xs, h1, h2⟩ := r; exact ⟨xs, h1, h2.mono k g⟩
  | lsx ds =>
    obtain ⟨xs, h1, h2⟩ := r
    exact ⟨xs, h1, RIs.less h2⟩
  | dct _ => obtain ⟨xs, h1, h2, h3⟩ := r; exact ⟨xs, h1, h2, h3.mono k g⟩
  | dead => exact r
where
  RIs.less : ∀ {is : List IV} {xs : List V}, RIs c H B (z :: Z) is xs → RIs c H B Z is xs
    | _, _, .nil => .nil
    | _, _, .cons h t => .cons (RI.less h) (RIs.less t)
  RI.less : ∀ {i : IV} {x : V}, RI c H B (z :: Z) i x → RI c H B Z i x
    | _, _, .d h => .d (h.mono (fun _ _ h _ _ => h) fun a m => .inl (by
        rcases List.mem_append.mp m with m | m
        · exact List.mem_append_left _ m
        · exact List.mem_append_right _ (List.mem_cons_of_mem _ m)))
    | _, _, .ref h => .ref h
    | _, _, .gl h => .gl h
    | _, _, .tup h to hb r => .tup h to (fun m => hb (by
        rcases List.mem_append.mp m with m | m
        · exact List.mem_append_left _ m
        · exact List.mem_append_right _ (List.mem_cons_of_mem _ m))) (RIs.less r)
    | _, _, .scr h hb => .scr h fun m => hb (by
        rcases List.mem_append.mp m with m | m
        · exact List.mem_append_left _ m
        · exact List.mem_append_right _ (List.mem_cons_of_mem _ m))
    | _, _, .scrK h => .scrK h
    | _, _, .lam hk h hb hc hcb => .lam hk h (lessN hb) hc (lessN hcb)
    | _, _, .clo hk h hb hc hcb cs r => .clo hk h (lessN hb) hc (lessN hcb) (cs.mono (fun _ _ h _ _ => h) lessG) (r.mono (fun _ _ h _ _ => h) lessG)
    | _, _, .exc hC h hb hd hdb r => .exc hC h (lessN hb) hd (lessN hdb) (r.mono (fun _ _ h _ _ => h) lessG)
  lessG {H : Hp} : ∀ a, a ∈ B ++ Z → a ∈ B ++ z :: Z ∨ H a = none := fun a m => .inl (by
    rcases List.mem_append.mp m with m | m
    · exact List.mem_append_left _ m
    · exact List.mem_append_right _ (List.mem_cons_of_mem _ m))
  lessN {a : Addr} (h : a ∉ B ++ z :: Z) : a ∉ B ++ Z := fun m => h (by
    rcases List.mem_append.mp m with m | m
    · exact List.mem_append_left _ m
    · exact List.mem_append_right _ (List.mem_cons_of_mem _ m))

/-! what stood ahead of a new object D, behind it -/
theorem evZ_far {D : Addr} (e : Ev B H B1 H1) (hD : H D = none) : ∀ a, a ∈ B1 ++ D :: Z → a ∈ B ++ Z ∨ H a = none := fun a m => by
  rcases List.mem_append.mp m with m | m
  · exact e.far a (List.mem_append_left _ m)
  · rcases List.mem_cons.mp m with m | m
    · exact .inr (by rw [m]; exact hD)
    · exact .inl (List.mem_append_right _ m)
mutual
theorem RI.evZ {D : Addr} (e : Ev B H B1 H1) (hD : H D = none) : ∀ {i : IV} {v : V}, RI c H B Z i v → RI c H1 B1 (D :: Z) i v
  | _, _, .d h => .d (h.mono e.kp (evZ_far e hD))
  | _, _, .ref h => .ref (by
      obtain ⟨N, rfl, _⟩ := e.pre
      rw [List.getElem?_append_left (List.getElem?_eq_some_iff.mp h).1]; exact h)
  | _, _, .gl h => .gl h
  | _, _, .tup h to hb r => .tup (e.kp _ _ h hb ntF) to (fun m => (evZ_far e hD _ m).elim hb fun z => by rw [h] at z; cases z) (RIs.evZ e hD r)
  | _, _, .scr h hb => .scr (rd_mono h ntL fun o q => e.kp _ o q hb) (fun m => (evZ_far e hD _ m).elim hb (rd_there h))
  | _, _, .scrK h => .scrK h
  | _, _, .lam hk h hb hc hcb => .lam hk (e.kp _ _ h hb ntM) (far_out h hb (evZ_far e hD)) (e.kp _ _ hc hcb ntC) (far_out hc hcb (evZ_far e hD))
  | _, _, .clo hk h hb hc hcb cs r => .clo hk (e.kp _ _ h hb ntM) (far_out h hb (evZ_far e hD)) (e.kp _ _ hc hcb ntC) (far_out hc hcb (evZ_far e hD)) (cs.mono e.kp (evZ_far e hD)) (r.mono e.kp (evZ_far e hD))
  | _, _, .exc hC h hb hd hdb r => .exc hC (e.kp _ _ h hb ntE) (far_out h hb (evZ_far e hD)) (e.kp _ _ hd hdb ntX) (far_out hd hdb (evZ_far e hD)) (r.mono e.kp (evZ_far e hD))
theorem RIs.evZ {D : Addr} (e : Ev B H B1 H1) (hD : H D = none) : ∀ {i : List IV} {v : List V}, RIs c H B Z i v → RIs c H1 B1 (D :: Z) i v
  | _, _, .nil => .nil
  | _, _, .cons h t => .cons (RI.evZ e hD h) (RIs.evZ e hD t)
end
theorem RR.evZ {r : Rho} {D : Addr} (e : Ev B H B1 H1) (hD : H D = none) (h : RR c H B Z r σ) : RR c H1 B1 (D :: Z) r σ := ⟨h.len, fun i v q => by
  obtain ⟨x, h1, h2⟩ := h.at_ i v q
  exact ⟨x, h1, h2.evZ e hD⟩⟩
theorem SR.newZ {D : Addr} {o : HO} {S : Sto} (s : SR c H B Z S) (hD : H D = none) (hko : (∃ xs, o = .lst xs) ∨ ∃ ks, o = .dK ks) : SR c (upd H D o) B (D :: Z) S := by
  have e := Ev.new (o := o) s hD
  have nB : ∀ b, b ∈ B → b ≠ D := fun b hb q => s.trk b hb (by rw [q]; exact hD)
  refine ⟨s.len, s.nd, fun z m => ?_, fun z m hz => ?_, fun n b o' hb ho => ?_, LamX.Tabs.ext s.tb fun b u h => by rw [upd_ne (ne_of_none h hD)]; exact h⟩
  · rcases List.mem_cons.mp m with m | m
    · rw [m]
      rcases hko with ⟨xs, rfl⟩ | ⟨xs, rfl⟩
      · exact .inl ⟨xs, upd_same⟩
      · exact .inr ⟨xs, upd_same⟩
    · have h1 := s.zt z m
      have : z ≠ D := fun q => kdNe h1 (by rw [q]; exact hD)
      exact kdKeep h1 fun o' h _ => by rw [upd_ne this]; exact h
  · rcases List.mem_cons.mp m with m | m
    · exact nB z hz m
    · exact s.zb z m hz
  · have r := s.ob n b o' hb ho
    have kb : (upd H D o) b = H b := upd_ne (nB b (List.mem_of_getElem? hb))
    cases o' with
    | lst ds => obtain ⟨xs, h1, h2⟩ := r; exact ⟨xs, by rw [kb]; exact h1, h2.mono e.kp (evZ_far e hD)⟩
    | lsx ds => obtain ⟨xs, h1, h2⟩ := r; exact ⟨xs, by rw [kb]; exact h1, h2.evZ e hD⟩
    | dct _ => obtain ⟨xs, h1, h2, h3⟩ := r; exact ⟨xs, by rw [kb]; exact h1, h2, h3.mono e.kp (evZ_far e hD)⟩
    | dead => obtain ⟨xs, h1⟩ := r; exact ⟨xs, by rw [kb]; exact h1⟩
/-- the foreign object D is written: what leans on others stays -/
theorem SR.wrZ {D : Addr} {o : HO} {S : Sto} (s : SR c H B (D :: Z) S) (hk : (∃ xs, H D = some (.lst xs)) ∨ ∃ ks, H D = some (.dK ks)) (hko : (∃ xs, o = .lst xs) ∨ ∃ ks, o = .dK ks) : SR c (upd H D o) B (D :: Z) S ∧ (∀ {d : PyData} {v : V}, RD c.K H (B ++ D :: Z) d v → RD c.K (upd H D o) (B ++ D :: Z) d v) := by
  have nD : D ∉ B := s.zb D List.mem_cons_self
  have kp : ∀ a u, H a = some u → a ∉ B ++ D :: Z → NT u → (upd H D o) a = some u := fun a u h hb _ => by
    have : a ≠ D := fun q => hb (List.mem_append_right _ (by rw [q]; exact List.mem_cons_self))
    rw [upd_ne this]; exact h
  have rd : ∀ {d : PyData} {v : V}, RD c.K H (B ++ D :: Z) d v → RD c.K (upd H D o) (B ++ D :: Z) d v := fun h => h.mono kp fun _ m => .inl m
  refine ⟨⟨s.len, s.nd, fun z m => ?_, s.zb, fun n b o' hb ho => ?_, fun p hp => kind_tab hk (s.tb p hp)⟩, rd⟩
  · by_cases q : z = D
    · rw [q]
      rcases hko with ⟨xs, rfl⟩ | ⟨xs, rfl⟩
      · exact .inl ⟨xs, upd_same⟩
      · exact .inr ⟨xs, upd_same⟩
    · exact kdKeep (s.zt z m) fun o' h _ => by rw [upd_ne q]; exact h
  · have r := s.ob n b o' hb ho
    have kb : (upd H D o) b = H b := upd_ne fun q => nD (by rw [← q]; exact List.mem_of_getElem? hb)
    cases o' with
    | lst ds => obtain ⟨xs, h1, h2⟩ := r; exact ⟨xs, by rw [kb]; exact h1, h2.mono kp fun _ m => .inl m⟩
    | lsx ds => obtain ⟨xs, h1, h2⟩ := r; exact ⟨xs, by rw [kb]; exact h1, ris kp h2⟩
    | dct _ => obtain ⟨xs, h1, h2, h3⟩ := r; exact ⟨xs, by rw [kb]; exact h1, h2, h3.mono kp fun _ m => .inl m⟩
    | dead => obtain ⟨xs, h1⟩ := r; exact ⟨xs, by rw [kb]; exact h1⟩
where
  ris {o : HO} {D : Addr} (kp : ∀ a u, H a = some u → a ∉ B ++ D :: Z → NT u → (upd H D o) a = some u) : ∀ {is : List IV} {xs : List V}, RIs c H B (D :: Z) is xs → RIs c (upd H D o) B (D :: Z) is xs
    | _, _, .nil => .nil
    | _, _, .cons h t => .cons (ri kp h) (ris kp t)
  ri {o : HO} {D : Addr} (kp : ∀ a u, H a = some u → a ∉ B ++ D :: Z → NT u → (upd H D o) a = some u) : ∀ {i : IV} {x : V}, RI c H B (D :: Z) i x → RI c (upd H D o) B (D :: Z) i x
    | _, _, .d h => .d (h.mono kp fun _ m => .inl m)
    | _, _, .ref h => .ref h
    | _, _, .gl h => .gl h
    | _, _, .tup h to hb r => .tup (kp _ _ h hb ntF) to hb (ris kp r)
    | _, _, .scr h hb => .scr (rd_mono h ntL fun o q => kp _ o q hb) hb
    | _, _, .scrK h => .scrK h
    | _, _, .lam hk h hb hc hcb => .lam hk (kp _ _ h hb ntM) hb (kp _ _ hc hcb ntC) hcb
    | _, _, .clo hk h hb hc hcb cs r => .clo hk (kp _ _ h hb ntM) hb (kp _ _ hc hcb ntC) hcb (cs.mono kp fun _ m => .inl m) (r.mono kp fun _ m => .inl m)
    | _, _, .exc hC h hb hd hdb r => .exc hC (kp _ _ h hb ntE) hb (kp _ _ hd hdb ntX) hdb (r.mono kp fun _ m => .inl m)
theorem Post.lessZ {z : Addr} {o : Out α} {Q : α → Sto → List Addr → Hp → Prop} (h : Post c W0 B Z H σ o Q) : Post c W0 B (z :: Z) H σ o fun v S B' H' => Q v S B' H' := by
  cases o with
  | ok v S => exact fun B' H' e s => h B' H' e s.less
  | exn n v S => exact fun cls dd B' H' e s rx => h cls dd B' H' e s.less (by
      obtain ⟨C, dx, y, a1, a2, a3, a4, a6, a5⟩ := rx
      exact ⟨C, dx, y, a1, a2, a3, a4, SR.less.lessN a6, a5.mono (fun _ _ h _ _ => h) fun a m => .inl (by
        rcases List.mem_append.mp m with m | m
        · exact List.mem_append_left _ m
        · exact List.mem_append_right _ (List.mem_cons_of_mem _ m))⟩)
  | bad => exact h
theorem bind_ok {o : Out α} {f : α → Sto → Out β} {v : β} {S : Sto} (h : (o.bind f) = .ok v S) : ∃ a S1, o = .ok a S1 ∧ f a S1 = .ok v S := by
  cases o with
  | ok a S1 => exact ⟨a, S1, rfl, h⟩
  | exn n v S => cases h
  | bad => cases h
/-- a new object of ours is written -/
theorem evD {D : Addr} {o : HO} (e : Ev B H B1 H1) (hD : H D = none) (hk : (∃ xs, H1 D = some (.lst xs)) ∨ ∃ ks, H1 D = some (.dK ks)) : Ev B H B1 (upd H1 D o) := by
  have th : ∀ a, H1 a ≠ none → upd H1 D o a ≠ none := fun a ha => by
    by_cases q : a = D
    · rw [q, upd_same]; simp
    · rw [upd_ne q]; exact ha
  refine ⟨e.pre, fun a u h hb nt => ?_, fun b hb => th b (e.trk b hb), fun a ha => th a (e.there a ha)⟩
  rw [upd_ne fun q => by rw [q, hD] at h; cases h]
  exact e.keep a u h hb nt
/-- the loop of a comprehension whose answers are all known -/
theorem lc_of {J : It} {g : FG} {t : FT} {e : FE} {vs : List Nat} {ds all : List PyData} {r : Rho} {S S9 : Sto} {D : Addr} {Qd : Hp → Prop} (hg : GOk g) (w : Gives c B Z H J ds) (s : SR c H B Z S) (rr : RR c H B Z r σ) (hD : H D = none) (hl : ds.length ≤ 1000000)
    (ha : lcL g t e (wipeR r vs) ds S = .ok all S9)
    (fin : ∀ B' H' xs, Ev B H B' H' → SR c H' B' (D :: Z) S9 → H' D = some (.lst xs) → RDs c.K H' (B' ++ D :: Z) all xs → Qd H') :
    ∃ Wd : Nat → Nat → Hp → Prop, (∃ m, Wd 0 m (upd H D (.lst []))) ∧ ∀ i m H', Wd i m H' → (J.stop i H' ∧ Qd H') ∨ (J.go i H' ∧ ∃ Nx : Hp → Prop, (∀ H2, Nx H2 → ∃ m', m' < m ∧ Wd (i + 1) m' H2) ∧ ∀ x H2, J.yld i H' x H2 →
      TGw c W0 vs g x (L2.wipe σ vs) H2 fun σ2 H3 => L2.wipe σ2 vs = L2.wipe σ vs ∧ TTx c W0 t σ2 H3 fun b H4 => if b = true then TEx c W0 e σ2 H4 fun y H5 => ∃ acc, H5 D = some (.lst acc) ∧ acc.length < sizeLine ∧ Nx (upd H5 D (.lst (acc ++ [y]))) else Nx H4) := by
  obtain ⟨G, Y, wk, kg, ky⟩ := w
  refine lc_it wk (fun i H' => ∃ B' S' acc xs rest, Ev B H B' H' ∧ SR c H' B' (D :: Z) S' ∧ H' D = some (.lst xs) ∧ RDs c.K H' (B' ++ D :: Z) acc xs ∧ acc.length ≤ i ∧ lcL g t e (wipeR r vs) (ds.drop i) S' = .ok rest S9 ∧ all = acc ++ rest)
    ⟨B, S, [], [], all, Ev.new s hD, s.newZ hD (.inl ⟨_, rfl⟩), upd_same, .nil, Nat.le_refl _, ha, rfl⟩ (fun i H' _ ⟨B', S', acc, xs, rest, e', _⟩ => kg B' H' e') ?_ ?_
  · rintro i x H' H2 hi ⟨B', S', acc, xs, rest, e', s', hx, ra, hlen, hL, hall⟩ y
    have hz : ∀ z, z ∈ D :: Z → z ∈ Z ∨ H z = none := fun z m => by
      rcases List.mem_cons.mp m with m | m
      · exact .inr (by rw [m]; exact hD)
      · exact .inl m
    obtain ⟨e2, s2, d, hd, rd⟩ := ky (D :: Z) hz i B' H' S' x H2 hi e' s' y
    have hds : ds.drop i = d :: ds.drop (i + 1) := by
      rw [List.drop_eq_getElem_cons hi]
      have := List.getElem?_eq_getElem hi
      rw [hd] at this
      cases this
      rfl
    rw [hds] at hL
    unfold lcL at hL
    have go := hg (.d d) (wipeR r vs) S'
    cases hgo : g (.d d) (wipeR r vs) S' with
    | nx r1 S1 =>
      rw [hgo] at hL
      obtain ⟨k, S2, ht, hL⟩ := bind_ok hL
      refine ⟨B', D :: Z, wipeR r vs, S', .d d, s2, (rr.wipe vs).evZ (e'.trans e2) hD, .d rd, ?_⟩
      rw [hgo]
      intro σ2 B3 H3 e3 s3 rr3 hw
      refine ⟨hw.trans (wipe_idem σ vs), B3, D :: Z, r1, S1, s3, rr3, ?_⟩
      rw [ht]
      intro B4 H4 e4 s4
      have e04 := ((e'.trans e2).trans e3).trans e4
      have eD4 := (e2.trans e3).trans e4
      have nD : D ∉ B' := s'.zb D List.mem_cons_self
      have hx4 : H4 D = some (.lst xs) := eD4.keep D _ hx nD ntL
      have ra4 := ra.ev eD4
      cases k with
      | false =>
        rw [if_neg (by decide)] at hL
        dsimp only
        rw [if_neg Bool.false_ne_true]
        exact ⟨B4, S2, acc, xs, rest, e04, s4, hx4, ra4, Nat.le_succ_of_le hlen, hL, hall⟩
      | true =>
        rw [if_pos rfl] at hL
        dsimp only
        rw [if_pos rfl]
        obtain ⟨v, S3, hv, hL⟩ := bind_ok hL
        refine ⟨B4, D :: Z, r1, S2, s4, rr3.ev e4, ?_⟩
        rw [hv]
        intro B5 H5 e5 s5 y hy
        split at hL
        · rename_i xd
          obtain ⟨rest', S5, hr, hL⟩ := bind_ok hL
          cases hL
          have nD4 : D ∉ B4 := s4.zb D List.mem_cons_self
          have hx5 := e5.keep D _ hx4 nD4 ntL
          have ra5 := ra4.ev e5
          cases hy with
          | d hy =>
            have w := s5.wrZ (o := HO.lst (xs ++ [y])) (.inl ⟨_, hx5⟩) (.inl ⟨_, rfl⟩)
            have e5D : Ev B H B5 (upd H5 D (.lst (xs ++ [y]))) := evD (e04.trans e5) hD (.inl ⟨_, hx5⟩)
            have lens := ra5.length
            refine ⟨xs, hx5, ?_, B5, S3, acc ++ [xd], xs ++ [y], rest', e5D, w.1, upd_same, ?_, ?_, hr, by rw [hall, List.append_assoc] <;> rfl⟩
            · rw [← lens]
              have : sizeLine = 16777216 := by decide
              omega
            · exact RDs.mono (fun a u h hb _ => by
                have : a ≠ D := fun q => hb (List.mem_append_right _ (by rw [q]; exact List.mem_cons_self))
                rw [upd_ne this]; exact h) (fun _ m => .inl m) (ra5.app (.cons hy .nil))
            · rw [List.length_append]
              simp
              omega
        · cases hL
    | exn n v r1 S1 => rw [hgo] at hL; cases hL
    | bad => rw [hgo] at hL; cases hL
    | ret v S1 => rw [hgo] at go; exact go.elim
    | brk r1 S1 => rw [hgo] at go; exact go.elim
    | ct r1 S1 => rw [hgo] at go; exact go.elim
  · rintro H' ⟨B', S', acc, xs, rest, e', s', hx, ra, hlen, hL, hall⟩
    rw [List.drop_length] at hL
    cases hL
    rw [List.append_nil] at hall
    subst hall
    exact fin B' H' xs e' s' hx ra
/-- the whole comprehension -/
theorem tlc_of {it : FI} {g : FG} {t : FT} {e : FE} {vs : List Nat} {r : Rho} {S : Sto} {Q : VK} {K : List PyData → Sto → Out IV} (hg : GOk g) (s : SR c H B Z S) (rr : RR c H B Z r σ)
    (p : Post c W B Z H σ ((lcR it g t e vs r S).bind K) fun v S' B' H' => ∀ x, RI c H' B' Z v x → Q x H')
    (fin : ∀ (all : List PyData) (S1 S9 : Sto) (B1 : List Addr) (H1 : Hp) (D : Addr) B' H' xs, H1 D = none → Post c W B1 Z H1 σ (K all S9) (fun v S' B' H' => ∀ x, RI c H' B' Z v x → Q x H') → Ev B1 H1 B' H' → SR c H' B' (D :: Z) S9 → SR c H1 B1 Z S1 → H' D = some (.lst xs) → RDs c.K H' (B' ++ D :: Z) all xs → Q (.ref D) H') :
    tLc (TIx c W it) (TGw c W0 vs g) (TTx c W0 t) (TEx c W0 e) vs σ H Q := by
  have key : ∀ ds S1, it r S = .ok ds S1 → ∃ all S9, ds.length ≤ 1000000 ∧ lcL g t e (wipeR r vs) ds S1 = .ok all S9 ∧ lcR it g t e vs r S = .ok all S9 := fun ds S1 hi => by
    have hR : lcR it g t e vs r S = if ds.length ≤ 1000000 then (lcL g t e (wipeR r vs) ds S1).nox else .bad := by
      unfold lcR
      rw [hi] <;> rfl
    by_cases hl : ds.length ≤ 1000000
    · rw [if_pos hl] at hR
      cases q : lcL g t e (wipeR r vs) ds S1 with
      | ok all S9 => rw [q] at hR; exact ⟨all, S9, hl, rfl, hR⟩
      | exn n v S9 => rw [q] at hR; rw [hR] at p; exact p.elim
      | bad => rw [q] at hR; rw [hR] at p; exact p.elim
    · rw [if_neg hl] at hR; rw [hR] at p; exact p.elim
  refine ⟨B, Z, r, S, s, rr, ?_⟩
  cases hi : it r S with
  | bad =>
    have hR : lcR it g t e vs r S = .bad := by unfold lcR; rw [hi] <;> rfl
    rw [hR] at p
    exact p
  | exn n v S1 =>
    have hR : lcR it g t e vs r S = .exn n v S1 := by unfold lcR; rw [hi] <;> rfl
    rw [hR] at p
    exact p
  | ok ds S1 =>
    obtain ⟨all, S9, hl, hL, hR⟩ := key ds S1 hi
    rw [hR] at p
    have p : Post c W B Z H σ (K all S9) (fun v S' B' H' => ∀ x, RI c H' B' Z v x → Q x H') := p
    intro B1 H1 e1 s1 J w D hD
    exact lc_of hg w s1 (rr.ev e1) hD hl hL fun B' H' xs e' s' hx ra => fin all S1 S9 B1 H1 D B' H' xs hD (p.far e1) e' s' s1 hx ra
theorem RDs.less {K : PySem.W.Frag} {z : Addr} {ds : List PyData} {xs : List V} (h : RDs K H (B ++ z :: Z) ds xs) : RDs K H (B ++ Z) ds xs := h.mono (fun _ _ h _ _ => h) fun a m => .inl (by
  rcases List.mem_append.mp m with m | m
  · exact List.mem_append_left _ m
  · exact List.mem_append_right _ (List.mem_cons_of_mem _ m))
theorem not_in {D : Addr} {S : Sto} {B1 : List Addr} {H1 : Hp} (s : SR c H B (D :: Z) S) (s1 : SR c H1 B1 Z S') (hD : H1 D = none) : D ∉ B ++ Z := fun m => by
  rcases List.mem_append.mp m with m | m
  · exact s.zb D List.mem_cons_self m
  · exact kdNe (s1.zt D m) hD
theorem tlc_fr {it : FI} {g : FG} {t : FT} {e : FE} {vs : List Nat} {Q : VK} (hg : GOk g) (h : TEx c W (eLc it g t e vs) σ H Q) : tLc (TIx c W it) (TGw c W0 vs g) (TTx c W0 t) (TEx c W0 e) vs σ H Q := by
  obtain ⟨B, Z, r, S, s, rr, p⟩ := h
  refine tlc_of hg s rr p fun all S1 S9 B1 H1 D B' H' xs hD q e' s' s1 hx ra => ?_
  exact q B' H' e' s'.less _ (.d (.lst hx (not_in s' s1 hD) ra.less))
theorem tlc_mu {it : FI} {g : FG} {t : FT} {e : FE} {vs : List Nat} {Q : VK} (hg : GOk g) (h : TEx c W (eLcM it g t e vs) σ H Q) : tLc (TIx c W it) (TGw c W0 vs g) (TTx c W0 t) (TEx c W0 e) vs σ H Q := by
  obtain ⟨B, Z, r, S, s, rr, p⟩ := h
  refine tlc_of hg s rr p fun all S1 S9 B1 H1 D B' H' xs hD q e' s' s1 hx ra => ?_
  have s2 := s'.less
  have far : ∀ a, a ∈ (B' ++ [D]) ++ Z → a ∈ B' ++ D :: Z ∨ H' a = none := fun a m => .inl (by
    rcases List.mem_append.mp m with m | m
    · rcases List.mem_append.mp m with m | m
      · exact List.mem_append_left _ m
      · exact List.mem_append_right _ (by rw [List.mem_singleton.mp m]; exact List.mem_cons_self)
    · exact List.mem_append_right _ (List.mem_cons_of_mem _ m))
  have eD : Ev B1 H1 (B' ++ [D]) H' := by
    obtain ⟨N, hN, hn⟩ := e'.pre
    refine ⟨⟨N ++ [D], by rw [hN, List.append_assoc], fun b m => ?_⟩, e'.keep, fun b m => ?_, e'.there⟩
    · rcases List.mem_append.mp m with m | m
      · exact hn b m
      · rw [List.mem_singleton.mp m]; exact hD
    · rcases List.mem_append.mp m with m | m
      · exact e'.trk b m
      · rw [List.mem_singleton.mp m, hx]; simp
  refine q _ H' eD ?_ _ (.ref (b := D) (by rw [← s'.len]; simp))
  refine ⟨by rw [List.length_append, List.length_append, s'.len] <;> rfl, List.nodup_append.mpr ⟨s'.nd, by simp, fun a ha b hb q => ?_⟩, s2.zt, fun z hz m => ?_, fun n b o hb ho => ?_, s'.tb⟩
  · rw [List.mem_singleton.mp hb] at q
    exact s'.zb D List.mem_cons_self (q ▸ ha)
  · rcases List.mem_append.mp m with m | m
    · exact s2.zb z hz m
    · rw [List.mem_singleton.mp m] at hz; exact kdNe (s1.zt D hz) hD
  · by_cases hn : n < S9.length
    · rw [List.getElem?_append_left (by rw [s'.len]; exact hn)] at hb
      rw [List.getElem?_append_left hn] at ho
      have r' := s'.ob n b o hb ho
      cases o with
      | lst ds => obtain ⟨xs, h1, h2⟩ := r'; exact ⟨xs, h1, h2.mono (fun _ _ h _ _ => h) far⟩
      | lsx ds => obtain ⟨xs, h1, h2⟩ := r'; exact ⟨xs, h1, RIs.moreB (far := far) h2⟩
      | dct _ => obtain ⟨xs, h1, h2, h3⟩ := r'; exact ⟨xs, h1, h2, h3.mono (fun _ _ h _ _ => h) far⟩
      | dead => exact r'
    · have hl := (List.getElem?_eq_some_iff.mp ho).1
      rw [List.length_append] at hl
      have en : n = S9.length := by simp at hl; omega
      subst en
      rw [List.getElem?_append_right (Nat.le_refl _)] at ho
      rw [← s'.len, List.getElem?_append_right (Nat.le_refl _)] at hb
      simp at ho hb
      subst ho hb
      exact ⟨xs, hx, ra.mono (fun _ _ h _ _ => h) far⟩
where
  RIs.moreB {c : Ct} {H' : Hp} {B' Z : List Addr} {D : Addr} (far : ∀ a, a ∈ (B' ++ [D]) ++ Z → a ∈ B' ++ D :: Z ∨ H' a = none) : ∀ {is : List IV} {xs : List V}, RIs c H' B' (D :: Z) is xs → RIs c H' (B' ++ [D]) Z is xs
    | _, _, .nil => .nil
    | _, _, .cons h t => .cons (RI.moreB far h) (RIs.moreB far t)
  RI.moreB {c : Ct} {H' : Hp} {B' Z : List Addr} {D : Addr} (far : ∀ a, a ∈ (B' ++ [D]) ++ Z → a ∈ B' ++ D :: Z ∨ H' a = none) : ∀ {i : IV} {x : V}, RI c H' B' (D :: Z) i x → RI c H' (B' ++ [D]) Z i x
    | _, _, .d h => .d (h.mono (fun _ _ h _ _ => h) far)
    | _, _, .ref h => .ref (by rw [List.getElem?_append_left (List.getElem?_eq_some_iff.mp h).1]; exact h)
    | _, _, .gl h => .gl h
    | _, _, .tup h to hb r => .tup h to (fun m => (far _ m).elim hb fun z => by rw [h] at z; cases z) (RIs.moreB far r)
    | _, _, .scr h hb => .scr h fun m => (far _ m).elim hb (rd_there h)
    | _, _, .scrK h => .scrK h
    | _, _, .lam hk h hb hc hcb => .lam hk h (far_out h hb far) hc (far_out hc hcb far)
    | _, _, .clo hk h hb hc hcb cs r => .clo hk h (far_out h hb far) hc (far_out hc hcb far) (cs.mono (fun _ _ h _ _ => h) far) (r.mono (fun _ _ h _ _ => h) far)
    | _, _, .exc hC h hb hd hdb r => .exc hC h (far_out h hb far) hd (far_out hd hdb far) (r.mono (fun _ _ h _ _ => h) far)
/-- the block's judgements, whatever its frame -/
abbrev Blk (X : Cx) (scope : Scope) (f : Cx → Prop) : Prop := ∀ (s : Shared) (H : Hp) (C : Addr) (cl : List (Str × Addr)) (fp : List Addr), f (X.blk s H scope (compEnvC scope cl C X.env) fp)
theorem s_lc {elt tg iter : Expr} {ifs : List Expr} {scope : Scope} {own : List (Str × Nat)} {pos : Pos} {it : FI} {g : FG} {t : FT} {f : FE} (hc : X.calm = true) (hN : X.N.Nodup) (hi : PI X tg iter (TIx c W it)) (ok : BlkOk X.N X.env.scope scope own) (hgo : GOk g)
    (hg : Blk X scope fun Y => PG Y tg (TGw c W0 (own.map (·.2)) g)) (ht : Blk X scope fun Y => PTs Y ifs (TTx c W0 t)) (he : Blk X scope fun Y => PE Y elt (TEx c W0 f)) (hs : ∀ x, foldedSetIterable iter X.env x = pure x := by intro _; rfl) :
    PE X (.ListComp elt [⟨tg, iter, ifs, 0⟩] scope pos) (TEx c W (eLc it g t f (own.map (·.2)))) := pe_imp (pe_lc hc hN hi ok hg ht he hs) fun _ _ _ => tlc_fr hgo
theorem s_lcM {elt tg iter : Expr} {ifs : List Expr} {scope : Scope} {own : List (Str × Nat)} {pos : Pos} {it : FI} {g : FG} {t : FT} {f : FE} (hc : X.calm = true) (hN : X.N.Nodup) (hi : PI X tg iter (TIx c W it)) (ok : BlkOk X.N X.env.scope scope own) (hgo : GOk g)
    (hg : Blk X scope fun Y => PG Y tg (TGw c W0 (own.map (·.2)) g)) (ht : Blk X scope fun Y => PTs Y ifs (TTx c W0 t)) (he : Blk X scope fun Y => PE Y elt (TEx c W0 f)) (hs : ∀ x, foldedSetIterable iter X.env x = pure x := by intro _; rfl) :
    PE X (.ListComp elt [⟨tg, iter, ifs, 0⟩] scope pos) (TEx c W (eLcM it g t f (own.map (·.2)))) := pe_imp (pe_lc hc hN hi ok hg ht he hs) fun _ _ _ => tlc_mu hgo
/-- name = [..] on one line -/
theorem s_setLc {i : Nat} {y : Str} {py : Pos} {elt tg iter : Expr} {ifs : List Expr} {scope : Scope} {own : List (Str × Nat)} {pos spos : Pos} {it : FI} {g : FG} {t : FT} {f h : FE} (hc : X.calm = true) (hN : X.N.Nodup) (hy : X.N[i]? = some y) (hyl : X.env.scope.names.lookup y = some .local)
    (hsw : swapsWith (.ListComp elt [⟨tg, iter, ifs, 0⟩] scope pos) (some (.Name y py)) spos.line X.env = pure true) (hi : PI X tg iter (TIx c W it)) (ok : BlkOk X.N X.env.scope scope own)
    (hg : Blk X scope fun Y => PG Y tg (TGw c W0 (own.map (·.2)) g)) (ht : Blk X scope fun Y => PTs Y ifs (TTx c W0 t)) (he : Blk X scope fun Y => PE Y elt (TEx c W0 f))
    (k : ∀ σ H Q, TEx c W h σ H Q → tLc (TIx c W it) (TGw c W0 (own.map (·.2)) g) (TTx c W0 t) (TEx c W0 f) (own.map (·.2)) σ H Q) (hs : ∀ x, foldedSetIterable iter X.env x = pure x := by intro _; rfl) :
    PS X (.Assign [.Name y py] (.ListComp elt [⟨tg, iter, ifs, 0⟩] scope pos) spos) (TSx c W (sSet h i)) :=
  ps_imp (ps_setLc hc hN hy hyl hsw hi ok hg ht he hs) fun D σ H ⟨B, Z, r, S, s, rr, p⟩ => k σ H _ ⟨B, Z, r, S, s, rr, (Post.to rr p).imp fun v S' B' H' e s' q x hx => q.nxr s' ((rr.ev e).set hx i)⟩
end
end MI
set_option maxRecDepth 100000
set_option maxHeartbeats 4000000
namespace MI
open PySem PySem.Spec L2

/-! ## calls of defs: the callee sees the lists it is handed, nothing else of the store -/
abbrev FN := List IV → Sto → Out IV
def brw : List IV → List Nat
  | [] => []
  | .ref n :: t => if n ∈ brw t then brw t else n :: brw t
  | _ :: t => brw t
def inA (ns : List Nat) : IV → Option IV
  | .ref n => if n ∈ ns then some (.ref (ns.idxOf n)) else none
  | .d x => some (.d x)
  | .gl x => some (.gl x)
  | .scr x => some (.scr x)
  | .clo k vs => some (.clo k vs)
  | .exc n v => some (.exc n v)
  | _ => none
def inAs (ns : List Nat) : List IV → Option (List IV)
  | [] => some []
  | v :: t => match inA ns v, inAs ns t with
    | some w, some u => some (w :: u)
    | _, _ => none
def inS : List Nat → Sto → Option Sto
  | [], _ => some []
  | n :: ns, S => match S[n]?, inS ns S with
    | some (.lst ds), some T => some (.lst ds :: T)
    | _, _ => none
def outS : List Nat → Sto → Sto → Option Sto
  | [], _, S => some S
  | n :: ns, .lst ds :: T, S => outS ns T (S.set n (.lst ds))
  | _, _, _ => none
mutual
@[simp] def toD (k : Nat) (T : Sto) : IV → Option PyData
  | .d x => some x
  | .ref n => if n < k then none else match T[n]? with
    | some (.lst ds) => some (.list ds)
    | _ => none
  | .tup vs => match toDs k T vs with
    | some ds => some (.tuple ds)
    | none => none
  | _ => none
@[simp] def toDs (k : Nat) (T : Sto) : List IV → Option (List PyData)
  | [] => some []
  | v :: t => match toD k T v, toDs k T t with
    | some w, some u => some (w :: u)
    | _, _ => none
end
mutual
def outV (ns : List Nat) (T : Sto) : IV → Option IV
  | .ref n => match ns[n]? with
    | some m => some (.ref m)
    | none => (toD ns.length T (.ref n)).map .d
  | .gl x => some (.gl x)
  | .scr x => some (.scr x)
  | .clo k vs => some (.clo k vs)
  | .exc n v => some (.exc n v)
  | .tup vs => match toD ns.length T (.tup vs) with
    | some d => some (.d d)
    | none => (outVs ns T vs).map .tup
  | .d x => some (.d x)
  | .lam _ => none
def outVs (ns : List Nat) (T : Sto) : List IV → Option (List IV)
  | [] => some []
  | v :: t => match outV ns T v, outVs ns T t with
    | some w, some u => some (w :: u)
    | _, _ => none
end
def backW (ns : List Nat) (S : Sto) : Out IV → Out IV
  | .ok v T => match outS ns T S, outV ns T v with
    | some S', some w => .ok w S'
    | _, _ => .bad
  | .exn n v T => match outS ns T S with
    | some S' => .exn n v S'
    | none => .bad
  | .bad => .bad
/-- the answer, where it is a new list, goes into the caller's store -/
def backM (ns : List Nat) (S : Sto) : Out IV → Out IV
  | .ok (.ref n) T => match outS ns T S, toD ns.length T (.ref n) with
    | some S', some (.list ds) => .ok (.ref S'.length) (S' ++ [.lst ds])
    | _, _ => .bad
  | _ => .bad
def callW (bk : List Nat → Sto → Out IV → Out IV) (g : FN) (is : List IV) (S : Sto) : Out IV := match inAs (brw is) is, inS (brw is) S with
  | some js, some T => bk (brw is) S (g js T)
  | _, _ => .bad
section
variable {c : Ct} {W : WX} {X : Cx} {B Z B1 : List Addr} {H H1 : Hp} {σ : L2.St} {α β : Type}
theorem brw_nd : ∀ is : List IV, (brw is).Nodup
  | [] => .nil
  | v :: t => by
    cases v <;> try exact brw_nd t
    rename_i n
    show (if n ∈ brw t then brw t else n :: brw t).Nodup
    split
    · exact brw_nd t
    · rename_i h; exact List.nodup_cons.mpr ⟨h, brw_nd t⟩
/-- the borrowed addresses -/
def lent (B : List Addr) (ns : List Nat) : List Addr := ns.filterMap (B[·]?)
theorem lent_cons {n : Nat} {b : Addr} {ns : List Nat} (h : B[n]? = some b) : lent B (n :: ns) = b :: lent B ns := by
  unfold lent; rw [List.filterMap_cons, h]
theorem lent_at : ∀ {ns : List Nat} {S T : Sto}, B.length = S.length → inS ns S = some T → (lent B ns).length = ns.length ∧ T.length = ns.length ∧ ∀ (i n : Nat), ns[i]? = some n → (∃ b, (lent B ns)[i]? = some b ∧ B[n]? = some b) ∧ ∃ ds : List PyData, T[i]? = some (IO.lst ds) ∧ S[n]? = some (IO.lst ds)
  | [], S, T, _, h => by
    cases h
    exact ⟨rfl, rfl, fun i n q => by simp at q⟩
  | n :: ns, S, T, hl, h => by
    unfold inS at h
    split at h
    · rename_i ds T' h1 h2
      cases h
      obtain ⟨l1, l2, ih⟩ := lent_at hl h2
      have hn : n < B.length := by rw [hl]; exact (List.getElem?_eq_some_iff.mp h1).1
      have hb := List.getElem?_eq_getElem hn
      rw [lent_cons hb]
      refine ⟨by simp [l1], by simp [l2], fun i m q => ?_⟩
      cases i with
      | zero => simp at q; subst q; exact ⟨⟨_, rfl, hb⟩, ds, rfl, h1⟩
      | succ i => simpa using ih i m (by simpa using q)
    · cases h
theorem lent_sub {ns : List Nat} {b : Addr} (h : b ∈ lent B ns) : ∃ n, n ∈ ns ∧ B[n]? = some b := by
  obtain ⟨n, h1, h2⟩ := List.mem_filterMap.mp h
  exact ⟨n, h1, h2⟩
theorem lent_mem {ns : List Nat} {b : Addr} (h : b ∈ lent B ns) : b ∈ B := by
  obtain ⟨n, _, h2⟩ := lent_sub h
  exact List.mem_of_getElem? h2
theorem at_inj (nd : B.Nodup) {m n : Nat} {b : Addr} (h : B[m]? = some b) (h' : B[n]? = some b) : m = n := by
  obtain ⟨h1, e1⟩ := List.getElem?_eq_some_iff.mp h
  obtain ⟨h2, e2⟩ := List.getElem?_eq_some_iff.mp h'
  exact (List.getElem_inj nd).mp (e1.trans e2.symm)
theorem lent_nd (nd : B.Nodup) : ∀ {ns : List Nat}, ns.Nodup → (lent B ns).Nodup
  | [], _ => .nil
  | n :: ns, h => by
    have z := List.nodup_cons.mp h
    cases q : B[n]? with
    | none =>
      have : lent B (n :: ns) = lent B ns := by unfold lent; rw [List.filterMap_cons, q]
      rw [this]; exact lent_nd nd z.2
    | some b =>
      rw [lent_cons q]
      refine List.nodup_cons.mpr ⟨fun m => ?_, lent_nd nd z.2⟩
      obtain ⟨k, h1, h2⟩ := lent_sub m
      exact z.1 (at_inj nd q h2 ▸ h1)
def rest (B : List Addr) (ns : List Nat) (Z : List Addr) : List Addr := B.filter (fun b => !decide (b ∈ lent B ns)) ++ Z
theorem lent_all {ns : List Nat} {a : Addr} : a ∈ lent B ns ++ rest B ns Z ↔ a ∈ B ++ Z := by
  unfold rest
  constructor
  · intro m
    rcases List.mem_append.mp m with m | m
    · exact List.mem_append_left _ (lent_mem m)
    · rcases List.mem_append.mp m with m | m
      · exact List.mem_append_left _ (List.mem_filter.mp m).1
      · exact List.mem_append_right _ m
  · intro m
    rcases List.mem_append.mp m with m | m
    · by_cases h : a ∈ lent B ns
      · exact List.mem_append_left _ h
      · exact List.mem_append_right _ (List.mem_append_left _ (List.mem_filter.mpr ⟨m, by simp [h]⟩))
    · exact List.mem_append_right _ (List.mem_append_right _ m)
theorem SR.lent {ns : List Nat} {S T : Sto} (s : SR c H B Z S) (hn : ns.Nodup) (h : inS ns S = some T) : SR c H (lent B ns) (rest B ns Z) T := by
  obtain ⟨l1, l2, at_⟩ := lent_at s.len h
  refine ⟨by rw [l1, l2], lent_nd s.nd hn, fun z m => ?_, fun z m hz => ?_, fun i b o hb ho => ?_, s.tb⟩
  · rcases List.mem_append.mp m with m | m
    · exact s.kind (List.mem_filter.mp m).1
    · exact s.zt z m
  · rcases List.mem_append.mp m with m | m
    · have := (List.mem_filter.mp m).2; simp [hz] at this
    · exact s.zb z m (lent_mem hz)
  · have hi : i < ns.length := by rw [← l1]; exact (List.getElem?_eq_some_iff.mp hb).1
    obtain ⟨⟨b', q1, q2⟩, ds, q3, q4⟩ := at_ i _ (List.getElem?_eq_getElem hi)
    rw [hb] at q1; cases q1
    rw [ho] at q3; cases q3
    obtain ⟨xs, h1, h2⟩ := s.ob _ _ _ q2 q4
    exact ⟨xs, h1, h2.mono (fun _ _ h _ _ => h) fun a m => .inl (lent_all.mp m)⟩
theorem RI.lent {ns : List Nat} {S T : Sto} (s : SR c H B Z S) (h : inS ns S = some T) {i j : IV} {v : V} (r : RI c H B Z i v) (q : inA ns i = some j) : RI c H (lent B ns) (rest B ns Z) j v := by
  cases r with
  | d r => cases q; exact .d (r.mono (fun _ _ h _ _ => h) fun a m => .inl (lent_all.mp m))
  | ref hb =>
    rename_i n b
    have q : (if n ∈ ns then some (IV.ref (ns.idxOf n)) else none) = some j := q
    by_cases hm : n ∈ ns
    · rw [if_pos hm] at q
      cases q
      have hi := List.idxOf_lt_length_of_mem hm
      have e : ns[ns.idxOf n]? = some n := by rw [List.getElem?_eq_getElem hi, List.getElem_idxOf]
      obtain ⟨⟨b', q1, q2⟩, _⟩ := (lent_at s.len h).2.2 _ _ e
      rw [hb] at q2; cases q2
      exact .ref q1
    · rw [if_neg hm] at q; cases q
  | gl h => cases q; exact .gl h
  | tup => cases q
  | scr r hb => cases q; exact .scr r fun m => hb (lent_all.mp m)
  | scrK r => cases q; exact .scrK r
  | lam => cases q
  | clo hk h hb hc hcb cs r => cases q; exact .clo hk h (fun m => hb (lent_all.mp m)) hc (fun m => hcb (lent_all.mp m)) (cs.mono (fun _ _ h _ _ => h) fun a m => .inl (lent_all.mp m)) (r.mono (fun _ _ h _ _ => h) fun a m => .inl (lent_all.mp m))
  | exc hC h hb hd hdb r => cases q; exact .exc hC h (fun m => hb (lent_all.mp m)) hd (fun m => hdb (lent_all.mp m)) (r.mono (fun _ _ h _ _ => h) fun a m => .inl (lent_all.mp m))
theorem RIs.lent {ns : List Nat} {S T : Sto} (s : SR c H B Z S) (h : inS ns S = some T) : ∀ {is js : List IV} {vs : List V}, RIs c H B Z is vs → inAs ns is = some js → RIs c H (lent B ns) (rest B ns Z) js vs
  | _, _, _, .nil, q => by cases q; exact .nil
  | _, _, _, .cons r t, q => by
    unfold inAs at q
    split at q
    · rename_i h1 h2
      cases q
      exact .cons (r.lent s h h1) (RIs.lent s h t h2)
    · cases q
theorem Ev.lent {ns : List Nat} {B' : List Addr} (s : SR c H B Z S) (e : Ev (lent B ns) H B' H1) : Ev B H B H1 := by
  exact ⟨⟨[], by simp, fun _ h => by cases h⟩, fun a o h hb nt => e.keep a o h (fun m => hb (lent_mem m)) nt, fun b hb => e.there b (s.trk b hb), e.there⟩
theorem back_far {ns : List Nat} {B' : List Addr} (e : Ev (lent B ns) H B' H1) : ∀ a, a ∈ B ++ Z → a ∈ B' ++ rest B ns Z ∨ H1 a = none := fun a m => .inl (by
  obtain ⟨N, hN, _⟩ := e.pre
  rcases List.mem_append.mp (lent_all (ns := ns).mpr m) with m | m
  · exact List.mem_append_left _ (by rw [hN]; exact List.mem_append_left _ m)
  · exact List.mem_append_right _ m)
/-- what is written back, list by list -/
theorem outS_at : ∀ {ns : List Nat} {T S S' : Sto}, ns.Nodup → outS ns T S = some S' → S'.length = S.length ∧ ns.length ≤ T.length ∧ (∀ (i n : Nat), ns[i]? = some n → n < S.length → ∃ ds : List PyData, T[i]? = some (IO.lst ds) ∧ S'[n]? = some (IO.lst ds)) ∧ ∀ m, m ∉ ns → S'[m]? = S[m]?
  | [], T, S, S', _, h => by cases h; exact ⟨rfl, by simp, fun i n q => by simp at q, fun _ _ => rfl⟩
  | n :: ns, [], S, S', _, h => by cases h
  | n :: ns, .lsx _ :: T, S, S', _, h => by cases h
  | n :: ns, .dct _ :: T, S, S', _, h => by cases h
  | n :: ns, .dead :: T, S, S', _, h => by cases h
  | n :: ns, .lst ds :: T, S, S', hn, h => by
    have z := List.nodup_cons.mp hn
    obtain ⟨a1, a2, a3, a4⟩ := outS_at z.2 (S := S.set n (.lst ds)) h
    refine ⟨by rw [a1, List.length_set], by simp; exact a2, fun i m q hm => ?_, fun m hm => ?_⟩
    · cases i with
      | zero =>
        simp at q; subst q
        refine ⟨ds, rfl, ?_⟩
        rw [a4 n z.1, List.getElem?_set_self hm]
      | succ i => exact a3 i m (by simpa using q) (by rw [List.length_set]; exact hm)
    · rw [a4 m fun k => hm (List.mem_cons_of_mem _ k), List.getElem?_set_ne fun k => hm (by rw [k]; exact List.mem_cons_self)]
theorem SR.back {ns : List Nat} {S T T' S' : Sto} {B' : List Addr} (s : SR c H B Z S) (hn : ns.Nodup) (h : inS ns S = some T) (e : Ev (MI.lent B ns) H B' H1) (s1 : SR c H1 B' (rest B ns Z) T') (ho : outS ns T' S = some S') : SR c H1 B Z S' := by
  obtain ⟨a1, a2, a3, a4⟩ := outS_at hn ho
  obtain ⟨l1, l2, at_⟩ := lent_at s.len h
  have e1 := Ev.lent s e
  refine ⟨by rw [s.len, a1], s.nd, fun z m => kdKeep (s.zt z m) fun o h nt => e1.keep z o h (s.zb z m) nt, s.zb, fun n b o hb ho => ?_, s1.tb⟩
  · by_cases m : n ∈ ns
    · obtain ⟨i, hi⟩ := List.getElem?_of_mem m
      obtain ⟨⟨b', q1, q2⟩, _⟩ := at_ i n hi
      rw [hb] at q2; cases q2
      obtain ⟨ds, t1, t2⟩ := a3 i n hi (by rw [← s.len]; exact (List.getElem?_eq_some_iff.mp hb).1)
      rw [ho] at t2; cases t2
      have q3 : B'[i]? = some b := by
        obtain ⟨N, hN, _⟩ := e.pre
        rw [hN, List.getElem?_append_left (List.getElem?_eq_some_iff.mp q1).1]
        exact q1
      obtain ⟨xs, x1, x2⟩ := s1.ob i b _ q3 t1
      exact ⟨xs, x1, x2.mono (fun _ _ h _ _ => h) (back_far e)⟩
    · rw [a4 n m] at ho
      have r' := s.ob n b o hb ho
      have nb : b ∉ MI.lent B ns := fun k => by
        obtain ⟨k1, k2, k3⟩ := lent_sub k
        exact m (at_inj s.nd hb k3 ▸ k2)
      cases o with
      | lst ds => obtain ⟨xs, h1, h2⟩ := r'; exact ⟨xs, e.keep _ _ h1 nb ntL, h2.ev e1⟩
      | lsx ds => obtain ⟨xs, h1, h2⟩ := r'; exact ⟨xs, e.keep _ _ h1 nb ntL, h2.ev e1⟩
      | dct _ => obtain ⟨xs, h1, h2, h3⟩ := r'; exact ⟨xs, e.keep _ _ h1 nb ntD, h2, h3.ev e1⟩
      | dead => obtain ⟨xs, h1⟩ := r'; exact ⟨xs, e.keep _ _ h1 nb ntL⟩
mutual
theorem toD_rd {k : Nat} {T : Sto} {B' Z' : List Addr} {bd : List Addr} (s1 : SR c H1 B' Z' T) (hf : ∀ a, a ∈ bd → a ∈ B' ++ Z') (hk : ∀ i b, B'[i]? = some b → k ≤ i → b ∉ bd) : ∀ {v : IV} {d : PyData} {x : V}, toD k T v = some d → RI c H1 B' Z' v x → RD c.K H1 bd d x
  | .d y, d, x, h, r => by
    cases h
    cases r with
    | d r => exact r.mono (fun _ _ h _ _ => h) fun a m => .inl (hf a m)
  | .ref n, d, x, h, r => by
    unfold toD at h
    split at h
    · cases h
    · rename_i hn
      split at h
      · rename_i ds q
        cases h
        cases r with
        | ref hb =>
          obtain ⟨xs, h1, h2⟩ := s1.ob n _ _ hb q
          exact .lst h1 (hk n _ hb (by omega)) (h2.mono (fun _ _ h _ _ => h) fun a m => .inl (hf a m))
      · cases h
  | .tup vs, d, x, h, r => by
    unfold toD at h
    split at h
    · rename_i ds q
      cases h
      cases r with
      | tup h1 to hb t => exact .tup h1 to (fun m => hb (hf _ m)) (toDs_rd s1 hf hk q t)
    · cases h
  | .gl _, d, x, h, r => by simp [toD] at h
  | .scr _, d, x, h, r => by simp [toD] at h
  | .clo _ _, d, x, h, r => by simp [toD] at h
  | .exc _ _, d, x, h, r => by simp [toD] at h
  | .lam _, d, x, h, r => by simp [toD] at h
theorem toDs_rd {k : Nat} {T : Sto} {B' Z' : List Addr} {bd : List Addr} (s1 : SR c H1 B' Z' T) (hf : ∀ a, a ∈ bd → a ∈ B' ++ Z') (hk : ∀ i b, B'[i]? = some b → k ≤ i → b ∉ bd) : ∀ {v : List IV} {d : List PyData} {x : List V}, toDs k T v = some d → RIs c H1 B' Z' v x → RDs c.K H1 bd d x
  | [], d, x, h, r => by
    simp [toDs] at h
    subst h
    cases r
    exact .nil
  | v :: t, d, x, h, r => by
    unfold toDs at h
    split at h
    · rename_i h1 h2
      cases h
      cases r with
      | cons r1 r2 => exact .cons (toD_rd s1 hf hk h1 r1) (toDs_rd s1 hf hk h2 r2)
    · cases h
end
theorem fresh_of {ns : List Nat} {B' : List Addr} (s : SR c H B Z S) (e : Ev (lent B ns) H B' H1) (hl : (lent B ns).length = ns.length) : ∀ i b, B'[i]? = some b → ns.length ≤ i → b ∉ B ++ Z := fun i b hb hi m => by
  obtain ⟨N, hN, hn⟩ := e.pre
  rw [hN, List.getElem?_append_right (by omega)] at hb
  have z := hn b (List.mem_of_getElem? hb)
  rcases List.mem_append.mp m with m | m
  · exact s.trk b m z
  · exact kdNe (s.zt b m) z
theorem back_hf {ns : List Nat} {B' : List Addr} (e : Ev (MI.lent B ns) H B' H1) : ∀ a, a ∈ B ++ Z → a ∈ B' ++ rest B ns Z := fun a m => by
  obtain ⟨N, hN, _⟩ := e.pre
  rcases List.mem_append.mp (lent_all (ns := ns).mpr m) with m | m
  · exact List.mem_append_left _ (by rw [hN]; exact List.mem_append_left _ m)
  · exact List.mem_append_right _ m
section
variable {ns : List Nat} {S T T' S' : Sto} {B' : List Addr}
mutual
theorem RI.back (s : SR c H B Z S) (hn : ns.Nodup) (h : inS ns S = some T) (e : Ev (MI.lent B ns) H B' H1) (s1 : SR c H1 B' (rest B ns Z) T') : ∀ {v w : IV} {x : V}, outV ns T' v = some w → RI c H1 B' (rest B ns Z) v x → RI c H1 B Z w x
  | .d y, w, x, hv, r => by
    cases hv
    cases r with
    | d r => exact .d (r.mono (fun _ _ h _ _ => h) fun a m => .inl (back_hf e a m))
  | .ref n, w, x, hv, r => by
    obtain ⟨l1, l2, at_⟩ := lent_at s.len h
    cases r with
    | ref hb =>
      rename_i b
      unfold outV at hv
      cases hm : ns[n]? with
      | some m =>
        rw [hm] at hv
        cases hv
        obtain ⟨⟨b', q1, q2⟩, _⟩ := at_ n m hm
        have q3 : B'[n]? = some b' := by
          obtain ⟨N, hN, _⟩ := e.pre
          rw [hN, List.getElem?_append_left (List.getElem?_eq_some_iff.mp q1).1]
          exact q1
        rw [hb] at q3; cases q3
        exact .ref q2
      | none =>
        rw [hm] at hv
        obtain ⟨d, hd, rfl⟩ := Option.map_eq_some_iff.mp hv
        exact .d (toD_rd s1 (back_hf e) (fresh_of s e l1) hd (.ref hb))
  | .gl y, w, x, hv, r => by
    cases r with
    | gl h => cases hv; exact .gl h
  | .scr y, w, x, hv, r => by
    cases r with
    | scr r hb => cases hv; exact .scr r fun m => hb (back_hf e _ m)
    | scrK r => cases hv; exact .scrK r
  | .clo k vs, w, x, hv, r => by
    cases r with
    | clo hk h hb hc hcb cs r => cases hv; exact .clo hk h (fun m => hb (back_hf e _ m)) hc (fun m => hcb (back_hf e _ m)) (cs.mono (fun _ _ h _ _ => h) fun a m => .inl (back_hf e a m)) (r.mono (fun _ _ h _ _ => h) fun a m => .inl (back_hf e a m))
  | .exc n v, w, x, hv, r => by
    cases r with
    | exc hC h hb hd hdb r => cases hv; exact .exc hC h (fun m => hb (back_hf e _ m)) hd (fun m => hdb (back_hf e _ m)) (r.mono (fun _ _ h _ _ => h) fun a m => .inl (back_hf e a m))
  | .lam k, w, x, hv, r => by cases hv
  | .tup vs, w, x, hv, r => by
    obtain ⟨l1, l2, at_⟩ := lent_at s.len h
    unfold outV at hv
    split at hv
    · rename_i d hd
      cases hv
      exact .d (toD_rd s1 (back_hf e) (fresh_of s e l1) hd r)
    · obtain ⟨ws, hw, rfl⟩ := Option.map_eq_some_iff.mp hv
      cases r with
      | tup h2 to hb t => exact .tup h2 to (fun m => hb (back_hf e _ m)) (RIs.back s hn h e s1 hw t)
theorem RIs.back (s : SR c H B Z S) (hn : ns.Nodup) (h : inS ns S = some T) (e : Ev (MI.lent B ns) H B' H1) (s1 : SR c H1 B' (rest B ns Z) T') : ∀ {v w : List IV} {x : List V}, outVs ns T' v = some w → RIs c H1 B' (rest B ns Z) v x → RIs c H1 B Z w x
  | [], w, x, hv, r => by
    unfold outVs at hv
    cases hv
    cases r
    exact .nil
  | v :: t, w, x, hv, r => by
    unfold outVs at hv
    split at hv
    · rename_i h1 h2
      cases hv
      cases r with
      | cons r1 r2 => exact .cons (RI.back s hn h e s1 h1 r1) (RIs.back s hn h e s1 h2 r2)
    · cases hv
end
end

/-! ## a def's promise -/
structure FnG (P : Program) (w : World) (c : Ct) (base : Heap) (k : Nat) (f : Addr) (fd : FuncData) (ps : List Str) (g : FN) : Prop where
  run : ∀ (A : Around) (outer : List Env) (s : Shared) (H : Hp) (args : Args) (us : List Value) (vs : List V) (Q : VK) (E : XK) (B Z : List Addr) (S : Sto) (is : List IV), Room k A → A.guards = some [] → Env0 P w c.K c.mg base A outer s H → BindsTo s fd args (ps.zip us) → Vals vs us → vs.length = ps.length →
    SR c H B Z S → RIs c H B Z is vs → Post c (fun cls d _ H => E cls d H) B Z H [] (g is S) (fun v _ B' H' => ∀ x, RI c H' B' Z v x → Q x H') →
    codeAny (model P w) A (.call (.ref f) args) (CR (L2.CX P w) outer P w H s Q E) s
theorem FnG.mono {P : Program} {w : World} {base : Heap} {j k : Nat} {f : Addr} {fd : FuncData} {ps : List Str} {g : FN} (F : FnG P w c base j f fd ps g) (h : j ≤ k) : FnG P w c base k f fd ps g :=
  ⟨fun A outer s H args us vs Q E B Z S is hr => F.run A outer s H args us vs Q E B Z S is (hr.mono h)⟩
/-- the end of a body -/
def SOut.fin : SOut → Out IV
  | .nx _ S => .ok (.d .none) S
  | .ret v S => .ok v S
  | .exn n v _ S => .exn n v S
  | _ => .bad
def fnB (n : Nat) (fs : FS) : FN := fun is S => if is.length ≤ n then (fs (is.map some ++ List.replicate (n - is.length) none) S).fin else .bad
theorem RIs.at_ : ∀ {is : List IV} {vs : List V} {i : Nat} {v : IV}, RIs c H B Z is vs → is[i]? = some v → ∃ x, vs[i]? = some x ∧ RI c H B Z v x
  | _, _, _, _, .nil, q => by simp at q
  | _, _, 0, _, .cons h _, q => by simp at q; subst q; exact ⟨_, rfl, h⟩
  | _, _, i + 1, _, .cons _ t, q => by simpa using RIs.at_ (i := i) t (by simpa using q)
theorem rr_start {N : List Str} {is : List IV} {vs : List V} (r : RIs c H B Z is vs) (hl : is.length ≤ N.length) : RR c H B Z (is.map some ++ List.replicate (N.length - is.length) none) (L2.start N vs) := by
  unfold L2.start
  refine ⟨by simp [r.length], fun i v q => ?_⟩
  by_cases hi : i < is.length
  · rw [List.getElem?_append_left (by simpa using hi), List.getElem?_map] at q
    cases e : is[i]? with
    | none => rw [e] at q; cases q
    | some a =>
      rw [e] at q; cases q
      obtain ⟨x, h1, h2⟩ := r.at_ e
      refine ⟨x, ?_, h2⟩
      rw [List.getElem?_append_left (by simpa [← r.length] using hi), List.getElem?_map, h1] <;> rfl
  · rw [List.getElem?_append_right (by simpa using hi), List.getElem?_replicate] at q
    split at q <;> cases q
theorem fn_ofG {P : Program} {w : World} {base : Heap} {k : Nat} {f : Addr} {name qual : Str} {params : Arguments} {body : List Stmt} {scope : Scope} {dV kV doc pm cdv ct oc : Value} {an od : Option Addr} {osl : Array (Option Value)} {N ps : List Str} {fs : FS}
    (lk : c.K.lookup f = some ⟨oc, od, .func (PySem.W.fnOf name qual params body scope dV kV doc pm an cdv ct), osl⟩) (hcd : PySem.W.codeIn c.K cdv qual = true) (S : FnScope N ps scope)
    (hbody : ∀ (A : Around) (outer : List Env) (s : Shared) (H : Hp) (E : XK), Room k (A.deeper (PyProof.Rows.envOfC qual scope s.heap.objs.size f cdv)) → A.guards = some [] →
      PSs (cxOf (L2.CX P w) P w c.K c.mg base N qual scope f cdv A outer s H E) body (TSx c (fun cls d _ H => E cls d H) fs)) :
    FnG P w c base (k + 1) f (PySem.W.fnOf name qual params body scope dV kV doc pm an cdv ct) ps (fnB N.length fs) := by
  refine ⟨fun A outer s H args us vs Q E B Z S0 is hr hgu e0 hb rv hlen sr ri hp => ?_⟩
  have inH : c.K.In s.heap := e0.mod.kin.keeps fun b o e => (e0.bs b o e).1
  have noL : s.heap.NoLimit := e0.mod.nolimit.keeps fun b o e => (e0.bs b o e).1
  have kinds : ∀ y ∈ ps.zip us, scope.names.lookup y.1 = some .local ∨ (scope.names.lookup y.1 = some .cell ∧ ((cellsFrom (s.heap.objs.size + 1) scope.names []).lookup y.1).isSome = true) := fun ⟨n, v⟩ hy => by
    rcases S.par n (List.of_mem_zip hy).1 with q | q
    · exact .inl q
    · exact .inr ⟨q, PySem.W.cellsFrom_some _ _ _ (.inl q)⟩
  refine codeAny_call_function hr.depth (inH _ _ lk) rfl S.co S.gen rfl (PySem.W.codeRec_of inH hcd) (hb _ _ _ _ ?_)
  refine wpAny_newFunctionEnv_cells S.kind kinds fun env he s1 x => ?_
  subst he
  refine ⟨noL.keeps x.toInCall.keep, codeAny_func ?_⟩
  have I : Inv (cxOf (L2.CX P w) P w c.K c.mg base N qual scope f cdv A outer s H E) [] (L2.start N vs) H s1 := inv_start S hr.hd e0 hlen rv x
  unfold fnB at hp
  by_cases hle : is.length ≤ N.length
  · rw [if_pos hle] at hp
    have pr : TSx c (fun cls d _ H => E cls d H) fs { nx := fun _ H' => Q .non H', rt := Q } (L2.start N vs) H := by
      refine ⟨B, Z, _, S0, sr, rr_start ri hle, ?_⟩
      cases q : fs (is.map some ++ List.replicate (N.length - is.length) none) S0 with
      | nx r1 S1 =>
        rw [q] at hp
        exact fun σ1 B1 H1 e s _ => hp B1 H1 e s .non (.d .non)
      | ret v1 S1 =>
        rw [q] at hp
        exact fun x1 B1 H1 e s r => hp B1 H1 e s x1 r
      | exn n1 v1 r1 S1 =>
        rw [q] at hp
        exact fun cls d1 σ1 B1 H1 e s _ rx => hp cls d1 B1 H1 e s rx
      | brk r1 S1 => rw [q] at hp; exact hp.elim
      | ct r1 S1 => rw [q] at hp; exact hp.elim
      | bad => rw [q] at hp; exact hp.elim
    refine wpAny_mono ((hbody A outer s H E (hr.deeper _) hgu).run [] s1 (L2.start N vs) H _ I pr) (fun fl s2 hs => ?_) fun e s2 hs => hs
    have done : ∀ {σ' : St} {H' : Hp} {v : V} {u : Value}, Inv (cxOf (L2.CX P w) P w c.K c.mg base N qual scope f cdv A outer s H E) [] σ' H' s2 → RelV v u → Q v H' → CE outer P w H s Q u s2 :=
      fun {σ' H' v u} J r q => ⟨v, H', J.os, J.bare, J.base, J.hok, r, q⟩
    cases fl with
    | ret u => obtain ⟨v, σ', H', J, r, q⟩ := hs; exact done J r q
    | next => obtain ⟨σ', H', J, q⟩ := hs; exact done (v := V.non) (u := Value.none) J rfl q
    | brk => obtain ⟨_, _, _, q⟩ := hs; exact q.elim
    | cont => obtain ⟨_, _, _, q⟩ := hs; exact q.elim
  · rw [if_neg hle] at hp
    exact hp.elim
/-- the callee runs, in the caller's body -/
theorem run_fnG {k : Nat} {f : Addr} {fd : FuncData} {ps : List Str} {g : FN} {pins : List (Addr × Obj)} {s : Shared} {Q : VK} {us : List Value} {vs : List V} {S : Sto} {is : List IV} (hX : X.K = c.K) (hmg : X.mg = c.mg) (F : FnG X.prog X.w c X.base k f fd ps g) (hr : Room k X.A) (hgu : X.A.guards = some [])
    (hb : Binds X.K fd ps []) (tk : Takes X W) (hlen : is.length = ps.length) (I : Inv X pins σ H s) (rv : Vals vs us) (sr : SR c H B Z S) (ri : RIs c H B Z is vs)
    (hp : Post c W B Z H σ (g is S) fun v _ B' H' => ∀ x, RI c H' B' Z v x → Q x H') : wpAny (model X.prog X.w) X.A (call (.ref f) us) (EP X pins σ Q) X.xe s := by
  have hl : us.length = ps.length := by rw [← rv.length, ← ri.length, hlen]
  have bnd := hb s us I.kIn (by rw [List.append_nil]; exact hl)
  rw [List.append_nil] at bnd
  have en := I.env0
  rw [hX, hmg] at en
  have hp' : Post c (fun cls d _ H => W cls d σ H) B Z H [] (g is S) (fun v _ B' H' => ∀ x, RI c H' B' Z v x → Q x H') := by
    cases q : g is S with
    | ok v1 S1 => rw [q] at hp; exact hp
    | exn n1 v1 S1 => rw [q] at hp; exact hp
    | bad => rw [q] at hp; exact hp.elim
  refine wpAny_call (codeAny_mono (F.run X.A X.stack s H ⟨us, []⟩ us vs Q (WE W σ) B Z S is hr hgu en bnd rv (by rw [← ri.length, hlen]) sr ri hp') fun r s' hq => ?_)
  cases r with
  | error e => exact passAt tk σ pins H s e s' I hq
  | ok fl =>
    cases fl with
    | ret u => exact I.after hq
    | next => exact hq.elim
    | brk => exact hq.elim
    | cont => exact hq.elim
end
end MI
set_option maxRecDepth 100000
set_option maxHeartbeats 4000000
namespace MI
open PySem PySem.Spec L2

section
variable {c : Ct} {W : WX} {X : Cx} {B Z B1 : List Addr} {H H1 : Hp} {σ : L2.St} {α β : Type}
theorem RX.back {ns : List Nat} {B' : List Addr} {n : Str} {v : PyData} {cls : Value} {dd : Option Addr} (e : Ev (lent B ns) H B' H1) (x : RX c H1 (B' ++ rest B ns Z) n v cls dd) : RX c H1 (B ++ Z) n v cls dd := by
  obtain ⟨C, dx, y, a1, a2, a3, a4, a6, a5⟩ := x
  exact ⟨C, dx, y, a1, a2, a3, a4, far_out a4 a6 (back_far e), a5.mono (fun _ _ h _ _ => h) (back_far e)⟩
/-- how an answer is brought back -/
def BackOk (c : Ct) (bk : List Nat → Sto → Out IV → Out IV) : Prop := ∀ {W : WX} {B Z : List Addr} {H : Hp} {σ : L2.St} {S T : Sto} {ns : List Nat} {o : Out IV} {Q : VK}, SR c H B Z S → ns.Nodup → inS ns S = some T →
  Post c W B Z H σ (bk ns S o) (fun v S' B' H' => ∀ x, RI c H' B' Z v x → Q x H') → Post c W (lent B ns) (rest B ns Z) H σ o (fun v S' B' H' => ∀ x, RI c H' B' (rest B ns Z) v x → Q x H')
theorem back_exn {S T : Sto} {ns : List Nat} {n : Str} {v : PyData} {T' : Sto} {Q : IV → Sto → List Addr → Hp → Prop} {R : IV → Sto → List Addr → Hp → Prop} (s : SR c H B Z S) (hn : ns.Nodup) (h : inS ns S = some T)
    (p : Post c W B Z H σ (backW ns S (.exn n v T')) Q) : Post c W (lent B ns) (rest B ns Z) H σ (.exn n v T') R := by
  have p : Post c W B Z H σ (match outS ns T' S with
    | some S' => Out.exn n v S'
    | none => Out.bad) Q := p
  intro cls dd B' H' e s1 rx
  cases q : outS ns T' S with
  | none => rw [q] at p; exact p.elim
  | some S' =>
    rw [q] at p
    exact p cls dd B H' (e.lent s) (s.back hn h e s1 q) (RX.back e rx)
theorem backW_ok : BackOk c backW := by
  intro W B Z H σ S T ns o Q s hn h p
  cases o with
  | bad => exact p
  | exn n v T' => exact back_exn s hn h p
  | ok v T' =>
    have p : Post c W B Z H σ (match outS ns T' S, outV ns T' v with
      | some S', some w => Out.ok w S'
      | _, _ => Out.bad) (fun v S' B' H' => ∀ x, RI c H' B' Z v x → Q x H') := p
    intro B' H' e s1 x r
    cases q : outS ns T' S with
    | none => rw [q] at p; exact p.elim
    | some S' =>
      cases q2 : outV ns T' v with
      | none => rw [q, q2] at p; exact p.elim
      | some w =>
        rw [q, q2] at p
        exact p B H' (e.lent s) (s.back hn h e s1 q) x (r.back s hn h e s1 q2)
theorem backM_ok : BackOk c (fun ns S o => match o with
    | .exn n v T => backW ns S (.exn n v T)
    | o => backM ns S o) := by
  intro W B Z H σ S T ns o Q s hn h p
  cases o with
  | bad => exact p
  | exn n v T' => exact back_exn s hn h p
  | ok v T' =>
    intro B' H' e s1 x r
    cases r with
    | d r => exact (show False from p).elim
    | gl r => exact (show False from p).elim
    | tup r => exact (show False from p).elim
    | scr r => exact (show False from p).elim
    | scrK r => exact (show False from p).elim
    | lam => exact (show False from p).elim
    | clo => exact (show False from p).elim
    | exc => exact (show False from p).elim
    | ref hb =>
      rename_i n b
      have p : Post c W B Z H σ (match outS ns T' S, toD ns.length T' (.ref n) with
        | some S', some (.list ds) => Out.ok (.ref S'.length) (S' ++ [.lst ds])
        | _, _ => .bad) (fun v S' B' H' => ∀ x, RI c H' B' Z v x → Q x H') := p
      cases q : outS ns T' S with
      | none => rw [q] at p; exact p.elim
      | some S' =>
        rw [q] at p
        unfold toD at p
        by_cases hk : n < ns.length
        · rw [if_pos hk] at p; exact p.elim
        · rw [if_neg hk] at p
          cases q2 : T'[n]? with
          | none => rw [q2] at p; exact p.elim
          | some u =>
            cases u with
            | lsx _ => rw [q2] at p; exact p.elim
            | dct _ => rw [q2] at p; exact p.elim
            | dead => rw [q2] at p; exact p.elim
            | lst ds =>
              rw [q2] at p
              have p : Post c W B Z H σ (Out.ok (.ref S'.length) (S' ++ [.lst ds])) (fun v S' B' H' => ∀ x, RI c H' B' Z v x → Q x H') := p
              obtain ⟨a1, a2, a3, a4⟩ := outS_at hn q
              obtain ⟨l1, l2, at_⟩ := lent_at s.len h
              have hfr := fresh_of s e l1 n b hb (by omega)
              have hHb : H b = none := by
                obtain ⟨N, hN, hn'⟩ := e.pre
                rw [hN, List.getElem?_append_right (by omega)] at hb
                exact hn' b (List.mem_of_getElem? hb)
              have e0 := e.lent s
              have eB : Ev B H (B ++ [b]) H' := ⟨⟨[b], rfl, fun y m => by rw [List.mem_singleton.mp m]; exact hHb⟩, e0.keep, (fun y m => by
                rcases List.mem_append.mp m with m | m
                · exact e0.trk y m
                · rw [List.mem_singleton.mp m]; exact e.trk b (List.mem_of_getElem? hb)), e0.there⟩
              have far : ∀ a, a ∈ (B ++ [b]) ++ Z → a ∈ B' ++ rest B ns Z ∨ H' a = none := fun a m => by
                rcases List.mem_append.mp m with m | m
                · rcases List.mem_append.mp m with m | m
                  · exact back_far e a (List.mem_append_left _ m)
                  · rw [List.mem_singleton.mp m]; exact .inl (List.mem_append_left _ (List.mem_of_getElem? hb))
                · exact back_far e a (List.mem_append_right _ m)
              refine p (B ++ [b]) H' eB ?_ _ (.ref (by rw [a1, ← s.len]; simp))
              have s0 := s.back hn h e s1 q
              refine ⟨by rw [List.length_append, List.length_append, s0.len] <;> rfl, List.nodup_append.mpr ⟨s.nd, by simp, fun y hy z hz k => ?_⟩, s0.zt, fun z hz m => ?_, fun m y o hy ho => ?_, s0.tb⟩
              · rw [List.mem_singleton.mp hz] at k; exact hfr (List.mem_append_left _ (k ▸ hy))
              · rcases List.mem_append.mp m with m | m
                · exact s.zb z hz m
                · rw [List.mem_singleton.mp m] at hz; exact hfr (List.mem_append_right _ hz)
              · by_cases hm : m < S'.length
                · rw [List.getElem?_append_left (by rw [s0.len]; exact hm)] at hy
                  rw [List.getElem?_append_left hm] at ho
                  by_cases mem : m ∈ ns
                  · obtain ⟨i, hi⟩ := List.getElem?_of_mem mem
                    obtain ⟨⟨b', q1, q3⟩, _⟩ := at_ i m hi
                    rw [hy] at q3; cases q3
                    obtain ⟨ds', t1, t2⟩ := a3 i m hi (by rw [← a1]; exact hm)
                    rw [ho] at t2; cases t2
                    have q4 : B'[i]? = some y := by
                      obtain ⟨N, hN, _⟩ := e.pre
                      rw [hN, List.getElem?_append_left (List.getElem?_eq_some_iff.mp q1).1]
                      exact q1
                    obtain ⟨xs, x1, x2⟩ := s1.ob i y _ q4 t1
                    exact ⟨xs, x1, x2.mono (fun _ _ h _ _ => h) far⟩
                  · rw [a4 m mem] at ho
                    have r' := s.ob m y o hy ho
                    have nb : y ∉ lent B ns := fun k => by
                      obtain ⟨k1, k2, k3⟩ := lent_sub k
                      exact mem (at_inj s.nd hy k3 ▸ k2)
                    cases o with
                    | lst ds => obtain ⟨xs, h1, h2⟩ := r'; exact ⟨xs, e.keep _ _ h1 nb ntL, h2.ev eB⟩
                    | lsx ds => obtain ⟨xs, h1, h2⟩ := r'; exact ⟨xs, e.keep _ _ h1 nb ntL, h2.ev eB⟩
                    | dct _ => obtain ⟨xs, h1, h2, h3⟩ := r'; exact ⟨xs, e.keep _ _ h1 nb ntD, h2, h3.ev eB⟩
                    | dead => obtain ⟨xs, h1⟩ := r'; exact ⟨xs, e.keep _ _ h1 nb ntL⟩
                · have hl := (List.getElem?_eq_some_iff.mp ho).1
                  rw [List.length_append] at hl
                  have en : m = S'.length := by simp at hl; omega
                  subst en
                  rw [List.getElem?_append_right (Nat.le_refl _)] at ho
                  rw [← s0.len, List.getElem?_append_right (Nat.le_refl _)] at hy
                  simp at ho hy
                  subst ho hy
                  obtain ⟨xs, x1, x2⟩ := s1.ob n b _ hb q2
                  exact ⟨xs, x1, x2.mono (fun _ _ h _ _ => h) far⟩
@[simp] def backN (ns : List Nat) (S : Sto) (o : Out IV) : Out IV := match o with
    | .exn n v T => backW ns S (.exn n v T)
    | o => backM ns S o
/-- f(..): n arguments -/
@[simp] def callN (n : Nat) (g : FN) : FN := fun is S => if is.length = n then callW backW g is S else .bad
/-- the same, the answer being a list to be changed -/
@[simp] def callNM (n : Nat) (g : FN) : FN := fun is S => if is.length = n then callW backN g is S else .bad
@[simp] def eApp (o : FN) (fa : FA) : FE := fun r S => (fa r S).bind o
theorem call_fn {k n : Nat} {f : Addr} {fd : FuncData} {ps : List Str} {g : FN} {bk : List Nat → Sto → Out IV → Out IV} {pins : List (Addr × Obj)} {s : Shared} {Q : VK} {us : List Value} {vs : List V} {S : Sto} {is : List IV} (hbk : BackOk c bk) (hX : X.K = c.K) (hmg : X.mg = c.mg)
    (F : FnG X.prog X.w c X.base k f fd ps g) (hr : Room k X.A) (hgu : X.A.guards = some []) (hb : Binds X.K fd ps []) (tk : Takes X W) (hlen : is.length = ps.length) (I : Inv X pins σ H s) (rv : Vals vs us) (sr : SR c H B Z S) (ri : RIs c H B Z is vs)
    (hp : Post c W B Z H σ (callW bk g is S) fun v _ B' H' => ∀ x, RI c H' B' Z v x → Q x H') : wpAny (model X.prog X.w) X.A (call (.ref f) us) (EP X pins σ Q) X.xe s := by
  unfold callW at hp
  cases q1 : inAs (brw is) is with
  | none => rw [q1] at hp; exact hp.elim
  | some js =>
    cases q2 : inS (brw is) S with
    | none => rw [q1, q2] at hp; exact hp.elim
    | some T =>
      rw [q1, q2] at hp
      have hj : js.length = ps.length := by
        rw [← hlen, (ri.lent sr q2 q1).length, ri.length]
      exact run_fnG hX hmg F hr hgu hb tk hj I rv (sr.lent (brw_nd is) q2) (ri.lent sr q2 q1) (hbk sr (brw_nd is) q2 hp)
/-- the reading of an application -/
def TApp (c : Ct) (W : WX) (o : FN) (t : TA) : TE := fun σ H Q => t σ H fun vs H1 => ∃ B Z S is, SR c H1 B Z S ∧ RIs c H1 B Z is vs ∧ Post c W B Z H1 σ (o is S) fun v _ B' H' => ∀ x, RI c H' B' Z v x → Q x H'
theorem app_of {o : FN} {fa : FA} {Q : VK} (h : TEx c W (eApp o fa) σ H Q) : TApp c W o (TAx c W fa) σ H Q := by
  obtain ⟨B, Z, r, S, s, rr, p⟩ := h
  exact ⟨B, Z, r, S, s, rr, (Post.bind p).imp fun is S1 B1 H1 e1 s1 q vs rv => ⟨B1, Z, S1, is, s1, rv, q⟩⟩
/-- what is the same at every call of one body -/
structure Cxg (c : Ct) (W : WX) (X : Cx) : Prop where
  K : X.K = c.K
  mg : X.mg = c.mg
  gu : X.A.guards = some []
  tk : Takes X W
theorem s_callB {k n : Nat} {f : Addr} {fd : FuncData} {ps : List Str} {g : FN} {bk : List Nat → Sto → Out IV → Out IV} {x : Str} {p pos : Pos} {e : Expr} {es : List Expr} {fa : FA} (hbk : BackOk c bk) (cx : Cxg c W X) (F : FnG X.prog X.w c X.base k f fd ps g) (hr : Room k X.A)
    (hg : Gl X x) (hm : X.mg x = some (.ref f)) (hk : PySem.W.keepIn X.K (.ref f) = true) (hb : Binds X.K fd ps []) (hn : n = ps.length) (ha : PA X (e :: es) (TAx c W fa)) (hdb : (x == ("__debug__" : Str)) = false := by decide)
    (he : starEach (e :: es) X.env = (false, eval e X.env) :: starEach es X.env := by rfl) (hpl : (backTo pos (starEach es X.env)).any (·.1) = false := by rfl) :
    PE X (.Call (.Name x p) (e :: es) [] pos) (TEx c W (eApp (fun is S => if is.length = n then callW bk g is S else .bad) fa)) := by
  refine pe_imp (t := TApp c W (fun is S => if is.length = n then callW bk g is S else .bad) (TAx c W fa)) ⟨fun pins s σ H Q I h => ?_⟩ fun _ _ _ => app_of
  refine wpAny_Call_Name_kw (ld_glob I hg hm ?_ hdb)
  refine PySem.W.callWith_K (h₀ := X.base) I.ok.mod.kin hk (thn (ha.run pos pins s σ H _ I h) fun us s1 ⟨vs, H1, I1, r, B, Z, S, is, sr, ri, hp⟩ => ⟨I1.kIn, ?_⟩) he hpl
  dsimp only at hp
  by_cases hl : is.length = n
  · rw [if_pos hl] at hp
    exact call_fn (n := n) hbk cx.K cx.mg F hr cx.gu hb cx.tk (hl.trans hn) I1 r sr ri hp
  · rw [if_neg hl] at hp
    exact hp.elim
theorem s_call {k n : Nat} {f : Addr} {fd : FuncData} {ps : List Str} {g : FN} {x : Str} {p pos : Pos} {e : Expr} {es : List Expr} {fa : FA} (cx : Cxg c W X) (F : FnG X.prog X.w c X.base k f fd ps g) (hr : Room k X.A)
    (hg : Gl X x) (hm : X.mg x = some (.ref f)) (hk : PySem.W.keepIn X.K (.ref f) = true) (hb : Binds X.K fd ps []) (hn : n = ps.length) (ha : PA X (e :: es) (TAx c W fa)) (hdb : (x == ("__debug__" : Str)) = false := by decide)
    (he : starEach (e :: es) X.env = (false, eval e X.env) :: starEach es X.env := by rfl) (hpl : (backTo pos (starEach es X.env)).any (·.1) = false := by rfl) :
    PE X (.Call (.Name x p) (e :: es) [] pos) (TEx c W (eApp (callN n g) fa)) := s_callB backW_ok cx F hr hg hm hk hb hn ha hdb he hpl
theorem s_callM {k n : Nat} {f : Addr} {fd : FuncData} {ps : List Str} {g : FN} {x : Str} {p pos : Pos} {e : Expr} {es : List Expr} {fa : FA} (cx : Cxg c W X) (F : FnG X.prog X.w c X.base k f fd ps g) (hr : Room k X.A)
    (hg : Gl X x) (hm : X.mg x = some (.ref f)) (hk : PySem.W.keepIn X.K (.ref f) = true) (hb : Binds X.K fd ps []) (hn : n = ps.length) (ha : PA X (e :: es) (TAx c W fa)) (hdb : (x == ("__debug__" : Str)) = false := by decide)
    (he : starEach (e :: es) X.env = (false, eval e X.env) :: starEach es X.env := by rfl) (hpl : (backTo pos (starEach es X.env)).any (·.1) = false := by rfl) :
    PE X (.Call (.Name x p) (e :: es) [] pos) (TEx c W (eApp (callNM n g) fa)) := s_callB backM_ok cx F hr hg hm hk hb hn ha hdb he hpl
/-- built-ins: what the rule asks, from the reading -/
def OkN (c : Ct) (W : WX) (r : List V → Hp → VK → Prop) (o : FN) : Prop := ∀ {σ : L2.St} {B Z : List Addr} {H : Hp} {S : Sto} {is : List IV} {vs : List V} {Q : VK}, SR c H B Z S → RIs c H B Z is vs → Post c W B Z H σ (o is S) (fun v S' B' H' => ∀ x, RI c H' B' Z v x → Q x H') → r vs H Q
theorem cb_of {o : FN} {fa : FA} {Q : VK} {r : List V → Hp → VK → Prop} (k : OkN c W r o) (h : TEx c W (eApp o fa) σ H Q) : tCB r (TAx c W fa) σ H Q := by
  obtain ⟨B, Z, r', S, s, rr, p⟩ := h
  exact ⟨B, Z, r', S, s, rr, (Post.bind p).imp fun is S1 B1 H1 e1 s1 q vs rv => k s1 rv q⟩
section
variable {x : Str} {p pos : Pos} {e : Expr} {es : List Expr} {fa : FA} {o : FN} {id T : String} {r : List V → Hp → VK → Prop}
theorem s_blt (k : OkN c W r o) (hc : CallR X (.builtin id) r) (hg : Gl X x) (hm : X.mg x = none) (hv : bootBuiltins x = some (.builtin id)) (ha : PA X (e :: es) (TAx c W fa)) (hn : x ≠ "__name__" := by decide) (hdb : (x == ("__debug__" : Str)) = false := by decide)
    (he : starEach (e :: es) X.env = (false, eval e X.env) :: starEach es X.env := by rfl) (hpl : (backTo pos (starEach es X.env)).any (·.1) = false := by rfl) : PE X (.Call (.Name x p) (e :: es) [] pos) (TEx c W (eApp o fa)) :=
  pe_imp (pe_callB hc hg hm hv ha hn hdb he hpl) fun _ _ _ => cb_of k
theorem s_bty (k : OkN c W r o) (hc : CallR X (.type T) r) (hg : Gl X x) (hm : X.mg x = none) (hv : bootBuiltins x = some (.type T)) (ha : PA X (e :: es) (TAx c W fa)) (hn : x ≠ "__name__" := by decide) (hdb : (x == ("__debug__" : Str)) = false := by decide)
    (he : starEach (e :: es) X.env = (false, eval e X.env) :: starEach es X.env := by rfl) (hpl : (backTo pos (starEach es X.env)).any (·.1) = false := by rfl) : PE X (.Call (.Name x p) (e :: es) [] pos) (TEx c W (eApp o fa)) :=
  pe_imp (pe_callTy hc hg hm hv ha hn hdb he hpl) fun _ _ _ => cb_of k
end
end
end MI
set_option maxRecDepth 100000
set_option maxHeartbeats 4000000
namespace MI
open PySem PySem.Spec L2

section
variable {c : Ct} {W : WX} {X : Cx} {B Z B1 : List Addr} {H H1 : Hp} {σ : L2.St} {α β : Type}
theorem ris1 {v : IV} {vs : List V} (r : RIs c H B Z [v] vs) : ∃ x, vs = [x] ∧ RI c H B Z v x := by
  cases r with
  | cons h t => cases t; exact ⟨_, rfl, h⟩
theorem ris2 {v w : IV} {vs : List V} (r : RIs c H B Z [v, w] vs) : ∃ x y, vs = [x, y] ∧ RI c H B Z v x ∧ RI c H B Z w y := by
  cases r with
  | cons h t =>
    obtain ⟨y, rfl, k⟩ := ris1 t
    exact ⟨_, y, rfl, h, k⟩
/-- what is in a list -/
@[simp] def lstOf (S : Sto) : IV → Option (List PyData)
  | .d (.list ds) => some ds
  | .scr ns => some (ns.map .int)
  | .ref n => match S[n]? with
    | some (.lst ds) => some ds
    | _ => none
  | _ => none
@[simp] def tupOf : IV → Option (List PyData)
  | .d (.tuple ds) => some ds
  | _ => none
theorem lstOf_sq {S : Sto} {v : IV} {x : V} {ds : List PyData} (s : SR c H B Z S) (r : RI c H B Z v x) (h : lstOf S v = some ds) : ∃ p xs, x = .ref p ∧ SqL c.K H p xs ∧ RDs c.K H (B ++ Z) ds xs := by
  cases r with
  | d r =>
    cases r with
    | lst h1 hb t => cases h; exact ⟨_, _, rfl, .of h1, t⟩
    | non => cases h
    | bl => cases h
    | int => cases h
    | str => cases h
    | tup => cases h
    | tupK => cases h
    | dct => cases h
  | ref hb =>
    rename_i n b
    have h : (match S[n]? with
      | some (IO.lst ds) => some ds
      | _ => none) = some ds := h
    cases q : S[n]? with
    | none => rw [q] at h; cases h
    | some o =>
      cases o with
      | lst es => rw [q] at h; cases h; obtain ⟨xs, h1, h2⟩ := s.ob n b _ hb q; exact ⟨b, xs, rfl, .of h1, h2⟩
      | lsx es => rw [q] at h; cases h
      | dct es => rw [q] at h; cases h
      | dead => rw [q] at h; cases h
  | gl => cases h
  | lam => cases h
  | clo => cases h
  | exc => cases h
  | tup => cases h
  | scr h1 hb =>
    cases h
    obtain ⟨a, e, q⟩ := RI.scrS (.scr h1 hb)
    cases e
    exact ⟨_, _, rfl, q, rds_ints _⟩
  | scrK h1 =>
    cases h
    obtain ⟨a, e, q⟩ := RI.scrS (B := B) (Z := Z) (H := H) (.scrK h1)
    cases e
    exact ⟨_, _, rfl, q, rds_ints _⟩
theorem tupOf_sq {v : IV} {x : V} {ds : List PyData} (r : RI c H B Z v x) (h : tupOf v = some ds) : ∃ p xs, x = .ref p ∧ SqT c.K H p xs ∧ RDs c.K H (B ++ Z) ds xs := by
  cases r with
  | d r =>
    cases r with
    | tup h1 to hb t => cases h; exact ⟨_, _, rfl, sqF h1, t⟩
    | tupK h1 nd t => cases h; exact ⟨_, _, rfl, .inr h1, t⟩
    | non => cases h
    | bl => cases h
    | int => cases h
    | str => cases h
    | lst => cases h
    | dct => cases h
  | ref => cases h
  | gl => cases h
  | tup => cases h
  | scr => cases h
  | scrK => cases h
  | lam => cases h
  | clo => cases h
  | exc => cases h
@[simp] def seqOf (S : Sto) (v : IV) : Option (List PyData) := match lstOf S v with
  | some ds => some ds
  | none => tupOf v
theorem seqOf_sq {S : Sto} {v : IV} {x : V} {ds : List PyData} (s : SR c H B Z S) (r : RI c H B Z v x) (h : seqOf S v = some ds) : ∃ p xs, x = .ref p ∧ (SqL c.K H p xs ∨ SqT c.K H p xs) ∧ RDs c.K H (B ++ Z) ds xs := by
  unfold seqOf at h
  cases q : lstOf S v with
  | some es =>
    rw [q] at h; cases h
    obtain ⟨p, xs, a1, a2, a3⟩ := lstOf_sq s r q
    exact ⟨p, xs, a1, .inl a2, a3⟩
  | none =>
    rw [q] at h
    obtain ⟨p, xs, a1, a2, a3⟩ := tupOf_sq r h
    exact ⟨p, xs, a1, .inr a2, a3⟩
/-! ### len, int, abs, min, max -/
@[simp] def lenOf (S : Sto) : IV → Option Nat
  | .d (.str x) => if x.length ≤ sizeLine then some x.length else none
  | .tup vs => some vs.length
  | .ref n => match S[n]? with
    | some (.lst ds) => some ds.length
    | some (.lsx ds) => some ds.length
    | _ => none
  | v => (seqOf S v).map List.length
@[simp] def bLen : FN := fun is S => match is with
  | [v] => match lenOf S v with
    | some n => .ok (.d (.int n)) S
    | none => .bad
  | _ => .bad
theorem lenOf_v {S : Sto} {v : IV} {x : V} {n : Nat} (s : SR c H B Z S) (r : RI c H B Z v x) (h : lenOf S v = some n) : LenV c.K x H n := by
  have seq : (seqOf S v).map List.length = some n → LenV c.K x H n := fun q => by
    obtain ⟨ds, h1, rfl⟩ := Option.map_eq_some_iff.mp q
    obtain ⟨p, xs, rfl, h2, h3⟩ := seqOf_sq s r h1
    rw [h3.length]
    rcases h2 with h2 | h2
    · exact .inl ⟨xs, h2, rfl⟩
    · exact .inr ⟨xs, h2, rfl⟩
  cases r with
  | d r =>
    cases r with
    | str y =>
      unfold lenOf at h
      split at h <;> try (rename_i hx; cases hx)
      · split at h
        · cases h; exact ⟨by assumption, rfl⟩
        · cases h
      · rename_i h1 _ _; exact (h1 y rfl).elim
    | non => exact seq h
    | bl => exact seq h
    | int => exact seq h
    | lst => exact seq h
    | tup => exact seq h
    | tupK => exact seq h
    | dct => exact seq h
  | ref hb =>
    rename_i k b
    have h : (match S[k]? with
      | some (IO.lst ds) => some ds.length
      | some (IO.lsx ds) => some ds.length
      | _ => none) = some n := h
    cases q : S[k]? with
    | none => rw [q] at h; cases h
    | some o =>
      have ob := s.ob k b _ hb q
      cases o with
      | lst es => rw [q] at h; cases h; obtain ⟨xs, h1, h2⟩ := ob; exact .inl ⟨xs, .of h1, h2.length⟩
      | lsx es => rw [q] at h; cases h; obtain ⟨xs, h1, h2⟩ := ob; exact .inl ⟨xs, .of h1, h2.length⟩
      | dct es => rw [q] at h; cases h
      | dead => rw [q] at h; cases h
  | gl => cases h
  | lam => cases h
  | clo => cases h
  | exc => cases h
  | tup h1 to hb t => cases h; exact .inr ⟨_, sqF h1, t.length⟩
  | scr h1 hb => exact seq h
  | scrK h1 => exact seq h
theorem k_len : OkN c W (fun xs H Q => ∃ x n, xs = [x] ∧ LenV c.K x H n ∧ Q (.int n) H) bLen := by
  intro σ B Z H S is vs Q s r p
  unfold bLen at p
  split at p
  · obtain ⟨x, rfl, rx⟩ := ris1 r
    split at p
    · rename_i n hn
      exact ⟨x, n, rfl, lenOf_v s rx hn, p.ret s _ (.d (.int _))⟩
    · exact p.elim
  · exact p.elim
@[simp] def bInt : FN := fun is S => match is with
  | [.d (.int i)] => .ok (.d (.int i)) S
  | [.d (.bool b)] => .ok (.d (.int (if b then 1 else 0))) S
  | _ => .bad
theorem k_toint : OkN c W (fun xs H Q => (∃ i, xs = [.int i] ∧ Q (.int i) H) ∨ ∃ k, xs = [.bl k] ∧ Q (.int (if k then 1 else 0)) H) bInt := by
  intro σ B Z H S is vs Q s r p
  unfold bInt at p
  split at p
  · obtain ⟨x, rfl, rx⟩ := ris1 r
    cases rx with | d rx => cases rx; exact .inl ⟨_, rfl, p.ret s _ (.d (.int _))⟩
  · obtain ⟨x, rfl, rx⟩ := ris1 r
    cases rx with | d rx => cases rx; exact .inr ⟨_, rfl, p.ret s _ (.d (.int _))⟩
  · exact p.elim
@[simp] def bAbs : FN := fun is S => match is with
  | [.d (.int i)] => .ok (.d (.int (if i < 0 then -i else i))) S
  | _ => .bad
theorem k_abs : OkN c W (fun xs H Q => ∃ i, xs = [.int i] ∧ Q (.int (if i < 0 then -i else i)) H) bAbs := by
  intro σ B Z H S is vs Q s r p
  unfold bAbs at p
  split at p
  · obtain ⟨x, rfl, rx⟩ := ris1 r
    cases rx with | d rx => cases rx; exact ⟨_, rfl, p.ret s _ (.d (.int _))⟩
  · exact p.elim
@[simp] def bMax2 : FN := fun is S => match is with
  | [.d (.int i), .d (.int j)] => .ok (.d (.int (if j > i then j else i))) S
  | _ => .bad
theorem k_max2 : OkN c W (fun xs H Q => ∃ i j, xs = [.int i, .int j] ∧ Q (.int (if j > i then j else i)) H) bMax2 := by
  intro σ B Z H S is vs Q s r p
  unfold bMax2 at p
  split at p
  · obtain ⟨x, y, rfl, rx, ry⟩ := ris2 r
    cases rx with | d rx => cases rx; cases ry with | d ry => cases ry; exact ⟨_, _, rfl, p.ret s _ (.d (.int _))⟩
  · exact p.elim
@[simp] def bMin2 : FN := fun is S => match is with
  | [.d (.int i), .d (.int j)] => .ok (.d (.int (if j < i then j else i))) S
  | _ => .bad
theorem k_min2 : OkN c W (fun xs H Q => ∃ i j, xs = [.int i, .int j] ∧ Q (.int (if j < i then j else i)) H) bMin2 := by
  intro σ B Z H S is vs Q s r p
  unfold bMin2 at p
  split at p
  · obtain ⟨x, y, rfl, rx, ry⟩ := ris2 r
    cases rx with | d rx => cases rx; cases ry with | d ry => cases ry; exact ⟨_, _, rfl, p.ret s _ (.d (.int _))⟩
  · exact p.elim
/-! ### over lists of ints, of bools -/
def intsOf : List PyData → Option (List Int)
  | [] => some []
  | .int i :: t => match intsOf t with
    | some r => some (i :: r)
    | none => none
  | _ => none
theorem intsOf_eq : ∀ {ds : List PyData} {ns : List Int}, intsOf ds = some ns → ds = ns.map .int
  | [], ns, h => by cases h; rfl
  | d :: ds, ns, h => by
    cases d <;> try (cases h)
    rename_i i
    have h : (match intsOf ds with
      | some r => some (i :: r)
      | none => none) = some ns := h
    cases q : intsOf ds with
    | none => rw [q] at h; cases h
    | some r => rw [q] at h; cases h; rw [intsOf_eq q] <;> rfl
theorem intsOf_map : ∀ ns : List Int, intsOf (ns.map .int) = some ns
  | [] => rfl
  | n :: ns => by show (match intsOf (ns.map .int) with
      | some r => some (n :: r)
      | none => none) = _; rw [intsOf_map ns]
def boolsOf : List PyData → Option (List Bool)
  | [] => some []
  | .bool i :: t => match boolsOf t with
    | some r => some (i :: r)
    | none => none
  | _ => none
theorem boolsOf_eq : ∀ {ds : List PyData} {ns : List Bool}, boolsOf ds = some ns → ds = ns.map .bool
  | [], ns, h => by cases h; rfl
  | d :: ds, ns, h => by
    cases d <;> try (cases h)
    rename_i i
    have h : (match boolsOf ds with
      | some r => some (i :: r)
      | none => none) = some ns := h
    cases q : boolsOf ds with
    | none => rw [q] at h; cases h
    | some r => rw [q] at h; cases h; rw [boolsOf_eq q] <;> rfl
theorem boolsOf_map : ∀ ns : List Bool, boolsOf (ns.map .bool) = some ns
  | [] => rfl
  | n :: ns => by show (match boolsOf (ns.map .bool) with
      | some r => some (n :: r)
      | none => none) = _; rw [boolsOf_map ns]
/-- the ints of a list -/
@[simp] def lintsOf (S : Sto) (v : IV) : Option (List Int) := match lstOf S v with
  | some ds => intsOf ds
  | none => none
theorem lintsOf_sq {S : Sto} {v : IV} {x : V} {ns : List Int} (s : SR c H B Z S) (r : RI c H B Z v x) (h : lintsOf S v = some ns) : ∃ p, x = .ref p ∧ SqL c.K H p (ns.map V.int) := by
  unfold lintsOf at h
  cases q : lstOf S v with
  | none => rw [q] at h; cases h
  | some ds =>
    rw [q] at h
    obtain ⟨p, xs, rfl, h1, h2⟩ := lstOf_sq s r q
    rw [intsOf_eq h] at h2
    rw [h2.ints] at h1
    exact ⟨p, rfl, h1⟩
@[simp] def lboolsOf (S : Sto) (v : IV) : Option (List Bool) := match lstOf S v with
  | some ds => boolsOf ds
  | none => none
theorem lboolsOf_sq {S : Sto} {v : IV} {x : V} {ns : List Bool} (s : SR c H B Z S) (r : RI c H B Z v x) (h : lboolsOf S v = some ns) : ∃ p, x = .ref p ∧ SqL c.K H p (ns.map V.bl) := by
  unfold lboolsOf at h
  cases q : lstOf S v with
  | none => rw [q] at h; cases h
  | some ds =>
    rw [q] at h
    obtain ⟨p, xs, rfl, h1, h2⟩ := lstOf_sq s r q
    rw [boolsOf_eq h] at h2
    rw [h2.bools] at h1
    exact ⟨p, rfl, h1⟩
@[simp] def bSum : FN := fun is S => match is with
  | [v] => match lintsOf S v with
    | some ns => .ok (.d (.int ns.sum)) S
    | none => .bad
  | _ => .bad
theorem k_sum : OkN c W (rSum c.K) bSum := by
  intro σ B Z H S is vs Q s r p
  unfold bSum at p
  split at p
  · obtain ⟨x, rfl, rx⟩ := ris1 r
    split at p
    · rename_i ns hn
      obtain ⟨a, rfl, h1⟩ := lintsOf_sq s rx hn
      exact ⟨a, ns, rfl, h1, p.ret s _ (.d (.int _))⟩
    · exact p.elim
  · exact p.elim
@[simp] def bAll : FN := fun is S => match is with
  | [v] => match lboolsOf S v with
    | some ns => .ok (.d (.bool (ns.all id))) S
    | none => .bad
  | _ => .bad
theorem k_all : OkN c W (rAll c.K) bAll := by
  intro σ B Z H S is vs Q s r p
  unfold bAll at p
  split at p
  · obtain ⟨x, rfl, rx⟩ := ris1 r
    split at p
    · rename_i ns hn
      obtain ⟨a, rfl, h1⟩ := lboolsOf_sq s rx hn
      exact ⟨a, ns, rfl, h1, p.ret s _ (.d (.bl _))⟩
    · exact p.elim
  · exact p.elim
@[simp] def bAny : FN := fun is S => match is with
  | [v] => match lboolsOf S v with
    | some ns => .ok (.d (.bool (ns.any id))) S
    | none => .bad
  | _ => .bad
theorem k_any : OkN c W (rAny c.K) bAny := by
  intro σ B Z H S is vs Q s r p
  unfold bAny at p
  split at p
  · obtain ⟨x, rfl, rx⟩ := ris1 r
    split at p
    · rename_i ns hn
      obtain ⟨a, rfl, h1⟩ := lboolsOf_sq s rx hn
      exact ⟨a, ns, rfl, h1, p.ret s _ (.d (.bl _))⟩
    · exact p.elim
  · exact p.elim
/-! ### new lists, new tuples -/
theorem new_list {S : Sto} {ds : List PyData} {xs : List V} {Q : VK} {p : Addr} (s : SR c H B Z S) (r : RDs c.K H (B ++ Z) ds xs) (hp : H p = none) (q : Post c W B Z H σ (.ok (.d (.list ds)) S) (fun v S' B' H' => ∀ x, RI c H' B' Z v x → Q x H')) : Q (.ref p) (upd H p (.lst xs)) := by
  have e := Ev.new (o := HO.lst xs) s hp
  exact q B _ e (s.new hp) _ (.d (.lst upd_same (s.out hp) (r.ev e)))
theorem new_listM {S : Sto} {ds : List PyData} {xs : List V} {Q : VK} {p : Addr} (s : SR c H B Z S) (r : RDs c.K H (B ++ Z) ds xs) (hp : H p = none) (q : Post c W B Z H σ (.ok (.ref S.length) (S ++ [.lst ds])) (fun v S' B' H' => ∀ x, RI c H' B' Z v x → Q x H')) : Q (.ref p) (upd H p (.lst xs)) := by
  have e := Ev.push (o := HO.lst xs) s hp
  exact q (B ++ [p]) _ e (s.push hp ⟨xs, upd_same, r.ev e⟩) _ (.ref (by rw [← s.len]; simp))
theorem new_tup {S : Sto} {ds : List PyData} {xs : List V} {Q : VK} {p : Addr} {o : Obj} (s : SR c H B Z S) (r : RDs c.K H (B ++ Z) ds xs) (hp : H p = none) (to : TupO o) (q : Post c W B Z H σ (.ok (.d (.tuple ds)) S) (fun v S' B' H' => ∀ x, RI c H' B' Z v x → Q x H')) : Q (.ref p) (upd H p (.frz o (.tup xs))) := by
  have e := Ev.new (o := HO.frz o (.tup xs)) s hp
  exact q B _ e (s.new hp) _ (.d (.tup upd_same to (s.out hp) (r.ev e)))
@[simp] def bList : FN := fun is S => match is with
  | [v] => match seqOf S v with
    | some ds => .ok (.d (.list ds)) S
    | none => .bad
  | _ => .bad
@[simp] def bListM : FN := fun is S => match is with
  | [v] => match seqOf S v with
    | some ds => .ok (.ref S.length) (S ++ [.lst ds])
    | none => .bad
  | _ => .bad
abbrev rLst (K : PySem.W.Frag) : List V → Hp → VK → Prop := fun xs H Q => ∃ p ys, xs = [.ref p] ∧ (SqL K H p ys ∨ SqT K H p ys) ∧ ∀ l, H l = none → Q (.ref l) (upd H l (.lst ys))
theorem k_list : OkN c W (rLst c.K) bList := by
  intro σ B Z H S is vs Q s r p
  unfold bList at p
  split at p
  · obtain ⟨x, rfl, rx⟩ := ris1 r
    split at p
    · rename_i ds hn
      obtain ⟨a, xs, rfl, h1, h2⟩ := seqOf_sq s rx hn
      exact ⟨a, xs, rfl, h1, fun l hl => new_list s h2 hl p⟩
    · exact p.elim
  · exact p.elim
theorem k_listM : OkN c W (rLst c.K) bListM := by
  intro σ B Z H S is vs Q s r p
  unfold bListM at p
  split at p
  · obtain ⟨x, rfl, rx⟩ := ris1 r
    split at p
    · rename_i ds hn
      obtain ⟨a, xs, rfl, h1, h2⟩ := seqOf_sq s rx hn
      exact ⟨a, xs, rfl, h1, fun l hl => new_listM s h2 hl p⟩
    · exact p.elim
  · exact p.elim
@[simp] def bTup : FN := fun is S => match is with
  | [v] => match seqOf S v with
    | some ds => .ok (.d (.tuple ds)) S
    | none => .bad
  | _ => .bad
theorem tupOf_d {v : IV} {ds : List PyData} (h : tupOf v = some ds) : v = .d (.tuple ds) := by
  unfold tupOf at h
  split at h
  · cases h; rfl
  · cases h
theorem k_tup : OkN c W (fun xs H Q => ∃ p ys, xs = [.ref p] ∧ ((SqL c.K H p ys ∧ ∀ (l : Addr) (o : Obj), H l = none → TupO o → Q (.ref l) (upd H l (.frz o (.tup ys)))) ∨ (SqT c.K H p ys ∧ Q (.ref p) H))) bTup := by
  intro σ B Z H S is vs Q s r p
  unfold bTup at p
  split at p
  · obtain ⟨x, rfl, rx⟩ := ris1 r
    split at p
    · rename_i ds hn
      unfold seqOf at hn
      split at hn
      · rename_i es hq
        cases hn
        obtain ⟨a, xs, rfl, h1, h2⟩ := lstOf_sq s rx hq
        exact ⟨a, xs, rfl, .inl ⟨h1, fun l ol hl tol => new_tup s h2 hl tol p⟩⟩
      · obtain ⟨a, xs, rfl, h1, h2⟩ := tupOf_sq rx hn
        rw [tupOf_d hn] at rx
        exact ⟨a, xs, rfl, .inr ⟨h1, p.ret s _ rx⟩⟩
    · exact p.elim
  · exact p.elim
/-! ### sorted, of ints -/
def ins (x : Int) : List Int → List Int
  | [] => [x]
  | y :: t => if x ≤ y then x :: y :: t else y :: ins x t
def isort : List Int → List Int
  | [] => []
  | x :: t => ins x (isort t)
theorem ins_perm (x : Int) : ∀ l : List Int, (ins x l).Perm (x :: l)
  | [] => .refl _
  | y :: t => by
    unfold ins
    split
    · exact .refl _
    · exact ((ins_perm x t).cons y).trans (.swap x y t)
theorem ins_pw (x : Int) : ∀ l : List Int, l.Pairwise (· ≤ ·) → (ins x l).Pairwise (· ≤ ·)
  | [], _ => by unfold ins; simp
  | y :: t, h => by
    unfold ins
    have z := List.pairwise_cons.mp h
    split
    · rename_i hxy
      refine List.pairwise_cons.mpr ⟨fun a ha => ?_, h⟩
      rcases List.mem_cons.mp ha with ha | ha
      · rw [ha]; exact hxy
      · exact Int.le_trans hxy (z.1 a ha)
    · rename_i hxy
      refine List.pairwise_cons.mpr ⟨fun a ha => ?_, ins_pw x t z.2⟩
      rcases List.mem_cons.mp ((ins_perm x t).mem_iff.mp ha) with ha | ha
      · rw [ha]; omega
      · exact z.1 a ha
theorem isort_perm : ∀ l : List Int, (isort l).Perm l
  | [] => .refl _
  | x :: t => (ins_perm x (isort t)).trans ((isort_perm t).cons x)
theorem isort_pw : ∀ l : List Int, (isort l).Pairwise (· ≤ ·)
  | [] => .nil
  | x :: t => ins_pw x _ (isort_pw t)
theorem pw_unique : ∀ {l m : List Int}, l.Perm m → l.Pairwise (· ≤ ·) → m.Pairwise (· ≤ ·) → l = m
  | [], m, p, _, _ => by rw [List.nil_perm.mp p]
  | x :: t, [], p, _, _ => by have := p.length_eq; simp at this
  | x :: t, y :: u, p, h1, h2 => by
    have z1 := List.pairwise_cons.mp h1
    have z2 := List.pairwise_cons.mp h2
    have e : x = y := by
      have m1 : x ∈ y :: u := p.mem_iff.mp List.mem_cons_self
      have m2 : y ∈ x :: t := p.mem_iff.mpr List.mem_cons_self
      rcases List.mem_cons.mp m1 with q1 | q1
      · exact q1
      · rcases List.mem_cons.mp m2 with q2 | q2
        · exact q2.symm
        · have a1 := z2.1 x q1
          have a2 := z1.1 y q2
          omega
    subst e
    rw [pw_unique ((List.perm_cons x).mp p) z1.2 z2.2]
theorem isort_of {l m : List Int} (p : m.Perm l) (h : m.Pairwise (· ≤ ·)) : m = isort l := pw_unique (p.trans (isort_perm l).symm) h (isort_pw l)
@[simp] def bSortI : FN := fun is S => match is with
  | [v] => match lintsOf S v with
    | some ns => .ok (.d (.list ((isort ns).map .int))) S
    | none => .bad
  | _ => .bad
theorem k_sortI : OkN c W (rSortedI c.K) bSortI := by
  intro σ B Z H S is vs Q s r p
  unfold bSortI at p
  split at p
  · obtain ⟨x, rfl, rx⟩ := ris1 r
    split at p
    · rename_i ns hn
      obtain ⟨a, rfl, h1⟩ := lintsOf_sq s rx hn
      refine ⟨a, ns, rfl, h1, fun ms l pm pw hl => ?_⟩
      rw [isort_of pm pw]
      exact new_list s (rds_ints _) hl p
    · exact p.elim
  · exact p.elim
end
end MI
set_option maxRecDepth 100000
set_option maxHeartbeats 4000000
namespace MI
open PySem PySem.Spec L2

section
variable {c : Ct} {W : WX} {X : Cx} {B Z B1 : List Addr} {H H1 : Hp} {σ : L2.St} {α β : Type}
/-! ### isinstance, of a built-in type -/
@[simp] def tyOf : IV → Option String
  | .d .none => some "NoneType"
  | .d (.bool _) => some "bool"
  | .d (.int _) => some "int"
  | .d (.str _) => some "str"
  | .d (.list _) => some "list"
  | .d (.tuple _) => some "tuple"
  | .d (.dict _) => some "dict"
  | .tup _ => some "tuple"
  | .scr _ => some "list"
  | _ => none
@[simp] def tyOfS (S : Sto) : IV → Option String
  | .ref n => match S[n]? with
    | some (.lst _) => some "list"
    | some (.lsx _) => some "list"
    | _ => none
  | v => tyOf v
@[simp] def subTy (t T : String) : Bool := if t = T then true else if t = "bool" ∧ T = "int" then true else false
@[simp] def eIsa (T : String) (f : FE) : FE := fun r S => (f r S).bind fun v S1 => match tyOfS S1 v with
  | some t => .ok (.d (.bool (subTy t T))) S1
  | none => .bad
theorem ty_klst {K : PySem.W.Frag} {a : Addr} {xs : List V} (h : KLst K a xs) : ∃ o, K.lookup a = some o ∧ o.cls = .type "list" := by
  obtain ⟨o, _, _, h1, h2, _⟩ := h
  exact ⟨o, h1, h2⟩
theorem tyOf_x {S : Sto} {v : IV} {x : V} {t : String} (s : SR c H B Z S) (r : RI c H B Z v x) (h : tyOfS S v = some t) : TyX c.K H x (.type t) := by
  cases r with
  | d r =>
    cases r with
    | non => cases h; exact .base .non
    | bl => cases h; exact .base (.bl _)
    | int => cases h; exact .base (.int _)
    | str => cases h; exact .base (.str _)
    | lst h1 _ _ => cases h; exact .base (.lst h1)
    | tup h1 _ _ _ => cases h; exact .fTuple h1
    | tupK h1 _ _ => cases h; obtain ⟨o, _, _, a1, a2, _⟩ := h1; exact .kTuple a1 a2
    | dct h1 _ _ _ => cases h; exact .base (.dK h1)
  | ref hb =>
    rename_i k b
    have h : (match S[k]? with
      | some (IO.lst _) => some "list"
      | some (IO.lsx _) => some "list"
      | _ => none) = some t := h
    cases q : S[k]? with
    | none => rw [q] at h; cases h
    | some o =>
      have ob := s.ob k b _ hb q
      cases o with
      | lst es => rw [q] at h; cases h; obtain ⟨xs, h1, h2⟩ := ob; exact .base (.lst h1)
      | lsx es => rw [q] at h; cases h; obtain ⟨xs, h1, h2⟩ := ob; exact .base (.lst h1)
      | dct es => rw [q] at h; cases h
      | dead => rw [q] at h; cases h
  | gl => cases h
  | lam => cases h
  | clo => cases h
  | exc => cases h
  | tup h1 _ _ _ => cases h; exact .fTuple h1
  | scr h1 hb =>
    cases h
    rcases h1 with h1 | ⟨o, h1⟩
    · exact .base (.lst h1)
    · exact .base (.frz h1)
  | scrK h1 => cases h; obtain ⟨o, a1, a2⟩ := ty_klst h1; exact .kList a1 a2
def isTys : List String := ["NoneType", "bool", "int", "str", "list", "tuple", "dict"]
theorem tyOf_in {S : Sto} {v : IV} {t : String} (h : tyOfS S v = some t) : t ∈ isTys := by
  unfold isTys
  cases v with
  | d x => cases x <;> first | (cases h; decide) | cases h
  | ref n =>
    have h : (match S[n]? with
      | some (IO.lst _) => some "list"
      | some (IO.lsx _) => some "list"
      | _ => none) = some t := h
    cases q : S[n]? with
    | none => rw [q] at h; cases h
    | some o =>
      cases o with
      | lst es => rw [q] at h; cases h; decide
      | lsx es => rw [q] at h; cases h; decide
      | dct es => rw [q] at h; cases h
      | dead => rw [q] at h; cases h
  | gl _ => cases h
  | tup _ => cases h; decide
  | scr _ => cases h; decide
  | lam _ => cases h
  | clo _ _ => cases h
  | exc _ _ => cases h
theorem kit_tab (K : PySem.W.Frag) : ∀ t ∈ isTys, ∀ T ∈ ["int", "bool", "tuple", "list", "str"], PySem.W.kitOne K (.type t) (.type T) = some (subTy t T) := by
  intro t ht T hT
  simp only [isTys, List.mem_cons, List.mem_singleton, List.not_mem_nil, or_false] at ht hT
  rcases ht with rfl | rfl | rfl | rfl | rfl | rfl | rfl <;> rcases hT with rfl | rfl | rfl | rfl | rfl <;> (unfold PySem.W.kitOne PySem.W.kitCls PySem.W.subIn; rfl)
theorem s_isa {x y : Str} {p p2 pos : Pos} {e : Expr} {T : String} {f : FE} (cx : Cxg c W X) (hg : Gl X x) (hm : X.mg x = none) (hv : bootBuiltins x = some (.builtin "isinstance")) (hg2 : Gl X y) (hm2 : X.mg y = none) (hv2 : bootBuiltins y = some (.type T))
    (hT : T ∈ ["int", "bool", "tuple", "list", "str"]) (he : PE X e (TEx c W f)) (hn : x ≠ "__name__" := by decide) (hdb : (x == ("__debug__" : Str)) = false := by decide) (hn2 : y ≠ "__name__" := by decide) (hdb2 : (y == ("__debug__" : Str)) = false := by decide)
    (hs : starEach (e :: [.Name y p2]) X.env = (false, eval e X.env) :: starEach [.Name y p2] X.env := by rfl) (hs2 : starEach (.Name y p2 :: []) X.env = (false, eval (.Name y p2) X.env) :: starEach [] X.env := by rfl)
    (hpl : (backTo pos (starEach [.Name y p2] X.env)).any (·.1) = false := by rfl) : PE X (.Call (.Name x p) [e, .Name y p2] [] pos) (TEx c W (eIsa T f)) := by
  refine pe_imp (pe_callB call_isi hg hm hv (pa_cons he (pa_cons (pe_bltn (v := .ty T) hg2 hm2 hv2 rfl hn2 hdb2) pa_nil hs2) hs) hn hdb hs hpl) fun σ H Q ⟨B, Z, r, S, s, rr, q⟩ => ?_
  refine ⟨B, Z, r, S, s, rr, (Post.bind q).imp fun v S1 B1 H1 e1 s1 q x rx => ?_⟩
  cases h : tyOfS S1 v with
  | none => rw [h] at q; exact q.elim
  | some t =>
    rw [h] at q
    refine ⟨x, .ty T, .type t, .type T, subTy t T, rfl, .ty T, ?_, kit_tab _ t (tyOf_in h) T hT, q.ret s1 _ (.d (.bl _))⟩
    rw [cx.K]
    exact tyOf_x s1 rx h
/-! ### list(range(..)), tuple(range(..)) -/
abbrev RgF := Rho → Sto → Out (Int × Int)
@[simp] def rg1 (f : FE) : RgF := fun r S => (f r S).bind fun v S1 => match v with
  | .d (.int n) => .ok (0, n) S1
  | _ => .bad
@[simp] def rg2 (f g : FE) : RgF := fun r S => (f r S).bind fun v S1 => match v with
  | .d (.int i) => (g r S1).bind fun w S2 => match w with
    | .d (.int j) => .ok (i, j) S2
    | _ => .bad
  | _ => .bad
def TRg (c : Ct) (W : WX) (g : RgF) : L2.St → Hp → (Int → Int → Hp → Prop) → Prop := fun σ H Q => ∃ B Z r S, SR c H B Z S ∧ RR c H B Z r σ ∧ Post c W B Z H σ (g r S) fun v _ _ H' => Q v.1 v.2 H'
theorem prg_imp {e : Expr} {t t' : L2.St → Hp → (Int → Int → Hp → Prop) → Prop} (h : PRg X e t) (k : ∀ σ H Q, t' σ H Q → t σ H Q) : PRg X e t' := fun pins s σ H Q I q => h pins s σ H Q I (k σ H Q q)
theorem s_rg1 {a : Expr} {f : FE} {p pos : Pos} (hg : Gl X "range") (hm : X.mg "range" = none) (ha : PE X a (TEx c W f)) (na : starEach [a] X.env = (false, eval a X.env) :: starEach [] X.env := by rfl) : PRg X (.Call (.Name "range" p) [a] [] pos) (TRg c W (rg1 f)) :=
  prg_imp (prg_1 hg hm ha na) fun σ H Q ⟨B, Z, r, S, s, rr, q⟩ => ⟨B, Z, r, S, s, rr, (Post.bind q).imp fun v S1 B1 H1 e1 s1 q x rx => by
    split at q
    · cases rx with | d rx => cases rx; exact ⟨_, rfl, q.ret s1⟩
    · exact q.elim⟩
theorem s_rg2 {a b : Expr} {f g : FE} {p pos : Pos} (hg : Gl X "range") (hm : X.mg "range" = none) (ha : PE X a (TEx c W f)) (hb : PE X b (TEx c W g)) (na : starEach [a, b] X.env = (false, eval a X.env) :: starEach [b] X.env := by rfl)
    (nb : starEach [b] X.env = (false, eval b X.env) :: starEach [] X.env := by rfl) (hp : (backTo pos (starEach [b] X.env)).any (·.1) = false := by rfl) : PRg X (.Call (.Name "range" p) [a, b] [] pos) (TRg c W (rg2 f g)) :=
  prg_imp (prg_2 hg hm ha hb na nb hp) fun σ H Q ⟨B, Z, r, S, s, rr, q⟩ => ⟨B, Z, r, S, s, rr, (Post.bind q).imp fun v S1 B1 H1 e1 s1 q x rx => by
    split at q
    · cases rx with
      | d rx =>
        cases rx
        refine ⟨B1, Z, r, S1, s1, rr.ev e1, (Post.bind q).imp fun w S2 B2 H2 e2 s2 q y ry => ?_⟩
        split at q
        · cases ry with | d ry => cases ry; exact ⟨_, _, rfl, rfl, q.ret s2⟩
        · exact q.elim
    · exact q.elim⟩
def rgD (i j : Int) : List PyData := (List.range (j - i).toNat).map fun k => .int (i + (k : Nat))
theorem rds_rg (K : PySem.W.Frag) (H : Hp) (bd : List Addr) (i : Int) : ∀ l : List Nat, RDs K H bd (l.map fun k => .int (i + (k : Nat))) (l.map fun k => V.int (i + (k : Nat)))
  | [] => .nil
  | k :: l => .cons (.int _) (rds_rg K H bd i l)
theorem rds_rgV (K : PySem.W.Frag) (H : Hp) (bd : List Addr) (i j : Int) : RDs K H bd (rgD i j) (rgV i j) := rds_rg K H bd i _
def rgOk (i j : Int) : Bool := decide (i.natAbs < 2 ^ 23) && decide (j.natAbs < 2 ^ 23)
theorem rgOk_of {i j : Int} (h : rgOk i j = true) : RgOk i j := by
  unfold rgOk at h
  simp only [Bool.and_eq_true, decide_eq_true_eq] at h
  obtain ⟨h1, h2⟩ := h
  exact ⟨by omega, by omega, by omega, by omega, by omega⟩
@[simp] def eRgL (g : RgF) : FE := fun r S => (g r S).bind fun v S1 => if rgOk v.1 v.2 then .ok (.d (.list (rgD v.1 v.2))) S1 else .bad
@[simp] def eRgLM (g : RgF) : FE := fun r S => (g r S).bind fun v S1 => if rgOk v.1 v.2 then .ok (.ref S1.length) (S1 ++ [.lst (rgD v.1 v.2)]) else .bad
@[simp] def eRgT (g : RgF) : FE := fun r S => (g r S).bind fun v S1 => if rgOk v.1 v.2 then .ok (.d (.tuple (rgD v.1 v.2))) S1 else .bad
theorem s_rgL {e : Expr} {g : RgF} {p pos : Pos} (hc : X.calm = true) (hg : Gl X "list") (hm : X.mg "list" = none) (he : PRg X e (TRg c W g)) (na : starEach [e] X.env = (false, eval e X.env) :: starEach [] X.env := by rfl) : PE X (.Call (.Name "list" p) [e] [] pos) (TEx c W (eRgL g)) :=
  pe_imp (pe_listRg hc hg hm he na) fun σ H Q ⟨B, Z, r, S, s, rr, q⟩ => ⟨B, Z, r, S, s, rr, (Post.bind q).imp fun v S1 B1 H1 e1 s1 q => by
    by_cases h : rgOk v.1 v.2 = true
    · rw [if_pos h] at q
      exact ⟨rgOk_of h, fun l hl => new_list s1 (rds_rgV _ _ _ _ _) hl q⟩
    · rw [if_neg h] at q; exact q.elim⟩
theorem s_rgLM {e : Expr} {g : RgF} {p pos : Pos} (hc : X.calm = true) (hg : Gl X "list") (hm : X.mg "list" = none) (he : PRg X e (TRg c W g)) (na : starEach [e] X.env = (false, eval e X.env) :: starEach [] X.env := by rfl) : PE X (.Call (.Name "list" p) [e] [] pos) (TEx c W (eRgLM g)) :=
  pe_imp (pe_listRg hc hg hm he na) fun σ H Q ⟨B, Z, r, S, s, rr, q⟩ => ⟨B, Z, r, S, s, rr, (Post.bind q).imp fun v S1 B1 H1 e1 s1 q => by
    by_cases h : rgOk v.1 v.2 = true
    · rw [if_pos h] at q
      exact ⟨rgOk_of h, fun l hl => new_listM s1 (rds_rgV _ _ _ _ _) hl q⟩
    · rw [if_neg h] at q; exact q.elim⟩
theorem s_rgT {e : Expr} {g : RgF} {p pos : Pos} (hc : X.calm = true) (hg : Gl X "tuple") (hm : X.mg "tuple" = none) (he : PRg X e (TRg c W g)) (na : starEach [e] X.env = (false, eval e X.env) :: starEach [] X.env := by rfl) : PE X (.Call (.Name "tuple" p) [e] [] pos) (TEx c W (eRgT g)) :=
  pe_imp (pe_tupRgF hc hg hm he na) fun σ H Q ⟨B, Z, r, S, s, rr, q⟩ => ⟨B, Z, r, S, s, rr, (Post.bind q).imp fun v S1 B1 H1 e1 s1 q => by
    by_cases h : rgOk v.1 v.2 = true
    · rw [if_pos h] at q
      exact ⟨rgOk_of h, fun l ol hl tol => new_tup s1 (rds_rgV _ _ _ _ _) hl tol q⟩
    · rw [if_neg h] at q; exact q.elim⟩
/-! ### repr -/
def rPr (K : PySem.W.Frag) (A : Around) : List V → Hp → VK → Prop := fun xs H Q => ∃ x d, xs = [x] ∧ Dp K H x d ∧ d.showable = true ∧ d.hasDict = false ∧ A.units + (d.depth + 1) < cLine ∧ d.shown.length ≤ sizeLine ∧ Q (.str d.shown) H
theorem call_pr (hgu : X.A.guards = some []) : CallR X (.builtin "repr") (rPr X.K X.A) := by
  intro pins s σ H xs us Q I rv h
  obtain ⟨x, d, rfl, dp, hs, hd, hu, hz, q⟩ := h
  obtain ⟨u, rfl, rx⟩ := Vals.one rv
  cases dp with
  | non => cases rx; exact P.repr_of_none ⟨.str _, H, I.tok _, ⟨_, rfl⟩, q⟩
  | bl b => cases rx; exact P.repr_of_bool ⟨.str _, H, I.tok _, ⟨_, rfl⟩, by cases b <;> exact q⟩
  | int i => obtain ⟨t, rfl⟩ := rx; exact P.repr_of_int (of_decide_eq_true hs) ⟨.str _, H, I.tok _, ⟨_, rfl⟩, q⟩
  | str y => obtain ⟨t, rfl⟩ := rx; exact P.repr_of_str ⟨.str _, H, I.tok _, ⟨_, rfl⟩, q⟩ hz
  | lst h1 h2 =>
    cases rx
    obtain ⟨as, R⟩ := Dp.reads I _ _ _ (.lst h1 h2) rfl
    exact repr_of_reads' R hs (PyData.noDict_hsm hd) hgu hu (fun _ _ e => e) (fun h' t tk hk => ⟨.str _, H, I.kept (t' := tk) hk, ⟨_, rfl⟩, q⟩) hz
  | tup h1 h2 =>
    cases rx
    obtain ⟨as, R⟩ := Dp.reads I _ _ _ (.tup h1 h2) rfl
    exact repr_of_reads' R hs (PyData.noDict_hsm hd) hgu hu (fun _ _ e => e) (fun h' t tk hk => ⟨.str _, H, I.kept (t' := tk) hk, ⟨_, rfl⟩, q⟩) hz
theorem whole_rd {S : Sto} {v : IV} {x : V} {d : PyData} (s : SR c H B Z S) (r : RI c H B Z v x) (h : toD 0 S v = some d) : RD c.K H [] d x :=
  toD_rd s (fun _ m => by cases m) (fun _ _ _ _ m => by cases m) h r
def prOk (d : PyData) : Bool := d.showable && !d.hasDict && decide (d.depth ≤ 64) && decide (d.shown.length ≤ sizeLine)
@[simp] def bRepr : FN := fun is S => match is with
  | [v] => match toD 0 S v with
    | some d => if prOk d then .ok (.d (.str d.shown)) S else .bad
    | none => .bad
  | _ => .bad
theorem k_repr {A : Around} (hu : A.units + 66 < cLine) : OkN c W (rPr c.K A) bRepr := by
  intro σ B Z H S is vs Q s r p
  unfold bRepr at p
  split at p
  · obtain ⟨x, rfl, rx⟩ := ris1 r
    split at p
    · rename_i d hd
      by_cases h : prOk d = true
      · rw [if_pos h] at p
        unfold prOk at h
        simp only [Bool.and_eq_true, decide_eq_true_eq, Bool.not_eq_true'] at h
        exact ⟨x, d, rfl, (whole_rd s rx hd).dp0 h.1.1.2, h.1.1.1, h.1.1.2, by have := h.1.2; omega, h.2, p.ret s _ (.d (.str _))⟩
      · rw [if_neg h] at p; exact p.elim
    · exact p.elim
  · exact p.elim
end
end MI
set_option maxRecDepth 100000
set_option maxHeartbeats 4000000
namespace MI
open PySem PySem.Spec L2

section
variable {c : Ct} {W : WX} {X : Cx} {B Z B1 : List Addr} {H H1 : Hp} {σ : L2.St} {α β : Type}
/-! ### methods of built-in types -/
abbrev FM := IV → List IV → Sto → Out IV
@[simp] def tyOk (T : String) (S : Sto) : IV → Bool
  | .d (.list _) => T == "list"
  | .d (.str _) => T == "str"
  | .scr _ => T == "list"
  | .ref n => match S[n]? with
    | some (.lst _) => T == "list"
    | some (.lsx _) => T == "list"
    | _ => false
  | _ => false
theorem tyOk_v {T : String} {S : Sto} {v : IV} {x : V} (s : SR c H B Z S) (r : RI c H B Z v x) (h : tyOk T S v = true) : tyV c.K T x H := by
  cases r with
  | d r =>
    cases r with
    | lst h1 _ _ => exact .inl ⟨beq_iff_eq.mp h, _, .of h1⟩
    | str y => exact beq_iff_eq.mp h
    | non => cases h
    | bl => cases h
    | int => cases h
    | tup => cases h
    | tupK => cases h
    | dct => cases h
  | ref hb =>
    rename_i k b
    have h : (match S[k]? with
      | some (IO.lst _) => T == "list"
      | some (IO.lsx _) => T == "list"
      | _ => false) = true := h
    cases q : S[k]? with
    | none => rw [q] at h; cases h
    | some o =>
      have ob := s.ob k b _ hb q
      cases o with
      | lst es => rw [q] at h; obtain ⟨xs, h1, h2⟩ := ob; exact .inl ⟨beq_iff_eq.mp h, _, .of h1⟩
      | lsx es => rw [q] at h; obtain ⟨xs, h1, h2⟩ := ob; exact .inl ⟨beq_iff_eq.mp h, _, .of h1⟩
      | dct es => rw [q] at h; cases h
      | dead => rw [q] at h; cases h
  | gl => cases h
  | lam => cases h
  | clo => cases h
  | exc => cases h
  | tup => cases h
  | scr h1 hb =>
    obtain ⟨a, e, q⟩ := RI.scrS (.scr h1 hb)
    cases e
    exact .inl ⟨beq_iff_eq.mp h, _, q⟩
  | scrK h1 =>
    obtain ⟨a, e, q⟩ := RI.scrS (B := B) (Z := Z) (H := H) (.scrK h1)
    cases e
    exact .inl ⟨beq_iff_eq.mp h, _, q⟩
def OkM (c : Ct) (W : WX) (r : V → List V → Hp → VK → Prop) (m : FM) : Prop := ∀ {σ : L2.St} {B Z : List Addr} {H : Hp} {S : Sto} {v : IV} {is : List IV} {x : V} {xs : List V} {Q : VK}, SR c H B Z S → RI c H B Z v x → RIs c H B Z is xs →
  Post c W B Z H σ (m v is S) (fun v S' B' H' => ∀ x, RI c H' B' Z v x → Q x H') → r x xs H Q
@[simp] def eMt (T : String) (m : FM) (fo : FE) (fa : FA) : FE := fun r S => (fo r S).bind fun v S1 => if tyOk T S1 v then (fa r S1).bind fun is S2 => m v is S2 else .bad
@[simp] def eMt0 (T : String) (m : FM) (fo : FE) : FE := fun r S => (fo r S).bind fun v S1 => if tyOk T S1 v then m v [] S1 else .bad
section
variable {o e : Expr} {es : List Expr} {fo : FE} {fa : FA} {name : Str} {apos cpos : Pos} {T id : String} {r : V → List V → Hp → VK → Prop} {m : FM}
theorem s_mt (cx : Cxg c W X) (k : OkM c W r m) (pa : PlainAttrs T) (slot : Slot T name id) (hty : typeOf (.builtin id) = pure (.type "method_descriptor")) (hm : MtR X id r) (ho : PE X o (TEx c W fo)) (ha : PA X (e :: es) (TAx c W fa))
    (hbase : attributeBase o name X.env (eval o X.env) = eval o X.env := by rfl)
    (hfew : ((backTo cpos (starEach (e :: es) X.env)).all (fun x => !x.1) && (backToKw cpos (keywordEach [] X.env)).all (fun x => x.1.isSome)
      && decide ((e :: es).length + ([] : List Keyword).length + (if ([] : List Keyword).isEmpty then 0 else 1) < 30)) = true := by rfl)
    (hline : (apos.endLine == cpos.line) = true := by rfl) (hs : starEach (e :: es) X.env = (false, eval e X.env) :: starEach es X.env := by rfl) (hplain : (backTo cpos (starEach es X.env)).any (·.1) = false := by rfl) :
    PE X (.Call (.Attribute o name apos) (e :: es) [] cpos) (TEx c W (eMt T m fo fa)) :=
  pe_imp (pe_bm pa slot hty hm ho ha hbase hfew hline hs hplain) fun σ H Q ⟨B, Z, r, S, s, rr, p⟩ => ⟨B, Z, r, S, s, rr, (Post.bind p).imp fun v S1 B1 H1 e1 s1 q x rx => by
    by_cases h : tyOk T S1 v = true
    · rw [if_pos h] at q
      refine ⟨by rw [cx.K]; exact tyOk_v s1 rx h, B1, Z, r, S1, s1, rr.ev e1, (Post.bind q).imp fun is S2 B2 H2 e2 s2 q xs rxs => k s2 (rx.ev e2) rxs q⟩
    · rw [if_neg h] at q; exact q.elim⟩
theorem s_mt0 (cx : Cxg c W X) (k : OkM c W r m) (pa : PlainAttrs T) (slot : Slot T name id) (hty : typeOf (.builtin id) = pure (.type "method_descriptor")) (hm : MtR X id r) (ho : PE X o (TEx c W fo))
    (hbase : attributeBase o name X.env (eval o X.env) = eval o X.env := by rfl) (hline : (apos.endLine == cpos.line) = true := by rfl) :
    PE X (.Call (.Attribute o name apos) [] [] cpos) (TEx c W (eMt0 T m fo)) :=
  pe_imp (pe_bm0 pa slot hty hm ho hbase hline) fun σ H Q ⟨B, Z, r, S, s, rr, p⟩ => ⟨B, Z, r, S, s, rr, (Post.bind p).imp fun v S1 B1 H1 e1 s1 q x rx => by
    by_cases h : tyOk T S1 v = true
    · rw [if_pos h] at q
      exact ⟨by rw [cx.K]; exact tyOk_v s1 rx h, k s1 rx .nil q⟩
    · rw [if_neg h] at q; exact q.elim⟩
end
theorem ris0 {vs : List V} (r : RIs c H B Z [] vs) : vs = [] := by cases r; rfl
theorem ref_at {n : Nat} {x : V} (r : RI c H B Z (.ref n) x) : ∃ b, x = .ref b ∧ B[n]? = some b := by
  cases r with
  | ref hb => exact ⟨_, rfl, hb⟩
/-! append -/
@[simp] def mApp : FM := fun v is S => match v, is with
  | .ref n, [w] => match S[n]? with
    | some (.lst ds) => if ds.length < sizeLine then (match w with
      | .d y => .ok (.d .none) (S.set n (.lst (ds ++ [y])))
      | w => .ok (.d .none) (S.set n (.lsx (ds.map .d ++ [w])))) else .bad
    | some (.lsx ds) => if ds.length < sizeLine then .ok (.d .none) (S.set n (.lsx (ds ++ [w]))) else .bad
    | _ => .bad
  | _, _ => .bad
theorem k_app : OkM c W rAppend mApp := by
  intro σ B Z H S v is x xs Q s rv ra p
  unfold mApp at p
  split at p
  · rename_i n w
    obtain ⟨b, rfl, hb⟩ := ref_at rv
    obtain ⟨y, rfl, ry⟩ := ris1 ra
    cases q : S[n]? with
    | none => rw [q] at p; exact p.elim
    | some o =>
      rw [q] at p
      have ob := s.ob n b _ hb q
      have lsx : ∀ {vs : List IV} {zs : List V}, H b = some (.lst zs) → RIs c H B Z vs zs → Post c W B Z H σ (.ok (.d .none) (S.set n (.lsx (vs ++ [w])))) (fun v S' B' H' => ∀ x, RI c H' B' Z v x → Q x H') → Q .non (upd H b (.lst (zs ++ [y]))) := fun {vs zs} h1 h2 p => by
        have e := Ev.put (o := HO.lst (zs ++ [y])) s hb
        exact p B _ e (s.put hb ⟨_, upd_same, (h2.app (.cons ry .nil)).ev e⟩) _ (.d .non)
      cases o with
      | lst ds =>
        obtain ⟨zs, h1, h2⟩ := ob
        dsimp only at p
        by_cases hl : ds.length < sizeLine
        · rw [if_pos hl] at p
          refine ⟨b, zs, y, rfl, rfl, h1, by rw [← h2.length]; exact hl, ?_⟩
          cases w with
          | d d =>
            cases ry with
            | d ry =>
              have w := SR.putL s hb (h2.app (.cons ry .nil))
              exact p B _ w.2 w.1 _ (.d .non)
          | ref k => exact lsx h1 (RIs.ofDs h2) p
          | gl k => exact lsx h1 (RIs.ofDs h2) p
          | tup k => exact lsx h1 (RIs.ofDs h2) p
          | scr k => exact lsx h1 (RIs.ofDs h2) p
          | lam k => exact lsx h1 (RIs.ofDs h2) p
          | clo k j => exact lsx h1 (RIs.ofDs h2) p
          | exc k j => exact lsx h1 (RIs.ofDs h2) p
        · rw [if_neg hl] at p; exact p.elim
      | lsx ds =>
        obtain ⟨zs, h1, h2⟩ := ob
        dsimp only at p
        by_cases hl : ds.length < sizeLine
        · rw [if_pos hl] at p
          exact ⟨b, zs, y, rfl, rfl, h1, by rw [← h2.length]; exact hl, lsx h1 h2 p⟩
        · rw [if_neg hl] at p; exact p.elim
      | dead => exact p.elim
      | dct ds => exact p.elim
  · exact p.elim
/-! extend -/
@[simp] def lst2 (S : Sto) : IV → Option (List PyData)
  | .d (.list es) => some es
  | .ref k => match S[k]? with
    | some (.lst es) => some es
    | _ => none
  | _ => none
theorem lst2_sq {S : Sto} {v : IV} {x : V} {ds : List PyData} (s : SR c H B Z S) (r : RI c H B Z v x) (h : lst2 S v = some ds) : ∃ p xs, x = .ref p ∧ H p = some (.lst xs) ∧ RDs c.K H (B ++ Z) ds xs := by
  cases r with
  | d r =>
    cases r with
    | lst h1 hb t => cases h; exact ⟨_, _, rfl, h1, t⟩
    | non => cases h
    | bl => cases h
    | int => cases h
    | str => cases h
    | tup => cases h
    | tupK => cases h
    | dct => cases h
  | ref hb =>
    rename_i n b
    have h : (match S[n]? with
      | some (IO.lst ds) => some ds
      | _ => none) = some ds := h
    cases q : S[n]? with
    | none => rw [q] at h; cases h
    | some o =>
      cases o with
      | lst es => rw [q] at h; cases h; obtain ⟨xs, h1, h2⟩ := s.ob n b _ hb q; exact ⟨b, xs, rfl, h1, h2⟩
      | lsx es => rw [q] at h; cases h
      | dct es => rw [q] at h; cases h
      | dead => rw [q] at h; cases h
  | gl => cases h
  | lam => cases h
  | clo => cases h
  | exc => cases h
  | tup => cases h
  | scr h1 hb => cases h
  | scrK h1 => cases h
@[simp] def mExt : FM := fun v is S => match v, is with
  | .ref n, [w] => match S[n]?, lst2 S w with
    | some (.lst ds), some es => if ds.length + es.length ≤ sizeLine then .ok (.d .none) (S.set n (.lst (ds ++ es))) else .bad
    | _, _ => .bad
  | _, _ => .bad
theorem k_ext : OkM c W rExtend mExt := by
  intro σ B Z H S v is x xs Q s rv ra p
  unfold mExt at p
  split at p
  · rename_i n w
    obtain ⟨b, rfl, hb⟩ := ref_at rv
    obtain ⟨y, rfl, ry⟩ := ris1 ra
    split at p
    · rename_i ds es q1 q2
      obtain ⟨zs, h1, h2⟩ := s.ob n b _ hb q1
      obtain ⟨a, ys, rfl, h3, h4⟩ := lst2_sq s ry q2
      by_cases hl : ds.length + es.length ≤ sizeLine
      · rw [if_pos hl] at p
        have w := SR.putL s hb (h2.app h4)
        exact ⟨b, a, zs, ys, rfl, rfl, h1, h3, by rw [← h2.length, ← h4.length]; exact hl, p B _ w.2 w.1 _ (.d .non)⟩
      · rw [if_neg hl] at p; exact p.elim
    · exact p.elim
  · exact p.elim
/-! pop -/
@[simp] def mPop : FM := fun v is S => match v, is with
  | .ref n, [] => match S[n]? with
    | some (.lst ds) => match ds[ds.length - 1]? with
      | some y => .ok (.d y) (S.set n (.lst ds.dropLast))
      | none => .bad
    | _ => .bad
  | _, _ => .bad
theorem RDs.dropLast {K : PySem.W.Frag} {H : Hp} {bd : List Addr} {ds : List PyData} {xs : List V} (r : RDs K H bd ds xs) : RDs K H bd ds.dropLast xs.dropLast := by
  rw [List.dropLast_eq_take, List.dropLast_eq_take, ← r.length]
  exact r.take _
theorem k_pop : OkM c W rPop mPop := by
  intro σ B Z H S v is x xs Q s rv ra p
  unfold mPop at p
  split at p
  · rename_i n
    obtain ⟨b, rfl, hb⟩ := ref_at rv
    have e0 := ris0 ra
    subst e0
    split at p
    · rename_i ds q1
      obtain ⟨zs, h1, h2⟩ := s.ob n b _ hb q1
      split at p
      · rename_i d hd
        obtain ⟨y, h3, h4⟩ := h2.get hd
        have w := SR.putL s hb h2.dropLast
        exact ⟨b, zs, y, rfl, rfl, h1, by rw [← h2.length]; exact h3, p B _ w.2 w.1 _ (.d (h4.ev w.2))⟩
      · exact p.elim
    · exact p.elim
  · exact p.elim
@[simp] def mPopA : FM := fun v is S => match v, is with
  | .ref n, [.d (.int i)] => match S[n]? with
    | some (.lst ds) => if i.natAbs < 2 ^ 63 then (match seqIndex? i ds.length with
      | some k => match ds[k]? with
        | some y => .ok (.d y) (S.set n (.lst (ds.eraseIdx k)))
        | none => .bad
      | none => .bad) else .bad
    | _ => .bad
  | _, _ => .bad
theorem k_popA : OkM c W rPopAt mPopA := by
  intro σ B Z H S v is x xs Q s rv ra p
  unfold mPopA at p
  split at p
  · rename_i n i
    obtain ⟨b, rfl, hb⟩ := ref_at rv
    obtain ⟨y, rfl, ry⟩ := ris1 ra
    cases ry with
    | d ry =>
    cases ry
    split at p
    · rename_i ds q1
      obtain ⟨zs, h1, h2⟩ := s.ob n b _ hb q1
      by_cases hi : i.natAbs < 2 ^ 63
      · rw [if_pos hi] at p
        split at p
        · rename_i k hk
          split at p
          · rename_i d hd
            obtain ⟨y, h3, h4⟩ := h2.get hd
            have w := SR.putL s hb (h2.erase k)
            exact ⟨b, zs, i, k, y, rfl, rfl, h1, by omega, by omega, by rw [← h2.length]; exact hk, h3, p B _ w.2 w.1 _ (.d (h4.ev w.2))⟩
          · exact p.elim
        · exact p.elim
      · rw [if_neg hi] at p; exact p.elim
    · exact p.elim
  · exact p.elim
/-! index -/
@[simp] def mIdx : FM := fun v is S => match is with
  | [w] => match lstOf S v, toD 0 S w with
    | some ds, some d => if SeqAt.shaped (.list ds) && SeqAt.shaped d then (match ds.findIdx? (fun z => PyData.eqv z d) with
      | some j => .ok (.d (.int (j : Nat))) S
      | none => .bad) else .bad
    | _, _ => .bad
  | _ => .bad
theorem lst_dp {S : Sto} {v : IV} {x : V} {ds : List PyData} (s : SR c H B Z S) (r : RI c H B Z v x) (h : lstOf S v = some ds) (hs : SeqAt.shaped (.list ds) = true) : ∃ a, x = V.ref a ∧ Dp c.K H (V.ref a) (.list ds) := by
  obtain ⟨p, xs, rfl, h1, h2⟩ := lstOf_sq s r h
  exact ⟨p, rfl, .lst h1 (h2.dp hs)⟩
theorem k_idx : OkM c W (rIndexD c.K) mIdx := by
  intro σ B Z H S v is x xs Q s rv ra p
  unfold mIdx at p
  split at p
  · rename_i w
    obtain ⟨y, rfl, ry⟩ := ris1 ra
    split at p
    · rename_i ds d q1 q2
      by_cases hs : (SeqAt.shaped (.list ds) && SeqAt.shaped d) = true
      · rw [if_pos hs] at p
        simp only [Bool.and_eq_true] at hs
        obtain ⟨a, rfl, h1⟩ := lst_dp s rv q1 hs.1
        split at p
        · rename_i j hj
          obtain ⟨hl, h3, h4⟩ := List.findIdx?_eq_some_iff_getElem.mp hj
          refine ⟨a, y, d, ds, j, ds[j], rfl, rfl, h1, (whole_rd s ry q2).dp hs.2, hs.1, hs.2, List.getElem?_eq_getElem hl, h3, fun m z hm hz => ?_, p.ret s _ (.d (.int _))⟩
          obtain ⟨hm2, rfl⟩ := List.getElem?_eq_some_iff.mp hz
          simpa using h4 m hm
        · exact p.elim
      · rw [if_neg hs] at p; exact p.elim
    · exact p.elim
  · exact p.elim
end
end MI
set_option maxRecDepth 100000
set_option maxHeartbeats 4000000
namespace MI
open PySem PySem.Spec L2 PyProof.Rows

/-! ## what is not read -/
def eBad : FE := fun _ _ => .bad
def sBad : FS := fun _ _ => .bad
section
variable {c : Ct} {W : WX} {X : Cx}
theorem s_ebad {e : Expr} : PE X e (TEx c W eBad) := ⟨fun _ _ _ _ _ _ ⟨_, _, _, _, _, _, p⟩ => p.elim⟩
theorem s_sbad {e : Stmt} : PS X e (TSx c W sBad) := ⟨fun _ _ _ _ _ _ ⟨_, _, _, _, _, _, p⟩ => p.elim⟩
end
section
variable {prog : Program} {w : World} {A : Around} {E : Value → Shared → Prop} {s : Shared}
/-! ## x[::-1] of a tuple -/
theorem rev_places (n : Nat) : Builtin.Slice.sliceAdjust none none (-1) (n : Int) = ((n : Int) - 1, -1) := by
  unfold Builtin.Slice.sliceAdjust
  simp
theorem rev_count (n : Nat) : Builtin.Slice.slicePlaces ((n : Int) - 1) (-1) (-1) = n := by
  unfold Builtin.Slice.slicePlaces
  simp
  try omega
theorem sliceApplied_rev {sl : Addr} {vl vu vs : Value} {n : Nat} {Q : Int × Int × Nat → Shared → Prop} (hs : s.heap.IsSliceOf sl vl vu vs) (pl : PySem.IsPart vl none) (pu : PySem.IsPart vu none) (ps : PySem.IsPart vs (some (-1)))
    (h : Q ((n : Int) - 1, -1, n) s) : wpAny (model prog w) A (Builtin.Slice.sliceApplied (.ref sl) (pure (n : Int))) Q E s := by
  obtain ⟨os, hos, hcs, hds⟩ := id hs
  unfold Builtin.Slice.sliceApplied Builtin.Slice.sliceFields
  refine wpAny_bind (wpAny_bind (wpAny_field hos hds (x := vl) rfl (wpAny_bind (wpAny_field hos hds (x := vu) rfl (wpAny_bind (wpAny_field hos hds (x := vs) rfl (wpAny_pure ?_)))))))
  refine wpAny_bind (HT.slicePart_ ps ?_)
  show wpAny _ _ (if ((-1 : Int) == 0) = true then _ else _) _ _ s
  rw [if_neg (by decide)]
  refine wpAny_bind (HT.slicePart_ pl (wpAny_bind (HT.slicePart_ pu (wpAny_bind (wpAny_pure ?_)))))
  show wpAny _ _ (match Builtin.Slice.sliceAdjust none none (-1) (n : Int) with | (lo, hi) => pure (lo, (-1 : Int), Builtin.Slice.slicePlaces lo hi (-1))) _ _ s
  rw [rev_places n]
  show wpAny _ _ (pure ((n : Int) - 1, (-1 : Int), Builtin.Slice.slicePlaces ((n : Int) - 1) (-1) (-1))) _ _ s
  rw [rev_count]
  exact wpAny_pure h
theorem rev_pick (xs : Array Value) : ((List.range xs.size).filterMap fun (m : Nat) => xs[((xs.size : Int) - 1 + (m : Int) * (-1)).toNat]?).toArray = xs.toList.reverse.toArray := by
  have e : (List.range xs.size).filterMap (fun (m : Nat) => xs[((xs.size : Int) - 1 + (m : Int) * (-1)).toNat]?) = ((List.range xs.size).map (fun k => xs.size - 1 - k)).filterMap (xs[·]?) := by
    rw [List.filterMap_map]
    congr 1
    funext m
    have : ((xs.size : Int) - 1 + (m : Int) * (-1)).toNat = xs.size - 1 - m := by omega
    show xs[((xs.size : Int) - 1 + (m : Int) * (-1)).toNat]? = xs[xs.size - 1 - m]?
    rw [this]
  rw [e, PySem.W.krv_range, List.filterMap_reverse, PySem.W.krv_all]
theorem getItem_tuple_rev {t sl : Addr} {items : Array Value} {vl vu vs : Value} {Q : Value → Shared → Prop} (ht : IsTup s.heap t items) (hs : s.heap.IsSliceOf sl vl vu vs) (pl : PySem.IsPart vl none) (pu : PySem.IsPart vu none) (ps : PySem.IsPart vs (some (-1)))
    (h : Q (.ref s.heap.objs.size) { s with heap := s.heap.push { cls := .type "tuple", data := .seq items.toList.reverse.toArray } }) (hsz : items.size ≤ sizeLine) : wpAny (model prog w) A (getItem (.ref t) (.ref sl)) Q E s := by
  have fits : sizeOk (.seq items.toList.reverse.toArray) := by
    show items.toList.reverse.toArray.size ≤ sizeLine
    rw [List.size_toArray, List.length_reverse, Array.length_toList]
    exact hsz
  obtain ⟨os, hos, hcs, hds⟩ := id hs
  have isSl : s.TypeIs (.ref sl) "slice" := ⟨os, hos, hcs⟩
  unfold getItem
  try with_reducible refine wpAny_holding ?_
  first | refine wpAny_bind (wpAny_pure ?_) | skip
  refine wpAny_bind (wpAny_sequenceKey ht.typeIs (by decide) ?_)
  refine wpAny_bind (wpAny_callSpecial?_slot (name := Str.ofString "__getitem__") ht.typeIs PyProof.Rows.slot_tuple_getitem (wpAny_call_entry PyProof.Rows.slot_tuple_getitem ht.typeIs entry_tuple_getitem ?_ (args_tuple_getitem _ _)))
  show wpAny _ _ (Builtin.Tuple.tupleItemsOf (.ref t) >>= _) _ _ s
  refine wpAny_bind (tupleItemsOf_ ht ?_)
  refine wpAny_bind (wpAny_typeOf isSl ?_)
  rw [if_pos (by decide)]
  refine wpAny_bind (sliceApplied_rev hs pl pu ps ?_)
  show wpAny _ _ (if (((items.size : Int) - 1) == 0 && (-1 : Int) == 1 && items.size == items.size) = true then _ else _) _ _ s
  rw [if_neg (by simp), rev_pick]
  first
    | exact wpAny_bind (m := Builtin.Tuple.tupleExact _) (wpAny_newObj_type (wpAny_pure ⟨_, rfl, wpAny_pure h⟩) fits)
    | exact wpAny_bind (m := Builtin.Tuple.tupleExact _) (wpAny_newObj_type (wpAny_bind (wpAny_pure (wpAny_pure ⟨_, rfl, wpAny_pure h⟩))) fits)
    | exact wpAny_bind (wpAny_bind (m := Builtin.Tuple.tupleExact _) (wpAny_newObj_type (wpAny_pure (wpAny_pure ⟨_, rfl, wpAny_pure h⟩)) fits))
    | exact wpAny_bind (wpAny_bind (m := Builtin.Tuple.tupleExact _) (wpAny_newObj_type (wpAny_pure ⟨_, rfl, wpAny_pure h⟩) fits))
end

section
variable {c : Ct} {W : WX} {X : Cx} {B Z B1 : List Addr} {H H1 : Hp} {σ : L2.St}
def TRev (K : PySem.W.Frag) (te : TE) : TE := fun σ H Q => te σ H fun x H1 => ∃ a xs, x = .ref a ∧ ((SqL K H1 a xs ∧ ∀ p, H1 p = none → Q (.ref p) (upd H1 p (.lst xs.reverse))) ∨ (SqT K H1 a xs ∧ ∀ (p : Addr) (o : Obj), H1 p = none → TupO o → Q (.ref p) (upd H1 p (.frz o (.tup xs.reverse)))))
theorem pe_rev {e : Expr} {te : TE} {k : Nat} {p1 p2 p3 pos : Pos} (he : PE X e te) : PE X (.Subscript e (.Slice none none (some (.UnaryOp .USub (.Constant (.int 1) k p1) p2)) p3) pos) (TRev X.K te) := by
  refine ⟨fun pins s σ H Q I h => ?_⟩
  refine Subscript_ (thn (he.run pins s σ H _ I h) fun v s1 ⟨x, H1, I1, r1, q1⟩ => ?_)
  obtain ⟨a, xs, ex, hx⟩ := q1
  subst ex
  cases r1
  have hst : PO X (some (.UnaryOp .USub (.Constant (.int 1) k p1) p2)) (tPart (tUn (rU fun i => .int (-i)) (tC (.int 1)))) := po_some (pe_un un_neg pe_int)
  refine wpAny_Slice (thn (po_none.run pins s1 σ H1 (fun o G => o = none ∧ G = H1) I1 ⟨rfl, rfl⟩) fun vl s2 ⟨l, H2, I2, pl, el, e2⟩ => ?_)
  subst el e2
  refine thn (po_none.run pins s2 σ H2 (fun o G => o = none ∧ G = H2) I2 ⟨rfl, rfl⟩) fun vu s3 ⟨u, H3, I3, pu, eu, e3⟩ => ?_
  subst eu e3
  refine thn (hst.run pins s3 σ H3 (fun o G => o = some (-1) ∧ G = H3) I3 ⟨1, rfl, -1, rfl, rfl, rfl⟩) fun vs s4 ⟨o, H4, I4, ps, eo, e4⟩ => ?_
  subst eo e4
  have I5 : Inv X pins σ H4 { s4 with heap := s4.heap.push { cls := .type "slice", data := .fields #[vl, vu, vs] } } := I4.kept (t' := s4.toks) fun b ob q => Heap.get?_push_of_some _ q
  show wpAny (model X.prog X.w) X.A (subscriptTail e (.Slice none none (some (.UnaryOp .USub (.Constant (.int 1) k p1) p2)) p3) (.ref a) (.ref s4.heap.objs.size)) (EP X pins σ Q) X.xe _
  rcases hx with ⟨hx, q⟩ | ⟨hx, q⟩
  · obtain ⟨its, r, ht, hz⟩ := I5.list hx
    have lenE := r.length
    refine tail_any (ops := [.ref a, .ref s4.heap.objs.size]) ht.isList.typeIs (PySem.slot_list_getitem.lookup) ?_ (by with_unfolding_all rfl)
    refine wpAny_getItem_list_slice ht.isList (Heap.IsSliceOf.new _ vl vu vs) pl pu ps (by decide) ?_ (by rw [List.size_toArray]; omega)
    rw [PySem.W.krv_pick]
    refine ⟨.ref _, _, I5.laid (t' := s4.toks) (o := .lst xs.reverse) (fun b ob q => Heap.get?_push_of_some _ q) (Nat.le_refl _) ?_, rfl, q _ (I5.hok.fresh (Nat.le_refl _))⟩
    exact ⟨by rw [List.length_reverse]; exact hz, _, 0, r.reverse, Heap.get?_push_size _ rfl⟩
  · obtain ⟨its, r, ht, hz⟩ := I5.tuple hx
    have lenE := r.length
    refine tail_any (ops := [.ref a, .ref s4.heap.objs.size]) ht.typeIs (PyProof.Rows.slot_tuple_getitem.lookup) ?_ (by with_unfolding_all rfl)
    refine getItem_tuple_rev ht (Heap.IsSliceOf.new _ vl vu vs) pl pu ps ?_ (by rw [List.size_toArray]; omega)
    refine ⟨.ref _, _, I5.laid (t' := s4.toks) (o := .frz { cls := .type "tuple", data := .seq its.toArray.toList.reverse.toArray } (.tup xs.reverse)) (fun b ob q => Heap.get?_push_of_some _ q) (Nat.le_refl _) ?_, rfl, q _ _ (I5.hok.fresh (Nat.le_refl _)) ⟨rfl, rfl⟩⟩
    exact ⟨Heap.get?_push_size _ rfl, by rw [List.length_reverse]; exact hz, _, r.reverse, IsTup.new _ _⟩
@[simp] def eRev (f : FE) : FE := fun r S => (f r S).bind fun v S1 => match lstOf S1 v with
  | some ds => .ok (.d (.list ds.reverse)) S1
  | none => match tupOf v with
    | some ds => .ok (.d (.tuple ds.reverse)) S1
    | none => .bad
theorem s_rev {e : Expr} {f : FE} {k : Nat} {p1 p2 p3 pos : Pos} (cx : Cxg c W X) (he : PE X e (TEx c W f)) : PE X (.Subscript e (.Slice none none (some (.UnaryOp .USub (.Constant (.int 1) k p1) p2)) p3) pos) (TEx c W (eRev f)) :=
  pe_imp (pe_rev he) fun σ H Q ⟨B, Z, r, S, s, rr, p⟩ => ⟨B, Z, r, S, s, rr, (Post.bind p).imp fun v S1 B1 H1 e1 s1 q x rx => by
    cases h : lstOf S1 v with
    | some ds =>
      rw [h] at q
      obtain ⟨a, xs, rfl, h1, h2⟩ := lstOf_sq s1 rx h
      exact ⟨a, xs, rfl, .inl ⟨by rw [cx.K]; exact h1, fun p hp => new_list s1 h2.rev hp q⟩⟩
    | none =>
      rw [h] at q
      dsimp only at q
      cases h' : tupOf v with
      | some ds =>
        rw [h'] at q
        obtain ⟨a, xs, rfl, h1, h2⟩ := tupOf_sq rx h'
        exact ⟨a, xs, rfl, .inr ⟨by rw [cx.K]; exact h1, fun p o hp to => new_tup s1 h2.rev hp to q⟩⟩
      | none => rw [h'] at q; exact q.elim⟩
end
end MI
set_option maxRecDepth 100000
set_option maxHeartbeats 4000000
namespace MI
open PySem PySem.Spec L2 PyProof.Rows
/-! ## set(list of ints) (turned from the worked walk of set(tuple)) -/
section
variable {P : Program} {w : World} {A : Around} {E : Value → Shared → Prop} {s : Shared}
theorem call_set_lstI {l : Addr} {items : Array Value} (ns : List Int) {Q : Value → Shared → Prop} (hh : A.handled = none) (zl : s.heap.IsList l items) (zit : IntsAre items.toList ns) (hb : ns.length + 1 < scanBound)
    (h : ∀ (h' : Heap) (tk c : Nat), SetR w h' s.heap.objs.size (fun j => decide (j ∈ ns)) c → c ≤ ns.length → (∀ b o, s.heap.get? b = some o → h'.get? b = some o) → Q (.ref s.heap.objs.size) { s with heap := h', toks := tk }) :
    wpAny (model P w) A (call (.type "set") [.ref l]) Q E s := by
  have nsz : items.size = ns.length := by
    have q := IntsAre.length zit
    rw [Array.length_toList] at q
    exact q
  obtain ⟨c, tl, mro1⟩ := F.called_set.mro
  have made1 := F.called_set.made
  have sub1 := F.called_set.sub
  refine wpAny_call (codeAny_of_tree ?_)
  show wpAny _ _ (callAny (.type "set") _) _ _ _
  refine wpAny_pure ⟨Code.quiet_builtin _ (by decide +kernel), codeAny_builtin F.entry_type_call ?_⟩
  rw [Around.under_plain (weight_type_call_type "set" [.ref l] []) rfl]
  have z1 := F.called_set.notType
  have z2 := F.called_set.canCreate
  have ct1 := F.typeCall_set_1 (.ref l)
  repeat (any_goals (first | assumption | wp_step))

  refine codeAny_mono (code_set_led1 (.ref l) (E := E) (Q₁ := fun obj s₁ => obj = .ref s.heap.objs.size ∧ s₁ = { s with heap := s.heap.push { cls := .type "set", dict := none, data := .set #[] 0 (.fresh 0 0 (!w.params.followText "set-order")) } }) ⟨rfl, rfl⟩) fun r s₁ hr => ?_
  cases r with
  | error e => exact hr
  | ok fl =>
    cases fl with
    | ret obj =>
      obtain ⟨rfl, rfl⟩ := hr
      have zS : (s.heap.push { cls := .type "set", dict := none, data := .set #[] 0 (.fresh 0 0 (!w.params.followText "set-order")) }).get? s.heap.objs.size = some { cls := .type "set", dict := none, data := .set #[] 0 (.fresh 0 0 (!w.params.followText "set-order")) } := Heap.get?_push_size _ rfl
      have zT : Shared.TypeIs { s with heap := s.heap.push { cls := .type "set", dict := none, data := .set #[] 0 (.fresh 0 0 (!w.params.followText "set-order")) } } (.ref s.heap.objs.size) "set" := ⟨_, zS, rfl⟩
      have zli := F.called_set.init.lookup
      have zbi := F.called_set.init.bind (.ref s.heap.objs.size)
      repeat (any_goals (first | assumption | wp_step))

      refine codeAny_mono (codeAny_call_builtin (R := wants (fun r s₂ => r = .none ∧ ∃ h' tk c, s₂ = { s with heap := h', toks := tk } ∧ SetR w h' s.heap.objs.size (fun j => decide (j ∈ ns)) c ∧ c ≤ ns.length ∧
          (∀ b o, s.heap.get? b = some o → h'.get? b = some o)) E) F.called_set.init.plain F.entry_set_init (check_set_init_1 zT ?_)) fun r₂ s₂ zr₂ => ?_
      · obtain ⟨ol, zol, zcl, nl, zdl⟩ := zl
        obtain ⟨ocls, odict, odata, oslots⟩ := ol
        simp only at zcl zdl
        subst zcl; subst zdl
        have zol' : (s.heap.push { cls := .type "set", dict := none, data := .set #[] 0 (.fresh 0 0 (!w.params.followText "set-order")) }).get? l = some { cls := .type "list", dict := odict, data := .seq items nl, slots := oslots } := Heap.get?_push_of_some _ zol
        have zsls := F.sub_list_set
        have zslf := F.sub_list_frozenset
        have zne : (Value.type "list" == Value.type "dict") = false := by decide
        have zl1 : (s.heap.push { cls := .type "set", dict := none, data := .set #[] 0 (.fresh 0 0 (!w.params.followText "set-order")) }).IsList l items := ⟨_, zol', rfl, nl, rfl⟩
        unfold Builtin.«set.__init__» noKeywords Builtin.Frozenset.updateFrom
        generalize zPI : pyIter = PI
        wp_walk
        subst zPI

        refine wpAny_pyIter_list zl1 ?_
        refine wpAny_bind (wpAny_runValue ?_)
        have zlS : l < s.heap.objs.size := Heap.lt_size zol
        have zh3 : A.in1.in1.in1.handled = none := by simp [hh]
        have zz1 : (s.heap.push { cls := .type "set", dict := none, data := .set #[] 0 (.fresh 0 0 (!w.params.followText "set-order")) }).objs.size = s.heap.objs.size + 1 := Heap.size_push ..
        have zneI : l ≠ (s.heap.push { cls := .type "set", dict := none, data := .set #[] 0 (.fresh 0 0 (!w.params.followText "set-order")) }).objs.size := by
          rw [Heap.size_push]; exact Nat.ne_of_lt (Nat.lt_succ_of_lt zlS)
        have zSf : s.heap.objs.size ∉ [(s.heap.push { cls := .type "set", dict := none, data := .set #[] 0 (.fresh 0 0 (!w.params.followText "set-order")) }).objs.size, l] := by
          rw [Heap.size_push]; simp only [List.mem_cons, List.mem_singleton, List.not_mem_nil, or_false, not_or]
          exact ⟨Nat.ne_of_lt (Nat.lt_succ_self _), Nat.ne_of_gt zlS⟩
        have zval : ∀ (i : Nat) (v : Value), items[i]? = some v → ∃ k t, ns[i]? = some k ∧ v = .int k t := fun i v zv => by
          have zi : i < ns.length := by rw [← nsz]; exact (Array.getElem?_eq_some_iff.mp zv).1
          obtain ⟨t, e⟩ := PyProof.Rows.IntsAre.int_at zit i v (by rw [Array.getElem?_toList]; exact zv)
          refine ⟨ns[i], t, List.getElem?_eq_getElem zi, ?_⟩
          rw [e, List.getD_eq_getElem?_getD, List.getElem?_eq_getElem zi] <;> rfl
        refine set_update_ints ((Walks.list zh3 _ l zneI items).toS) s.heap.objs.size
          zSf ns nsz hb zval (items.size - 0) 0 _ (by omega) (Nat.zero_le _)
          ⟨⟨_, Heap.get?_push_size _ rfl, rfl, rfl⟩, (zl1.push _)⟩ ?zS0 ?zR
        case zS0 =>
          have zget : ((s.heap.push { cls := .type "set", dict := none, data := .set #[] 0 (.fresh 0 0 (!w.params.followText "set-order")) }).push { cls := .type "list_iterator", data := .fields #[.ref l, .int 0 0] }).get? s.heap.objs.size
              = some { cls := .type "set", dict := none, data := .set #[] 0 (.fresh 0 0 (!w.params.followText "set-order")) } := Heap.get?_push_of_some _ zS
          exact ⟨0, Nat.le_refl 0, setR_new_at zget⟩
        case zR =>
          intro s' c' zm zc' zS'
          obtain ⟨h', g2, d', tk', os'⟩ := s'
          have eg : g2 = s.gens := zm.gens
          have ed : d' = s.drawn := zm.drawn
          have eo : os' = s.os := zm.os
          subst eg; subst ed; subst eo
          show wpAny _ _ _ _ _ _
          refine wpAny_pure ?_
          show wpAny _ _ (ret Value.none) _ _ _
          rw [nsz] at zc'
          refine wpAny_pure ⟨rfl, h', tk', c', rfl, zS', zc', fun b o e => ?_⟩
          have zb0 : b < s.heap.objs.size := Heap.lt_size e
          have zb1 : b ≠ s.heap.objs.size := Nat.ne_of_lt zb0
          have zb2 : b ≠ (s.heap.push { cls := .type "set", dict := none, data := .set #[] 0 (.fresh 0 0 (!w.params.followText "set-order")) }).objs.size := by
            rw [Heap.size_push]; exact Nat.ne_of_lt (Nat.lt_succ_of_lt zb0)
          exact zm.heap b o (by simp only [List.mem_cons, List.mem_singleton, List.not_mem_nil, or_false, not_or]; exact ⟨zb1, zb2⟩) (Heap.get?_push_of_some _ (Heap.get?_push_of_some _ e))

      · cases r₂ with
        | error e => exact zr₂
        | ok fl₂ =>
          cases fl₂ with
          | ret r =>
            obtain ⟨rfl, h', tk, c', rfl, zS', zc', hk'⟩ := zr₂
            repeat (any_goals (first | assumption | wp_step))
            exact h _ _ _ zS' zc' hk'
          | _ => exact zr₂.elim
    | _ => exact hr.elim

end
end MI
set_option maxRecDepth 100000
set_option maxHeartbeats 4000000
namespace MI
open PySem PySem.Spec L2 PyProof.Rows
section
variable {c : Ct} {W : WX} {X : Cx} {B Z B1 : List Addr} {H H1 : Hp} {σ : L2.St}
/-! ## sorted(set(..)) -/
def sins (x : Int) : List Int → List Int
  | [] => [x]
  | y :: t => if x < y then x :: y :: t else if x = y then y :: t else y :: sins x t
def dsort : List Int → List Int
  | [] => []
  | x :: t => sins x (dsort t)
theorem sins_mem (x k : Int) : ∀ l : List Int, k ∈ sins x l ↔ k = x ∨ k ∈ l
  | [] => by simp [sins]
  | y :: t => by
    unfold sins
    split
    · simp
    · split
      · rename_i h; subst h; simp
      · rw [List.mem_cons, sins_mem x k t, List.mem_cons]
        constructor
        · rintro (h | h | h)
          · exact .inr (.inl h)
          · exact .inl h
          · exact .inr (.inr h)
        · rintro (h | h | h)
          · exact .inr (.inl h)
          · exact .inl h
          · exact .inr (.inr h)
theorem dsort_mem (k : Int) : ∀ l : List Int, k ∈ dsort l ↔ k ∈ l
  | [] => by simp [dsort]
  | x :: t => by unfold dsort; rw [sins_mem, dsort_mem k t, List.mem_cons]
theorem sins_pw (x : Int) : ∀ l : List Int, l.Pairwise (· < ·) → (sins x l).Pairwise (· < ·)
  | [], _ => by unfold sins; simp
  | y :: t, h => by
    unfold sins
    have z := List.pairwise_cons.mp h
    split
    · rename_i hxy
      refine List.pairwise_cons.mpr ⟨fun a ha => ?_, h⟩
      rcases List.mem_cons.mp ha with ha | ha
      · rw [ha]; exact hxy
      · exact Int.lt_trans hxy (z.1 a ha)
    · split
      · exact h
      · rename_i h1 h2
        refine List.pairwise_cons.mpr ⟨fun a ha => ?_, sins_pw x t z.2⟩
        rcases (sins_mem x a t).mp ha with ha | ha
        · rw [ha]; omega
        · exact z.1 a ha
theorem dsort_pw : ∀ l : List Int, (dsort l).Pairwise (· < ·)
  | [] => .nil
  | x :: t => sins_pw x _ (dsort_pw t)
theorem slt_unique : ∀ {l m : List Int}, (∀ k, k ∈ l ↔ k ∈ m) → l.Pairwise (· < ·) → m.Pairwise (· < ·) → l = m
  | [], [], _, _, _ => rfl
  | [], y :: u, p, _, _ => by have := (p y).mpr List.mem_cons_self; cases this
  | x :: t, [], p, _, _ => by have := (p x).mp List.mem_cons_self; cases this
  | x :: t, y :: u, p, h1, h2 => by
    have z1 := List.pairwise_cons.mp h1
    have z2 := List.pairwise_cons.mp h2
    have e : x = y := by
      rcases List.mem_cons.mp ((p x).mp List.mem_cons_self) with q1 | q1
      · exact q1
      · rcases List.mem_cons.mp ((p y).mpr List.mem_cons_self) with q2 | q2
        · exact q2.symm
        · have a1 := z2.1 x q1
          have a2 := z1.1 y q2
          omega
    subst e
    rw [slt_unique (fun k => ⟨fun hk => ?_, fun hk => ?_⟩) z1.2 z2.2]
    · rcases List.mem_cons.mp ((p k).mp (List.mem_cons_of_mem _ hk)) with q | q
      · have := z1.1 k hk; omega
      · exact q
    · rcases List.mem_cons.mp ((p k).mpr (List.mem_cons_of_mem _ hk)) with q | q
      · have := z2.1 k hk; omega
      · exact q
def TSrtSet (K : PySem.W.Frag) (ta : TE) : TE := fun σ H Q => ta σ H fun x H1 => ∃ (l : Addr) (ns : List Int), x = .ref l ∧ SqL K H1 l (ns.map V.int) ∧ ns.length < 64 ∧ ∀ p, H1 p = none → Q (.ref p) (upd H1 p (.lst ((dsort ns).map V.int)))
theorem pe_srtSet {a : Expr} {ta : TE} {p p2 q pos : Pos} (hg : Gl X "sorted") (hm : X.mg "sorted" = none) (hg2 : Gl X "set") (hm2 : X.mg "set" = none) (ha : PE X a ta) (hc : X.calm = true)
    (na : starEach [a] X.env = (false, eval a X.env) :: starEach [] X.env := by rfl) (nb : starEach [.Call (.Name "set" p2) [a] [] q] X.env = (false, eval (.Call (.Name "set" p2) [a] [] q) X.env) :: starEach [] X.env := by rfl) : PE X (.Call (.Name "sorted" p) [.Call (.Name "set" p2) [a] [] q] [] pos) (TSrtSet X.K ta) := by
  refine ⟨fun pins s σ H Q I h => ?_⟩
  refine Call_ (ld_blt I hg hm (by decide +kernel : bootBuiltins "sorted" = some (.builtin "sorted")) ?_)
  refine PyProof.Rows.callWith_builtin1 (PyProof.Rows.args_cons ?_ nb) nb rfl
  refine Call_ (ld_blt I hg2 hm2 boot_set ?_)
  refine PyProof.Rows.callWith_type1 (PyProof.Rows.args_cons (thn (ha.run pins s σ H _ I h) fun v s1 ⟨x, H1, I1, r1, q1⟩ => PyProof.Rows.args_nil ?_) na) na rfl
  obtain ⟨l, ns, rfl, hq, h64, q1⟩ := q1
  cases r1
  obtain ⟨its, r, pl, hz⟩ := I1.list hq
  refine call_set_lstI (P := X.prog) (w := X.w) ns (I1.ok.hd hc) pl.isList (by simpa using RZ.intsAre_vals r) (by unfold scanBound; omega) fun h' tk c hS hc' hk => ?_
  refine PyProof.Rows.args_nil ?_
  have I2 : Inv X pins σ H1 { s1 with heap := h', toks := tk } := I1.kept hk
  refine sorted_set (s := { s1 with heap := h', toks := tk }) hS (I2.ok.hd hc) (by omega) fun s' p out c ms k g o hp hg hi hs hm hl => ?_
  have em : ms = dsort ns := slt_unique (fun k => by rw [hm k, dsort_mem]; simp) hs (dsort_pw ns)
  subst em
  have hlen : ((dsort ns).map V.int).length ≤ sizeLine := by rw [List.length_map, hl, sizeLine_eq]; omega
  have hn : H1 p = none := I2.hok.fresh hp
  have J : Inv X pins σ (upd H1 p (.lst ((dsort ns).map V.int))) { ({ s1 with heap := h', toks := tk } : Shared) with heap := s'.heap, gens := s'.gens, drawn := s'.drawn, toks := s'.toks } :=
    I2.call (ch := []) (Un.laid k hp hn) (I2.hok.laid k hp ⟨hlen, out.toList, _, vals_of_ints hi, hg⟩) (by rw [g]; exact I2.bare) (fun _ z => nomatch z)
  have e : s' = { s1 with heap := s'.heap, gens := s'.gens, drawn := s'.drawn, toks := s'.toks } := by
    cases s'
    cases o
    rfl
  rw [e]
  exact ⟨.ref p, _, J, rfl, q1 p hn⟩
@[simp] def eSrtSet (f : FE) : FE := fun r S => (f r S).bind fun v S1 => match lintsOf S1 v with
  | some ns => if ns.length < 64 then .ok (.d (.list ((dsort ns).map .int))) S1 else .bad
  | none => .bad
theorem s_srtSet {a : Expr} {f : FE} {p p2 q pos : Pos} (cx : Cxg c W X) (hg : Gl X "sorted") (hm : X.mg "sorted" = none) (hg2 : Gl X "set") (hm2 : X.mg "set" = none) (ha : PE X a (TEx c W f)) (hc : X.calm = true)
    (na : starEach [a] X.env = (false, eval a X.env) :: starEach [] X.env := by rfl) (nb : starEach [.Call (.Name "set" p2) [a] [] q] X.env = (false, eval (.Call (.Name "set" p2) [a] [] q) X.env) :: starEach [] X.env := by rfl) : PE X (.Call (.Name "sorted" p) [.Call (.Name "set" p2) [a] [] q] [] pos) (TEx c W (eSrtSet f)) :=
  pe_imp (pe_srtSet hg hm hg2 hm2 ha hc na nb) fun σ H Q ⟨B, Z, r, S, s, rr, p⟩ => ⟨B, Z, r, S, s, rr, (Post.bind p).imp fun v S1 B1 H1 e1 s1 q x rx => by
    cases h : lintsOf S1 v with
    | none => rw [h] at q; exact q.elim
    | some ns =>
      rw [h] at q
      dsimp only at q
      obtain ⟨a, rfl, h1⟩ := lintsOf_sq s1 rx h
      by_cases hl : ns.length < 64
      · rw [if_pos hl] at q
        exact ⟨a, ns, rfl, by rw [cx.K]; exact h1, hl, fun p hp => new_list s1 (rds_ints _) hp q⟩
      · rw [if_neg hl] at q; exact q.elim⟩
end
end MI
set_option maxRecDepth 100000
set_option maxHeartbeats 4000000
namespace MI
open PySem PySem.Spec PyProof.Rows L2 LamX
/-! ## the end: the law's run (turned from the worked one, over the promise with guards) -/
theorem law_callT {P : Program} {w : World} {K : PySem.W.Frag} {mg mb : Str → Option Value} {k : Nat} {fa a : Addr} {cs : List (Addr × Addr)} {nq : Addr → Str} {lam : Nat → Option LI} {fd : FuncData} {x : Str} {g : FN} {s₁ : Shared} {vs : List Value} {ns : List Int}
    (KX : K.In s₁.heap) (nsG : s₁.heap.Ns mainGlobals mg) (nsB : s₁.heap.Ns builtinsNs mb) (bltB : ∀ x : Str, x ≠ "__name__" → mb x = bootBuiltins x) (noL : s₁.heap.NoLimit) (gen0 : s₁.gens = #[])
    (tabE : ∀ p ∈ cs, s₁.heap.get? p.2 = some { cls := .none, data := .fields #[] }) (tabN : ∀ p ∈ cs, K.lookup p.2 = none) (codeA : ∀ p ∈ cs, PySem.W.CodeHd s₁.heap p.1 p.2)
    (bltM : ∃ (bm : Addr) (ob : Obj), mg "__builtins__" = some (.ref bm) ∧ bm ≠ builtinsNs ∧ s₁.heap.get? bm = some ob ∧ ob.cls = .type "module" ∧ ob.dict = some builtinsNs ∧ ob.data = .plain)
    (atA : s₁.heap.get? a = some { cls := .type "list", data := .seq vs.toArray }) (hi : IntsAre vs ns) (lenA : ns.length ≤ sizeLine) (room : Room k callerA)
    (F : ∀ base : Heap, K.In base → base.Ns mainGlobals mg → (∀ p ∈ cs, TabB base mg p.1 p.2) → FnG P w ⟨K, mg, cs.map fun p => (p.2, nq p.2), lam, []⟩ base k fa fd [x] g) (bnd : ∀ (s : Shared) (u : Value), BindsTo s fd ⟨[u], []⟩ [(x, u)])
    (ans : ∃ S, g [.scr ns] [] = .ok (.d (.bool true)) S) :
    codeAny (model P w) callerA (.call (.ref fa) ⟨[.ref a], []⟩) (fun r s' => r = .ok (.ret (.bool true)) ∧ OldK s₁.heap s'.heap ∧ s'.os = s₁.os ∧ AllBare s'.gens) s₁ := by
  have rvs := vals_ints hi
  have lenVs := hi.length
  have isTab : ∀ b : Addr, b ∈ cs.map (·.2) → s₁.heap.get? b = some { cls := .none, data := .fields #[] } := fun b nsB => by
    obtain ⟨p, zp, e⟩ := List.mem_map.mp nsB
    rw [← e]
    exact tabE p zp
  have notT : a ∉ cs.map (·.2) := fun z => by
    have q := isTab a z
    rw [atA] at q
    have z' : Data.seq vs.toArray _ = Data.fields #[] := congrArg Obj.data (Option.some.inj q)
    cases z'
  have memTab : ∀ p ∈ cs, p.2 ∈ cs.map (·.2) := fun p zp => List.mem_map.mpr ⟨p, zp, rfl⟩
  -- from an abstract heap in which nothing but the script and the tables may be tracked
  have coreG : ∀ H : Hp, (∀ p ∈ cs, H p.2 = some (.tbl #[])) → (∀ b, H b = none ∨ b ∈ cs.map (·.2) ∨ ∃ o xs, H b = some (.frz o (.lst xs))) → SqL K H a (ns.map V.int) → HOk P w H s₁.heap → (∀ b, H b ≠ none → b = a ∨ b ∈ cs.map (·.2)) → (H a ≠ none → K.lookup a = none) →
      codeAny (model P w) callerA (.call (.ref fa) ⟨[.ref a], []⟩) (fun r s' => r = .ok (.ret (.bool true)) ∧ OldK s₁.heap s'.heap ∧ s'.os = s₁.os ∧ AllBare s'.gens) s₁ := by
    intro H atT onlyH sqH okH ownA keyA
    have baseOf : ∀ {b : Addr} {o : Obj}, s₁.heap.get? b = some o → H b = none → (hidT s₁.heap H).get? b = some o := fun e n => hidT_get e n
    have noData : ∀ {b : Addr} {o : Obj}, s₁.heap.get? b = some o → (∀ vs n, o.data ≠ .seq vs n) → o.data ≠ .fields #[] → H b = none := fun {b o} e h1 h2 => by
      cases q : H b with
      | none => rfl
      | some u =>
        rcases ownA b (by rw [q]; simp) with e' | e'
        · rw [e', atA] at e
          cases e
          exact (h1 _ _ rfl).elim
        · rw [isTab b e'] at e
          cases e
          exact (h2 rfl).elim
    have noDict : ∀ {b : Addr} {o : Obj} {es : Array DictEntry} {ep : Nat}, s₁.heap.get? b = some o → o.data = .dict es ep → H b = none := fun {b o es ep} e d => by
      refine noData e (fun vs n z => ?_) fun z => ?_
      · rw [d] at z
        cases z
      · rw [d] at z
        cases z
    have nsOf : ∀ {b : Addr} {m : Str → Option Value}, s₁.heap.Ns b m → (hidT s₁.heap H).Ns b m := fun {b m} ⟨o, es, ep, e, d, r⟩ => ⟨o, es, ep, baseOf e (noDict e d), d, r⟩
    have inB : K.In (hidT s₁.heap H) := fun b o e => baseOf (KX b o e) (by
      cases q : H b with
      | none => rfl
      | some u =>
        rcases ownA b (by rw [q]; simp) with e' | e'
        · rw [e'] at e q
          rw [keyA (by rw [q]; simp)] at e
          cases e
        · obtain ⟨p, zp, ep⟩ := List.mem_map.mp e'
          rw [← ep, tabN p zp] at e
          cases e)
    have modB : L2.Mod K mg (hidT s₁.heap H) := ⟨inB, nsOf nsG, ⟨mb, nsOf nsB, bltB⟩, let ⟨mc, h1, h2⟩ := noL; ⟨mc, nsOf h1, h2⟩⟩
    have tabB : ∀ p ∈ cs, TabB (hidT s₁.heap H) mg p.1 p.2 := fun p zp => by
      have tabP := tabE p zp
      refine ⟨?_, ?_, fun z => ?_⟩
      · obtain ⟨o, us, file, tf, flags, tg, inF, text, tt, e1, r1, r2, r3, r4, r5, r6, r7, r8, zne⟩ := codeA p zp
        refine ⟨o, us, file, tf, flags, tg, inF, text, tt, baseOf e1 (noData e1 (fun vs n z => ?_) fun z => ?_), r1, r2, r3, r4, r5, r6, r7, r8, zne⟩
        · rw [r2] at z
          cases z
        · rw [r2] at z
          cases z
          simp at r3
      · obtain ⟨bm, ob, b1, b2, b3, b4, b5, b6⟩ := bltM
        have nG : bm ≠ mainGlobals := fun q => by
          obtain ⟨o, es, ep, e, zd, _⟩ := nsG
          rw [q, e] at b3
          cases b3
          rw [zd] at b6
          cases b6
        have nP : bm ≠ p.2 := fun q => by
          rw [q, tabP] at b3
          cases b3
          cases b6
        refine ⟨bm, ob, b1, b2, nG, nP, baseOf b3 (noData b3 (fun vs n z => ?_) fun z => ?_), b4, b5, b6⟩
        · rw [b6] at z
          cases z
        · rw [b6] at z
          cases z
      · obtain ⟨o, es, ep, e, zd, _⟩ := nsG
        rw [z, tabP] at e
        cases e
        cases zd
    have env0 : Env0 P w K mg (hidT s₁.heap H) callerA [] s₁ H := ⟨rfl, modB, fun b o e => of_hidT e, Nat.le_of_eq (hidT_size _ _), trivial, fun b nsB => absurd (show b ∈ ([] : List Addr) from nsB) (by simp), okH, .of_eq gen0⟩
    have srT : Tabs (cs.map fun p => (p.2, nq p.2)) H := fun q hq => by
      obtain ⟨p, hp, rfl⟩ := List.mem_map.mp hq
      exact TabS.nil (atT p hp)
    have srN : SR ⟨K, mg, cs.map fun p => (p.2, nq p.2), lam, []⟩ H [] [] [] := ⟨rfl, .nil, fun _ m => (nomatch m), fun _ m => (nomatch m), fun n b o q => by simp at q, srT⟩
    have riN : RI ⟨K, mg, cs.map fun p => (p.2, nq p.2), lam, []⟩ H [] [] (.scr ns) (.ref a) := by
      rcases sqH with q | q
      · exact .scr q (by simp)
      · exact .scrK q
    have post : Post ⟨K, mg, cs.map fun p => (p.2, nq p.2), lam, []⟩ (fun cls d _ H => (fun _ _ _ => False : XK) cls d H) [] [] H [] (g [.scr ns] []) (fun v _ B' H' => ∀ x, RI ⟨K, mg, cs.map fun p => (p.2, nq p.2), lam, []⟩ H' B' [] v x → (fun v _ => v = .bl true : VK) x H') := by
      obtain ⟨S, e⟩ := ans
      rw [e]
      intro B' H' _ _ x r
      cases r with
      | d r => cases r; rfl
    refine codeAny_mono ((F _ inB (nsOf nsG) tabB).run callerA [] s₁ H ⟨[.ref a], []⟩ [.ref a] [.ref a] (fun v _ => v = .bl true) (fun _ _ _ => False) [] [] [] [.scr ns] room rfl env0 (bnd s₁ (.ref a)) (.cons rfl .nil) rfl srN (.cons riN .nil) post) fun r s' h => ?_
    cases r with
    | error e => obtain ⟨_, _, _, _, _, _, _, _, _, _, _, _, z⟩ := h; exact z.elim
    | ok fl =>
      cases fl with
      | next => exact False.elim h
      | brk => exact False.elim h
      | cont => exact False.elim h
      | ret u =>
        obtain ⟨v, H', os, bare2, un, okH', r', q⟩ := h
        have q' : v = .bl true := q
        subst q'
        obtain rfl : u = Value.bool true := r'
        have key : ∀ b o, b ∉ cs.map (·.2) → s₁.heap.get? b = some o → s'.heap.get? b = some o := fun b o nb e => by
          cases q : H b with
          | none => exact un.keep b o e q (by intro z; exact absurd (show b ∈ ([] : List Addr) from z) (by simp)) (by simp)
          | some u =>
            rcases onlyH b with z | z | ⟨ob, xs, z⟩
            · rw [q] at z; cases z
            · exact absurd z nb
            · have z2 := un.frzs b ob _ z
              obtain ⟨e1, _⟩ := okH b _ z
              obtain ⟨e2, _⟩ := okH' b _ z2
              rw [e] at e1; cases e1
              exact e2
        have grown : ∀ p ∈ cs, ∃ more : Array Value, s'.heap.get? p.2 = some { cls := .none, data := .fields more } := fun p zp => by
          obtain ⟨more, z⟩ := un.tbls p.2 #[] (atT p zp)
          exact ⟨_, okH' p.2 _ z⟩
        refine ⟨rfl, ⟨fun b o e => ?_, fun b o e => ?_⟩, os, bare2⟩
        · by_cases nsB : b ∈ cs.map (·.2)
          · obtain ⟨p, zp, ep⟩ := List.mem_map.mp nsB
            obtain ⟨more, zm⟩ := grown p zp
            rw [← ep] at e ⊢
            rw [tabE p zp] at e
            cases e
            exact .inr (.inl ⟨((codeA p zp).tab (tabE p zp)).isCodeTable, rfl, #[], more, rfl, by rw [Array.empty_append]; exact zm⟩)
          · exact .inl (key b o nsB e)
        · by_cases nsB : b ∈ cs.map (·.2)
          · obtain ⟨p, zp, ep⟩ := List.mem_map.mp nsB
            obtain ⟨more, zm⟩ := grown p zp
            rw [← ep]
            exact ⟨_, zm⟩
          · exact ⟨o, key b o nsB e⟩
  cases zk : K.lookup a with
  | some o =>
    have e := KX a o zk
    rw [atA] at e
    cases e
    refine coreG (fun b => if b ∈ cs.map (·.2) then some (.tbl #[]) else none) (fun p zp => if_pos (memTab p zp)) (fun b => ?_) (.inr ⟨_, vs.toArray, _, zk, rfl, rfl, rfl, by rw [List.size_toArray, lenVs]; exact lenA, by simpa using rvs⟩) (fun b u z => ?_) (fun b z => ?_) fun z => absurd (show (if a ∈ cs.map (·.2) then some (HO.tbl #[]) else none) = none from if_neg notT) z
    · by_cases nsB : b ∈ cs.map (·.2)
      · exact .inr (.inl nsB)
      · exact .inl (if_neg nsB)
    · by_cases nsB : b ∈ cs.map (·.2)
      · have z' := (if_pos nsB).symm.trans z
        cases z'
        exact isTab b nsB
      · have z' := (if_neg nsB).symm.trans z
        cases z'
    · by_cases nsB : b ∈ cs.map (·.2)
      · exact .inr nsB
      · exact absurd (if_neg nsB) z
  | none =>
    refine coreG (fun b => if b = a then some (.frz { cls := .type "list", data := .seq vs.toArray } (.lst (ns.map V.int))) else if b ∈ cs.map (·.2) then some (.tbl #[]) else none) (fun p zp => (if_neg (show ¬ p.2 = a from fun z => notT (by rw [← z]; exact memTab p zp))).trans (if_pos (memTab p zp))) (fun b => ?_)
      (.inl (.inr ⟨{ cls := .type "list", data := .seq vs.toArray }, if_pos rfl⟩)) (fun b u z => ?_) (fun b z => ?_) fun _ => zk
    · by_cases nsB : b = a
      · exact .inr (.inr ⟨_, _, if_pos nsB⟩)
      · by_cases hb2 : b ∈ cs.map (·.2)
        · exact .inr (.inl hb2)
        · exact .inl ((if_neg nsB).trans (if_neg hb2))
    · by_cases nsB : b = a
      · have z' := (if_pos nsB).symm.trans z
        cases z'
        rw [nsB]
        exact ⟨atA, by rw [List.length_map]; exact lenA, vs, _, rvs, atA⟩
      · have z1 := (if_neg nsB).symm.trans z
        by_cases hb2 : b ∈ cs.map (·.2)
        · have z' := (if_pos hb2).symm.trans z1
          cases z'
          exact isTab b hb2
        · have z' := (if_neg hb2).symm.trans z1
          cases z'
    · by_cases nsB : b = a
      · exact .inl nsB
      · by_cases hb2 : b ∈ cs.map (·.2)
        · exact .inr hb2
        · exact absurd ((if_neg nsB).trans (if_neg hb2)) z
/-- what is known of the law's promise at the head's heap h -/
def LawT (l : PySem.W.OpenLaw) (w : World) (k : Nat) (x : Str) (g : FN) (mg : Str → Option Value) (fa : Addr) (h : Heap) : Prop :=
  ∃ (K : PySem.W.Frag) (fd : FuncData) (cs : List (Addr × Addr)) (nq : Addr → Str) (lam : Nat → Option LI), K.In h ∧ (∀ p ∈ cs, h.get? p.2 = some { cls := .none, data := .fields #[] }) ∧ (∀ p ∈ cs, K.lookup p.2 = none) ∧ (∀ p ∈ cs, PySem.W.CodeHd h p.1 p.2) ∧
    (∀ (s : Shared) (u : Value), BindsTo s fd ⟨[u], []⟩ [(x, u)]) ∧ ∀ base : Heap, K.In base → base.Ns mainGlobals mg → (∀ p ∈ cs, TabB base mg p.1 p.2) → FnG l.prog w ⟨K, mg, cs.map fun p => (p.2, nq p.2), lam, []⟩ base k fa fd [x] g
theorem walk_G {l : PySem.W.OpenLaw} {n k : Nat} {q : Program} {loose : List Str} {XP : (Str → Option Value) → Heap → Prop} {YP : World → Heap → Prop} {d : DefRec} {x : Str} {g : FN}
    (most : l.most = some n) (fits : n ≤ sizeLine) (noDef : d.params.defaults = []) (room : Room k callerA)
    (F : ∀ (w : World) (mg : Str → Option Value) (fa : Addr) (h : Heap), YP w h → h.Ns mainGlobals mg → mg d.name = some (.ref fa) → LawT l w k x g mg fa h)
    (ans : ∀ ns : List Int, ns.length ≤ n → ∃ S, g [.scr ns] [] = .ok (.d (.bool true)) S) :
    PySem.W.WalkO q loose XP YP l.row.toRowW d [] (fun f vs => PySem.call f vs) := by
  refine Att.attach_call most noDef fun w s₀ s₁ mg mb fa o pm cd doc a vs ns G Y ho hd hcd hmg hobj hints hlen hg => ?_
  obtain ⟨K, fd, cs, nq, lam, KX, c1, c2, c3, hb, hF⟩ := F w mg fa _ Y G.T.g hmg
  exact law_callT KX G.T.g G.T.b G.T.builtins G.T.nolimit hg c1 c2 c3 G.T.bmain hobj hints (Nat.le_trans hlen fits) room hF hb (ans ns hlen)
section
variable {P : Program} {w : World} {c : Ct} {base : Heap} {x qual : Str} {params : Arguments} {body : List Stmt} {scope : Scope} {kws : List (Str × V)} {f : Addr} {fd : FuncData}
/-- a def's promise, from its body's reading -/
theorem fun_okG {N ps : List Str} {k : Nat} {fs : FS} (F : FunD c.K x qual params body scope [] kws f fd) (S : FnScope N ps scope)
    (hbody : ∀ (cdv : Value) (A : Around) (outer : List Env) (s : Shared) (H : Hp) (E : XK), Room k (A.deeper (envOfC qual scope s.heap.objs.size f cdv)) → A.guards = some [] →
      PSs (cxOf (L2.CX P w) P w c.K c.mg base N qual scope f cdv A outer s H E) body (TSx c (fun cls d _ H => E cls d H) fs)) : FnG P w c base (k + 1) f fd ps (fnB N.length fs) := by
  obtain ⟨oc, od, dV, kV, doc, pm, an, cdv, ct, osl, rfl, lk, hcd, _, _⟩ := F.ex
  exact fn_ofG lk hcd S fun A outer s H E hr hgu => hbody cdv A outer s H E hr hgu
/-- the standing facts of a body -/
theorem cxg_of {N : List Str} {cdv : Value} {A : Around} {outer : List Env} {s : Shared} {H : Hp} {E : XK} (hgu : A.guards = some []) : Cxg c (fun cls d _ H => E cls d H) (cxOf (L2.CX P w) P w c.K c.mg base N qual scope f cdv A outer s H E) :=
  ⟨rfl, rfl, hgu, takes_of rfl rfl rfl rfl⟩
end
end MI
set_option maxRecDepth 100000
set_option maxHeartbeats 4000000
namespace MI
open PySem PySem.Spec PyProof.Rows L2

section
variable {c : Ct} {W : WX} {X : Cx} {B Z : List Addr} {H : Hp} {σ : L2.St} {k : Nat}
/-! ## what a body leans on, said once -/
theorem Cxg.blk {s : Shared} {H : Hp} {scope : Scope} {cenv : Env} {fp : List Addr} (cx : Cxg c W X) : Cxg c W0 (X.blk s H scope cenv fp) :=
  ⟨cx.K, cx.mg, cx.gu, fun u s' x => by
    obtain ⟨_, _, _, _, _, _, _, _, _, _, _, _, _, _, _, _, z⟩ := x
    exact z.elim⟩
def visC (sc : Scope) (x : Str) : Bool := match sc.names.lookup x with
  | some .local => true
  | some .cell => true
  | some .free => true
  | _ => false
theorem vis_by {sc : Scope} {x : Str} (h : visC sc x = true) : Vis sc x := by
  unfold visC at h
  split at h
  · exact .inl (by assumption)
  · exact .inr (.inl (by assumption))
  · exact .inr (.inr (by assumption))
  · cases h
def locC (sc : Scope) (x : Str) : Bool := match sc.names.lookup x with
  | some .local => true
  | some .cell => true
  | _ => false
theorem loc_by {sc : Scope} {x : Str} (h : locC sc x = true) : Loc sc x := by
  unfold locC at h
  split at h
  · exact .inl (by assumption)
  · exact .inr (by assumption)
  · cases h
theorem v_v (i : Nat) {x : Str} {pos : Pos} (hN : X.N[i]? = some x) (hv : visC X.env.scope x = true) (hd : (x == ("__debug__" : Str)) = false := by decide) (hcd : (x == ("__classdict__" : Str)) = false := by decide) : PE X (.Name x pos) (TEx c W (eVar i)) :=
  s_var (pe_var hN (vis_by hv) hd hcd)
section
variable {a b d e : Expr} {f g h : FE} {pos : Pos}
theorem v_add (cx : Cxg c W X) (ha : PE X a (TEx c W f)) (hb : PE X b (TEx c W g)) : PE X (.BinOp a .Add b pos) (TEx c W (eOp2 oAdd f g)) := by
  have z : OpR X (binaryOp .Add) (rAddA X.K) := op_addA
  rw [cx.K] at z
  exact s_op z k_add ha hb
theorem v_addM (cx : Cxg c W X) (ha : PE X a (TEx c W f)) (hb : PE X b (TEx c W g)) : PE X (.BinOp a .Add b pos) (TEx c W (eOp2 oAddM f g)) := by
  have z : OpR X (binaryOp .Add) (rAddA X.K) := op_addA
  rw [cx.K] at z
  exact s_op z k_addM ha hb
theorem v_sub (ha : PE X a (TEx c W f)) (hb : PE X b (TEx c W g)) : PE X (.BinOp a .Sub b pos) (TEx c W (eOp2 (oInt gSub) f g)) := s_op op_subC k_sub ha hb
theorem v_mul (ha : PE X a (TEx c W f)) (hb : PE X b (TEx c W g)) : PE X (.BinOp a .Mult b pos) (TEx c W (eOp2 (oInt gMul) f g)) := s_op op_mulW k_mul ha hb
theorem v_div (ha : PE X a (TEx c W f)) (hb : PE X b (TEx c W g)) : PE X (.BinOp a .FloorDiv b pos) (TEx c W (eOp2 (oInt gDiv) f g)) := s_op op_fdivW k_div ha hb
theorem v_mod (ha : PE X a (TEx c W f)) (hb : PE X b (TEx c W g)) : PE X (.BinOp a .Mod b pos) (TEx c W (eOp2 (oInt gMod) f g)) := s_op op_mod k_mod ha hb
/-- powers, wide -/
@[simp] def gPw (i j : Int) : Option Int := if 0 ≤ j ∧ j ≤ 1000 ∧ i.natAbs < 2 ^ 1000 then some (i ^ j.toNat) else none
theorem bits1000 {i j : Int} (h0 : 0 ≤ j) (h1 : j ≤ 1000) (h2 : i.natAbs < 2 ^ 1000) : (Builtin.Int.intBits i : Int) * j ≤ 2 ^ 27 := by
  have hb : Builtin.Int.intBits i ≤ 1000 := by
    unfold Builtin.Int.intBits
    split
    · omega
    · rename_i hz
      have hz' : i.natAbs ≠ 0 := by simpa using hz
      have := (Nat.log2_lt hz').mpr h2
      omega
  calc (Builtin.Int.intBits i : Int) * j ≤ 1000 * j := Int.mul_le_mul_of_nonneg_right (by omega) h0
    _ ≤ 1000 * 1000 := Int.mul_le_mul_of_nonneg_left h1 (by omega)
    _ ≤ 2 ^ 27 := by decide
theorem op_pw : OpR X (binaryOp .Pow) (rI (fun i j => 0 ≤ j ∧ j ≤ 1000 ∧ i.natAbs < 2 ^ 1000) fun i j => .int (i ^ j.toNat)) := opI fun i j t u s Q E hc q => pow_int hc.1 (bits1000 hc.1 hc.2.1 hc.2.2) q
theorem v_pow (ha : PE X a (TEx c W f)) (hb : PE X b (TEx c W g)) : PE X (.BinOp a .Pow b pos) (TEx c W (eOp2 (oInt gPw) f g)) := s_op op_pw (k_int fun i j k e => by
  unfold gPw at e
  split at e
  · exact ⟨by assumption, (Option.some.inj e).symm⟩
  · cases e) ha hb
theorem v_neg (ha : PE X a (TEx c W f)) : PE X (.UnaryOp .USub a pos) (TEx c W (eOp1 oNeg f)) := s_un un_neg k_neg ha
theorem v_ix (cx : Cxg c W X) (ha : PE X a (TEx c W f)) (hb : PE X b (TEx c W g)) (hs : PlainIx b := by intro _ _; rfl) : PE X (.Subscript a b pos) (TEx c W (eOp2 oIx f g)) := s_ix cx.K.symm ha hb hs
theorem v_sl {lo hi : Option Expr} {l h : FO} {p2 : Pos} (cx : Cxg c W X) (he : PE X e (TEx c W f)) (hl : PO X lo (TOx c W l)) (hh : PO X hi (TOx c W h)) : PE X (.Subscript e (.Slice lo hi none p2) pos) (TEx c W (eSl f l h)) := s_sl cx.K.symm he hl hh
/-! comparisons: the operation's rule and its reading -/
structure Cm (c : Ct) (W : WX) (X : Cx) (op : CmpOp) (o : O2) : Prop where
  ex : ∃ r, OpR X (compareOp op) r ∧ Ok2 c W r o
theorem m_eq (cx : Cxg c W X) (hr : Room k X.A) : Cm c W X .Eq cEq := ⟨_, cx.K ▸ op_eqA hr.units, k_eq⟩
theorem m_ne (cx : Cxg c W X) (hr : Room k X.A) : Cm c W X .NotEq cNe := ⟨_, cx.K ▸ op_neA hr.units, k_ne⟩
theorem m_lt : Cm c W X .Lt (cInt gLt) := ⟨_, op_lt, k_cint⟩
theorem m_le : Cm c W X .LtE (cInt gLe) := ⟨_, op_le, k_cint⟩
theorem m_gt : Cm c W X .Gt (cInt gGt) := ⟨_, op_gt, k_cint⟩
theorem m_ge : Cm c W X .GtE (cInt gGe) := ⟨_, op_ge, k_cint⟩
theorem m_in (cx : Cxg c W X) (hr : Room k X.A) : Cm c W X .In (cInN false) := ⟨_, cx.K ▸ op_inA (by have := hr.un; omega), k_in⟩
theorem m_ni (cx : Cxg c W X) (hr : Room k X.A) : Cm c W X .NotIn (cInN true) := ⟨_, cx.K ▸ op_notInA (by have := hr.un; omega), k_notIn⟩
theorem m_is : Cm c W X .Is (cIsN false) := ⟨_, op_isN, k_isN⟩
theorem m_isn : Cm c W X .IsNot (cIsN true) := ⟨_, op_notN, k_notN⟩
theorem v_cmp {op : CmpOp} {o : O2} (m : Cm c W X op o) (ha : PE X a (TEx c W f)) (hb : PE X b (TEx c W g)) (hm : behindInMarks op b = false := by rfl) : PE X (.Compare a [op] [b] pos) (TEx c W (eOp2 o f g)) := by
  obtain ⟨r, h1, h2⟩ := m.ex
  exact s_cmp h1 h2 ha hb hm
theorem v_tcmp {op : CmpOp} {o : O2} (m : Cm c W X op o) (ha : PE X a (TEx c W f)) (hb : PE X b (TEx c W g)) (hm : behindInMarks op b = false := by rfl) : PT X (.Compare a [op] [b] pos) (TTx c W (tE (eOp2 o f g))) := by
  obtain ⟨r, h1, h2⟩ := m.ex
  exact s_tcmp h1 h2 ha hb hm
theorem v_chain {op op' : CmpOp} {o o' : O2} (m : Cm c W X op o) (m' : Cm c W X op' o') (ha : PE X a (TEx c W f)) (hb : PE X b (TEx c W g)) (hd : PE X d (TEx c W h)) (hm : lastMarks [op, op'] [b, d] = false := by with_unfolding_all rfl) : PE X (.Compare a [op, op'] [b, d] pos) (TEx c W (eCh o o' f g h)) := by
  obtain ⟨r, h1, h2⟩ := m.ex
  obtain ⟨r', h3, h4⟩ := m'.ex
  exact s_chain h1 h3 h2 h4 ha hb hd hm
theorem v_tchain {op op' : CmpOp} {o o' : O2} (m : Cm c W X op o) (m' : Cm c W X op' o') (ha : PE X a (TEx c W f)) (hb : PE X b (TEx c W g)) (hd : PE X d (TEx c W h)) (hm : lastMarks [op, op'] [b, d] = false := by with_unfolding_all rfl) : PT X (.Compare a [op, op'] [b, d] pos) (TTx c W (tE (eCh o o' f g h))) := by
  obtain ⟨r, h1, h2⟩ := m.ex
  obtain ⟨r', h3, h4⟩ := m'.ex
  exact s_tchain h1 h3 h2 h4 ha hb hd hm
end
/-! built-ins: the rule and its reading -/
structure Bf (c : Ct) (W : WX) (X : Cx) (v : Value) (o : FN) : Prop where
  ex : ∃ r, CallR X v r ∧ OkN c W r o
section
variable {x : Str} {p pos : Pos} {e : Expr} {es : List Expr} {fa : FA} {o : FN} {id T : String}
theorem v_blt (b : Bf c W X (.builtin id) o) (hg : Gl X x) (hm : X.mg x = none) (hv : bootBuiltins x = some (.builtin id)) (ha : PA X (e :: es) (TAx c W fa)) (hn : x ≠ "__name__" := by decide) (hdb : (x == ("__debug__" : Str)) = false := by decide)
    (hs : starEach (e :: es) X.env = (false, eval e X.env) :: starEach es X.env := by rfl) (hpl : (backTo pos (starEach es X.env)).any (·.1) = false := by rfl) : PE X (.Call (.Name x p) (e :: es) [] pos) (TEx c W (eApp o fa)) := by
  obtain ⟨r, h1, h2⟩ := b.ex
  exact s_blt h2 h1 hg hm hv ha hn hdb hs hpl
theorem v_bty (b : Bf c W X (.type T) o) (hg : Gl X x) (hm : X.mg x = none) (hv : bootBuiltins x = some (.type T)) (ha : PA X (e :: es) (TAx c W fa)) (hn : x ≠ "__name__" := by decide) (hdb : (x == ("__debug__" : Str)) = false := by decide)
    (hs : starEach (e :: es) X.env = (false, eval e X.env) :: starEach es X.env := by rfl) (hpl : (backTo pos (starEach es X.env)).any (·.1) = false := by rfl) : PE X (.Call (.Name x p) (e :: es) [] pos) (TEx c W (eApp o fa)) := by
  obtain ⟨r, h1, h2⟩ := b.ex
  exact s_bty h2 h1 hg hm hv ha hn hdb hs hpl
end
theorem f_len (cx : Cxg c W X) : Bf c W X (.builtin "len") bLen := ⟨_, cx.K ▸ call_len, k_len⟩
theorem f_abs : Bf c W X (.builtin "abs") bAbs := ⟨_, call_abs, k_abs⟩
theorem f_max2 (hc : X.calm = true) : Bf c W X (.builtin "max") bMax2 := ⟨_, call_max2 hc, k_max2⟩
theorem f_min2 (hc : X.calm = true) : Bf c W X (.builtin "min") bMin2 := ⟨_, call_min2 hc, k_min2⟩
theorem f_sum (cx : Cxg c W X) (hc : X.calm = true) : Bf c W X (.builtin "sum") bSum := ⟨_, cx.K ▸ cr_sum hc, k_sum⟩
theorem f_all (cx : Cxg c W X) (hc : X.calm = true) : Bf c W X (.builtin "all") bAll := ⟨_, cx.K ▸ cr_all hc, k_all⟩
theorem f_any (cx : Cxg c W X) (hc : X.calm = true) : Bf c W X (.builtin "any") bAny := ⟨_, cx.K ▸ cr_any hc, k_any⟩
theorem f_sorted (cx : Cxg c W X) : Bf c W X (.builtin "sorted") bSortI := ⟨_, cx.K ▸ cr_sortedI, k_sortI⟩
theorem f_repr (cx : Cxg c W X) (hr : Room k X.A) : Bf c W X (.builtin "repr") bRepr := ⟨_, call_pr cx.gu, by rw [cx.K]; exact k_repr (by have := hr.un; omega)⟩
theorem f_int : Bf c W X (.type "int") bInt := ⟨_, call_int1, k_toint⟩
theorem f_list (cx : Cxg c W X) : Bf c W X (.type "list") bList := ⟨_, cx.K ▸ call_list_of, k_list⟩
theorem f_listM (cx : Cxg c W X) : Bf c W X (.type "list") bListM := ⟨_, cx.K ▸ call_list_of, k_listM⟩
theorem f_tuple (cx : Cxg c W X) : Bf c W X (.type "tuple") bTup := ⟨_, cx.K ▸ call_tuple_ofF, k_tup⟩
/-! methods -/
structure Mf (c : Ct) (W : WX) (X : Cx) (T : String) (name : Str) (id : String) (m : FM) : Prop where
  pa : PlainAttrs T
  slot : Slot T name id
  ty : typeOf (.builtin id) = pure (.type "method_descriptor")
  ex : ∃ r, MtR X id r ∧ OkM c W r m
section
variable {o e : Expr} {es : List Expr} {fo : FE} {fa : FA} {name : Str} {apos cpos : Pos} {T id : String} {m : FM}
theorem v_mt (cx : Cxg c W X) (M : Mf c W X T name id m) (ho : PE X o (TEx c W fo)) (ha : PA X (e :: es) (TAx c W fa)) (hbase : attributeBase o name X.env (eval o X.env) = eval o X.env := by rfl)
    (few : ((backTo cpos (starEach (e :: es) X.env)).all (fun x => !x.1) && (backToKw cpos (keywordEach [] X.env)).all (fun x => x.1.isSome) && decide ((e :: es).length + ([] : List Keyword).length + (if ([] : List Keyword).isEmpty then 0 else 1) < 30)) = true := by rfl)
    (line : (apos.endLine == cpos.line) = true := by rfl) (hs : starEach (e :: es) X.env = (false, eval e X.env) :: starEach es X.env := by rfl) (plain : (backTo cpos (starEach es X.env)).any (·.1) = false := by rfl) :
    PE X (.Call (.Attribute o name apos) (e :: es) [] cpos) (TEx c W (eMt T m fo fa)) := by
  obtain ⟨r, h1, h2⟩ := M.ex
  exact s_mt cx h2 M.pa M.slot M.ty h1 ho ha hbase few line hs plain
theorem v_mt0 (cx : Cxg c W X) (M : Mf c W X T name id m) (ho : PE X o (TEx c W fo)) (hbase : attributeBase o name X.env (eval o X.env) = eval o X.env := by rfl) (line : (apos.endLine == cpos.line) = true := by rfl) :
    PE X (.Call (.Attribute o name apos) [] [] cpos) (TEx c W (eMt0 T m fo)) := by
  obtain ⟨r, h1, h2⟩ := M.ex
  exact s_mt0 cx h2 M.pa M.slot M.ty h1 ho hbase line
end
theorem d_append : Mf c W X "list" "append" "list.append" mApp := ⟨F.plainAttrs_list, F.slot_list_append, F.type_list_append, _, mt_append, k_app⟩
theorem d_extend : Mf c W X "list" "extend" "list.extend" mExt := ⟨F.plainAttrs_list, F.slot_list_extend, by show builtinType _ = _; rw [builtinType_eq_fast]; kernel_rfl, _, mt_extend, k_ext⟩
theorem d_pop : Mf c W X "list" "pop" "list.pop" mPop := ⟨F.plainAttrs_list, F.slot_list_pop, by show builtinType _ = _; rw [builtinType_eq_fast]; kernel_rfl, _, mt_pop, k_pop⟩
theorem d_popA : Mf c W X "list" "pop" "list.pop" mPopA := ⟨F.plainAttrs_list, F.slot_list_pop, by show builtinType _ = _; rw [builtinType_eq_fast]; kernel_rfl, _, mt_popAt, k_popA⟩
theorem d_index (cx : Cxg c W X) (hr : Room k X.A) : Mf c W X "list" "index" "list.index" mIdx := ⟨F.plainAttrs_list, F.slot_list_index, by show builtinType _ = _; rw [builtinType_eq_fast]; kernel_rfl, _, cx.K ▸ mt_indexD (by have := hr.un; omega), k_idx⟩
/-! ## a def that is known -/
structure Kn (P : Program) (w : World) (c : Ct) (base : Heap) (k : Nat) (x : Str) (n : Nat) (g : FN) : Prop where
  ex : ∃ f fd ps, FnG P w c base k f fd ps g ∧ c.mg x = some (.ref f) ∧ PySem.W.keepIn c.K (.ref f) = true ∧ Binds c.K fd ps [] ∧ n = ps.length
theorem v_kn {k j n : Nat} {g : FN} {x : Str} {p pos : Pos} {e : Expr} {es : List Expr} {fa : FA} (cx : Cxg c W X) (hr : Room k X.A) (kn : Kn X.prog X.w c X.base j x n g) (hj : j ≤ k) (hg : Gl X x) (ha : PA X (e :: es) (TAx c W fa)) (hdb : (x == ("__debug__" : Str)) = false := by decide)
    (he : starEach (e :: es) X.env = (false, eval e X.env) :: starEach es X.env := by rfl) (hpl : (backTo pos (starEach es X.env)).any (·.1) = false := by rfl) : PE X (.Call (.Name x p) (e :: es) [] pos) (TEx c W (eApp (callN n g) fa)) := by
  obtain ⟨f, fd, ps, h1, h2, h3, h4, h5⟩ := kn.ex
  exact s_call cx h1 (hr.mono hj) hg (by rw [cx.mg]; exact h2) (by rw [cx.K]; exact h3) (by rw [cx.K]; exact h4) h5 ha hdb he hpl
theorem v_knM {k j n : Nat} {g : FN} {x : Str} {p pos : Pos} {e : Expr} {es : List Expr} {fa : FA} (cx : Cxg c W X) (hr : Room k X.A) (kn : Kn X.prog X.w c X.base j x n g) (hj : j ≤ k) (hg : Gl X x) (ha : PA X (e :: es) (TAx c W fa)) (hdb : (x == ("__debug__" : Str)) = false := by decide)
    (he : starEach (e :: es) X.env = (false, eval e X.env) :: starEach es X.env := by rfl) (hpl : (backTo pos (starEach es X.env)).any (·.1) = false := by rfl) : PE X (.Call (.Name x p) (e :: es) [] pos) (TEx c W (eApp (callNM n g) fa)) := by
  obtain ⟨f, fd, ps, h1, h2, h3, h4, h5⟩ := kn.ex
  exact s_callM cx h1 (hr.mono hj) hg (by rw [cx.mg]; exact h2) (by rw [cx.K]; exact h3) (by rw [cx.K]; exact h4) h5 ha hdb he hpl
end
end MI
set_option maxRecDepth 100000
set_option maxHeartbeats 4000000
namespace MI
open PySem L2
/-! ## evaluation by simp -/
@[simp] theorem bind_ok_ {α β : Type} (v : α) (S : Sto) (f : α → Sto → Out β) : (Out.ok v S).bind f = f v S := rfl
@[simp] theorem bind_bad_ {α β : Type} (f : α → Sto → Out β) : (Out.bad : Out α).bind f = .bad := rfl
@[simp] theorem to_ok_ {α : Type} (v : α) (S : Sto) (r : Rho) (f : α → Sto → SOut) : (Out.ok v S).to r f = f v S := rfl
@[simp] theorem to_bad_ {α : Type} (r : Rho) (f : α → Sto → SOut) : (Out.bad : Out α).to r f = .bad := rfl
@[simp] theorem seq_nx_ (r : Rho) (S : Sto) (f : Rho → Sto → SOut) : (SOut.nx r S).seq f = f r S := rfl
@[simp] theorem seq_ret_ (v : IV) (S : Sto) (f : Rho → Sto → SOut) : (SOut.ret v S).seq f = .ret v S := rfl
@[simp] theorem seq_brk_ (r : Rho) (S : Sto) (f : Rho → Sto → SOut) : (SOut.brk r S).seq f = .brk r S := rfl
@[simp] theorem seq_ct_ (r : Rho) (S : Sto) (f : Rho → Sto → SOut) : (SOut.ct r S).seq f = .ct r S := rfl
@[simp] theorem seq_bad_ (f : Rho → Sto → SOut) : SOut.bad.seq f = .bad := rfl
@[simp] theorem fin_nx_ (r : Rho) (S : Sto) : (SOut.nx r S).fin = .ok (.d .none) S := rfl
@[simp] theorem fin_ret_ (v : IV) (S : Sto) : (SOut.ret v S).fin = .ok v S := rfl
@[simp] theorem nox_ok_ {α : Type} (v : α) (S : Sto) : (Out.ok v S).nox = .ok v S := rfl
@[simp] theorem fnB1 (n : Nat) (fs : FS) (a : IV) (S : Sto) (h : 1 ≤ n) : fnB n fs [a] S = (fs (some a :: List.replicate (n - 1) none) S).fin := by
  unfold fnB; rw [if_pos (by simpa using h)]; rfl
@[simp] theorem fnB2 (n : Nat) (fs : FS) (a b : IV) (S : Sto) (h : 2 ≤ n) : fnB n fs [a, b] S = (fs (some a :: some b :: List.replicate (n - 2) none) S).fin := by
  unfold fnB; rw [if_pos (by simpa using h)]; rfl
@[simp] theorem fnB3 (n : Nat) (fs : FS) (a b d : IV) (S : Sto) (h : 3 ≤ n) : fnB n fs [a, b, d] S = (fs (some a :: some b :: some d :: List.replicate (n - 3) none) S).fin := by
  unfold fnB; rw [if_pos (by simpa using h)]; rfl
/-- calls: the usual borrowings -/
def dV : IV → Bool
  | .d _ => true
  | .scr _ => true
  | .gl _ => true
  | .clo _ _ => true
  | .exc _ _ => true
  | _ => false
theorem dv_brw : ∀ l : List IV, l.all dV = true → brw l = [] ∧ ∀ ns, inAs ns l = some l
  | [], _ => ⟨rfl, fun _ => rfl⟩
  | a :: t, h => by
    rw [List.all_cons, Bool.and_eq_true] at h
    obtain ⟨i1, i2⟩ := dv_brw t h.2
    have h1 := h.1
    cases a with
    | d x => exact ⟨i1, fun ns => by simp [inAs, inA, i2]⟩
    | gl x => exact ⟨i1, fun ns => by simp [inAs, inA, i2]⟩
    | scr x => exact ⟨i1, fun ns => by simp [inAs, inA, i2]⟩
    | ref n => cases h1
    | tup n => cases h1
    | lam n => cases h1
    | clo n m => exact ⟨i1, fun ns => by simp [inAs, inA, i2]⟩
    | exc n m => exact ⟨i1, fun ns => by simp [inAs, inA, i2]⟩
theorem dv_out {v : IV} (h : dV v = true) (ns : List Nat) (T : Sto) : outV ns T v = some v := by
  cases v with
  | d x => simp [outV, toD]
  | gl x => simp [outV]
  | scr x => simp [outV]
  | ref n => cases h
  | tup n => cases h
  | lam n => cases h
  | clo n m => simp [outV]
  | exc n m => simp [outV]
theorem call_pure {g : FN} {is : List IV} {S T : Sto} {v : IV} (h : is.all dV = true) (hg : g is [] = .ok v T) (hv : dV v = true) : callW backW g is S = .ok v S := by
  obtain ⟨n1, n2⟩ := dv_brw is h
  unfold callW
  rw [n1, n2]
  simp only [inS]
  rw [hg]
  simp [backW, outS, dv_out hv]
/-- a new list, frozen -/
theorem call_new {g : FN} {is : List IV} {S T : Sto} {n : Nat} {ds : List PyData} (h : is.all dV = true) (hg : g is [] = .ok (.ref n) T) (hT : T[n]? = some (.lst ds)) : callW backW g is S = .ok (.d (.list ds)) S := by
  obtain ⟨n1, n2⟩ := dv_brw is h
  unfold callW
  rw [n1, n2]
  simp only [inS]
  rw [hg]
  simp [backW, outS, outV, toD, hT]
/-- a new list, kept to be changed -/
theorem call_newM {g : FN} {is : List IV} {S T : Sto} {n : Nat} {ds : List PyData} (h : is.all dV = true) (hg : g is [] = .ok (.ref n) T) (hT : T[n]? = some (.lst ds)) : callW backN g is S = .ok (.ref S.length) (S ++ [.lst ds]) := by
  obtain ⟨n1, n2⟩ := dv_brw is h
  unfold callW
  rw [n1, n2]
  simp only [inS]
  rw [hg]
  simp [backN, backM, outS, toD, hT]
/-- the first argument is a list of the store that the callee may change -/
theorem call_pot {g : FN} {is : List IV} {S T : Sto} {v : IV} {n : Nat} {ds es : List PyData} (h : is.all dV = true) (hS : S[n]? = some (.lst ds)) (hg : g (.ref 0 :: is) [.lst ds] = .ok v (.lst es :: T)) (hv : dV v = true) :
    callW backW g (.ref n :: is) S = .ok v (S.set n (.lst es)) := by
  obtain ⟨n1, n2⟩ := dv_brw is h
  unfold callW
  have e1 : brw (.ref n :: is) = [n] := by simp [brw, n1]
  rw [e1]
  simp only [inAs, inA, n2, inS, hS, List.mem_singleton, if_true, List.idxOf_cons_self]
  rw [hg]
  simp [backW, outS, dv_out hv]
/-- the same, a new list comes back -/
theorem call_potN {g : FN} {is : List IV} {S T : Sto} {n k : Nat} {ds es fs : List PyData} (h : is.all dV = true) (hS : S[n]? = some (.lst ds)) (hg : g (.ref 0 :: is) [.lst ds] = .ok (.ref (k + 1)) (.lst es :: T)) (hk : T[k]? = some (.lst fs)) :
    callW backW g (.ref n :: is) S = .ok (.d (.list fs)) (S.set n (.lst es)) := by
  obtain ⟨n1, n2⟩ := dv_brw is h
  unfold callW
  have e1 : brw (.ref n :: is) = [n] := by simp [brw, n1]
  rw [e1]
  simp only [inAs, inA, n2, inS, hS, List.mem_singleton, if_true, List.idxOf_cons_self]
  rw [hg]
  simp [backW, outS, outV, toD, hk]
end MI
set_option maxRecDepth 100000
set_option maxHeartbeats 4000000
namespace MI
open PySem L2
/-! ## loops, comprehensions: general laws -/
theorem forL_inv {g : FG} {b : FS} {ds : List PyData} (P : Nat → Rho → Sto → Prop) (step : ∀ (i : Nat) (r : Rho) (S : Sto) (d : PyData), ds[i]? = some d → P i r S → ∃ r' S', (g (.d d) r S).seq b = .nx r' S' ∧ P (i + 1) r' S') {r : Rho} {S : Sto} (h0 : P 0 r S) :
    ∃ r' S', forL g b ds r S = .nx r' S' ∧ P ds.length r' S' := by
  have go : ∀ (es : List PyData) (k : Nat) (r : Rho) (S : Sto), es = ds.drop k → k ≤ ds.length → P k r S → ∃ r' S', forL g b es r S = .nx r' S' ∧ P ds.length r' S' := by
    intro es
    induction es with
    | nil =>
      intro k r S e hk p
      have : ds.length ≤ k := List.drop_eq_nil_iff.mp e.symm
      have : k = ds.length := by omega
      subst this
      exact ⟨r, S, rfl, p⟩
    | cons d es ih =>
      intro k r S e hk p
      have hlt : k < ds.length := by
        by_cases h : k < ds.length
        · exact h
        · rw [List.drop_eq_nil_of_le (by omega)] at e; cases e
      rw [List.drop_eq_getElem_cons hlt] at e
      injection e with e1 e2
      obtain ⟨r1, S1, h1, h2⟩ := step k r S d (by rw [List.getElem?_eq_getElem hlt, ← e1]) p
      obtain ⟨r2, S2, h3, h4⟩ := ih (k + 1) r1 S1 e2 hlt h2
      refine ⟨r2, S2, ?_, h4⟩
      unfold forL
      rw [h1]
      exact h3
  exact go ds 0 r S rfl (Nat.zero_le _) h0
/-- a loop whose body may end by return: the answer is the same where it does not -/
theorem lcL_inv {g : FG} {t : FT} {e : FE} {r0 : Rho} {ds : List PyData} (P : Nat → List PyData → Sto → Prop) (step : ∀ (i : Nat) (acc : List PyData) (S : Sto) (d : PyData), ds[i]? = some d → P i acc S → ∃ r1 S1 k S2, g (.d d) r0 S = .nx r1 S1 ∧ t r1 S1 = .ok k S2 ∧
      if k = true then ∃ x S3, e r1 S2 = .ok (.d x) S3 ∧ P (i + 1) (acc ++ [x]) S3 else P (i + 1) acc S2) {S : Sto} (h0 : P 0 [] S) :
    ∃ all S', lcL g t e r0 ds S = .ok all S' ∧ P ds.length all S' := by
  have go : ∀ (es : List PyData) (k : Nat) (acc : List PyData) (S : Sto), es = ds.drop k → k ≤ ds.length → P k acc S → ∃ more S', lcL g t e r0 es S = .ok more S' ∧ P ds.length (acc ++ more) S' := by
    intro es
    induction es with
    | nil =>
      intro k acc S q hk p
      have : ds.length ≤ k := List.drop_eq_nil_iff.mp q.symm
      have : k = ds.length := by omega
      subst this
      exact ⟨[], S, rfl, by rw [List.append_nil]; exact p⟩
    | cons d es ih =>
      intro k acc S q hk p
      have hlt : k < ds.length := by
        by_cases h : k < ds.length
        · exact h
        · rw [List.drop_eq_nil_of_le (by omega)] at q; cases q
      rw [List.drop_eq_getElem_cons hlt] at q
      injection q with e1 e2
      obtain ⟨r1, S1, b, S2, h1, h2, h3⟩ := step k acc S d (by rw [List.getElem?_eq_getElem hlt, ← e1]) p
      cases b with
      | true =>
        rw [if_pos rfl] at h3
        obtain ⟨x, S3, h4, h5⟩ := h3
        obtain ⟨more, S4, h6, h7⟩ := ih (k + 1) _ S3 e2 hlt h5
        refine ⟨x :: more, S4, ?_, by rw [List.append_assoc] at h7; exact h7⟩
        unfold lcL
        rw [h1]
        dsimp only
        rw [h2]
        simp [h4, h6]
      | false =>
        rw [if_neg Bool.false_ne_true] at h3
        obtain ⟨more, S4, h6, h7⟩ := ih (k + 1) _ S2 e2 hlt h3
        refine ⟨more, S4, ?_, h7⟩
        unfold lcL
        rw [h1]
        dsimp only
        rw [h2]
        simp [h6]
  obtain ⟨all, S', h1, h2⟩ := go ds 0 [] S rfl (Nat.zero_le _) h0
  exact ⟨all, S', h1, by simpa using h2⟩
/-- a comprehension that changes nothing -/
theorem lcL_filter {g : FG} {t : FT} {e : FE} {r0 : Rho} {S : Sto} {ds : List PyData} (p : PyData → Bool) (φ : PyData → PyData) (h : ∀ d, d ∈ ds → ∃ r1, g (.d d) r0 S = .nx r1 S ∧ t r1 S = .ok (p d) S ∧ (p d = true → e r1 S = .ok (.d (φ d)) S)) :
    lcL g t e r0 ds S = .ok ((ds.filter p).map φ) S := by
  induction ds with
  | nil => rfl
  | cons d ds ih =>
    obtain ⟨r1, h1, h2, h3⟩ := h d List.mem_cons_self
    have ih := ih fun x m => h x (List.mem_cons_of_mem _ m)
    unfold lcL
    rw [h1]
    dsimp only
    rw [h2]
    by_cases hp : p d = true
    · simp [hp, h3 hp, ih, List.filter_cons_of_pos hp]
    · simp [hp, ih, List.filter_cons_of_neg hp]
theorem lcL_map {g : FG} {e : FE} {r0 : Rho} {S : Sto} {ds : List PyData} (φ : PyData → PyData) (h : ∀ d, d ∈ ds → ∃ r1, g (.d d) r0 S = .nx r1 S ∧ e r1 S = .ok (.d (φ d)) S) :
    lcL g tYe e r0 ds S = .ok (ds.map φ) S := by
  have := lcL_filter (g := g) (t := tYe) (e := e) (r0 := r0) (S := S) (ds := ds) (fun _ => true) φ fun d m => by
    obtain ⟨r1, h1, h2⟩ := h d m
    exact ⟨r1, h1, rfl, fun _ => h2⟩
  rw [this, List.filter_eq_self.mpr fun _ _ => rfl]
/-- over ints -/
theorem lcL_ints {g : FG} {e : FE} {r0 : Rho} {S : Sto} {ns : List Int} (φ : Int → PyData) (h : ∀ n, n ∈ ns → ∃ r1, g (.d (.int n)) r0 S = .nx r1 S ∧ e r1 S = .ok (.d (φ n)) S) :
    lcL g tYe e r0 (ns.map .int) S = .ok (ns.map φ) S := by
  have := lcL_map (g := g) (e := e) (r0 := r0) (S := S) (ds := ns.map PyData.int) (fun d => match d with | .int n => φ n | d => d) fun d m => by
    obtain ⟨n, hn, rfl⟩ := List.mem_map.mp m
    exact h n hn
  rw [this, List.map_map]
  rfl
theorem lcL_intsF {g : FG} {t : FT} {e : FE} {r0 : Rho} {S : Sto} {ns : List Int} (p : Int → Bool) (φ : Int → PyData) (h : ∀ n, n ∈ ns → ∃ r1, g (.d (.int n)) r0 S = .nx r1 S ∧ t r1 S = .ok (p n) S ∧ (p n = true → e r1 S = .ok (.d (φ n)) S)) :
    lcL g t e r0 (ns.map .int) S = .ok ((ns.filter p).map φ) S := by
  have := lcL_filter (g := g) (t := t) (e := e) (r0 := r0) (S := S) (ds := ns.map PyData.int) (fun d => match d with | .int n => p n | _ => true) (fun d => match d with | .int n => φ n | d => d) fun d m => by
    obtain ⟨n, hn, rfl⟩ := List.mem_map.mp m
    exact h n hn
  rw [this]
  congr 1
  rw [List.filter_map, List.map_map]
  rfl
/-- the ints i .. j - 1 -/
def rgI (i j : Int) : List Int := (List.range (j - i).toNat).map fun (k : Nat) => i + (k : Nat)
theorem rngD_rg (i j : Int) : rngD i j = (rgI i j).map .int := by unfold rngD rgI; rw [List.map_map]; rfl
theorem rgD_rg (i j : Int) : rgD i j = (rgI i j).map .int := by unfold rgD rgI; rw [List.map_map]; rfl
theorem mem_rgI {i j k : Int} : k ∈ rgI i j ↔ i ≤ k ∧ k < j := by
  unfold rgI
  rw [List.mem_map]
  constructor
  · rintro ⟨n, hn, rfl⟩
    rw [List.mem_range] at hn
    omega
  · rintro ⟨h1, h2⟩
    exact ⟨(k - i).toNat, by rw [List.mem_range]; omega, by omega⟩
theorem len_rgI (i j : Int) : (rgI i j).length = (j - i).toNat := by unfold rgI; simp
theorem at_rgI {i j : Int} {k : Nat} (h : k < (j - i).toNat) : (rgI i j)[k]? = some (i + k) := by unfold rgI; simp [h]
theorem iR1_ok {f : FE} {r : Rho} {S S' : Sto} {j : Int} (h : f r S = .ok (.d (.int j)) S') (h0 : j.natAbs < 2 ^ 24) : iR1 f r S = .ok (rngD 0 j) S' := by
  simp only [iR1, h, bind_ok_]
  rw [if_pos h0]
theorem iR2_ok {f g : FE} {r : Rho} {S S1 S2 : Sto} {i j : Int} (h : f r S = .ok (.d (.int i)) S1) (h2 : g r S1 = .ok (.d (.int j)) S2) (h0 : i.natAbs < 2 ^ 23 ∧ j.natAbs < 2 ^ 23) : iR2 f g r S = .ok (rngD i j) S2 := by
  simp only [iR2, h, h2, bind_ok_]
  rw [if_pos h0]
end MI
set_option maxRecDepth 100000
set_option maxHeartbeats 4000000
namespace MI
open PySem L2
/-! ## data of ints -/
abbrev ti (xs : List Int) : IV := .d (.tuple (xs.map .int))
abbrev li (xs : List Int) : IV := .d (.list (xs.map .int))
theorem depth_ints : ∀ xs : List Int, PyData.depthAll (xs.map .int) = 0
  | [] => rfl
  | x :: t => by simp [PyData.depthAll, PyData.depth, depth_ints t]
theorem lay_ints : ∀ xs : List Int, PyData.canLayAll0 (xs.map .int) = true
  | [] => rfl
  | x :: t => by simp [PyData.canLayAll0, PyData.canLay0, lay_ints t]
theorem shp_tup (xs : List Int) : shp (.tuple (xs.map .int)) = true := by
  simp [shp, SeqAt.shaped, PyData.canLay0, PyData.depth, depth_ints, lay_ints]
theorem shp_lst (xs : List Int) : shp (.list (xs.map .int)) = true := by
  simp [shp, SeqAt.shaped, PyData.canLay0, PyData.depth, depth_ints, lay_ints]
theorem shp_int (i : Int) : shp (.int i) = true := by simp [shp, SeqAt.shaped, PyData.canLay0, PyData.depth]
theorem shp_bool (i : Bool) : shp (.bool i) = true := by simp [shp, SeqAt.shaped, PyData.canLay0, PyData.depth]
theorem eqv_ints : ∀ xs ys : List Int, PyData.eqvAll (xs.map .int) (ys.map .int) = decide (xs = ys)
  | [], [] => rfl
  | [], _ :: _ => rfl
  | _ :: _, [] => rfl
  | x :: xs, y :: ys => by
    simp only [List.map_cons, PyData.eqvAll, PyData.eqv, eqv_ints xs ys, List.cons.injEq]
    by_cases h : x = y <;> by_cases h2 : xs = ys <;> simp [h, h2]
theorem eqv_tup (xs ys : List Int) : PyData.eqv (.tuple (xs.map .int)) (.tuple (ys.map .int)) = decide (xs = ys) := by simp only [PyData.eqv]; exact eqv_ints xs ys
theorem eqv_lst (xs ys : List Int) : PyData.eqv (.list (xs.map .int)) (.list (ys.map .int)) = decide (xs = ys) := by simp only [PyData.eqv]; exact eqv_ints xs ys
theorem cEq_tup (xs ys : List Int) (S : Sto) : cEq (ti xs) (ti ys) S = .ok (.d (.bool (decide (xs = ys)))) S := by
  show (if shp (.tuple (xs.map .int)) = true ∧ shp (.tuple (ys.map .int)) = true then Out.ok (IV.d (.bool (PyData.eqv (.tuple (xs.map .int)) (.tuple (ys.map .int))))) S else .bad) = _
  rw [if_pos ⟨shp_tup xs, shp_tup ys⟩, eqv_tup]
theorem cEq_lst (xs ys : List Int) (S : Sto) : cEq (li xs) (li ys) S = .ok (.d (.bool (decide (xs = ys)))) S := by
  show (if shp (.list (xs.map .int)) = true ∧ shp (.list (ys.map .int)) = true then Out.ok (IV.d (.bool (PyData.eqv (.list (xs.map .int)) (.list (ys.map .int))))) S else .bad) = _
  rw [if_pos ⟨shp_lst xs, shp_lst ys⟩, eqv_lst]
theorem isIn_ints (x : Int) (ys : List Int) : isIn (.int x) (ys.map .int) = decide (x ∈ ys) := by
  unfold isIn
  induction ys with
  | nil => rfl
  | cons y t ih =>
    rw [List.map_cons, List.any_cons, ih]
    simp only [PyData.eqv, List.mem_cons]
    by_cases h : y = x
    · simp [h]
    · have h' : ¬ x = y := fun q => h q.symm
      have hb : (y == x) = false := by simp [h]
      rw [hb]
      by_cases h2 : x ∈ t <;> simp [h', h2]
theorem len_ti {xs : List Int} {N : Int} (h : N = xs.length) (S : Sto) : bLen [ti xs] S = .ok (.d (.int N)) S := by subst h; simp
theorem len_li {xs : List Int} {N : Int} (h : N = xs.length) (S : Sto) : bLen [li xs] S = .ok (.d (.int N)) S := by subst h; simp
/-! comprehensions over data -/
theorem eLc_fil {it : FI} {g : FG} {t : FT} {e : FE} {vs : List Nat} {r : Rho} {S S1 : Sto} {ds : List PyData} (p : PyData → Bool) (φ : PyData → PyData) (hi : it r S = .ok ds S1) (hl : ds.length ≤ 1000000)
    (h : ∀ d, d ∈ ds → ∃ r1, g (.d d) (wipeR r vs) S1 = .nx r1 S1 ∧ t r1 S1 = .ok (p d) S1 ∧ (p d = true → e r1 S1 = .ok (.d (φ d)) S1)) : eLc it g t e vs r S = .ok (.d (.list ((ds.filter p).map φ))) S1 := by
  unfold eLc lcR
  rw [hi]
  show ((if ds.length ≤ 1000000 then (lcL g t e (wipeR r vs) ds S1).nox else .bad : Out (List PyData)).bind _) = _
  rw [if_pos hl, lcL_filter p φ h]
  rfl
theorem eLc_map {it : FI} {g : FG} {e : FE} {vs : List Nat} {r : Rho} {S S1 : Sto} {ds : List PyData} (φ : PyData → PyData) (hi : it r S = .ok ds S1) (hl : ds.length ≤ 1000000)
    (h : ∀ d, d ∈ ds → ∃ r1, g (.d d) (wipeR r vs) S1 = .nx r1 S1 ∧ e r1 S1 = .ok (.d (φ d)) S1) : eLc it g tYe e vs r S = .ok (.d (.list (ds.map φ))) S1 := by
  unfold eLc lcR
  rw [hi]
  show ((if ds.length ≤ 1000000 then (lcL g tYe e (wipeR r vs) ds S1).nox else .bad : Out (List PyData)).bind _) = _
  rw [if_pos hl, lcL_map φ h]
  rfl
theorem eLc_i {it : FI} {g : FG} {e : FE} {vs : List Nat} {r : Rho} {S S1 : Sto} {ns : List Int} (φ : Int → PyData) (hi : it r S = .ok (ns.map .int) S1) (hl : ns.length ≤ 1000000)
    (h : ∀ d, d ∈ ns → ∃ r1, g (.d (.int d)) (wipeR r vs) S1 = .nx r1 S1 ∧ e r1 S1 = .ok (.d (φ d)) S1) : eLc it g tYe e vs r S = .ok (.d (.list (ns.map φ))) S1 := by
  unfold eLc lcR
  rw [hi]
  show ((if (ns.map PyData.int).length ≤ 1000000 then (lcL g tYe e (wipeR r vs) (ns.map PyData.int) S1).nox else .bad : Out (List PyData)).bind _) = _
  rw [if_pos (by rw [List.length_map]; exact hl), lcL_ints φ h]
  rfl
theorem eLc_iF {it : FI} {g : FG} {t : FT} {e : FE} {vs : List Nat} {r : Rho} {S S1 : Sto} {ns : List Int} (p : Int → Bool) (φ : Int → PyData) (hi : it r S = .ok (ns.map .int) S1) (hl : ns.length ≤ 1000000)
    (h : ∀ d, d ∈ ns → ∃ r1, g (.d (.int d)) (wipeR r vs) S1 = .nx r1 S1 ∧ t r1 S1 = .ok (p d) S1 ∧ (p d = true → e r1 S1 = .ok (.d (φ d)) S1)) : eLc it g t e vs r S = .ok (.d (.list ((ns.filter p).map φ))) S1 := by
  unfold eLc lcR
  rw [hi]
  show ((if (ns.map PyData.int).length ≤ 1000000 then (lcL g t e (wipeR r vs) (ns.map PyData.int) S1).nox else .bad : Out (List PyData)).bind _) = _
  rw [if_pos (by rw [List.length_map]; exact hl), lcL_intsF p φ h]
  rfl
theorem iSeq_ok {f : FE} {r : Rho} {S S' : Sto} {v : IV} {ds : List PyData} (h : f r S = .ok v S') (hf : frozen v = some ds) (hl : ds.length < sizeLine) : iSeq f r S = .ok ds S' := by
  simp only [iSeq, h, bind_ok_, hf]
  rw [if_pos hl]
theorem sortI_ok (xs : List Int) (S : Sto) : bSortI [li xs] S = .ok (li (isort xs)) S := by
  simp only [bSortI, lintsOf, lstOf, intsOf_map]
theorem all_ok (xs : List Bool) (S : Sto) : bAll [.d (.list (xs.map .bool))] S = .ok (.d (.bool (xs.all id))) S := by
  simp only [bAll, lboolsOf, lstOf, boolsOf_map]
theorem rgL_ok {g : RgF} {r : Rho} {S S' : Sto} {i j : Int} (h : g r S = .ok (i, j) S') (hb : rgOk i j = true) : eRgL g r S = .ok (li (rgI i j)) S' := by
  simp only [eRgL, h, bind_ok_]
  rw [if_pos hb, rgD_rg]
theorem rgT_ok {g : RgF} {r : Rho} {S S' : Sto} {i j : Int} (h : g r S = .ok (i, j) S') (hb : rgOk i j = true) : eRgT g r S = .ok (ti (rgI i j)) S' := by
  simp only [eRgT, h, bind_ok_]
  rw [if_pos hb, rgD_rg]
theorem rgOk_s {i j : Int} (h0 : 0 ≤ i) (h1 : i < 2 ^ 20) (h2 : 0 ≤ j) (h3 : j < 2 ^ 20) : rgOk i j = true := by
  unfold rgOk
  simp only [Bool.and_eq_true, decide_eq_true_eq]
  exact ⟨by omega, by omega⟩
end MI
set_option maxRecDepth 100000
set_option maxHeartbeats 4000000
namespace MI
open PySem L2
/-! ## repr of data without texts: its size -/
mutual
def nd : PyData → Nat
  | .list xs => 1 + nds xs
  | .tuple xs => 1 + nds xs
  | _ => 1
def nds : List PyData → Nat
  | [] => 0
  | x :: t => nd x + nds t
end
mutual
def noS : PyData → Bool
  | .str _ => false
  | .dict _ => false
  | .list xs => noSs xs
  | .tuple xs => noSs xs
  | .int i => decide (i.natAbs.log2 < 1920)
  | .none => true
  | .bool _ => true
def noSs : List PyData → Bool
  | [] => true
  | x :: t => noS x && noSs t
end
theorem tupT_len (ts : List Str) : (tupleText ts).length ≤ piled ts + 3 := by
  unfold tupleText
  rw [strLen_append, strLen_append]
  have e1 : ((("(" : String) : Str)).length = 1 := rfl
  have e3 : (((if ts.length == 1 then ",)" else ")" : String) : Str)).length ≤ 2 := by split <;> decide
  rw [e1]
  by_cases h : ts = []
  · subst h
    have : (Str.join ", " ([] : List Str)).length = 0 := rfl
    omega
  · have := join_length_add ts h
    omega
theorem lstT_len : ∀ ts : List Str, (listText ts).length ≤ piled ts + 3
  | [] => by decide
  | t :: r => by
    have h := textFrom_length_pos r 1 (("[" : Str) ++ (if (0 : Nat) > 0 then ", " else "" : String) ++ t) (Nat.succ_pos 0)
    have e : ((("[" : Str) ++ (if (0 : Nat) > 0 then ", " else "" : String) ++ t)).length = 1 + t.length := by
      rw [strLen_append, strLen_append] <;> rfl
    have x1 : (listText (t :: r)).length = (textFrom 0 "[" (t :: r)).length + 1 := by
      show (textFrom 0 "[" (t :: r) ++ "]").length = _
      rw [strLen_append] <;> rfl
    have x2 : (textFrom 0 "[" (t :: r)).length = (textFrom 1 (("[" : Str) ++ (if (0 : Nat) > 0 then ", " else "" : String) ++ t) r).length := rfl
    rw [x1, x2, h, e, piled_cons]
    omega
mutual
theorem shown_len : ∀ d : PyData, noS d = true → d.shown.length + 2 ≤ 2000 * nd d ∧ d.showable = true ∧ d.hasDict = false
  | .none, _ => ⟨by decide, rfl, rfl⟩
  | .bool b, _ => ⟨by cases b <;> decide, rfl, rfl⟩
  | .int i, h => by
    have h : i.natAbs.log2 < 1920 := of_decide_eq_true h
    refine ⟨?_, by simp [PyData.showable, h], rfl⟩
    have := PyProof.Rows.int_text_len_1921 h
    show (Str.ofString (toString i)).length + 2 ≤ 2000 * 1
    omega
  | .str _, h => by cases h
  | .dict _, h => by cases h
  | .list xs, h => by
    have h : noSs xs = true := h
    obtain ⟨h1, h2, h3⟩ := shown_lens xs h
    have := lstT_len (PyData.shownAll xs)
    refine ⟨?_, h2, h3⟩
    show (listText (PyData.shownAll xs)).length + 2 ≤ 2000 * (1 + nds xs)
    omega
  | .tuple xs, h => by
    have h : noSs xs = true := h
    obtain ⟨h1, h2, h3⟩ := shown_lens xs h
    have := tupT_len (PyData.shownAll xs)
    refine ⟨?_, h2, h3⟩
    show (tupleText (PyData.shownAll xs)).length + 2 ≤ 2000 * (1 + nds xs)
    omega
theorem shown_lens : ∀ ds : List PyData, noSs ds = true → piled (PyData.shownAll ds) ≤ 2000 * nds ds ∧ PyData.showableAll ds = true ∧ PyData.hasDictAll ds = false
  | [], _ => ⟨by decide, rfl, rfl⟩
  | d :: t, h => by
    have h : (noS d && noSs t) = true := h
    rw [Bool.and_eq_true] at h
    obtain ⟨h1, h2, h3⟩ := shown_len d h.1
    obtain ⟨h4, h5, h6⟩ := shown_lens t h.2
    refine ⟨?_, ?_, ?_⟩
    · show piled (d.shown :: PyData.shownAll t) ≤ 2000 * (nd d + nds t)
      rw [piled_cons]
      omega
    · show (d.showable && PyData.showableAll t) = true
      rw [h2, h5] <;> rfl
    · show (d.hasDict || PyData.hasDictAll t) = false
      rw [h3, h6] <;> rfl
end
theorem prOk_of {d : PyData} (h : noS d = true) (hn : nd d ≤ 8000) (hd : d.depth ≤ 64) : prOk d = true := by
  obtain ⟨h1, h2, h3⟩ := shown_len d h
  have hz : sizeLine = 16777216 := by decide
  unfold prOk
  rw [h2, h3]
  simp only [Bool.not_false, Bool.true_and, Bool.and_eq_true, decide_eq_true_eq]
  exact ⟨hd, by omega⟩
theorem repr_ok {d : PyData} (h : prOk d = true) (S : Sto) : bRepr [.d d] S = .ok (.d (.str d.shown)) S := by
  simp only [bRepr, toD]
  rw [if_pos h]
theorem noS_ints : ∀ xs : List Int, (∀ x ∈ xs, x.natAbs < 2 ^ 1000) → noSs (xs.map .int) = true
  | [], _ => rfl
  | x :: t, h => by
    show (decide (x.natAbs.log2 < 1920) && noSs (t.map .int)) = true
    rw [noS_ints t fun y m => h y (List.mem_cons_of_mem _ m), Bool.and_true, decide_eq_true_eq]
    have hx := h x List.mem_cons_self
    by_cases h0 : x.natAbs = 0
    · rw [h0]; decide
    · have := (Nat.log2_lt h0).mpr hx
      omega
theorem nds_ints : ∀ xs : List Int, nds (xs.map .int) = xs.length
  | [] => rfl
  | x :: t => by
    show 1 + nds (t.map .int) = t.length + 1
    rw [nds_ints t]
    omega
end MI
set_option maxRecDepth 100000
set_option maxHeartbeats 4000000
namespace MI
open PySem PySem.Spec PyProof.Rows L2
section
variable {c : Ct} {W : WX} {X : Cx} {B Z B1 : List Addr} {H H1 : Hp} {σ : L2.St} {α : Type}
/-! ## dict displays -/
abbrev FP := Rho → Sto → Out (List (Key × PyData))
@[simp] def pNil : FP := fun _ S => .ok [] S
@[simp] def pCons (k : Key) (f : FE) (t : FP) : FP := fun r S => (f r S).bind fun v S1 => match v with
  | .d x => (t r S1).bind fun l S2 => .ok ((k, x) :: l) S2
  | _ => .bad
@[simp] def eDisp (t : FP) : FE := fun r S => (t r S).bind fun l S' => if (l.map (·.1)).Nodup ∧ l.length ≤ 15 then .ok (.d (.dict (l.map fun p => (kD p.1, p.2)))) S' else .bad
def PPr (c : Ct) (H : Hp) (bd : List Addr) (l : List (Key × PyData)) (ps : List (V × V)) : Prop := ps.map (·.1) = l.map (fun p => kV p.1) ∧ RDs c.K H bd (l.map (·.2)) (ps.map (·.2))
def TPx (c : Ct) (W : WX) (t : FP) (σ : L2.St) (H : Hp) (Q : List (V × V) → Hp → Prop) : Prop := ∃ B Z r S, SR c H B Z S ∧ RR c H B Z r σ ∧ Post c W B Z H σ (t r S) fun l _ B' H' => ∀ ps, PPr c H' (B' ++ Z) l ps → Q ps H'
structure PPx (c : Ct) (W : WX) (X : Cx) (pos : Pos) (keys : List (Option Expr)) (values : List Expr) (t : FP) : Prop where
  ex : ∃ trs, PPs X pos keys values trs ∧ ∀ σ H Q, TPx c W t σ H Q → tPairs trs σ H Q
theorem p_nil {pos : Pos} : PPx c W X pos [] [] pNil := ⟨[], pps_nil, fun σ H Q ⟨B, Z, r, S, s, rr, p⟩ => p.ret s [] ⟨rfl, .nil⟩⟩
theorem p_cons {pos : Pos} {ke e : Expr} {ks : List (Option Expr)} {vs : List Expr} {k : Key} {f : FE} {t : FP} (hk : PE X ke (tC (kV k))) (h : PE X e (TEx c W f)) (ht : PPx c W X pos ks vs t) : PPx c W X pos (some ke :: ks) (e :: vs) (pCons k f t) := by
  obtain ⟨trs, h1, h2⟩ := ht.ex
  refine ⟨(tC (kV k), TEx c W f) :: trs, pps_cons hk h h1, fun σ H Q ⟨B, Z, r, S, s, rr, p⟩ => ?_⟩
  show TEx c W f σ H fun y H2 => tPairs trs σ H2 fun ps H3 => Q ((kV k, y) :: ps) H3
  refine ⟨B, Z, r, S, s, rr, (Post.bind p).imp fun v S1 B1 H1 e1 s1 q y hy => ?_⟩
  split at q
  · cases hy with
    | d hy =>
      refine h2 σ H1 _ ⟨B1, Z, r, S1, s1, rr.ev e1, (Post.bind q).imp fun l S2 B2 H2 e2 s2 q2 ps hp => ?_⟩
      exact q2.ret s2 _ ⟨by rw [List.map_cons, List.map_cons, hp.1], .cons (hy.ev e2) hp.2⟩
  · exact q.elim
theorem Post.lessW {z : Addr} {o : Out α} {Q : α → Sto → List Addr → Hp → Prop} (h : Post c W B Z H σ o Q) : Post c W B (z :: Z) H σ o fun v S B' H' => Q v S B' H' := by
  cases o with
  | ok v S => exact fun B' H' e s => h B' H' e s.less
  | exn n v S => exact fun cls dd B' H' e s rx => h cls dd B' H' e s.less (by
      obtain ⟨C, dx, y, a1, a2, a3, a4, a6, a5⟩ := rx
      exact ⟨C, dx, y, a1, a2, a3, a4, SR.less.lessN a6, a5.mono (fun _ _ h _ _ => h) fun a m => .inl (by
        rcases List.mem_append.mp m with m | m
        · exact List.mem_append_left _ m
        · exact List.mem_append_right _ (List.mem_cons_of_mem _ m))⟩)
  | bad => exact h
theorem merge_nd : ∀ (more acc : List (Key × V)), ((acc ++ more).map (·.1)).Nodup → mergeK acc more = acc ++ more
  | [], acc, _ => by simp [mergeK]
  | p :: t, acc, h => by
    have hv : valV acc p.1 = none := by
      unfold valV
      rw [Option.map_eq_none_iff, List.find?_eq_none]
      intro q hq
      rw [List.map_append, List.nodup_append] at h
      have := h.2.2 q.1 (List.mem_map.mpr ⟨q, hq, rfl⟩) p.1 (by simp)
      simpa using this
    have e : mergeK acc (p :: t) = mergeK (putK acc p.1 p.2) t := rfl
    rw [e, putK_new p.2 hv, merge_nd t _ (by simpa using h)]
    simp
theorem s_disp {pos : Pos} {keys : List (Option Expr)} {values : List Expr} {t : FP} (h : PPx c W X pos keys values t) (hall : keys.all (·.isSome) = true) (hl : keys.length = values.length) (h0 : keys ≠ []) (h15 : keys.length ≤ 15) : PE X (.Dict keys values pos) (TEx c W (eDisp t)) := by
  obtain ⟨trs, h1, h2⟩ := h.ex
  refine pe_imp (pe_disp h1 hall hl h0 h15) fun σ H Q ⟨B, Z, r, S, s, rr, p⟩ => fun a ha => ?_
  refine h2 σ _ _ ⟨B, a :: Z, r, S, s.newZ ha (.inr ⟨_, rfl⟩), rr.evZ (Ev.new s ha) ha, ?_⟩
  cases ht : t r S with
  | bad => simp only [eDisp, ht, Out.bind] at p; exact p.elim
  | exn n v S2 =>
    simp only [eDisp, ht, Out.bind] at p
    have p : Post c W B Z H σ (.exn n v S2 : Out IV) (fun v S' B' H' => ∀ x, RI c H' B' Z v x → Q x H') := p
    exact (p.far (Ev.new s ha)).lessW
  | ok l S2 =>
  simp only [eDisp, ht, Out.bind] at p
  intro B2 H2 e2 s2 ps hp
  have q := p
  have na : a ∉ B := fun m => s.trk a m ha
  have hx : H2 a = some (.dK []) := e2.keep a _ upd_same na ntD
  by_cases hn : (l.map (·.1)).Nodup ∧ l.length ≤ 15
  · rw [if_pos hn] at q
    obtain ⟨kvs, hk, hk1, hk2⟩ : ∃ kvs : List (Key × V), ps = kvs.map (fun kv => (kV kv.1, kv.2)) ∧ kvs.map (·.1) = l.map (·.1) ∧ kvs.map (·.2) = ps.map (·.2) := by
      have hlen : l.length = ps.length := by have := congrArg List.length hp.1; simpa using this.symm
      refine ⟨(l.map (·.1)).zip (ps.map (·.2)), ?_, ?_, ?_⟩
      · refine List.ext_getElem (by simp [hlen]) fun i hi _ => ?_
        have e := congrArg (·[i]?) hp.1
        simp only [List.getElem?_map, List.getElem?_eq_getElem hi, List.getElem?_eq_getElem (show i < l.length by omega), Option.map_some, Option.some.injEq] at e
        simp [← e]
      · rw [List.map_fst_zip]; simp [hlen]
      · rw [List.map_snd_zip]; simp [hlen]
    refine ⟨hx, kvs, hk, ?_, ?_⟩
    · have := congrArg List.length hk1
      simp only [List.length_map] at this
      omega
    · rw [merge_nd kvs [] (by simpa [hk1] using hn.1), List.nil_append]
      have w := s2.wrZ (o := HO.dK kvs) (.inr ⟨_, hx⟩) (.inr ⟨_, rfl⟩)
      have nd : a ∉ B2 ++ Z := fun m => by
        rcases List.mem_append.mp m with m | m
        · exact s2.zb a List.mem_cons_self m
        · exact kdNe (s.zt a m) ha
      have eD : Ev B H B2 (upd H2 a (.dK kvs)) := evD ((Ev.new (o := HO.dK []) s ha).trans e2) ha (.inr ⟨_, hx⟩)
      refine q B2 _ eD w.1.less (.ref a) (.d (.dct upd_same nd ?_ ?_))
      · rw [List.map_map]
        have : (kvs.map (·.1)).map kD = (l.map (·.1)).map kD := by rw [hk1]
        rw [List.map_map, List.map_map] at this
        exact this.symm
      · rw [List.map_map, hk2]
        refine hp.2.mono (fun b u hb hB _ => ?_) fun b m => .inl ?_
        · have : b ≠ a := fun q => hB (List.mem_append_right _ (by rw [q]; exact List.mem_cons_self))
          rw [upd_ne this]; exact hb
        · rcases List.mem_append.mp m with m | m
          · exact List.mem_append_left _ m
          · exact List.mem_append_right _ (List.mem_cons_of_mem _ m)
  · rw [if_neg hn] at q
    exact q.elim
end
end MI
set_option maxRecDepth 100000
set_option maxHeartbeats 4000000
namespace MI
open PySem PySem.Spec PyProof.Rows L2
section
variable {c : Ct} {W : WX} {X : Cx} {B Z B1 : List Addr} {H H1 : Hp} {σ : L2.St}
/-! ## len(set(..)) of ints -/
def TLenSet (K : PySem.W.Frag) (ta : TE) : TE := fun σ H Q => ta σ H fun x H1 => ∃ (l : Addr) (ns : List Int), x = .ref l ∧ (SqL K H1 l (ns.map V.int) ∨ SqT K H1 l (ns.map V.int)) ∧ ns.length < 64 ∧ Q (.int ((dsort ns).length : Nat)) H1
theorem lenset_card {ns : List Int} {ks : List Int} (nd : ks.Nodup) (mem : ∀ k, decide (k ∈ ns) = true ↔ k ∈ ks) : ks.length = (dsort ns).length := by
  have nd2 : (dsort ns).Nodup := (dsort_pw ns).imp fun {a b} h => by omega
  exact ((List.perm_ext_iff_of_nodup nd nd2).mpr fun k => by rw [dsort_mem, ← mem k, decide_eq_true_iff]).length_eq
theorem pe_lenSetA {a : Expr} {ta : TE} {p p2 q pos : Pos} (hg : Gl X "len") (hm : X.mg "len" = none) (hg2 : Gl X "set") (hm2 : X.mg "set" = none) (ha : PE X a ta) (hc : X.calm = true)
    (na : starEach [a] X.env = (false, eval a X.env) :: starEach [] X.env := by rfl) (nb : starEach [.Call (.Name "set" p2) [a] [] q] X.env = (false, eval (.Call (.Name "set" p2) [a] [] q) X.env) :: starEach [] X.env := by rfl) :
    PE X (.Call (.Name "len" p) [.Call (.Name "set" p2) [a] [] q] [] pos) (TLenSet X.K ta) := by
  refine ⟨fun pins s σ H Q I h => ?_⟩
  refine Call_ (ld_blt I hg hm boot_len ?_)
  refine PyProof.Rows.callWith_builtin1 (PyProof.Rows.args_cons ?_ nb) nb rfl
  refine Call_ (ld_blt I hg2 hm2 boot_set ?_)
  refine PyProof.Rows.callWith_type1 (PyProof.Rows.args_cons (thn (ha.run pins s σ H _ I h) fun v s1 ⟨x, H1, I1, r1, q1⟩ => PyProof.Rows.args_nil ?_) na) na rfl
  obtain ⟨l, ns, rfl, hq, h64, q1⟩ := q1
  cases r1
  have go : ∀ (h' : Heap) (tk c : Nat), SetR X.w h' s1.heap.objs.size (fun j => decide (j ∈ ns)) c → (∀ b o, s1.heap.get? b = some o → h'.get? b = some o) →
      wpAny (model X.prog X.w) X.A (call (.builtin "len") [.ref s1.heap.objs.size]) (EP X pins σ Q) X.xe { s1 with heap := h', toks := tk } := fun h' tk c hS hk => by
    obtain ⟨o, es, ep, t, ho, hex, hd, _, nd, mem, hsz, hf, hn, _⟩ := hS
    have hl := lenset_card nd mem
    rw [List.length_map, Array.length_toList] at hl
    have hb : (dsort ns).length ≤ ns.length := by
      have nd2 : (dsort ns).Nodup := (dsort_pw ns).imp fun {a b} h => by omega
      exact List.Nodup.length_le_of_subset nd2 fun k hk => (dsort_mem k ns).mp hk
    have I2 : Inv X pins σ H1 { s1 with heap := h', toks := tk } := I1.kept hk
    exact call_len_set ho hex hd hf (by omega) ⟨.int (dsort ns).length, H1, I2.tok _, ⟨_, by rw [hl]⟩, q1⟩
  rcases hq with hq | hq
  · obtain ⟨its, r, pl, hz⟩ := I1.list hq
    exact call_set_lstI (P := X.prog) (w := X.w) ns (I1.ok.hd hc) pl.isList (by simpa using RZ.intsAre_vals r) (by unfold scanBound; omega) fun h' tk c hS _ hk => PyProof.Rows.args_nil (go h' tk c hS hk)
  · obtain ⟨its, r, pl, hz⟩ := I1.tuple hq
    exact call_set_tupI (P := X.prog) (w := X.w) ns (I1.ok.hd hc) (show s1.heap.IsTuple l its.toArray from pl) (by simpa using RZ.intsAre_vals r) (by unfold scanBound; omega) fun h' tk c hS _ hk => PyProof.Rows.args_nil (go h' tk c hS hk)
@[simp] def sintsOf (S : Sto) (v : IV) : Option (List Int) := match seqOf S v with
  | some ds => intsOf ds
  | none => none
@[simp] def eLenSet (f : FE) : FE := fun r S => (f r S).bind fun v S1 => match sintsOf S1 v with
  | some ns => if ns.length < 64 then .ok (.d (.int ((dsort ns).length : Nat))) S1 else .bad
  | none => .bad
theorem s_lenSet {a : Expr} {f : FE} {p p2 q pos : Pos} (cx : Cxg c W X) (hg : Gl X "len") (hm : X.mg "len" = none) (hg2 : Gl X "set") (hm2 : X.mg "set" = none) (ha : PE X a (TEx c W f)) (hc : X.calm = true)
    (na : starEach [a] X.env = (false, eval a X.env) :: starEach [] X.env := by rfl) (nb : starEach [.Call (.Name "set" p2) [a] [] q] X.env = (false, eval (.Call (.Name "set" p2) [a] [] q) X.env) :: starEach [] X.env := by rfl) :
    PE X (.Call (.Name "len" p) [.Call (.Name "set" p2) [a] [] q] [] pos) (TEx c W (eLenSet f)) :=
  pe_imp (pe_lenSetA hg hm hg2 hm2 ha hc na nb) fun σ H Q ⟨B, Z, r, S, s, rr, p⟩ => ⟨B, Z, r, S, s, rr, (Post.bind p).imp fun v S1 B1 H1 e1 s1 q x rx => by
    cases h : sintsOf S1 v with
    | none => rw [h] at q; exact q.elim
    | some ns =>
      rw [h] at q
      dsimp only at q
      by_cases hl : ns.length < 64
      · rw [if_pos hl] at q
        unfold sintsOf at h
        cases hs : seqOf S1 v with
        | none => rw [hs] at h; cases h
        | some ds =>
          rw [hs] at h
          obtain ⟨a, xs, rfl, h1, h2⟩ := seqOf_sq s1 rx hs
          have e := intsOf_eq h
          subst e
          rw [h2.ints] at h1
          rw [cx.K]
          exact ⟨a, ns, rfl, h1, hl, q.ret s1 _ (.d (.int _))⟩
      · rw [if_neg hl] at q; exact q.elim⟩
theorem s_dnew {pos : Pos} : PE X (.Dict [] [] pos) (TEx c W (eC (.dict []))) :=
  pe_imp pe_dnewK fun σ H Q ⟨B, Z, r, S, s, rr, p⟩ a ha => p B _ (Ev.new s ha) (s.new ha) _ (.d (.dct upd_same (s.out ha) rfl .nil))
/-! ## str(int) -/
@[simp] def bStrI : FN := fun is S => match is with
  | [.d (.int i)] => if i.natAbs.log2 < 1920 then .ok (.d (.str (toString i))) S else .bad
  | _ => .bad
theorem k_strI : OkN c W (fun xs H Q => ∃ i : Int, xs = [.int i] ∧ i.natAbs.log2 < 1920 ∧ Q (.str (toString i)) H) bStrI := by
  intro σ B Z H S is vs Q s r p
  unfold bStrI at p
  split at p
  · obtain ⟨x, rfl, rx⟩ := ris1 r
    split at p
    · cases rx with
      | d rx => cases rx; exact ⟨_, rfl, by assumption, p.ret s _ (.d (.str _))⟩
    · exact p.elim
  · exact p.elim
theorem f_strI : Bf c W X (.type "str") bStrI := ⟨_, call_str_int, k_strI⟩
/-! ## a def that calls itself -/
theorem FnG.bad {P : Program} {w : World} {base : Heap} {k : Nat} {f : Addr} {fd : FuncData} {ps : List Str} : FnG P w c base k f fd ps (fun _ _ => .bad) := ⟨fun A outer s H args us vs Q E B Z S is hr hgu e0 hb rv hlen sr ri hp => hp.elim⟩
end
end MI
set_option maxRecDepth 100000
set_option maxHeartbeats 4000000
namespace MI
open PySem PySem.Spec PyProof.Rows L2
section
variable {prog : Program} {w : World} {A : Around} {E : Value → Shared → Prop} {s : Shared}
/-! ## sorted(tuple of ints) (the worked walk of a list, turned to tuples) -/
theorem collect_tup {l : Addr} {us : List Value} {Q : List Value → Shared → Prop} (tl : s.heap.IsTuple l us.toArray)
    (q : Q us { s with heap := (s.heap.push (seqObj "list" #[] 0)).update s.heap.objs.size (Obj.mapSeq (· ++ us.toArray)) }) (sz : us.length ≤ sizeLine) : wpAny (model prog w) A (collect (.ref l)) Q E s := by
  obtain ⟨o, oT, cT, n, dT⟩ := id tl
  unfold collect
  refine wpAny_bind (wpAny_runValue (codeAny_builtin entry_proto_collect' ?_)); show wpAny _ _ (do again (.builtin "list.__iadd__" ⟨[← newList [], .ref l], []⟩)) _ _ s
  refine wpAny_bind (wpAny_newList (wpAny_pure ⟨Code.quiet_builtin _ (by decide +kernel), codeAny_builtin entry_list_iadd' ?_⟩)); show wpAny _ _ (Builtin.List.listExtendWith (.ref s.heap.objs.size) (.ref l) (.ref s.heap.objs.size)) _ _ { s with heap := s.heap.push (seqObj "list" #[] 0) }
  unfold Builtin.List.listExtendWith
  have oT' : (s.heap.push (seqObj "list" #[] 0)).get? l = some o := Heap.get?_push_of_some _ oT
  refine wpAny_bind (wpAny_typeOf (T := "tuple") ⟨o, oT', cT⟩ ?_)
  have ct : (Value.type "tuple" == Value.type "tuple") = true := by rfl
  rw [if_pos (by rw [ct]; simp)]
  refine wpAny_bind (listItems_at oT' dT ?_); refine wpAny_bind (listItems_at (xs := #[]) (n := 0) (Heap.get?_push_size _ rfl) rfl ?_)
  rw [if_neg (by simp)]
  refine wpAny_bind (listUpdate_at (n := 0) (xs := #[]) (Heap.get?_push_size _ rfl) rfl ?_ (Nat.zero_le _) (by show (#[] ++ us.toArray).size ≤ sizeLine + 1; simp only [Array.size_append, List.size_toArray, List.length_nil]; omega))
  refine wpAny_pure ?_
  show wpAny (model prog w) A (do
      let o ← load s.heap.objs.size; match o.data with
      | .seq xs _ => pure xs.toList
      | _ => unsupported "internal:collect") Q E { s with heap := (s.heap.push (seqObj "list" #[] 0)).update s.heap.objs.size (Obj.mapSeq (· ++ us.toArray)) }
  refine wpAny_bind (wpAny_load (get?_update_seq (Heap.get?_push_size _ rfl) _) ?_); show wpAny _ _ (pure ((#[] : Array Value) ++ us.toArray).toList) Q E _
  have e : ((#[] : Array Value) ++ us.toArray).toList = us := by simp
  rw [e]
  exact wpAny_pure q
theorem sorted_ordT {l : Addr} {us : List Value} {ltv : Value → Value → Bool} {Q : Value → Shared → Prop} (O : SrtO.Swo ltv) (tl : s.heap.IsTuple l us.toArray) (sz : us.length ≤ sizeLine)
    (zS : 2 ≤ us.length → ∀ (h₁ : Heap) (a : Addr), h₁.get? a = some (seqObj "list" us.toArray 0) → (∀ b o, s.heap.get? b = some o → b ≠ a ∧ h₁.get? b = some o) → SrtO.SortableO prog w A.in1.in1 { s with heap := h₁ } a us ltv)
    (q : ∀ out : List Value, SrtO.Srtd ltv out → SrtO.Stb ltv out us → Q (.ref (s.heap.objs.size + 1)) { s with heap := sortedAll s.heap us out.toArray }) : wpAny (model prog w) A (call (.builtin "sorted") [.ref l]) Q E s := by
  refine Calls.call_function_entry kind_sorted plain_sorted entry_sorted (args_sorted1 _) ?_; unfold Builtin.«sorted»
  refine wpAny_bind (wpAny_pure ?_ : wpAny _ _ (checkCount "sorted" 1 1 _) _ _ _)
  refine wpAny_bind (collect_tup tl ?_ sz); refine wpAny_bind (wpAny_newList ?_ sz)
  have zsz : ((s.heap.push (seqObj "list" #[] 0)).update s.heap.objs.size (Obj.mapSeq (· ++ us.toArray))).objs.size = s.heap.objs.size + 1 := by rw [Heap.size_update, size_push']
  have zL : (((s.heap.push (seqObj "list" #[] 0)).update s.heap.objs.size (Obj.mapSeq (· ++ us.toArray))).push (seqObj "list" us.toArray 0)).get? (s.heap.objs.size + 1) = some (seqObj "list" us.toArray 0) := by
    rw [← zsz]; exact Heap.get?_push_size _ rfl
  have zk : ∀ b o, s.heap.get? b = some o → b ≠ s.heap.objs.size + 1 ∧ (((s.heap.push (seqObj "list" #[] 0)).update s.heap.objs.size (Obj.mapSeq (· ++ us.toArray))).push (seqObj "list" us.toArray 0)).get? b = some o := fun b o q => by
    have zlt : b < s.heap.objs.size := Heap.lt_size q
    refine ⟨Nat.ne_of_lt (Nat.lt_succ_of_lt zlt), Heap.get?_push_of_some _ ?_⟩; rw [Heap.get?_update_ne _ _ _ _ (Nat.ne_of_lt zlt)]
    exact Heap.get?_push_of_some _ q
  show wpAny _ _ _ _ _ { s with heap := ((s.heap.push (seqObj "list" #[] 0)).update s.heap.objs.size (Obj.mapSeq (· ++ us.toArray))).push (seqObj "list" us.toArray 0) }
  rw [zsz]
  refine wpAny_bind (wpAny_holding (wpAny_call_entry slot_list_sort ⟨_, zL, rfl⟩ entry_list_sort (SrtO.list_sort_ord O zL sz (fun h2 => zS h2 _ _ zL zk) fun out hs hb => ⟨_, rfl, ?_⟩) (args_list_sort _)))
  exact wpAny_pure ⟨_, rfl, q out hs hb⟩
end
section
variable {c : Ct} {W : WX} {X : Cx}
def rSortedIT (K : PySem.W.Frag) : List V → Hp → VK → Prop := fun vs H Q => ∃ (a : Addr) (ns : List Int), vs = [V.ref a] ∧ (SqL K H a (ns.map V.int) ∨ SqT K H a (ns.map V.int)) ∧
  ∀ (ms : List Int) (p : Addr), ms.Perm ns → ms.Pairwise (· ≤ ·) → H p = none → Q (.ref p) (upd H p (.lst (ms.map V.int)))
theorem cr_sortedIT : CallR X (.builtin "sorted") (rSortedIT X.K) := by
  intro pins s σ H vs us Q I r h
  obtain ⟨a, ns, rfl, hs, q⟩ := h
  rcases hs with hs | hs
  · exact cr_sortedI pins s σ H _ us Q I r ⟨a, ns, rfl, hs, q⟩
  · obtain ⟨its, rv, hl, hz⟩ := I.tuple hs
    rw [Vals.ref1 r]
    have hi := rv.ints
    have hz' : its.length ≤ sizeLine := by
      first
        | (rw [← rv.length]; exact hz)
        | simpa using hz
    refine sorted_ordT SrtO.swo_int (show s.heap.IsTuple a its.toArray from hl) hz' (fun h2 h₁ a' _ _ => SrtO.ints_sortable hi h2) fun out h1 h2 => ?_
    obtain ⟨k1, k2, k3⟩ := SrtO.ints_out hi h1 h2
    obtain ⟨ep, e'⟩ := PyProof.Rows.sortedAll_at s.heap its out.toArray
    have zl : ((out.map SrtO.iv).map V.int).length ≤ sizeLine := by
      have e1 := rv.length
      rw [List.length_map] at e1
      rw [List.length_map, k2.length_eq, e1]
      exact hz'
    exact ⟨.ref _, _, I.laid (a := s.heap.objs.size + 1) (t' := s.toks) (o := .lst ((out.map SrtO.iv).map V.int)) (fun _ _ => PyProof.Rows.sortedAll_old) (Nat.le_succ _) ⟨zl, out, ep, vals_of_ints k1, e'⟩, rfl, q _ _ k2 k3 (I.hok.fresh (Nat.le_succ _))⟩
@[simp] def bSortS : FN := fun is S => match is with
  | [v] => match sintsOf S v with
    | some ns => .ok (.d (.list ((isort ns).map .int))) S
    | none => .bad
  | _ => .bad
theorem sintsOf_sq {B Z : List Addr} {H : Hp} {S : Sto} {v : IV} {x : V} {ns : List Int} (s : SR c H B Z S) (rx : RI c H B Z v x) (h : sintsOf S v = some ns) : ∃ a, x = .ref a ∧ (SqL c.K H a (ns.map V.int) ∨ SqT c.K H a (ns.map V.int)) := by
  unfold sintsOf at h
  cases hs : seqOf S v with
  | none => rw [hs] at h; cases h
  | some ds =>
    rw [hs] at h
    obtain ⟨a, xs, rfl, h1, h2⟩ := seqOf_sq s rx hs
    have e := intsOf_eq h
    subst e
    rw [h2.ints] at h1
    exact ⟨a, rfl, h1⟩
theorem k_sortS : OkN c W (rSortedIT c.K) bSortS := by
  intro σ B Z H S is vs Q s r p
  unfold bSortS at p
  split at p
  · obtain ⟨x, rfl, rx⟩ := ris1 r
    split at p
    · rename_i ns hn
      obtain ⟨a, rfl, h1⟩ := sintsOf_sq s rx hn
      refine ⟨a, ns, rfl, h1, fun ms l pm pw hl => ?_⟩
      rw [isort_of pm pw]
      exact new_list s (rds_ints _) hl p
    · exact p.elim
  · exact p.elim
theorem f_sortedS (cx : Cxg c W X) : Bf c W X (.builtin "sorted") bSortS := ⟨_, cx.K ▸ cr_sortedIT, k_sortS⟩
end
end MI
set_option maxRecDepth 100000
set_option maxHeartbeats 4000000
namespace MI
open PySem PySem.Spec PyProof.Rows L2 LamX NdefX
/-! ## own exceptions: __init__ says super().__init__(value) and keeps the value -/
/-- what the written part says of the class at C, whose __init__ is D's -/
structure ErC (K : PySem.W.Frag) (D C : Addr) : Prop where
  oex : OexC K C
  mro : PySem.W.mroIn K C (.ref D) = some true
  sup : PySem.W.ks_superIn K C D "__init__" = some (some (.builtin "ValueError.__init__"))
  isV : PySem.W.subIn K (.ref C) (.type "ValueError") = some true
  nov : PySem.W.findIn K (.ref C) "value" = some none
/-- of the def __init__ at f -/
structure InD (P : Program) (K : PySem.W.Frag) (D f : Addr) (params : Arguments) (body : List Stmt) (scope : Scope) (qual : Str) (fd : FuncData) : Prop where
  ex : ∃ (cc cda : Addr) (doc pm ctv oc : Value) (od : Option Addr) (osl : Array (Option Value)), fd = PySem.W.ksFn "__init__" qual params body scope .none .none doc pm none (.ref cda) ctv cc ∧ K.lookup f = some ⟨oc, od, .func fd, osl⟩ ∧ PySem.W.codeIn K (.ref cda) qual = true ∧
    (∃ ccl cdd vs ccs file tf, K.lookup cda = some ⟨ccl, cdd, .fields vs, ccs⟩ ∧ vs[2]? = some (.str file tf) ∧ ((P.main.file : Str) == file) = true) ∧ (∃ cl cld csl, K.lookup cc = some ⟨cl, cld, .cell (some (.ref D)), csl⟩)
  dcl : ∃ cd, PySem.W.clsIn K D = some cd
  op : PySem.W.nsIn K cStatics "thirdparty.any" = some none
def spI (K : PySem.W.Frag) (D : Addr) : Sp := fun vs H Q E => ∃ a C y, vs = [.ref a, y] ∧ ErC K D C ∧ H a = some (exo a C none) ∧ ∀ dx, H dx = none → dx ≠ a → Q .non (upd (upd H dx (exd dx [("value", y)])) a (exo a C (some dx)))
section
variable {P : Program} {w : World} {K : PySem.W.Frag} {mg : Str → Option Value} {base : Heap} {D f : Addr} {fd : FuncData} {scope : Scope} {qual : Str} {params : Arguments} {k : Nat}
/-- ValueError.__init__ bound to the object, called -/
theorem mw_call {A : Around} {E : Value → Shared → Prop} {h : Heap} {g : Array GenState} {d : Drawn} {t : Nat} {os : OsState} {nm q : Str} {C N e u t0 : Addr} {bs bm : List Value} {hdct : Bool} {sn : List Str} {sub : List Value} {ab : Bool} {col : Option Bool} {dd : Option Addr} {k0 k1 k2 k3 k5 : Option Value} {rest : List Value} {Q : Value → Shared → Prop}
    (zC : h.get? C = some (excClassObj nm q C N bs bm hdct sn sub ab col dd k0 k1 k2 k3 k5 "ValueError.__new__")) (ze : h.get? e = some (PySem.W.excObj C t0 none .none)) (zu : h.get? u = some (PySem.W.kxs_mw "ValueError.__init__" e)) (zr : rest.length ≤ sizeLine)
    (zq : ∀ h' t1, (∀ b o, b ≠ e → h.get? b = some o → h'.get? b = some o) → h'.get? e = some (PySem.W.excObj C t1 none .none) → Q .none ⟨h', g, d, t, os⟩) : wpAny (model P w) A (call (.ref u) rest) Q E ⟨h, g, d, t, os⟩ := by
  refine wpAny_call (codeAny_of_tree ?_); show wpAny _ A.in1 (callAny (.ref u) ⟨rest, []⟩) _ _ _
  simp only [callAny]; refine wpAny_bind (wpAny_load zu ?_)
  simp only [PySem.W.kxs_mw, show (Value.type "method-wrapper" == Value.type "method" || Value.type "method-wrapper" == Value.type "builtin_function_or_method" || Value.type "method-wrapper" == Value.type "method-wrapper") = true by decide, if_true]
  refine PySem.W.KFB.if_so (by decide) (wpAny_bind (PySem.W.check_bound_init F.excBase_ValueError.toExcCallFacts zC ze rfl ?_)); refine wpAny_bind (wpAny_pure (wpAny_pure ?_))
  refine ⟨plainId_quiet F.excBase_ValueError.init.plain _, codeAny_builtin F.excBase_ValueError.initEntry ?_⟩
  exact PySem.W.exc_init_tree (cls := .ref C) (t0 := t0) (dv := none) (c2 := .none) (c3 := .none) (b4 := .bool false) ze zr fun h' z1 z2 z3 => zq h' _ z1 z2
/-- the def __init__ keeps spI -/
theorem init_fn {p0 p1 p2 p3 p4 p5 q1 q2 q3 q4 : Pos} {body : List Stmt} {CX : CXT} (I0 : InD P K D f params body scope qual fd) (hbody : body = [.Expr (.Call (.Attribute (.Call (.Name "super" p0) [] [] p1) "__init__" p2) [.Name "value" p3] [] p4) p5, .Assign [.Attribute (.Name "self" q1) "value" q2] (.Name "value" q3) q4])
    (S : NScope ["self", "value", "__class__"] ["self", "value"] ["__class__"] scope) (hsu : scope.names.lookup ("super" : Str) = some .globalImplicit) (hmg : mg "super" = none) (hpar : (params.posonlyargs ++ params.args).head?.map (·.arg) = some ("self" : Str)) (htop : (P.main.scope.names.lookup ("super" : Str)).isSome = false)
    (hev : ∀ env : Env, ∃ pl : Sem Bool, eval (.Call (.Attribute (.Call (.Name "super" p0) [] [] p1) "__init__" p2) [.Name "value" p3] [] p4) env = (do
      let ov ← attributeBase (.Call (.Name "super" p0) [] [] p1) "__init__" env (eval (.Call (.Name "super" p0) [] [] p1) env); standAt p2.atName
      let (f, first) ← holding [ov] (getMethod ov "__init__" pl); callWith p4 f first (backTo p4 (starEach [.Name "value" p3] env)) [])) :
    FnOk P w K mg base CX (k + 1) f fd ["self", "value"] (spI K D) := by
  refine ⟨fun vs H Q E ⟨a, C, y, e, _⟩ => by rw [e]; rfl, fun A outer s H args us vs Q E hr e0 hb rv hsp => ?_⟩
  obtain ⟨cc, cda, doc, pm, ctv, oc, od, osl, rfl, lk, hcd, ⟨ccl, cdd, cvs, ccs, file, tf, lcd, hvs, hfile⟩, cl, cld, csl, lcc⟩ := I0.ex
  obtain ⟨cdD, hD⟩ := I0.dcl
  obtain ⟨a, C, y, rfl, ec, ea, q⟩ := hsp
  have KX : K.In s.heap := e0.mod.kin.keeps fun b o e => (e0.bs b o e).1
  have lim : s.heap.NoLimit := e0.mod.nolimit.keeps fun b o e => (e0.bs b o e).1
  obtain ⟨u0, u1, rfl⟩ : ∃ u0 u1, us = [u0, u1] := by
    have hl := rv.length
    match us, hl with
    | [x, z], _ => exact ⟨x, z, rfl⟩
  cases rv with
  | cons r0 rv =>
  cases rv with
  | cons r1 rv =>
  obtain rfl : u0 = Value.ref a := r0
  have hcn : H cc = none := (e0.bs cc _ (e0.mod.kin _ _ lcc)).2
  let F : NF := ⟨"__init__", qual, params, body, scope, [("__class__", cc)], cda⟩
  have CA : CellsAt F.cl ["__class__"] [some (.ref D)] s.heap H := by
    refine ⟨rfl, fun y c e => ?_, fun x y c e1 e2 => ?_, fun i y e => ?_⟩
    · have e : ([("__class__", cc)] : List (Str × Addr)).lookup y = some c := e
      rw [List.lookup_cons] at e
      split at e
      · cases e
        exact ⟨hcn, _, _, KX _ _ lcc, rfl⟩
      · cases e
    · have e1 : ([("__class__", cc)] : List (Str × Addr)).lookup x = some c := e1
      have e2 : ([("__class__", cc)] : List (Str × Addr)).lookup y = some c := e2
      rw [List.lookup_cons] at e1 e2
      split at e1
      · rename_i z1
        split at e2
        · rename_i z2
          exact (eq_of_beq z1).trans (eq_of_beq z2).symm
        · cases e2
      · cases e1
    · match i, e with
      | 0, e =>
        cases e
        exact ⟨cc, rfl, fun v ev => by cases ev; exact ⟨.ref D, rfl, _, KX _ _ lcc, rfl⟩⟩
  refine PySem.ks_codeAny_call_defAt hr.depth (KX _ _ lk) rfl lim (PySem.W.codeRec_of KX hcd) rfl hb (fun x hx => S.nocell x hx) (fun ⟨n, _⟩ hy => S.par n (List.of_mem_zip hy).1) (fun h₁ hns kp => ?_) S.co S.gen S.kind
  have I : Inv (ncx CX P w K mg base ["self", "value", "__class__"] F f A outer s H E) [] (startF ["self", "value", "__class__"] [.ref a, y] [some (.ref D)]) H { s with heap := h₁, toks := s.toks + (([("self" : Str), "value"]).zip [Value.ref a, u1]).length } :=
    inv_startN S hr.hd e0 rfl (.cons rfl (.cons r1 .nil)) CA hns kp
  have KX1 : K.In h₁ := KX.keeps kp
  have ls : (fun x => (([("self" : Str), "value"]).zip [Value.ref a, u1]).reverse.lookup x) ("self" : Str) = some (.ref a) := rfl
  have lv : (fun x => (([("self" : Str), "value"]).zip [Value.ref a, u1]).reverse.lookup x) ("value" : Str) = some u1 := rfl
  obtain ⟨ar, har, hself⟩ : ∃ ar, (params.posonlyargs ++ params.args).head? = some ar ∧ ar.arg = "self" := by
    cases e : (params.posonlyargs ++ params.args).head? with
    | none => rw [e] at hpar; cases hpar
    | some ar => rw [e] at hpar; exact ⟨ar, rfl, Option.some.inj hpar⟩
  obtain ⟨oD, hD1, hD2⟩ : ∃ oD, h₁.get? D = some oD ∧ oD.data = .cls cdD := by
    unfold PySem.W.clsIn at hD
    split at hD
    · rename_i c d cd' sl ho
      cases hD
      exact ⟨_, KX1 _ _ ho, rfl⟩
    · cases hD
  obtain ⟨t1, hea⟩ := exo_at I.hok ea
  have kself := S.par "self" List.mem_cons_self
  have kvalue := S.par "value" (List.mem_cons_of_mem _ List.mem_cons_self)
  have kclass := S.frk "__class__" List.mem_cons_self
  obtain ⟨mb, b1, b2⟩ := e0.mod.blt
  have bk1 : ∀ b o, base.get? b = some o → h₁.get? b = some o := fun b o e => kp b o (e0.bs b o e).1
  obtain ⟨nm, qn, N, bs, bm, sn, sub, ab, col, dd, k0, k1, k2, k3, k5, hC, hbm⟩ := ec.oex.cls
  have hcl : PySem.W.clsIn K C = some { name := nm, bases := bs, mro := .ref C :: bm, ns := N, qualname := qn, hasDict := true, slotNames := sn, subclasses := sub, abstract := ab, collection := col, hasDel := false } := by unfold PySem.W.clsIn; rw [hC] <;> rfl
  have IA : PySem.W.InstAt h₁ a (PySem.W.excObj C t1 none .none) C none := ⟨hea, rfl, rfl, trivial⟩
  subst hbody
  obtain ⟨pl, hpl⟩ := hev (callEnv (PySem.W.ksFn "__init__" qual params [.Expr (.Call (.Attribute (.Call (.Name "super" p0) [] [] p1) "__init__" p2) [.Name "value" p3] [] p4) p5, .Assign [.Attribute (.Name "self" q1) "value" q2] (.Name "value" q3) q4] scope .none .none doc pm none (.ref cda) ctv cc) s.heap.objs.size f)
  refine PySem.ks_wpAt_execs_cons (PySem.ks_wpAt_Expr_any (PySem.ks_wpAt_MethodCall (pl := pl) (PySem.ks_wpAt_super_base (f := f) (cc := cda) hsu kclass (by decide) rfl (KX1 _ _ lk) rfl har rfl (KX1 _ _ lcd) rfl hvs hfile htop ?_) hpl) (hi := by show (scope.kind == .module && _) = false; rw [S.kind]; rfl))
  rw [hself]
  refine PySem.W.ks_loadName_global S.kind hsu (Calls.loadGlobal_builtin (e0.mod.glob.keeps bk1) hmg (b1.keeps bk1) ((b2 "super" (by decide)).trans (by decide +kernel : bootBuiltins "super" = some (.type "super"))) ⟨rfl, ?_⟩)
  refine wpAny_loadName_free S.kind kclass rfl ⟨_, KX1 _ _ lcc, rfl⟩ ?_
  refine wpAny_loadName_local S.kind kself hns ls ?_
  refine PySem.ks_wpAny_isType_cls hD1 hD2 ⟨rfl, ?_⟩
  refine PySem.ks_wpAny_call_super hD1 hD2 IA.at_ IA.cls (fun c e => by cases e) (PySem.W.looks_mroIn KX1 ec.mro) (fun h2 so2 k2 => ?_)
  have KX2 : K.In h2 := KX1.keeps k2
  have IA2 : PySem.W.InstAt h2 a (PySem.W.excObj C t1 none .none) C none := ⟨k2 _ _ hea, rfl, rfl, trivial⟩
  have sup : PySem.W.alongIn K "__init__" (((Value.ref C :: bm).dropWhile (· != .ref D)).drop 1) = some (some (.builtin "ValueError.__init__")) := by
    have z := ec.sup
    unfold PySem.W.ks_superIn at z
    rw [hcl] at z
    exact z
  refine PySem.W.kxs_getMethod PySem.W.kxs_ValueError so2 (PySem.W.looks_opaque KX2 I0.op) (l₀ := .ref C :: bm) (fun A Q E s k q => wpAny_bind ((PySem.W.looks_clsIn KX2 hcl) A _ E s k (wpAny_pure q))) rfl KX2 sup (IA2.type.andThen (PySem.W.looks_subIn KX2 ec.isV)) (PySem.W.ks_ne KX2 IA2 hcl) (by decide) ?_
  have hns2 : h2.Ns s.heap.objs.size fun x => (([("self" : Str), "value"]).zip [Value.ref a, u1]).reverse.lookup x := by
    obtain ⟨o, es, ep, e1, r⟩ := hns
    exact ⟨o, es, ep, k2 _ _ e1, r⟩
  have k3' : ∀ b o, h2.get? b = some o → (h2.push (PySem.W.kxs_mw "ValueError.__init__" a)).get? b = some o := fun b o e => Heap.get?_push_of_some _ e
  have hns3 : (h2.push (PySem.W.kxs_mw "ValueError.__init__" a)).Ns s.heap.objs.size fun x => (([("self" : Str), "value"]).zip [Value.ref a, u1]).reverse.lookup x := by
    obtain ⟨o, es, ep, e1, r⟩ := hns2
    exact ⟨o, es, ep, k3' _ _ e1, r⟩
  have hmw : (h2.push (PySem.W.kxs_mw "ValueError.__init__" a)).get? h2.objs.size = some (PySem.W.kxs_mw "ValueError.__init__" a) := Heap.get?_push_size _ rfl
  refine PySem.W.kxs_callWith (i := "ValueError.__init__") (x := a) (by rfl) (Calls.evalArgs_plain ?_)
  refine Calls.spliced_cons (wpAny_Name (wpAny_loadName_local S.kind kvalue hns3 lv ?_) (by decide))
  refine Calls.spliced_nil ⟨hmw, ?_⟩
  refine mw_call (KX2.keeps k3' _ _ hC) (k3' _ _ (k2 _ _ hea)) hmw (by show 1 ≤ sizeLine; rw [sizeLine_eq]; omega) fun h4 t4 k4 e4 => ?_
  have k14 : ∀ b o, b ≠ a → h₁.get? b = some o → h4.get? b = some o := fun b o hb e => k4 b o hb (k3' _ _ (k2 _ _ e))
  have J0 := I.write (t' := s.toks + (([("self" : Str), "value"]).zip [Value.ref a, u1]).length + 1) (x := a) (e := a) (o := exo a C none) (by rw [ea]; exact True.intro) (.inl rfl) k14 ⟨_, e4⟩ (exo_ok e4)
  have eu : upd H a (exo a C none) = H := by
    funext b
    by_cases hb : b = a
    · rw [hb, upd_same, ea]
    · rw [upd_ne hb]
  rw [eu] at J0
  have J : Inv (ncx CX P w K mg base ["self", "value", "__class__"] F f A outer s H E) [] (startF ["self", "value", "__class__"] [.ref a, y] [some (.ref D)]) H { s with heap := h4, toks := s.toks + (([("self" : Str), "value"]).zip [Value.ref a, u1]).length + 1 } := J0
  have ps : PSs (ncx CX P w K mg base ["self", "value", "__class__"] F f A outer s H E) [.Assign [.Attribute (.Name "self" q1) "value" q2] (.Name "value" q3) q4] _ :=
    pss_one (ps_ost (pe_var (i := 0) rfl (.inl kself)) (pe_var (i := 1) rfl (.inl kvalue)))
  refine wpAt_of_wpAny (wpAny_mono (ps.run [] _ _ H { nx := fun _ H' => Q .non H', rt := Q } J ?_) (fun fl s' hs => ?_) fun e s' hs => hs)
  · exact ⟨y, rfl, .ref a, rfl, a, C, rfl, ec.oex, ec.nov, .inl ⟨ea, q⟩⟩
  · have fin : ∀ {σ' : L2.St} {H' : Hp} {v : V} {u : Value}, Inv (ncx CX P w K mg base ["self", "value", "__class__"] F f A outer s H E) [] σ' H' s' → L2.RelV v u → Q v H' → CE outer P w H s Q u s' :=
      fun {σ' H' v u} J rv q => ⟨v, H', J.os, J.bare, J.base, J.hok, rv, q⟩
    cases fl with
    | ret u => obtain ⟨v, σ', H', J, rv, q⟩ := hs; exact fin J rv q
    | next => obtain ⟨σ', H', J, q⟩ := hs; exact fin (v := V.non) (u := Value.none) J rfl q
    | brk => obtain ⟨_, _, _, q⟩ := hs; exact False.elim q
    | cont => obtain ⟨_, _, _, q⟩ := hs; exact False.elim q
end
end MI
set_option maxRecDepth 100000
set_option maxHeartbeats 4000000
namespace MI
open PySem PySem.Spec PyProof.Rows L2 LamX NdefX
/-! ## raise C(e) -/
/-- what a body leans on to raise: the class x's own __init__ is known -/
structure KnE (P : Program) (w : World) (c : Ct) (base : Heap) (k : Nat) (x : Str) : Prop where
  ex : ∃ (C D fI : Addr) (fd : FuncData), c.mg x = some (.ref C) ∧ ErC c.K D C ∧ PySem.W.findIn c.K (.ref C) "__init__" = some (some (.ref fI)) ∧ PySem.W.typeIn c.K (.ref fI) = some (.type "function") ∧
    FnOk P w c.K c.mg base (L2.CX P w) k fI fd ["self", "value"] (spI c.K D) ∧ Binds c.K fd ["self", "value"] []
section
variable {c : Ct} {W : WX} {X : Cx} {B Z : List Addr} {H : Hp} {σ : L2.St} {k j : Nat}
theorem passes0 {P : Program} {w : World} : Passes (L2.CX P w) X (fun _ _ _ => False) := fun _ _ _ _ _ _ _ z => by
  obtain ⟨_, _, _, _, _, _, _, _, _, _, _, _, z⟩ := z
  exact z.elim
@[simp] def sRaise (x : Str) (f : FE) : FS := fun r S => (f r S).to r fun v S' => match v with
  | .d y => .exn x y r S'
  | _ => .bad
theorem s_raise {x : Str} {e : Expr} {f : FE} {p pos pos2 : Pos} (cx : Cxg c W X) (hr : Room k X.A) (kn : KnE X.prog X.w c X.base j x) (hj : j + 1 ≤ k) (hc : X.calm = true) (hg : Gl X x) (he : PE X e (TEx c W f))
    (hdb : (x == ("__debug__" : Str)) = false := by decide) (hs : starEach [e] X.env = (false, eval e X.env) :: starEach [] X.env := by rfl) : PS X (.Raise (some (.Call (.Name x p) [e] [] pos)) none pos2) (TSx c W (sRaise x f)) := by
  obtain ⟨C, D, fI, fd, h1, h2, h3, h4, h5, h6⟩ := kn.ex
  refine ps_imp (ps_raise hc cx.tk (pmk_oex (X := X) (CX := L2.CX X.prog X.w) (x := x) (C := C) (fI := fI) (k := j) (fd := fd) (ps := ["self", "value"]) (sp := spI c.K D) (ds := []) (dvs := []) (es := []) (p := p) (pos := pos)
    (by rw [cx.K]; exact h2.oex) (by rw [cx.K]; exact h3) (by rw [cx.K]; exact h4) (by rw [cx.K, cx.mg]; exact h5) (hr.mono hj) (by rw [cx.K]; exact h6) .nil passes0 hg (by rw [cx.mg]; exact h1) (pa_cons he pa_nil hs) hdb hs (by rfl))) ?_
  rintro Dn σ H ⟨B, Z, r, S, s, rr, q⟩
  refine ⟨B, Z, r, S, s, rr, (Post.to rr q).imp fun v S1 B1 H1 e1 s1 q1 y hy => ?_⟩
  refine ⟨by simp, fun a ha => ⟨a, C, y, rfl, h2, upd_same, fun d hd hda => ?_⟩⟩
  have hd1 : H1 d = none := by rw [upd_ne hda] at hd; exact hd
  refine ⟨rfl, d, [("value", y)], upd_same, by rw [upd_ne hda, upd_same], hd1, ?_⟩
  have eH : upd (del (upd (upd (upd H1 a (exo a C none)) d (exd d [("value", y)])) a (exo a C (some d))) a) d (.xd [("value", y)]) = upd H1 d (.xd [("value", y)]) := by
    funext b
    by_cases hb : b = d
    · rw [hb, upd_same, upd_same]
    · rw [upd_ne hb, upd_ne hb]
      by_cases hba : b = a
      · rw [hba, del_same, ha]
      · rw [del_ne hba, upd_ne hba, upd_ne hb, upd_ne hba]
  rw [eH]
  split at q1
  · cases hy with
    | d hy => exact q1 (.ref C) (some d) σ B1 _ (Ev.new s1 hd1) (s1.new hd1) ((rr.ev e1).ev (Ev.new s1 hd1)) ⟨C, d, y, h1, rfl, rfl, upd_same, s1.out hd1, hy.ev (Ev.new s1 hd1)⟩
  · exact q1.elim
end
end MI
set_option maxRecDepth 100000
set_option maxHeartbeats 4000000
namespace MI
open PySem PySem.Spec PyProof.Rows L2 LamX NdefX
/-! ## try .. except C as n, the exception being tracked in the suite and behind it (the worked rule, turned) -/
/-- an exception, tracked -/
def ExcA (a : Addr) (cls : Value) (d : Option Addr) : HO := .ext fun h => ∃ (oe : Obj) (vs : Array Value), h.get? a = some oe ∧ Zc cls d oe ∧ oe.data = .fields vs
theorem excA_O {a C dx : Addr} : ExcA a (.ref C) (some dx) = ExcO a C dx := rfl
abbrev _root_.L2.Cx.suiteK (X : Cx) (a : Addr) (pn : List (Addr × Obj)) : Cx := { X with A := X.A.mark (some (.ref a)), calm := false, pn := pn, xe := fun _ _ => False }
def wAsK (K : PySem.W.Frag) (c : Value) (i : Nat) (ts : Addr → Value → Option Addr → TS) (Wout : WX) (D : Ends) : WX := fun cls d σ H =>
  ∃ b, PySem.W.exmOne K cls c = some b ∧ (b = true → ∀ a, H a = none → ts a cls d { nx := fun σ' H' => D.nx (σ'.set i none) H', rt := D.rt, bk := fun σ' H' => D.bk (σ'.set i none) H', ct := fun σ' H' => D.ct (σ'.set i none) H' } (σ.set i (some (.ref a))) (upd H a (ExcA a cls d))) ∧
    (b = false → Wout cls d σ H)
section
variable {X : Cx} {pins : List (Addr × Obj)} {σ : L2.St} {H : Hp} {s : Shared}
theorem _root_.L2.Inv.track {a : Addr} {oe : Obj} {vs : Array Value} {cls : Value} {d : Option Addr} (I : Inv X pins σ H s) (ha : s.heap.get? a = some oe) (hz : Zc cls d oe) (hd : oe.data = .fields vs) (na : H a = none) (nL : a ≠ X.env.locals) (nF : a ∉ X.fs)
    (n0 : ∀ o, X.s_0.heap.get? a = some o → X.H_0 a = none → a ∉ X.ex → False) (np : ∀ p ∈ X.pn ++ pins, p.1 ≠ a) : Inv X pins σ (upd H a (ExcA a cls d)) s := by
  have at_ : ∀ {b : Addr}, b ≠ a → upd H a (ExcA a cls d) b = H b := fun h => upd_ne h
  refine ⟨I.ok, I.os, I.bare, ⟨I.base.keep, I.base.slot, fun b o e n hx => ?_, I.base.there, fun b xs e => ?_, fun b o u e => ?_, fun b ps e => ?_⟩, I.loc, I.cell, ?_, fun x c e => ?_, fun p hp => ?_, fun b u e => ?_, I.len⟩
  · rw [at_ fun z => n0 o (by rw [← z]; exact e) (by rw [← z]; exact n) (by rw [← z]; exact hx)]
    exact I.base.free b o e n hx
  · have z := I.base.tups b xs e
    rw [at_ (ne_of_none z na)]; exact z
  · have z := I.base.frzs b o u e
    rw [at_ (ne_of_none z na)]; exact z
  · obtain ⟨m, z⟩ := I.base.tbls b ps e
    exact ⟨m, by rw [at_ (ne_of_none z na)]; exact z⟩
  · rw [at_ (Ne.symm nL)]; exact I.free
  · have nc : c ≠ a := fun z => by
      obtain ⟨v, o, ho, hdc⟩ := I.cell x c e
      rw [z, ha] at ho
      cases ho
      rw [hd] at hdc
      cases hdc
    rw [at_ nc]; exact I.freeC x c e
  · obtain ⟨e, n, r⟩ := I.pin p hp
    exact ⟨e, by rw [at_ (np p hp)]; exact n, r⟩
  · by_cases hb : b = a
    · subst hb
      rw [upd_same] at e
      cases e
      exact ⟨⟨oe, vs, ha, hz, hd⟩, ⟨oe, ha⟩, fun h1 h2 ⟨o, v, q1, q2, q3⟩ st => ⟨o, v, st _ q1, q2, q3⟩⟩
    · rw [at_ hb] at e
      exact (I.hok b u e).stay (fun c v hc q => q) (fun c q => by rw [at_ (ne_of_none q na)]; exact q) fun c xs q => by rw [at_ (ne_of_none q na)]; exact q
theorem _root_.L2.Cx.Ok.suiteK {X : Cx} (ok : X.Ok) (a : Addr) (pn : List (Addr × Obj)) : (X.suiteK a pn).Ok :=
  ⟨ok.mod, ok.kind, ok.glob, ok.blt, ok.above, ok.inj, ok.has, ok.cab, (fun z => absurd (show false = true from z) Bool.false_ne_true), ok.frames, ok.stk, ok.exf, ok.bs, ok.bsz, ok.noex, ok.exfs, ok.funs, ok.frf⟩
theorem _root_.L2.Inv.suiteK (I : Inv X pins σ H s) (a : Addr) : Inv (X.suiteK a (X.pn ++ pins)) [] σ H s :=
  ⟨I.ok.suiteK _ _, I.os, I.bare, I.base, I.loc, I.cell, I.free, I.freeC, fun p hp => I.pin p (by rw [List.append_nil] at hp; exact hp), I.hok, I.len⟩
theorem _root_.L2.Inv.unsuiteK {a : Addr} {pn' : List (Addr × Obj)} (I : Inv (X.suiteK a (X.pn ++ pins)) pn' σ H s) (ok : X.Ok) : Inv X pins σ H s :=
  ⟨ok, I.os, I.bare, I.base, I.loc, I.cell, I.free, I.freeC, fun p hp => I.pin p (List.mem_append_left _ hp), I.hok, I.len⟩
end
section
variable {X : Cx} {x n : Str} {c : Value} {i : Nat} {body suite : List Stmt} {b₀ : Stmt} {np pos pos' : Pos} {tb : WX → TS} {ts : Addr → Value → Option Addr → TS} {Wout : WX}
theorem ps_try_asK (hs9 : X.stack = X.env :: X.outer) (hf9 : X.env.frame = some X.env.locals) (hN9 : X.N.Nodup) (hi : X.N[i]? = some n) (hln9 : X.env.kindOf n = some .local) (hc9 : Names X x c) (tk9 : Takes X Wout)
    (hb9 : ∀ (W : WX) (pn : List (Addr × Obj)) (xe : Value → Shared → Prop), Takes (X.tr pn xe) W → PassesOwn (model X.prog X.w) X.A X.env xe → PSs (X.tr pn xe) body (tb W))
    (hsu9 : ∀ (a : Addr) (cls : Value) (d : Option Addr) (pn : List (Addr × Obj)), PSs (X.suiteK a pn) (b₀ :: suite) (ts a cls d)) :
    PS X (.Try body [.ExceptHandler (some (.Name x np)) (some n) (b₀ :: suite) pos'] [] [] pos) (fun D σ H => tb (wAsK X.K c i ts Wout D) D σ H) := by
  refine ⟨fun pins s σ H D I h => ?_⟩
  have ok9 := I.ok
  have hfr9 : X.A.frames = some (X.env :: X.outer) := by rw [ok9.frames, hs9]
  have hloc9 : Loc X.env.scope n := .inl hln9
  refine wpAny_Try_except ?_
  refine wpAny_mono ((hb9 (wAsK X.K c i ts Wout D) (X.pn ++ pins) (fun e s₁ => wpAny (model X.prog X.w) X.A (noteFrame e X.env) (fun _ s₂ => wpAny (model X.prog X.w) X.A (setFlight e none) (fun _ s₃ =>
    wpAny (model X.prog X.w) X.A (handleBy e X.env [.ExceptHandler (some (.Name x np)) (some n) (b₀ :: suite) pos']) (SP X pins D) X.xe s₃) X.xe s₂) X.xe s₁) (fun u s' xx => ?_) PassesOwn.looking).run [] s σ H D (I.toTry _) h) (fun f s1 hsp9 => ?_) (fun e s1 he => he)
  · -- the catch
    obtain ⟨a, B, sI, pins', σ', H', cls, d, rfl, J', nb9, up9, sky9, na9, os, ag, b, hb1, hyes9, hno9⟩ := xx
    have J9 : Inv X pins σ' H' sI := J'.ofTry ok9
    have sky9' : Sky B (X.env :: X.outer) a (Zc cls d) X.env.locals s'.heap := by rw [← hs9]; exact sky9
    show wpAny (model X.prog X.w) X.A (noteFrame (.ref a) X.env) _ _ _
    refine Sky.land Zc.steady hfr9 hf9 sky9' fun h3 fl39 up39 => ?_
    have J39 : Inv X pins σ' H' { s' with heap := h3 } := J9.landed nb9 fl39.1 (up9.trans up39) os ag
    obtain ⟨oe39, vs39, he39, hz39, hd39⟩ := fl39.there
    have notFr9 : ∀ {h : Heap} {o : Obj} {vs : Array Value}, h.FunFrames B (X.env :: X.outer) → h.get? a = some o → o.data = .fields vs → a ∉ frs (X.env :: X.outer) := fun {h o vs} ff e dd hm => by
      obtain ⟨_, o', e', hnf⟩ := ff.mem hm
      rw [e] at e'; cases e'
      exact hnf _ dd
    have nfr9 := notFr9 fl39.2.2.1 he39 hd39
    have nL9 : a ≠ X.env.locals := fun z => nfr9 (List.mem_filterMap.mpr ⟨X.env, List.mem_cons_self, by rw [hf9, z]⟩)
    have nF9 : a ∉ X.fs := fun hm => by
      obtain ⟨e, he, q⟩ := List.mem_filterMap.mp hm
      exact nfr9 (List.mem_filterMap.mpr ⟨e, List.mem_cons_of_mem _ he, q⟩)
    have S39 := J39.suite he39 hd39 na9 nL9 nF9
    refine wpAny_handleBy_cons (codeAny_handlers_test ?_) (by intro q; cases q)
    have LT9 : PySem.W.Looks (model X.prog X.w) h3 (typeOf (.ref a)) cls := fun A Q E s k q => wpAny_typeOf_ref (k _ _ he39) (by rw [hz39.1]; exact q)
    have LM9 := PySem.W.exm_one (M := model X.prog X.w) (J39.kIn) LT9 hb1
    have test9 : ∀ {Q : Value → Shared → Prop} {E : Value → Shared → Prop}, Q c { s' with heap := h3 } → wpAny (model X.prog X.w) (X.A.mark (some (.ref a))) (eval (.Name x np) X.env) Q E { s' with heap := h3 } := fun {Q E} q => by
      obtain ⟨hg, hdbg, hm | ⟨hm, hv, hnn⟩⟩ := hc9
      · exact ld_glob (X := X.suite a ((a, oe39) :: (X.pn ++ pins))) S39 hg hm q hdbg
      · exact ld_blt (X := X.suite a ((a, oe39) :: (X.pn ++ pins))) S39 hg hm hv q hnn hdbg
    refine test9 (LM9.here ?_)
    cases b with
    | true =>
      refine codeAny_handlers_suite_as ?_
      refine HandSPX.lands_againZ fl39 fun h4 fl49 up49 => ?_
      have J49 : Inv X pins σ' H' { s' with heap := h4 } := J9.landed nb9 fl49.1 ((up9.trans up39).trans up49) os ag
      obtain ⟨oe49, vs49, he49, hz49, hd49⟩ := fl49.there
      have n0 : ∀ o, X.s_0.heap.get? a = some o → X.H_0 a = none → a ∉ X.ex → False := fun o e n nx => by
        have z := nb9 a o (J9.base.keep a o e n nF9 nx) (by rw [hs9]; exact nfr9)
        rw [fl39.2.1] at z; cases z
      have np : ∀ p ∈ X.pn ++ pins, p.1 ≠ a := fun p hp z => by
        obtain ⟨e, _, n1, n2, _⟩ := J9.pin p hp
        have z2 := nb9 p.1 _ e (by
          rw [hs9]
          intro m
          rcases List.mem_filterMap.mp m with ⟨e', he', q⟩
          rcases List.mem_cons.mp he' with e2 | e2
          · rw [e2, hf9] at q; exact n1 (Option.some.inj q).symm
          · exact n2 (List.mem_filterMap.mpr ⟨e', e2, q⟩))
        rw [z, fl39.2.1] at z2; cases z2
      have S49 := (J49.track he49 hz49 hd49 na9 nL9 nF9 n0 np).suiteK a
      refine store_ok (X := X.suiteK a (X.pn ++ pins)) (v := .ref a) S49 hN9 hi hloc9 rfl (fun s5 S5 => ?_) (.inr hln9)
      refine wpAny_mono ((hsu9 a cls d (X.pn ++ pins)).run [] s5 _ (upd H' a (ExcA a cls d)) _ S5 (hyes9 rfl a na9)) (fun f s6 hsp9 => ?_) (fun _ _ z => False.elim z)
      have end9 : ∀ {σ6 : L2.St} {H6 : Hp} {Q : Shared → Prop}, Inv (X.suiteK a (X.pn ++ pins)) [] σ6 H6 s6 → (∀ s7, Inv X pins (σ6.set i none) H6 s7 → Q s7) →
          wpAny (model X.prog X.w) X.A (do bindName X.env n .none; unbindBehindTheSuite X.env n pos') (fun _ s7 => Q s7) X.xe s6 := fun {σ6 H6 Q} S6 hq => gone_ok (S6.unsuiteK ok9) hN9 hi hln9 hq
      cases f with
      | next =>
        obtain ⟨σ6, H6, S6, q6⟩ := hsp9
        exact end9 S6 fun s7 J7 => ⟨_, _, J7, q6⟩
      | brk =>
        obtain ⟨σ6, H6, S6, q6⟩ := hsp9
        exact end9 S6 fun s7 J7 => ⟨_, _, J7, q6⟩
      | cont =>
        obtain ⟨σ6, H6, S6, q6⟩ := hsp9
        exact end9 S6 fun s7 J7 => ⟨_, _, J7, q6⟩
      | ret u =>
        obtain ⟨v6, σ6, H6, S6, r6, q6⟩ := hsp9
        exact end9 S6 fun s7 J7 => ⟨_, _, _, J7, r6, q6⟩
    | false =>
      show wpAny _ X.A (handleBy (.ref a) X.env []) _ _ _
      refine wpAny_handleBy_nil ?_
      obtain ⟨k1, k2, k3, oe, vs, T, oT, ts', he, hz, hd, h1, hr⟩ := id fl39
      unfold PySem.passOn
      refine wpAny_bind (wpAny_field he hd h1 ?_)
      rw [if_neg (show ¬ ((Value.ref T == Value.none) = true) from by simp)]
      have fin9 : wpAny (model X.prog X.w) X.A (setFlight (.ref a) X.env.frame) (fun _ s4 => wpAny (model X.prog X.w) X.A (throw (.ref a) : Sem Flow) (SP X pins D) X.xe s4) X.xe { s' with heap := h3 } := by
        rw [hf9]
        refine HandSPX.setFlight_upZ fl39 fun h4 hh4 up49 => wpAny_throw (tk9 _ _ ?_)
        exact ⟨a, B, sI, pins, σ', H', cls, d, rfl, J9, nb9, (up9.trans up39).trans up49, .inr (.inr (by rw [hs9]; exact hh4)), na9, os, ag, hno9 rfl⟩
      first
        | exact wpAny_bind (wpAny_pure (wpAny_bind fin9))
        | exact wpAny_bind fin9
  · cases f with
    | next =>
      obtain ⟨σ', H', J', q⟩ := hsp9
      exact wpAny_execs_nil ⟨σ', H', J'.ofTry ok9, q⟩
    | brk =>
      obtain ⟨σ', H', J', q⟩ := hsp9
      exact ⟨σ', H', J'.ofTry ok9, q⟩
    | cont =>
      obtain ⟨σ', H', J', q⟩ := hsp9
      exact ⟨σ', H', J'.ofTry ok9, q⟩
    | ret u =>
      obtain ⟨v, σ', H', J', r, q⟩ := hsp9
      exact ⟨v, σ', H', J'.ofTry ok9, r, q⟩
end
end MI
set_option maxRecDepth 100000
set_option maxHeartbeats 4000000
namespace MI
open PySem PySem.Spec PyProof.Rows L2 LamX NdefX
section
variable {c : Ct} {W : WX} {X : Cx} {B Z : List Addr} {H : Hp} {σ : L2.St} {k j : Nat}
theorem RR.unset {r : Rho} (h : RR c H B Z r σ) (i : Nat) : RR c H B Z (r.set i none) (σ.set i none) := by
  refine ⟨by rw [List.length_set, List.length_set]; exact h.len, fun j w q => ?_⟩
  by_cases hj : i = j
  · subst hj
    by_cases hl : i < r.length
    · rw [List.getElem?_set_self hl] at q; cases q
    · rw [List.getElem?_eq_none (by simpa using hl)] at q; cases q
  · rw [List.getElem?_set_ne hj] at q
    obtain ⟨y, h1, h2⟩ := h.at_ j w q
    exact ⟨y, by rw [List.getElem?_set_ne hj]; exact h1, h2⟩
def unseti (i : Nat) : SOut → SOut
  | .nx r S => .nx (r.set i none) S
  | .brk r S => .brk (r.set i none) S
  | .ct r S => .ct (r.set i none) S
  | .ret v S => .ret v S
  | _ => .bad
@[simp] def sTryAs (sub : Str → Option Bool) (i : Nat) (b h : FS) : FS := fun r S => match b r S with
  | .exn n v r1 S1 => (match sub n with
    | some true => unseti i (h (r1.set i (some (.exc n v))) S1)
    | some false => .exn n v r1 S1
    | none => .bad)
  | o => o
/-- what is caught: the classes that are known -/
structure Subs (c : Ct) (cv : Value) (sub : Str → Option Bool) : Prop where
  ok : ∀ n b C, sub n = some b → c.mg n = some (.ref C) → PySem.W.exmOne c.K (.ref C) cv = some b
theorem Cxg.suiteK {a : Addr} {pn : List (Addr × Obj)} (cx : Cxg c W X) : Cxg c W0 (X.suiteK a pn) :=
  ⟨cx.K, cx.mg, cx.gu, fun u s' x => by
    obtain ⟨_, _, _, _, _, _, _, _, _, _, _, _, _, _, _, _, z⟩ := x
    exact z.elim⟩
theorem Cxg.tr {W' : WX} {pn : List (Addr × Obj)} {xe : Value → Shared → Prop} (cx : Cxg c W X) (tk : Takes (X.tr pn xe) W') : Cxg c W' (X.tr pn xe) := ⟨cx.K, cx.mg, cx.gu, tk⟩
theorem s_try {x n : Str} {cv : Value} {i : Nat} {body suite : List Stmt} {b₀ : Stmt} {np pos pos' : Pos} {sub : Str → Option Bool} {b h : FS} (cx : Cxg c W X) (hs : X.stack = X.env :: X.outer) (hf : X.env.frame = some X.env.locals) (hN : X.N.Nodup) (hi : X.N[i]? = some n) (hln : X.env.kindOf n = some .local)
    (hc : Names X x cv) (hsub : Subs c cv sub)
    (hb : ∀ (W' : WX) (pn : List (Addr × Obj)) (xe : Value → Shared → Prop), Cxg c W' (X.tr pn xe) → PassesOwn (model X.prog X.w) X.A X.env xe → PSs (X.tr pn xe) body (TSx c W' b))
    (hsu : ∀ (a : Addr) (pn : List (Addr × Obj)), Cxg c W0 (X.suiteK a pn) → PSs (X.suiteK a pn) (b₀ :: suite) (TSx c W0 h)) :
    PS X (.Try body [.ExceptHandler (some (.Name x np)) (some n) (b₀ :: suite) pos'] [] [] pos) (TSx c W (sTryAs sub i b h)) := by
  refine ps_imp (ps_try_asK hs hf hN hi hln hc cx.tk (tb := fun W' => TSx c W' b) (ts := fun _ _ _ => TSx c W0 h) (fun W' pn xe tk hp => hb W' pn xe (cx.tr tk) hp) (fun a cls d pn => hsu a pn cx.suiteK)) ?_
  rintro D σ H ⟨B, Z, r, S, s, rr, p⟩
  refine ⟨B, Z, r, S, s, rr, ?_⟩
  unfold sTryAs at p
  cases hbr : b r S with
  | nx r1 S1 => rw [hbr] at p; exact p
  | brk r1 S1 => rw [hbr] at p; exact p
  | ct r1 S1 => rw [hbr] at p; exact p
  | ret v S1 => rw [hbr] at p; exact p
  | bad => rw [hbr] at p; exact p
  | exn m v r1 S1 =>
    rw [hbr] at p
    intro cls dd σ1 B1 H1 e1 s1 rr1 rx
    have rx0 := rx
    obtain ⟨C, dx, y, h1, rfl, rfl, h2, h3, h4⟩ := rx
    cases hm : sub m with
    | none => simp only [hm] at p; exact p.elim
    | some bb =>
      have hx := hsub.ok m bb C hm h1
      rw [← cx.K] at hx
      refine ⟨bb, hx, fun hbb a ha => ?_, fun hbb => ?_⟩
      · subst hbb
        simp only [hm] at p
        have eN := Ev.new (o := ExcA a (.ref C) (some dx)) s1 ha
        refine ⟨B1, Z, r1.set i (some (.exc m v)), S1, s1.new ha, (rr1.ev eN).set (.exc h1 upd_same (s1.out ha) (eN.kp _ _ h2 h3 ntX) (far_out h2 h3 eN.far) (h4.ev eN)) i, ?_⟩
        have p := p.far (e1.trans eN)
        cases hh : h (r1.set i (some (.exc m v))) S1 with
        | nx r2 S2 => rw [hh] at p; exact fun σ B' H' e s rr => p (σ.set i none) B' H' e s (rr.unset i)
        | brk r2 S2 => rw [hh] at p; exact fun σ B' H' e s rr => p (σ.set i none) B' H' e s (rr.unset i)
        | ct r2 S2 => rw [hh] at p; exact fun σ B' H' e s rr => p (σ.set i none) B' H' e s (rr.unset i)
        | ret v S2 => rw [hh] at p; exact p
        | exn n v r2 S2 => rw [hh] at p; exact p.elim
        | bad => rw [hh] at p; exact p.elim
      · subst hbb
        simp only [hm] at p
        exact p (.ref C) (some dx) σ1 B1 H1 e1 s1 rr1 rx0
end
end MI
set_option maxRecDepth 100000
set_option maxHeartbeats 4000000
namespace PySem.W
open PySem PySem.Spec PySem.Calls PyProof.Rows
section
variable {prog : Program} {w : World} {A : Around} {E : Value → Shared → Prop} {s : Shared} {K : Frag} {x D : Addr} {ox : Obj}
theorem kin_classK {od : Option Obj} {Q : Option Value → Shared → Prop} (zga : findIn K (.ref D) "__getattribute__" = some (some (.builtin "BaseException.__getattribute__"))) (zgt : findIn K (.ref D) "__getattr__" = some none) (zsub : subIn K (.ref D) (.type "BaseException") = some true)
    (zf : findObj K D od "__class__" = some (.bind (.builtin "getset_descriptor.__get__") (.builtin "object.__class__"))) (zm : mroIn K D (.type "object") = some true)
    (X : K.In s.heap) (I : InstAt s.heap x ox D od) (h : Q (some (.ref D)) { s with toks := s.toks + 1 }) : wpAny (model prog w) A (getAttr? (.ref x) "__class__") Q E s := by
  obtain ⟨hp, g, d, t, os⟩ := s
  have M0 := I.type (M := model prog w)
  have M1 := looks_findIn (M := model prog w) X zga
  have M2 := looks_findIn (M := model prog w) X zgt
  have M3 := looks_find (M := model prog w) X I zf
  have zs : Looks (model prog w) hp (isInstance (.ref x) (.type "BaseException")) true := M0.andThen (looks_subIn X zsub)
  have zx0 : (false && onTheHeap (Value.builtin "BaseException.__getattribute__")) = false := rfl
  have zx2 : (Value.builtin "BaseException.__getattribute__" == Value.builtin "object.__getattribute__") = false := by decide +kernel
  have zx1 : (onTheHeap (Value.ref D) && Value.builtin "BaseException.__getattribute__" == Value.builtin "object.__getattribute__") = false := by rw [zx2]; rfl
  unfold getAttr? getAttrBy? getAttrBy
  refine wpAny_bind (wpAny_mkText (wpAny_bind (wpAny_attempt (wpAny_holding (wpAny_bind (M0.at (wpAny_bind (M1.at ?_))))))))
  show wpAny _ _ (if (onTheHeap (Value.ref D) && Value.builtin "BaseException.__getattribute__" == Value.builtin "object.__getattribute__") = true then _ else _) _ _ _
  rw [zx1, if_neg Bool.false_ne_true]
  unfold getAttrByItsOwn hookBefore
  refine wpAny_bind ?_
  rw [if_pos (show onTheHeap (Value.ref D) = true from rfl)]
  refine M2.at ?_
  refine wpAny_bind (wpAny_attempt (wpAny_holding ?_))
  unfold callGetattribute
  rw [zx0, if_neg Bool.false_ne_true]
  unfold boundAndCalled
  rw [PySem.F.excAttr_ValueError.ga.bind (.ref x)]
  refine wpAny_bind (wpAny_pure ?_)
  show wpAny _ _ (call (.builtin "BaseException.__getattribute__") [.ref x, .str "__class__" t]) _ _ _
  refine wpAny_call (codeAny_call_builtin PySem.F.excAttr_ValueError.ga.plain PySem.F.entry_bexc_ga ?_)
  refine @check_slot (model prog w) _ _ ⟨hp, g, d, t + 1, os⟩ "BaseException.__getattribute__" "BaseException" "__getattribute__" (.ref x) [.str "__class__" t] [] _ (by decide +kernel) (by decide +kernel) zs (PySem.F.args_bexc_ga (.ref x) (.str "__class__" t)) ?_
  unfold Builtin.«object.__getattribute__»
  refine wpAny_bind (wpAny_of_eq (a := ((Value.ref x : Value), [Value.str "__class__" t])) (by first | rfl | (simp only [slotArgs]; rfl)) ?_)
  refine wpAny_bind (wpAny_pure (wpAny_bind (M0.at (wpAny_bind (M3.at ?_)))))
  show wpAny _ _ (holding [Value.builtin "object.__class__"] (call (.builtin "getset_descriptor.__get__") [.builtin "object.__class__", .ref x, .ref D]) >>= ret) _ _ _
  refine wpAny_bind (wpAny_holding (wpAny_call (class_get (s := ⟨hp, g, d, t + 1, os⟩) (ox := ox) (od := od) X I zm ?_)))
  refine wpAny_pure ?_
  show wpAny _ _ (handedOut (.ref D)) _ _ _
  rw [handedOut_of (v := .ref D) rfl]
  first
    | exact wpAny_pure (wpAny_pure h)
    | exact wpAny_pure h
    | exact wpAny_pure (wpAny_bind (wpAny_pure (wpAny_pure h)))
theorem kitx_excK {od : Option Obj} (zga : findIn K (.ref D) "__getattribute__" = some (some (.builtin "BaseException.__getattribute__"))) (zgt : findIn K (.ref D) "__getattr__" = some none) (zsub : subIn K (.ref D) (.type "BaseException") = some true) (zdct : hasDictIn K D = true) (zf : findObj K D od "__class__" = some (.bind (.builtin "getset_descriptor.__get__") (.builtin "object.__class__"))) (zm : mroIn K D (.type "object") = some true) :
    KitX K (.ref x) (.ref D) (fun h => InstAt h x ox D od) where
  ty := fun _ _ _ I => I.type
  it := fun _ _ X _ => by
    obtain ⟨zD, zcD, _⟩ := any_some zdct
    unfold clsIn at zcD
    split at zcD
    · rename_i c' d' cd' sl' ho
      intro A' Q' E' s' k q
      unfold isType loadHead
      exact wpAny_bind (wpAny_loadPart (k _ _ (X _ _ ho)) (wpAny_pure q))
    · cases zcD
  ne := fun h tp dd its n sl X ztp => by
    obtain ⟨zD, zcD, _⟩ := any_some zdct
    refine Bool.eq_false_iff.mpr fun q => ?_
    have e : D = tp := Value.ref.inj (beq_iff_eq.mp q)
    subst e
    unfold clsIn at zcD
    split at zcD
    · rename_i c' d' cd' sl' ho
      have z := (X _ _ ho).symm.trans ztp
      cases z
    · cases zcD
  ca := fun X I k => kin_classK zga zgt zsub zf zm X I k

theorem findObj_dataK {od : Option Obj} {C : Addr} {name : Str} {a g : Value} (hc : (clsIn K C).isSome = true) (ha : findIn K (.ref C) name = some (some a)) (hg : specialIn K a "__get__" = some (some g)) (ht : takesIn K a = some true) : findObj K C od name = some (.bind g a) := by
  obtain ⟨cd, hc⟩ := Option.isSome_iff_exists.mp hc
  unfold findObj
  rw [hc, Option.bind_some, ha, Option.bind_some]
  simp [hg, ht]
end
end PySem.W
namespace MI
open PySem PySem.Spec PyProof.Rows L2 LamX NdefX
section
variable {c : Ct} {W : WX} {X : Cx} {B Z : List Addr} {H : Hp} {σ : L2.St} {k j : Nat}
/-! ## isinstance(e, C) of an exception that is tracked -/
def rIsK (K : PySem.W.Frag) : List V → Hp → VK → Prop := fun xs H Q => ∃ (a D dx : Addr) (c : V) (cv : Value) (b : Bool) (fs : List (Str × V)), xs = [.ref a, c] ∧ H a = some (ExcO a D dx) ∧ H dx = some (.xd fs) ∧ L2.ExcC K D ∧ (∀ u, RelV c u → u = cv) ∧ PySem.W.kitOne K (.ref D) cv = some b ∧ Q (.bl b) H
theorem excO_at {a C dx : Addr} {fs : List (Str × V)} {pins : List (Addr × Obj)} {s : Shared} (I : Inv X pins σ H s) (h : H a = some (ExcO a C dx)) (hd : H dx = some (.xd fs)) : ∃ oe od mA, PySem.W.InstAt s.heap a oe C (some od) ∧ s.heap.Ns1 dx mA ∧ (∀ f, RelO (fs.lookup f) (mA f)) ∧ s.heap.get? dx = some od ∧ ∀ n, PySem.W.lookIn n od = some (mA n) := by
  obtain ⟨⟨oe, vs, ha, hz, hdt⟩, _, _⟩ := I.hok a _ h
  have hx : ObjOk X.prog X.w H s.heap dx (.xd fs) := I.hok dx _ hd
  obtain ⟨mA, hns, hr⟩ := hx
  obtain ⟨od, ho, hl⟩ := lookIn_ns hns
  exact ⟨oe, od, mA, ⟨ha, hz.1, by unfold PySem.W.notCls; rw [hdt] <;> rfl, by rw [hz.2]; exact ho⟩, hns, hr, ho, hl⟩
theorem call_isK : CallR X (.builtin "isinstance") (rIsK X.K) := by
  intro pins s σ H xs us Q I r h
  obtain ⟨a, D, dx, c, cv, b, fs, rfl, ha, hd, C, hcv, e, q⟩ := h
  cases r with
  | cons rx rr =>
    cases rr with
    | cons rt rr =>
      cases rr
      cases rx
      have ec := hcv _ rt
      subst ec
      obtain ⟨oe, od, mA, J, _⟩ := excO_at I ha hd
      have hcs : (PySem.W.clsIn X.K D).isSome = true := by
        obtain ⟨cd, hc, _⟩ := PySem.W.any_some C.hd
        rw [hc]; rfl
      exact PySem.W.kia_one (PySem.W.kitx_excK C.hg C.hk C.hs C.hd (PySem.W.findObj_dataK hcs C.ha C.hn C.ht) C.hm) I.kIn J e (fun z => nomatch z) fun tk => ⟨.bl b, H, I.kept (t' := tk) fun _ _ z => z, rfl, q⟩
/-! ## e.value -/
def tXv (K : PySem.W.Frag) (f : Str) (te : TE) : TE := fun σ H Q => te σ H fun x H1 => ∃ (a C dx : Addr) (fs : List (Str × V)) (v : V), x = .ref a ∧ H1 a = some (ExcO a C dx) ∧ H1 dx = some (.xd fs) ∧ fs.lookup f = some v ∧ XfC K C ∧ PySem.W.findIn K (.ref C) f = some none ∧ Q v H1
theorem pe_xv {e : Expr} {te : TE} {pos : Pos} {n : Str} (he : PE X e te) (hb : attributeBase e n X.env (eval e X.env) = eval e X.env := by rfl) : PE X (.Attribute e n pos) (tXv X.K n te) := by
  refine ⟨fun pins s σ H Q I h => ?_⟩
  refine attr_of hb (thn (he.run pins s σ H _ I h) fun u s1 hh => ?_)
  obtain ⟨x, H1, I1, rx, a, C, dx, fs, v, ex, ha, hd, l, T, hno, q⟩ := hh
  subst ex
  obtain rfl : u = Value.ref a := rx
  obtain ⟨oe, od, mA, J, hns, hr, ho, hl⟩ := excO_at I1 ha hd
  obtain ⟨u, hu, ru⟩ := RelO.some_of (v := v) (o := mA n) (by rw [← l]; exact hr n)
  exact HandSPX.exc_get I1.kIn J T.ga T.gg T.exC (PySem.W.findObj_own T.hdC hno rfl (by rw [hl, hu])) (handed_of ru) ⟨v, H1, I1.tok _, ru, q⟩
end
end MI
set_option maxRecDepth 100000
set_option maxHeartbeats 4000000
namespace MI
open PySem PySem.Spec PyProof.Rows L2 LamX NdefX
/-! ## a lambda is made: its object and its code object are known from then on -/
section
variable {c : Ct} {W : WX} {X : Cx} {pins : List (Addr × Obj)} {B Z : List Addr} {σ : L2.St} {H : Hp} {s : Shared}
theorem lamO_new {f cc : Addr} {L : LI} {cl : List (Str × Addr)} {h : Heap} {H1 : Hp} {pm ctv : Value} {P : Program} {w : World} (e : h.get? f = some (PySem.W.kla_obj "<lambda>" L.qual L.params L.body L.scope cl pm cc ctv)) : ObjOk P w H1 h f (LamO f L cl cc) :=
  ⟨⟨pm, ctv, e⟩, ⟨_, e⟩, fun h1 h2 ⟨a, b, q⟩ st => ⟨a, b, st _ q⟩⟩
theorem lamMk {T : List (Addr × Str)} {cd P : Addr} {params : Arguments} {body : Expr} {scope : Scope} {fr : List Str} {pos : Pos} {E : Value → Shared → Prop} {Q : Value → Shared → Prop} (I : Inv X pins σ H s) (TB : TabB X.base X.mg cd P) (hcode : X.env.code = .ref cd)
    (hmT : (P, X.env.qual ++ "<lambda>") ∈ T) (hun : ∀ p ∈ T, p.1 = P → p.2 = X.env.qual ++ "<lambda>") (hT : Tabs T H) (hdef : defaultsOf params X.env = ([], [])) (hfree : ∀ y ∈ scope.names, y.2 = .free → ∃ c, X.env.cells.lookup y.1 = some c)
    (hq : ∀ (f cc : Addr) (H1 : Hp) (s1 : Shared), Inv X pins σ (upd H1 f (LamO f ⟨params, body, scope, X.env.qual ++ "<lambda>", fr⟩ (cloFrom X.env.cells scope.names []) cc)) s1 → (∀ b o, H b = some o → NT o → H1 b = some o) → (∀ b, H b ≠ none → H1 b ≠ none) → Tabs T H1 →
      H1 f = none → H1 cc = some (CodeO cc (X.env.qual ++ "<lambda>")) → (∀ b, b ≠ P → H1 b = none → H b = none) → Q (.ref f) s1) :
    wpAny (model X.prog X.w) X.A (eval (.Lambda params body scope pos) X.env) Q E s := by
  obtain ⟨ps9, hP, hok9, all9⟩ := hT _ hmT
  refine PySem.W.kla_eval hdef ?_
  have bP9 : s.heap.BuiltinsAt X.mg P := TB.bm.keeps I.bk
  have hP9 : s.heap.get? P = some { cls := .none, data := .fields ps9 } := I.hok P _ hP
  cases hc9 : codeAmong pos ps9.toList with
  | some cv =>
    obtain ⟨cc, e9, hco⟩ := all9 pos cv hc9
    subst e9
    refine PySem.W.kla_makeFunctionHit (mg := X.mg) (c := cd) (P := P) (ps := ps9) (closure_ok hfree) I.ok.glob (I.mod.glob.keeps I.bk) hcode (TB.code.keeps I.bk) hP9 hok9 hc9 bP9 fun ctv h9 tk9 hx9 hsz9 => ?_
    have J9 : Inv X pins σ H { s with heap := h9, toks := tk9 } := I.kept fun b o e => hx9 b o e
    have nf9 := J9.hok.fresh (Nat.le_refl h9.objs.size)
    exact hq h9.objs.size cc H _ (J9.laid (t' := tk9) (fun b o e => Heap.get?_push_of_some _ e) (Nat.le_refl _) (lamO_new (pm := (X.mg "__name__").getD .none) (ctv := ctv) (Heap.get?_push_size _ rfl))) (fun _ _ e _ => e) (fun _ e => e) hT nf9 hco fun _ _ e => e
  | none =>
    refine PySem.W.kla_makeFunction (mg := X.mg) (c := cd) (P := P) (ps := ps9) (closure_ok hfree) I.ok.glob (I.mod.glob.keeps I.bk) hcode (TB.code.keeps I.bk) hP9 hok9 hc9 TB.gP bP9 fun cc ctv h9 tk9 hx9 hge9 hlt9 hrec9 htb9 => ?_
    obtain ⟨c2, oc9, vs9, t9, e2, hoc9, hd9, hv9⟩ := hrec9
    cases e2
    have nC : H cc = none := I.hok.fresh hge9
    have J9 := inv_table (t' := tk9) (more := #[rawInt pos.line, rawInt pos.col, .ref cc]) (h' := h9) I hP hx9 htb9 hge9 ⟨oc9, vs9, t9, hoc9, hd9, hv9⟩
    have hE : ∀ b o, H b = some o → NT o → (upd (upd H P (.tbl (ps9 ++ #[rawInt pos.line, rawInt pos.col, .ref cc]))) cc (CodeO cc (X.env.qual ++ "<lambda>"))) b = some o := fun b o e n => by
      rw [upd_ne (ne_of_none e nC), upd_ne (fun z => n ps9 (Option.some.inj (e.symm.trans (by rw [z]; exact hP))))]
      exact e
    have eL9 : (ps9 ++ #[rawInt pos.line, rawInt pos.col, .ref cc]).toList = ps9.toList ++ [rawInt pos.line, rawInt pos.col, .ref cc] := by simp
    refine hq h9.objs.size cc _ _ (J9.laid (t' := tk9) (fun b o e => Heap.get?_push_of_some _ e) (Nat.le_refl _) (lamO_new (pm := (X.mg "__name__").getD .none) (ctv := ctv) (Heap.get?_push_size _ rfl))) hE (fun b hb => ?_) (fun p hp => ?_) (J9.hok.fresh (Nat.le_refl _)) upd_same fun b hbP hb => ?_
    · by_cases q : b = cc
      · rw [q, upd_same]; simp
      · rw [upd_ne q]
        by_cases q2 : b = P
        · rw [q2, upd_same]; simp
        · rw [upd_ne q2]; exact hb
    · by_cases q : p.1 = P
      · rw [hun p hp q, q]
        refine ⟨_, by rw [upd_ne (ne_of_none hP nC), upd_same], by rw [eL9]; exact PySem.TriplesOk_snoc _ _ _ _ hok9, fun p' cv hcv => ?_⟩
        rw [eL9] at hcv
        rcases among_app _ hok9 hcv with z | z
        · obtain ⟨c0, e1, e2⟩ := all9 p' cv z
          exact ⟨c0, e1, hE _ _ e2 codeO_ne⟩
        · exact ⟨cc, z, upd_same⟩
      · obtain ⟨ps', a1, a2, a3⟩ := hT p hp
        refine ⟨ps', by rw [upd_ne (ne_of_none a1 nC), upd_ne q]; exact a1, a2, fun p' cv hcv => ?_⟩
        obtain ⟨c0, e1, e2⟩ := a3 p' cv hcv
        exact ⟨c0, e1, hE _ _ e2 codeO_ne⟩
    · by_cases q : b = cc
      · rw [q, upd_same] at hb; cases hb
      · rw [upd_ne q, upd_ne hbP] at hb; exact hb
/-- what stands behind the lambdas of one def -/
structure MkL (c : Ct) (X : Cx) : Prop where
  own : c.own = X.env.cells
  tab : ∃ cd P : Addr, TabB X.base X.mg cd P ∧ X.env.code = .ref cd ∧ (P, X.env.qual ++ "<lambda>") ∈ c.T ∧ ∀ p ∈ c.T, p.1 = P → p.2 = X.env.qual ++ "<lambda>"
@[simp] def eLam (k : Nat) : FE := fun _ S => .ok (.lam k) S
theorem s_lam {k : Nat} {params : Arguments} {body : Expr} {scope : Scope} {fr : List Str} {pos : Pos} (m : MkL c X) (hk : c.lam k = some ⟨params, body, scope, X.env.qual ++ "<lambda>", fr⟩) (L : LamS X.env.scope scope) (hdef : defaultsOf params X.env = ([], []) := by rfl) :
    PE X (.Lambda params body scope pos) (TEx c W (eLam k)) := by
  refine ⟨fun pins s σ H Q I ⟨B, Z, r, S, sr, rr, p⟩ => ?_⟩
  obtain ⟨cd, P, TB, hcode, hmT, hun⟩ := m.tab
  refine lamMk (T := c.T) (fr := fr) I TB hcode hmT hun sr.tb hdef (L.has I.ok) fun f cc H1 s1 I1 kp th T1 nf hcc hno => ?_
  have e1 : Ev B H B H1 := ⟨⟨[], by simp, fun _ h => by cases h⟩, fun a o h _ n => kp a o h n, fun b hb => th b (sr.trk b hb), th⟩
  have s1' : SR c H1 B Z S := sr.same e1 T1 fun b hb => by
    rcases sr.kind hb with ⟨xs, q⟩ | ⟨xs, q⟩
    · rw [q]; exact kp b _ q ntL
    · rw [q]; exact kp b _ q ntD
  have e2 := Ev.new (o := LamO f ⟨params, body, scope, X.env.qual ++ "<lambda>", fr⟩ (cloFrom X.env.cells scope.names []) cc) s1' nf
  have nC : cc ≠ f := ne_of_none hcc nf
  refine ⟨.ref f, _, I1, rfl, p B _ (e1.trans e2) (s1'.new nf) _ (.lam hk (by rw [m.own]; exact upd_same) (s1'.out nf) (by rw [upd_ne nC]; exact hcc) fun hm => ?_)⟩
  -- the code object is no object of the store: it isn't a list
  rcases List.mem_append.mp hm with hm | hm
  · rcases s1'.kind hm with ⟨xs, q⟩ | ⟨xs, q⟩
    · rw [hcc] at q; unfold CodeO at q; cases q
    · rw [hcc] at q; unfold CodeO at q; cases q
  · rcases s1'.zt _ hm with ⟨xs, q⟩ | ⟨xs, q⟩
    · rw [hcc] at q; unfold CodeO at q; cases q
    · rw [hcc] at q; unfold CodeO at q; cases q
end
end MI
set_option maxRecDepth 100000
set_option maxHeartbeats 4000000
namespace MI
open PySem PySem.Spec PyProof.Rows L2 LamX NdefX
/-! ## cells held still: H with the cells q tracked, and without them -/
def addC (H : Hp) (q : Addr → Option Obj) : Hp := fun b => match q b with
  | some o => some (KpO b o)
  | none => H b
def delC (H : Hp) (q : Addr → Option Obj) : Hp := fun b => match q b with
  | some _ => none
  | none => H b
section
variable {H H' : Hp} {q : Addr → Option Obj} {b : Addr} {o : Obj}
theorem addC_in (h : q b = some o) : addC H q b = some (KpO b o) := by unfold addC; rw [h]
theorem addC_out (h : q b = none) : addC H q b = H b := by unfold addC; rw [h]
theorem delC_in (h : q b = some o) : delC H q b = none := by unfold delC; rw [h]
theorem delC_out (h : q b = none) : delC H q b = H b := by unfold delC; rw [h]
/-- q are cells of the heap h; H doesn't track them -/
structure CSet (q : Addr → Option Obj) (H : Hp) (h : Heap) : Prop where
  at_ : ∀ b o, q b = some o → h.get? b = some o ∧ ∃ u, o.data = .cell u
  no : ∀ b o, q b = some o → H b = none
theorem CSet.sub (k : CSet q H h) : ∀ a u, H a = some u → q a = none := fun a u e => by
  cases z : q a with
  | none => rfl
  | some o => rw [k.no a o z] at e; cases e
theorem kpOk {P : Program} {w : World} {H : Hp} {h : Heap} {a : Addr} {o : Obj} (e : h.get? a = some o) : ObjOk P w H h a (KpO a o) :=
  ⟨e, ⟨_, e⟩, fun h1 h2 z st => st _ z⟩
theorem HOk.addC {P : Program} {w : World} {h : Heap} (x : HOk P w H h) (k : CSet q H h) : HOk P w (MI.addC H q) h := fun a u e => by
  cases z : q a with
  | some o =>
    rw [addC_in z] at e
    cases e
    exact kpOk (k.at_ a o z).1
  | none =>
    rw [addC_out z] at e
    exact (x a u e).stay (fun _ _ _ e => e) (fun b e => by rw [addC_out (k.sub _ _ e)]; exact e) fun b xs e => by rw [addC_out (k.sub _ _ e)]; exact e
theorem HOk.delC {P : Program} {w : World} {h : Heap} (x : HOk P w H h) (k : ∀ b o, q b = some o → H b = some (KpO b o)) : HOk P w (MI.delC H q) h := fun a u e => by
  cases z : q a with
  | some o => rw [delC_in z] at e; cases e
  | none =>
    rw [delC_out z] at e
    have nq : ∀ b v, H b = some v → (∀ o, v ≠ KpO b o) → q b = none := fun b v e n => by
      cases z : q b with
      | none => rfl
      | some o => rw [k b o z] at e; exact absurd (Option.some.inj e).symm (n o)
    exact (x a u e).stay (fun _ _ _ e => e) (fun b e => by rw [delC_out (nq _ _ e fun o z => by unfold KpO at z; cases z)]; exact e) fun b xs e => by rw [delC_out (nq _ _ e fun o z => by unfold KpO at z; cases z)]; exact e
end
section
variable {K : PySem.W.Frag} {H H' : Hp} {bd bd' : List Addr}
abbrev DatO (o : HO) : Prop := (∃ xs, o = .lst xs) ∨ (∃ u xs, o = .frz u (.tup xs)) ∨ ∃ ks, o = .dK ks
mutual
theorem RD.monoD (k : ∀ a o, DatO o → H a = some o → a ∉ bd → H' a = some o) (g : ∀ a, a ∈ bd' → a ∈ bd ∨ H a = none) : ∀ {d : PyData} {v : V}, RD K H bd d v → RD K H' bd' d v
  | _, _, .non => .non
  | _, _, .bl b => .bl b
  | _, _, .int i => .int i
  | _, _, .str x => .str x
  | _, _, .lst h hb r => .lst (k _ _ (.inl ⟨_, rfl⟩) h hb) (fun m => (g _ m).elim hb fun z => by rw [h] at z; cases z) (RDs.monoD k g r)
  | _, _, .tup h to hb r => .tup (k _ _ (.inr (.inl ⟨_, _, rfl⟩)) h hb) to (fun m => (g _ m).elim hb fun z => by rw [h] at z; cases z) (RDs.monoD k g r)
  | _, _, .tupK h nd r => .tupK h nd (RDs.monoD k g r)
  | _, _, .dct h hb hk r => .dct (k _ _ (.inr (.inr ⟨_, rfl⟩)) h hb) (fun m => (g _ m).elim hb fun z => by rw [h] at z; cases z) hk (RDs.monoD k g r)
theorem RDs.monoD (k : ∀ a o, DatO o → H a = some o → a ∉ bd → H' a = some o) (g : ∀ a, a ∈ bd' → a ∈ bd ∨ H a = none) : ∀ {d : List PyData} {v : List V}, RDs K H bd d v → RDs K H' bd' d v
  | _, _, .nil => .nil
  | _, _, .cons h t => .cons (RD.monoD k g h) (RDs.monoD k g t)
end
theorem datKp {o : HO} {a : Addr} {u : Obj} (h : DatO o) : o ≠ KpO a u := fun z => by
  unfold KpO at z
  rcases h with ⟨_, rfl⟩ | ⟨_, _, rfl⟩ | ⟨_, rfl⟩ <;> cases z
end
section
variable {c : Ct} {P : Program} {w : World} {H H' : Hp} {q : Addr → Option Obj} {B Z B' : List Addr} {S T : Sto} {h h' : Heap} {fs ex : List Addr}
theorem tabs_add {Ts : List (Addr × Str)} (k : CSet q H h) (t : Tabs Ts H) : Tabs Ts (addC H q) := t.ext fun b u e => by rw [addC_out (k.sub _ _ e)]; exact e
theorem tabs_del {Ts : List (Addr × Str)} (t : Tabs Ts H') (hok : HOk P w H' h') (k : ∀ b o, q b = some o → H' b = some (KpO b o)) (kc : ∀ b o, q b = some o → ∃ u, o.data = .cell u) : Tabs Ts (delC H' q) := fun p hp => by
  obtain ⟨ps, a1, a2, a3⟩ := t p hp
  have nq : ∀ b v, H' b = some v → (∀ o, v ≠ KpO b o) → q b = none := fun b v e n => by
    cases z : q b with
    | none => rfl
    | some o => rw [k b o z] at e; exact absurd (Option.some.inj e).symm (n o)
  refine ⟨ps, by rw [delC_out (nq _ _ a1 fun o z => by unfold KpO at z; cases z)]; exact a1, a2, fun pos cv hc => ?_⟩
  obtain ⟨c0, e1, e2⟩ := a3 pos cv hc
  refine ⟨c0, e1, ?_⟩
  have : q c0 = none := by
    cases z : q c0 with
    | none => rfl
    | some o =>
      have z2 := k c0 o z
      obtain ⟨u, hu⟩ := kc c0 o z
      obtain ⟨⟨oc, vs, tt, b1, b2, b3⟩, _⟩ := hok c0 _ e2
      obtain ⟨b4, _⟩ := hok c0 _ z2
      have b4 : h'.get? c0 = some o := b4
      rw [b1] at b4
      cases b4
      rw [b2] at hu
      cases hu
  rw [delC_out this]; exact e2
/-- back from what ran beside the cells -/
theorem thaw (k : CSet q H h) (e : Ev [] (addC H q) B' H') (s1 : SR c H' B' (B ++ Z) T) (hok : HOk P w H' h') (un : Un fs ex (addC H q) H' h h') (s : SR c H B Z S) :
    Un fs ex H (delC H' q) h h' ∧ HOk P w (delC H' q) h' ∧ Ev B H B (delC H' q) ∧ SR c (delC H' q) B Z S ∧ ∀ d x, RD c.K H' (B ++ Z) d x → RD c.K (delC H' q) (B ++ Z) d x := by
  have kq : ∀ b o, q b = some o → H' b = some (KpO b o) := fun b o z => e.keep b _ (addC_in z) (by simp) ntK
  have same : ∀ b o, q b = some o → h'.get? b = some o := fun b o z => (hok b _ (kq b o z)).1
  have kp : ∀ a o, H a = some o → NT o → delC H' q a = some o := fun a o z nt => by
    have nq := k.sub a o z
    rw [delC_out nq]
    exact e.keep a o (by rw [addC_out nq]; exact z) (by simp) nt
  have th : ∀ a, H a ≠ none → delC H' q a ≠ none := fun a z => by
    cases za : H a with
    | none => exact absurd za z
    | some o =>
      have nq := k.sub a o za
      rw [delC_out nq]
      exact e.there a (by rw [addC_out nq, za]; simp)
  have e1 : Ev B H B (delC H' q) := ⟨⟨[], by simp, fun _ m => by cases m⟩, fun a o z _ nt => kp a o z nt, fun b hb => th b (s.trk b hb), th⟩
  refine ⟨⟨fun b o z n hb hx => ?_, fun b o z n hb hx => ?_, fun b o z n hx => ?_, un.there, fun b xs z => ?_, fun b o u z => ?_, fun b ps z => ?_⟩, HOk.delC hok kq, e1, s.same e1 (tabs_del s1.tb hok kq fun b o z => (k.at_ b o z).2) fun b hb => ?_, fun d x r => r.monoD (fun a o hd z _ => ?_) fun a m => .inl m⟩
  · cases zq : q b with
    | some o' =>
      have z1 := (k.at_ b o' zq).1
      rw [z] at z1
      cases z1
      exact same b o zq
    | none => exact un.keep b o z (by rw [addC_out zq]; exact n) hb hx
  · cases zq : q b with
    | some o' =>
      have z1 := (k.at_ b o' zq).1
      rw [z] at z1
      cases z1
      exact ⟨o.slots, same b o zq⟩
    | none => exact un.slot b o z (by rw [addC_out zq]; exact n) hb hx
  · cases zq : q b with
    | some o' => exact delC_in zq
    | none => rw [delC_out zq]; exact un.free b o z (by rw [addC_out zq]; exact n) hx
  · have nq := k.sub _ _ z
    rw [delC_out nq]; exact un.tups b xs (by rw [addC_out nq]; exact z)
  · have nq := k.sub _ _ z
    rw [delC_out nq]; exact un.frzs b o u (by rw [addC_out nq]; exact z)
  · have nq := k.sub _ _ z
    obtain ⟨more, y⟩ := un.tbls b ps (by rw [addC_out nq]; exact z)
    exact ⟨more, by rw [delC_out nq]; exact y⟩
  · rcases s.kind hb with ⟨xs, y⟩ | ⟨xs, y⟩
    · rw [y]; exact kp b _ y ntL
    · rw [y]; exact kp b _ y ntD
  · cases zq : q a with
    | none => rw [delC_out zq]; exact z
    | some o' => rw [kq a o' zq] at z; exact absurd (Option.some.inj z).symm (datKp hd)
/-- into what runs beside the cells -/
theorem chill (k : CSet q H h) (s : SR c H B Z S) : Ev B H B (addC H q) ∧ SR c (addC H q) B Z S ∧ SR c (addC H q) [] (B ++ Z) [] := by
  have kp : ∀ a o, H a = some o → addC H q a = some o := fun a o z => by rw [addC_out (k.sub _ _ z)]; exact z
  have th : ∀ a, H a ≠ none → addC H q a ≠ none := fun a z => by
    cases za : H a with
    | none => exact absurd za z
    | some o => rw [kp a o za]; simp
  have e1 : Ev B H B (addC H q) := ⟨⟨[], by simp, fun _ m => by cases m⟩, fun a o z _ _ => kp a o z, fun b hb => th b (s.trk b hb), th⟩
  have s1 : SR c (addC H q) B Z S := s.same e1 (tabs_add k s.tb) fun b hb => by
    rcases s.kind hb with ⟨xs, y⟩ | ⟨xs, y⟩
    · rw [y]; exact kp b _ y
    · rw [y]; exact kp b _ y
  refine ⟨e1, s1, rfl, .nil, fun z hz => ?_, fun z _ m => (by cases m), fun n b o z => (by simp at z), s1.tb⟩
  rcases List.mem_append.mp hz with m | m
  · exact s1.kind m
  · exact s1.zt z m
/-- the same way round: the cells that are held are let go while their lambda runs -/
theorem thaw2 (kq : ∀ b o, q b = some o → H b = some (KpO b o) ∧ h.get? b = some o ∧ (∃ u, o.data = .cell u) ∧ b ∉ B ++ Z) (e : Ev [] (delC H q) B' H') (s1 : SR c H' B' (B ++ Z) T) (hok : HOk P w H' h') (un : Un fs ex (delC H q) H' h h') (hfe : ∀ b o, q b = some o → b ∉ fs ∧ b ∉ ex) (s : SR c H B Z S) :
    Un fs ex H (addC H' q) h h' ∧ HOk P w (addC H' q) h' ∧ Ev B H B (addC H' q) ∧ SR c (addC H' q) B Z S ∧ ∀ d x, RD c.K H' (B ++ Z) d x → RD c.K (addC H' q) (B ++ Z) d x := by
  have gone : ∀ b o, q b = some o → H' b = none := fun b o z => un.free b o (kq b o z).2.1 (delC_in z) (hfe b o z).2
  have same : ∀ b o, q b = some o → h'.get? b = some o := fun b o z => un.keep b o (kq b o z).2.1 (delC_in z) (hfe b o z).1 (hfe b o z).2
  have kc : CSet q H' h' := ⟨fun b o z => ⟨same b o z, (kq b o z).2.2.1⟩, gone⟩
  have out : ∀ a o, H a = some o → (∀ u, o ≠ KpO a u) → q a = none := fun a o z n => by
    cases zq : q a with
    | none => rfl
    | some u => rw [(kq a u zq).1] at z; exact absurd (Option.some.inj z).symm (n u)
  have kp : ∀ a o, H a = some o → NT o → addC H' q a = some o := fun a o z nt => by
    cases zq : q a with
    | some u => rw [addC_in zq, ← z]; exact (kq a u zq).1.symm
    | none => rw [addC_out zq]; exact e.keep a o (by rw [delC_out zq]; exact z) (by simp) nt
  have th : ∀ a, H a ≠ none → addC H' q a ≠ none := fun a z => by
    cases zq : q a with
    | some u => rw [addC_in zq]; simp
    | none => rw [addC_out zq]; exact e.there a (by rw [delC_out zq]; exact z)
  have e1 : Ev B H B (addC H' q) := ⟨⟨[], by simp, fun _ m => by cases m⟩, fun a o z _ nt => kp a o z nt, fun b hb => th b (s.trk b hb), th⟩
  refine ⟨⟨fun b o z n hb hx => ?_, fun b o z n hb hx => ?_, fun b o z n hx => ?_, un.there, fun b xs z => ?_, fun b o u z => ?_, fun b ps z => ?_⟩, HOk.addC hok kc, e1, s.same e1 (tabs_add kc s1.tb) fun b hb => ?_, fun d x r => r.mono (fun a o z _ _ => ?_) fun a m => .inl m⟩
  · cases zq : q b with
    | some o' => rw [(kq b o' zq).1] at n; cases n
    | none => exact un.keep b o z (by rw [delC_out zq]; exact n) hb hx
  · cases zq : q b with
    | some o' => rw [(kq b o' zq).1] at n; cases n
    | none => exact un.slot b o z (by rw [delC_out zq]; exact n) hb hx
  · cases zq : q b with
    | some o' => rw [(kq b o' zq).1] at n; cases n
    | none => rw [addC_out zq]; exact un.free b o z (by rw [delC_out zq]; exact n) hx
  · have nq := out _ _ z fun u y => by unfold KpO at y; cases y
    rw [addC_out nq]; exact un.tups b xs (by rw [delC_out nq]; exact z)
  · have nq := out _ _ z fun u y => by unfold KpO at y; cases y
    rw [addC_out nq]; exact un.frzs b o u (by rw [delC_out nq]; exact z)
  · have nq := out _ _ z fun u y => by unfold KpO at y; cases y
    obtain ⟨more, y⟩ := un.tbls b ps (by rw [delC_out nq]; exact z)
    exact ⟨more, by rw [addC_out nq]; exact y⟩
  · rcases s.kind hb with ⟨xs, y⟩ | ⟨xs, y⟩
    · rw [y]; exact kp b _ y ntL
    · rw [y]; exact kp b _ y ntD
  · rw [addC_out (kc.sub _ _ z)]; exact z
end
end MI
set_option maxRecDepth 100000
set_option maxHeartbeats 4000000
namespace MI
open PySem PySem.Spec PyProof.Rows L2 LamX NdefX
/-! ## a lambda handed on: what it has captured is data -/
def capS (r : Rho) : List Nat → Option (List PyData)
  | [] => some []
  | i :: is => match r[i]?, capS r is with
    | some (some (.d x)), some xs => some (x :: xs)
    | _, _ => none
mutual
def capV (fz : Nat → Option (List Nat)) (r : Rho) : IV → Option IV
  | .lam k => match fz k with
    | some is => (capS r is).map (.clo k)
    | none => none
  | .d x => some (.d x)
  | .gl x => some (.gl x)
  | .scr x => some (.scr x)
  | .tup vs => (capVs fz r vs).map .tup
  | .ref _ => none
  | .clo _ _ => none
  | .exc _ _ => none
def capVs (fz : Nat → Option (List Nat)) (r : Rho) : List IV → Option (List IV)
  | [] => some []
  | v :: t => match capV fz r v, capVs fz r t with
    | some w, some u => some (w :: u)
    | _, _ => none
end
/-- the lambda's names, its captured ones at the slots is; the names cn are the def's cells -/
def fzC (N : List Str) (sc : Scope) (cn : List Str) (L : LI) (is : List Nat) : Bool :=
  decide (is.map (N[·]?) = L.fr.map some) && (L.fr.all fun y => decide (L.scope.names.lookup y = some .free) && (decide (sc.names.lookup y = some .cell) && cn.contains y)) && L.scope.names.all fun y => !decide (y.2 = .free) || L.fr.contains y.1
structure FzK (c : Ct) (X : Cx) (cn : List Str) (fz : Nat → Option (List Nat)) : Prop where
  own : c.own = X.env.cells
  lam : ∀ k is, fz k = some is → ∃ L, c.lam k = some L ∧ fzC X.N X.env.scope cn L is = true
  fn : ∀ y, y ∈ cn → X.fn y = true
section
variable {c : Ct} {W : WX} {X : Cx} {pins : List (Addr × Obj)} {B Z : List Addr} {σ : L2.St} {H : Hp} {s : Shared} {r : Rho} {S : Sto}
/-- the cells of the names cn -/
noncomputable def capQ (X : Cx) (s : Shared) (cn : List Str) : Addr → Option Obj := fun b => by
  classical exact if ∃ y, y ∈ cn ∧ X.env.cells.lookup y = some b then s.heap.get? b else none
theorem capQ_some {cn : List Str} {b : Addr} {o : Obj} (h : capQ X s cn b = some o) : s.heap.get? b = some o ∧ ∃ y, y ∈ cn ∧ X.env.cells.lookup y = some b := by
  unfold capQ at h
  split at h
  · rename_i hy; exact ⟨h, hy⟩
  · cases h
theorem capQ_at {cn : List Str} {b : Addr} {y : Str} (hy : y ∈ cn) (e : X.env.cells.lookup y = some b) : capQ X s cn b = s.heap.get? b := by
  unfold capQ
  rw [if_pos ⟨y, hy, e⟩]
theorem capQ_ok {cn : List Str} (I : Inv X pins σ H s) : CSet (capQ X s cn) H s.heap := by
  refine ⟨fun b o h => ?_, fun b o h => ?_⟩
  · obtain ⟨h1, y, h2, h3⟩ := capQ_some h
    refine ⟨h1, ?_⟩
    obtain ⟨v, o', q1, q2⟩ := I.cell y b h3
    rw [h1] at q1
    cases q1
    exact ⟨v, q2⟩
  · obtain ⟨h1, y, h2, h3⟩ := capQ_some h
    exact I.freeC y b h3
theorem capS_ok {bd : List Addr} (rr : RR c H B Z r σ) : ∀ {is : List Nat} {ds : List PyData}, capS r is = some ds → ∃ ws : List V, RDs c.K H (B ++ Z) ds ws ∧ ws.length = is.length ∧ ∀ (j i : Nat), is[j]? = some i → ∃ w, ws[j]? = some w ∧ σ[i]? = some (some w)
  | [], ds, h => by cases h; exact ⟨[], .nil, rfl, fun j i z => by simp at z⟩
  | i :: is, ds, h => by
    unfold capS at h
    split at h
    · rename_i x xs h1 h2
      cases h
      obtain ⟨ws, a1, a2, a3⟩ := capS_ok (bd := bd) rr h2
      obtain ⟨w, b1, b2⟩ := rr.at_ i _ h1
      cases b2 with
      | d b2 =>
        refine ⟨w :: ws, .cons b2 a1, by simp [a2], fun j k z => ?_⟩
        cases j with
        | zero => simp at z; subst z; exact ⟨w, rfl, b1⟩
        | succ j => simpa using a3 j k (by simpa using z)
    · cases h
section
variable {cn : List Str} {fz : Nat → Option (List Nat)}
mutual
theorem RI.freeze (I : Inv X pins σ H s) (sr : SR c H B Z S) (rr : RR c H B Z r σ) (fk : FzK c X cn fz) : ∀ {v v' : IV} {x : V}, capV fz r v = some v' → RI c H B Z v x → RI c (addC H (capQ X s cn)) [] (B ++ Z) v' x
  | .d d, _, x, h, ri => by
    unfold capV at h
    cases h
    cases ri with
    | d ri => exact .d (ri.mono (fun a o z _ _ => by rw [addC_out ((capQ_ok I).sub _ _ z)]; exact z) fun a m => .inl m)
  | .gl y, _, x, h, ri => by
    unfold capV at h
    cases h
    cases ri with
    | gl ri => exact .gl ri
  | .scr y, _, x, h, ri => by
    unfold capV at h
    cases h
    cases ri with
    | scr ri hb => exact .scr (rd_mono ri ntL fun o z _ => by rw [addC_out ((capQ_ok I).sub _ _ z)]; exact z) hb
    | scrK ri => exact .scrK ri
  | .tup vs, _, x, h, ri => by
    unfold capV at h
    obtain ⟨ws, hw, rfl⟩ := Option.map_eq_some_iff.mp h
    cases ri with
    | tup h1 to hb t => exact .tup (by rw [addC_out ((capQ_ok I).sub _ _ h1)]; exact h1) to hb (RIs.freeze I sr rr fk hw t)
  | .ref n, _, x, h, ri => by unfold capV at h; cases h
  | .clo _ _, _, x, h, ri => by unfold capV at h; cases h
  | .exc _ _, _, x, h, ri => by unfold capV at h; cases h
  | .lam k, _, x, h, ri => by
    unfold capV at h
    cases hf : fz k with
    | none => rw [hf] at h; cases h
    | some is =>
      rw [hf] at h
      obtain ⟨ds, hd, rfl⟩ := Option.map_eq_some_iff.mp h
      obtain ⟨L0, hL0, hc⟩ := fk.lam k is hf
      cases ri with
      | lam hk h1 hb hco hcb =>
        rename_i f cc L
        rw [hL0] at hk
        cases hk
        have K0 := capQ_ok (cn := cn) I
        have up : ∀ a o, H a = some o → addC H (capQ X s cn) a = some o := fun a o z => by rw [addC_out (K0.sub _ _ z)]; exact z
        unfold fzC at hc
        simp only [Bool.and_eq_true, List.all_eq_true, decide_eq_true_eq, Bool.or_eq_true, Bool.not_eq_true', decide_eq_false_iff_not, List.contains_iff_mem] at hc
        obtain ⟨⟨e1, e2⟩, e3⟩ := hc
        have hlen : is.length = L0.fr.length := by simpa using congrArg List.length e1
        obtain ⟨ws, w1, w2, w3⟩ := capS_ok (bd := []) rr hd
        have hcl : ∀ y a, (cloFrom c.own L0.scope.names []).lookup y = some a → y ∈ L0.fr ∧ X.env.cells.lookup y = some a := fun y a z => by
          rcases cloFrom_mem (PySem.mem_of_lookup z) with hm | ⟨hm, ha⟩
          · cases hm
          · have hy : y ∈ L0.fr := by
              rcases e3 _ hm with z | z
              · exact absurd rfl z
              · exact z
            refine ⟨hy, ?_⟩
            obtain ⟨a0, ha0⟩ := I.ok.has y (.inl (e2 y hy).2.1)
            have ha0 : X.env.cells.lookup y = some a0 := ha0
            rw [ha, fk.own, ha0] <;> rfl
        refine .clo hL0 (up _ _ h1) hb (up _ _ hco) hcb (ws := ws) ⟨by rw [w2, hlen], fun y z a z1 z2 => I.ok.inj y z a (hcl y a z1).2 (hcl z a z2).2, fun y a z => (hcl y a z).1, fun j y hj => ?_⟩ (w1.mono (fun a o z _ _ => up _ _ z) fun a m => .inl m)
        have hy := List.mem_of_getElem? hj
        obtain ⟨f1, f2, f3⟩ := e2 y hy
        have hjl : j < is.length := by rw [hlen]; exact (List.getElem?_eq_some_iff.mp hj).1
        have hN : X.N[is[j]]? = some y := by
          have z := congrArg (fun l => l[j]?) e1
          simp only [List.getElem?_map, hj, List.getElem?_eq_getElem hjl, Option.map_some] at z
          exact Option.some.inj z
        obtain ⟨wv, g1, g2⟩ := w3 j is[j] (List.getElem?_eq_getElem hjl)
        obtain ⟨m, hn, hl⟩ := I.loc
        obtain ⟨u, r1, r2⟩ := hl _ y wv hN g2 (.inr (.inl f2))
        rcases r2 with ⟨k', _⟩ | ⟨_, a, ha, o, ho, hdo⟩
        · have k' : X.env.scope.names.lookup y = some .local := k'
          rw [f2] at k'; cases k'
        · have hq : capQ X s cn a = some o := by rw [capQ_at f3 ha]; exact ho
          refine ⟨a, o, wv, u, ?_, addC_in hq, fun hm => ?_, hdo, g1, r1⟩
          · obtain ⟨a', e'⟩ := mem_lookup (cloFrom_has (cells := c.own) (acc := []) (PySem.mem_of_lookup f1))
            have e2' := (hcl y a' e').2
            rw [ha] at e2'
            cases e2'
            exact e'
          · have na := K0.no a o hq
            rcases List.mem_append.mp hm with m | m
            · cases m
            · rcases List.mem_append.mp m with m | m
              · exact sr.trk a m na
              · exact kdNe (sr.zt a m) na
theorem RIs.freeze (I : Inv X pins σ H s) (sr : SR c H B Z S) (rr : RR c H B Z r σ) (fk : FzK c X cn fz) : ∀ {v v' : List IV} {x : List V}, capVs fz r v = some v' → RIs c H B Z v x → RIs c (addC H (capQ X s cn)) [] (B ++ Z) v' x
  | [], _, x, h, ri => by unfold capVs at h; cases h; cases ri; exact .nil
  | v :: t, _, x, h, ri => by
    unfold capVs at h
    split at h
    · rename_i h1 h2
      cases h
      cases ri with
      | cons r1 r2 => exact .cons (RI.freeze I sr rr fk h1 r1) (RIs.freeze I sr rr fk h2 r2)
    · cases h
end
end
/-- the frames are no cells -/
theorem capQ_fr {cn : List Str} {b : Addr} {o : Obj} (I : Inv X pins σ H s) (hfn : ∀ y, y ∈ cn → X.fn y = true) (h : capQ X s cn b = some o) : b ∉ frs X.stack := fun hb => by
  obtain ⟨h1, y, h2, h3⟩ := capQ_some h
  rcases List.mem_cons.mp (I.stkSub b hb) with e | e
  · exact I.cne y b h3 e
  · obtain ⟨_, o1, q1, q2⟩ := I.ok.funs.mem e
    exact absurd (Nat.lt_of_lt_of_le (Heap.lt_size q1) (I.ok.cab y b (hfn y h2) h3)) (Nat.lt_irrefl _)
theorem env0_add {cn : List Str} (I : Inv X pins σ H s) (hfn : ∀ y, y ∈ cn → X.fn y = true) : Env0 X.prog X.w X.K X.mg X.base X.A X.stack s (addC H (capQ X s cn)) := by
  have e := I.env0
  have K0 := capQ_ok (cn := cn) I
  refine ⟨e.frames, e.mod, fun b o z => ⟨(e.bs b o z).1, ?_⟩, e.bsz, e.funs, fun b hb => ?_, HOk.addC e.hok K0, e.bare⟩
  · cases hq : capQ X s cn b with
    | none => rw [addC_out hq]; exact (e.bs b o z).2
    | some o' =>
      obtain ⟨_, y, h2, h3⟩ := capQ_some hq
      have h4 := I.ok.cab y b (hfn y h2) h3
      exact absurd (Nat.lt_of_lt_of_le (Heap.lt_size z) (Nat.le_trans I.ok.bsz h4)) (Nat.lt_irrefl _)
  · cases hq : capQ X s cn b with
    | none => rw [addC_out hq]; exact e.frf b hb
    | some o' => exact absurd hb (capQ_fr I hfn hq)
end
end MI
set_option maxRecDepth 100000
set_option maxHeartbeats 4000000
namespace MI
open PySem PySem.Spec PyProof.Rows L2 LamX NdefX
/-! ## a def called with lambdas of the running frame: it sees data alone beside them -/
def frzD (S : Sto) : Out IV → Out IV
  | .ok v T => match toD 0 T v with
    | some d => .ok (.d d) S
    | none => .bad
  | _ => .bad
def eAppF (fz : Nat → Option (List Nat)) (n : Nat) (g : FN) (fa : FA) : FE := fun r S => (fa r S).bind fun is S1 => if is.length = n then (match capVs fz r is with
  | some js => frzD S1 (g js [])
  | none => .bad) else .bad
section
variable {c : Ct} {W : WX} {X : Cx} {pins : List (Addr × Obj)} {B Z : List Addr} {σ : L2.St} {H : Hp} {s : Shared} {r : Rho} {S : Sto}
theorem capVs_len {fz : Nat → Option (List Nat)} {r : Rho} : ∀ {is js : List IV}, capVs fz r is = some js → js.length = is.length
  | [], _, h => by unfold capVs at h; cases h; rfl
  | v :: t, _, h => by
    unfold capVs at h
    split at h
    · rename_i h1 h2
      cases h
      simp [capVs_len h2]
    · cases h
/-- what came back is data, made meanwhile -/
theorem toD_new {H' : Hp} {B' bd : List Addr} {T : Sto} (s1 : SR c H' B' bd T) (n : ∀ b, b ∈ B' → b ∉ bd) {v : IV} {d : PyData} {x : V} (h : toD 0 T v = some d) (ri : RI c H' B' bd v x) : RD c.K H' bd d x :=
  toD_rd s1 (fun a m => List.mem_append_right _ m) (fun i b hb _ => n b (List.mem_of_getElem? hb)) h ri
theorem new_out {H H' : Hp} {B' bd : List Addr} (e : Ev [] H B' H') (k : ∀ b, b ∈ bd → H b ≠ none) : ∀ b, b ∈ B' → b ∉ bd := fun b hb m => by
  obtain ⟨N, hN, hn⟩ := e.pre
  rw [hN, List.nil_append] at hb
  exact k b m (hn b hb)
theorem s_callF {cn : List Str} {fz : Nat → Option (List Nat)} {k n : Nat} {f : Addr} {fd : FuncData} {ps : List Str} {g : FN} {x : Str} {p pos : Pos} {e : Expr} {es : List Expr} {fa : FA} (cx : Cxg c W X) (fk : FzK c X cn fz) (F : FnG X.prog X.w c X.base k f fd ps g) (hr : Room k X.A)
    (hg : Gl X x) (hm : X.mg x = some (.ref f)) (hk : PySem.W.keepIn X.K (.ref f) = true) (hb : Binds X.K fd ps []) (hn : n = ps.length) (ha : PA X (e :: es) (TAx c W fa)) (hdb : (x == ("__debug__" : Str)) = false := by decide)
    (he : starEach (e :: es) X.env = (false, eval e X.env) :: starEach es X.env := by rfl) (hpl : (backTo pos (starEach es X.env)).any (·.1) = false := by rfl) :
    PE X (.Call (.Name x p) (e :: es) [] pos) (TEx c W (eAppF fz n g fa)) := by
  refine ⟨fun pins s σ H Q I ⟨B, Z, r, S, sr, rr, hp⟩ => ?_⟩
  refine wpAny_Call_Name_kw (ld_glob I hg hm ?_ hdb)
  refine PySem.W.callWith_K (h₀ := X.base) I.ok.mod.kin hk (thn (ha.run pos pins s σ H (fun vs H1 => ∃ B1 S1 is, SR c H1 B1 Z S1 ∧ RR c H1 B1 Z r σ ∧ RIs c H1 B1 Z is vs ∧ Post c W B1 Z H1 σ (if is.length = n then (match capVs fz r is with
      | some js => frzD S1 (g js [])
      | none => .bad) else .bad) fun v _ B' H' => ∀ x, RI c H' B' Z v x → Q x H') I ⟨B, Z, r, S, sr, rr, (Post.bind hp).imp fun is S1 B1 H1 e1 s1 q vs rv => ⟨B1, S1, is, s1, rr.ev e1, rv, q⟩⟩) fun us s1 ⟨vs, H1, I1, r1, B1, S1, is, s1r, rr1, ri, q⟩ => ⟨I1.kIn, ?_⟩) he hpl
  split at q
  · rename_i hl
    split at q
    · rename_i js hj
      unfold frzD at q
      split at q
      · rename_i v T hg2
        split at q
        · rename_i d hd
          obtain ⟨e1, s2, sF⟩ := chill (capQ_ok (cn := cn) I1) s1r
          have rj := RIs.freeze (cn := cn) I1 s1r rr1 fk hj ri
          have hlv : vs.length = ps.length := by rw [← ri.length, hl, hn]
          have bnd := hb s1 us I1.kIn (by rw [List.append_nil, ← r1.length, hlv])
          rw [List.append_nil] at bnd
          have en := env0_add (cn := cn) I1 fk.fn
          rw [cx.K, cx.mg] at en
          have run := F.run X.A X.stack s1 (addC H1 (capQ X s1 cn)) ⟨us, []⟩ us vs (fun x H' => ∃ B' T d, Ev [] (addC H1 (capQ X s1 cn)) B' H' ∧ SR c H' B' (B1 ++ Z) T ∧ RD c.K H' (B1 ++ Z) d x ∧ v = v ∧ toD 0 T v = some d ∧ g js [] = .ok v T) (fun _ _ _ => False) [] (B1 ++ Z) [] js hr cx.gu en bnd r1 hlv sF rj (by
            rw [hg2]
            intro B' H' e' s' x hx
            exact ⟨B', T, d, e', s', toD_new s' (new_out e' fun b hb => by
              rcases List.mem_append.mp hb with m | m
              · exact s2.trk b m
              · exact kdNe (s2.zt b m)) hd hx, rfl, hd, rfl⟩)
          refine wpAny_call (codeAny_mono run fun rs s' hq => ?_)
          cases rs with
          | error e => obtain ⟨_, _, _, _, _, _, _, _, _, _, _, _, z⟩ := hq; exact z.elim
          | ok fl =>
            cases fl with
            | ret u =>
              obtain ⟨x, H', os, bare, un, hok, rv, B', T', d', e', s', rd, _, hd', hg'⟩ := hq
              rw [hg2] at hg'
              cases hg'
              rw [hd] at hd'
              cases hd'
              obtain ⟨t1, t2, t3, t4, t5⟩ := thaw (capQ_ok (cn := cn) I1) e' s' hok un s1r
              exact I1.after ⟨x, _, os, bare, t1, t2, rv, q _ _ t3 t4 x (.d (t5 d x rd))⟩
            | next => exact hq.elim
            | brk => exact hq.elim
            | cont => exact hq.elim
        · exact q.elim
      · exact q.elim
    · exact q.elim
  · exact q.elim
end
end MI
set_option maxRecDepth 100000
set_option maxHeartbeats 4000000
namespace MI
open PySem PySem.Spec PyProof.Rows L2 LamX NdefX
/-! ## a comprehension over lambdas of the running frame (the library's rule, turned: its block runs beside the held cells) -/
theorem thawU {P : Program} {w : World} {H H' : Hp} {q : Addr → Option Obj} {h h' : Heap} {fs ex : List Addr} (k : CSet q H h) (kq : ∀ b o, q b = some o → H' b = some (KpO b o)) (hok : HOk P w H' h') (un : Un fs ex (addC H q) H' h h') :
    Un fs ex H (delC H' q) h h' ∧ HOk P w (delC H' q) h' := by
  have same : ∀ b o, q b = some o → h'.get? b = some o := fun b o z => (hok b _ (kq b o z)).1
  refine ⟨⟨fun b o z n hb hx => ?_, fun b o z n hb hx => ?_, fun b o z n hx => ?_, un.there, fun b xs z => ?_, fun b o u z => ?_, fun b ps z => ?_⟩, HOk.delC hok kq⟩
  · cases zq : q b with
    | some o' =>
      have z1 := (k.at_ b o' zq).1
      rw [z] at z1
      cases z1
      exact same b o zq
    | none => exact un.keep b o z (by rw [addC_out zq]; exact n) hb hx
  · cases zq : q b with
    | some o' =>
      have z1 := (k.at_ b o' zq).1
      rw [z] at z1
      cases z1
      exact ⟨o.slots, same b o zq⟩
    | none => exact un.slot b o z (by rw [addC_out zq]; exact n) hb hx
  · cases zq : q b with
    | some o' => exact delC_in zq
    | none => rw [delC_out zq]; exact un.free b o z (by rw [addC_out zq]; exact n) hx
  · have nq := k.sub _ _ z
    rw [delC_out nq]; exact un.tups b xs (by rw [addC_out nq]; exact z)
  · have nq := k.sub _ _ z
    rw [delC_out nq]; exact un.frzs b o u (by rw [addC_out nq]; exact z)
  · have nq := k.sub _ _ z
    obtain ⟨more, y⟩ := un.tbls b ps (by rw [addC_out nq]; exact z)
    exact ⟨more, by rw [delC_out nq]; exact y⟩
section
variable {X : Cx}
theorem cf_mem : ∀ {names : List (Str × NameKind)} {n : Nat} {acc : List (Str × Addr)} {x : Str} {b : Addr}, (x, b) ∈ cellsFrom n names acc → (x, b) ∈ acc ∨ n ≤ b
  | [], _, _, _, _, h => .inl h
  | (m, kd) :: rest, n, acc, x, b, h => by
    unfold cellsFrom at h
    split at h
    · rcases cf_mem h with z | z
      · rcases List.mem_cons.mp z with e | z
        · cases e; exact .inr (Nat.le_refl _)
        · exact .inl z
      · exact .inr (Nat.le_of_succ_le z)
    · exact cf_mem h
theorem cellsFrom_blk {cells0 : List (Str × Addr)} {scope : Scope} {n : Nat} {L : Addr} {env : Env} {y : Str} {b : Addr} (hu : ∀ y ∈ scope.names, scope.names.lookup y.1 = some y.2) (hf : ∀ y ∈ scope.names, y.2 = .free → ∃ c, cells0.lookup y.1 = some c)
    (e : (compEnvC scope (cellsFrom (n + 1) scope.names (cloFrom cells0 scope.names [])) L env).cells.lookup y = some b) : (scope.names.lookup y = some .free ∧ cells0.lookup y = some b) ∨ n ≤ b := by
  have e : (cellsFrom (n + 1) scope.names (cloFrom cells0 scope.names [])).lookup y = some b := e
  rcases cf_mem (PySem.mem_of_lookup e) with hm | hm
  · rcases cloFrom_mem hm with hm | ⟨hm, hb⟩
    · cases hm
    · obtain ⟨d, hd⟩ := hf _ hm rfl
      exact .inl ⟨hu _ hm, by rw [hb]; show cells0.lookup y = _; rw [show cells0.lookup y = some d from hd] <;> rfl⟩
  · exact .inr (Nat.le_of_succ_le hm)
/-- the block's heap, the cells held besides -/
theorem blkAdd {scope : Scope} {ce : Env} {fp : List Addr} {s s4 : Shared} {σ : L2.St} {H : Hp} {q : Addr → Option Obj} (I : Inv (X.blk s H scope ce fp) [] σ H s4) (k : CSet q H s.heap) (k1 : ∀ b o, q b = some o → ∀ y, ce.cells.lookup y ≠ some b) (k2 : ∀ b o, q b = some o → b ∉ fp) (k3 : ∀ b o, q b = some o → b ∉ frs X.stack) (k4 : ∀ b o, q b = some o → X.base.get? b = none) :
    Inv (X.blk s (addC H q) scope ce fp) [] σ (addC H q) s4 := by
  have two : ∀ {b : Addr}, addC H q b = none → q b = none ∧ H b = none := fun {b} z => by
    cases y : q b with
    | none => rw [addC_out y] at z; exact ⟨rfl, z⟩
    | some o => rw [addC_in y] at z; cases z
  have ok := I.ok
  have k5 : CSet q H s4.heap := ⟨fun b o z => ⟨I.base.keep b o (k.at_ b o z).1 (k.no b o z) (k3 b o z) (k2 b o z), (k.at_ b o z).2⟩, k.no⟩
  refine ⟨⟨ok.mod, ok.kind, ok.glob, ok.blt, ok.above, ok.inj, ok.has, ok.cab, ok.hd, ok.frames, ok.stk, ok.exf, fun b o z => ⟨(ok.bs b o z).1, ?_⟩, ok.bsz, ok.noex, ok.exfs, ok.funs, fun b hb => ?_⟩, I.os, I.bare,
    ⟨fun b o z n hb hx => I.base.keep b o z (two n).2 hb hx, fun b o z n hb hx => I.base.slot b o z (two n).2 hb hx, fun b o z n hx => n, I.base.there, fun _ _ z => z, fun _ _ _ z => z, fun b ps z => ⟨#[], by simpa using z⟩⟩, I.loc, I.cell, ?_, fun y cc e => ?_, fun p hp => absurd (show p ∈ ([] : List (Addr × Obj)) ++ [] from hp) (by simp), HOk.addC I.hok k5, I.len⟩
  · show addC H q b = none
    cases y : q b with
    | none => rw [addC_out y]; exact (ok.bs b o z).2
    | some o' => rw [k4 b o' y] at z; cases z
  · show addC H q b = none
    cases y : q b with
    | none => rw [addC_out y]; exact ok.frf b hb
    | some o' => exact absurd hb (k3 b o' y)
  · show addC H q ce.locals = none
    cases y : q ce.locals with
    | none => rw [addC_out y]; exact I.free
    | some o' =>
      have z := (k5.at_ _ o' y).1
      obtain ⟨u, hu⟩ := (k5.at_ _ o' y).2
      obtain ⟨m, ⟨o2, es, ep, h2, h3, _⟩, _⟩ := I.loc
      have h2 : s4.heap.get? ce.locals = some o2 := h2
      rw [z] at h2
      cases h2
      rw [hu] at h3
      cases h3
  · show addC H q cc = none
    cases z : q cc with
    | none => rw [addC_out z]; exact I.freeC y cc e
    | some o' => exact absurd e (k1 cc o' z y)
def tLcF (X : Cx) (pins : List (Addr × Obj)) (cn : List Str) (wi : TI) (g : TG) (tt : TT) (te : TE) (vs : List Nat) : TE := fun σ H Q => wi σ H fun J H1 => ∀ D s, Inv X pins σ H1 s → H1 D = none → capQ X s cn D = none → ∃ Wd : Nat → Nat → Hp → Prop, (∃ m, Wd 0 m (addC (upd H1 D (.lst [])) (capQ X s cn))) ∧ ∀ i m H, Wd i m H →
  (J.stop i H ∧ (∀ b o, capQ X s cn b = some o → H b = some (KpO b o)) ∧ ∀ h', HOk X.prog X.w H h' → Q (.ref D) (delC H (capQ X s cn))) ∨ (J.go i H ∧ ∃ Nx : Hp → Prop, (∀ H', Nx H' → ∃ m', m' < m ∧ Wd (i + 1) m' H') ∧ ∀ x H', J.yld i H x H' → g x (L2.wipe σ vs) H' fun σ2 H2 => L2.wipe σ2 vs = L2.wipe σ vs ∧ tt σ2 H2 fun b H3 =>
    if b = true then te σ2 H3 fun y H4 => ∃ acc, H4 D = some (.lst acc) ∧ acc.length < sizeLine ∧ Nx (upd H4 D (.lst (acc ++ [y]))) else Nx H3)
theorem lc_coreF {cn : List Str} (hfn : ∀ y, y ∈ cn → X.fn y = true) {pins : List (Addr × Obj)} {s : Shared} {σ : L2.St} {H : Hp} {Q : VK} {elt tg iter : Expr} {ifs : List Expr} {scope : Scope} {own : List (Str × Nat)} {pos pos' : Pos} {wi : TI} {g : TG} {tt : TT} {te : TE} {use : Option (Value → Sem Unit)} {Qf : Value → Shared → Prop}
    (hc7 : X.calm = true) (hN7 : X.N.Nodup) (I0 : Inv X pins σ H s) (hi7 : PI X tg iter wi) (ok7 : BlkOk X.N X.env.scope scope own) (hcn : ∀ y, y ∈ cn → scope.names.lookup y ≠ some .free)
    (hg7 : ∀ (s : Shared) (H : Hp) (C : Addr) (cl : List (Str × Addr)) (fp7 : List Addr), PG (X.blk s H scope (compEnvC scope cl C X.env) fp7) tg g) (ht7 : ∀ (s : Shared) (H : Hp) (C : Addr) (cl : List (Str × Addr)) (fp7 : List Addr), PTs (X.blk s H scope (compEnvC scope cl C X.env) fp7) ifs tt)
    (he7 : ∀ (s : Shared) (H : Hp) (C : Addr) (cl : List (Str × Addr)) (fp7 : List Addr), PE (X.blk s H scope (compEnvC scope cl C X.env) fp7) elt te) (hs7 : ∀ x, foldedSetIterable iter X.env x = pure x)
    (h : tLcF X pins cn wi g tt te (own.map (·.2)) σ H Q)
    (hR7 : ∀ D7 C s' m H', Inv X pins σ H' s' → Q (.ref D7) H' → s'.heap.Ns C m → FpOk X pins H' C → compPost (model X.prog X.w) X.A X.xe use Qf (.ref D7) C (.ok .next) s') :
    wpAny (model X.prog X.w) X.A (comprehension (.ListComp elt [⟨tg, iter, ifs, 0⟩] scope pos) scope X.env pos' (newList []) false (eval iter X.env) use) Qf X.xe s := by
  have hfree7 : ∀ y ∈ scope.names, y.2 = .free → ∃ c, X.env.cells.lookup y.1 = some c := fun y hy e => by
    rcases ok7.free y hy e with k | k
    · exact I0.ok.has _ (.inl k)
    · exact I0.ok.has _ (.inr k)
  refine wpAny_comprehension_free (use := use) rfl hs7 (closure_ok hfree7) ok7.kind (fun y hy e => by rw [ok7.uniq y hy, e])
    (thn (hi7.run pins s σ H _ I0 h) fun xv7 s1 hx7 => thn hx7 fun itv7 s27 h2 => ?_)
  obtain ⟨it, fp7, tn7, J, H27, e, I27, T7, st27, f27, q⟩ := h2
  subst e
  refine wpAny_newObj_type (newEnv_comp ?_) (by show 0 ≤ sizeLine; decide)
  generalize hD : s27.heap.objs.size = D7
  have hDn7 : H27 D7 = none := I27.hok.fresh (Nat.le_of_eq hD)
  have hcq0 : capQ X s27 cn D7 = none := by
    cases z : capQ X s27 cn D7 with
    | none => rfl
    | some o => exact absurd (Heap.lt_size (capQ_some z).1) (by rw [hD]; exact Nat.lt_irrefl _)
  obtain ⟨W, ⟨m07, w07⟩, turn7⟩ := q D7 s27 I27 hDn7 hcq0
  generalize hcq : capQ X s27 cn = cq at w07 turn7
  have kC : CSet cq H27 s27.heap := by rw [← hcq]; exact capQ_ok I27
  have cqL : ∀ b o, cq b = some o → b < s27.heap.objs.size := fun b o z => Heap.lt_size (kC.at_ b o z).1
  have cqD : cq D7 = none := by
    cases z : cq D7 with
    | none => rfl
    | some o => exact absurd (cqL D7 o z) (by rw [hD]; exact Nat.lt_irrefl _)
  -- the new list
  generalize hs3 : ({ s27 with heap := s27.heap.push { cls := .type "list", data := .seq ([] : List Value).toArray } } : Shared) = s37
  have I37 : Inv X pins σ (upd H27 D7 (.lst [])) s37 := by
    rw [← hs3]
    refine I27.laid (t' := s27.toks) (fun b o e => Heap.get?_push_of_some _ e) (Nat.le_of_eq hD) ⟨Nat.zero_le _, [], 0, .nil, ?_⟩
    rw [← hD]
    exact Heap.get?_push_size _ rfl
  have h37 : s37.heap = s27.heap.push { cls := .type "list", data := .seq ([] : List Value).toArray } := by rw [← hs3]
  have sz7 : ∀ b ∈ fp7, b < s27.heap.objs.size := fun b hb => by
    obtain ⟨o, e, _⟩ := T7.obj _ _ st27 b hb
    exact Heap.lt_size e
  have f37 : ∀ b ∈ fp7, FpOk X pins (upd H27 D7 (.lst [])) b ∧ b < s37.heap.objs.size := fun b hb => by
    have hlt := sz7 b hb
    refine ⟨⟨?_, (f27 b hb).2⟩, by rw [h37, Heap.size_push]; exact Nat.lt_succ_of_lt hlt⟩
    rw [upd_ne (by rw [← hD]; exact Nat.ne_of_lt hlt)]
    exact (f27 b hb).1
  have st37 : tn7 0 s37.heap := T7.keep _ _ _ st27 fun b _ o e => by rw [h37]; exact Heap.get?_push_of_some _ e
  have kC3 : CSet cq (upd H27 D7 (.lst [])) s37.heap := ⟨fun b o z => ⟨by rw [h37]; exact Heap.get?_push_of_some _ (kC.at_ b o z).1, (kC.at_ b o z).2⟩, fun b o z => by
    rw [upd_ne fun y => by rw [y, cqD] at z; cases z]
    exact kC.no b o z⟩
  have cells3 : ∀ b o, cq b = some o → ∃ y, y ∈ cn ∧ X.env.cells.lookup y = some b := fun b o z => by
    rw [← hcq] at z
    exact (capQ_some z).2
  have I47 := blkAdd (block_start I37 ok7 hN7 f37) kC3 (fun b o z => ?_) (fun b o z hb => ?_) (fun b o z hb => ?_) (fun b o z => ?_)
  rotate_left
  · obtain ⟨y, h1, h2⟩ := cells3 b o z
    exact fun y' e => by
      rcases cellsFrom_blk (fun y hy => ok7.uniq y hy) hfree7 e with ⟨h4, h5⟩ | h4
      · have : y' = y := I37.ok.inj y' y b h5 h2
        exact hcn y h1 (by rw [← this]; exact h4)
      · exact absurd (Nat.lt_of_lt_of_le (cqL b o z) (Nat.le_trans (by rw [h37, Heap.size_push]; exact Nat.le_succ _) h4)) (Nat.lt_irrefl _)
  · obtain ⟨y, h1, h2⟩ := cells3 b o z
    exact (f37 b hb).1.2.2.2.2.1 y b h2 rfl
  · rw [← hcq] at z
    exact capQ_fr I27 hfn z hb
  · obtain ⟨y, h1, h2⟩ := cells3 b o z
    have h4 := I27.ok.cab y b (hfn y h1) h2
    cases zb : X.base.get? b with
    | none => rfl
    | some o' => exact absurd (Nat.lt_of_lt_of_le (Heap.lt_size zb) (Nat.le_trans I27.ok.bsz h4)) (Nat.lt_irrefl _)
  have pg7 := hg7 s37 (addC (upd H27 D7 (.lst [])) cq) s37.heap.objs.size (cellsFrom (s37.heap.objs.size + 1) scope.names (cloFrom X.env.cells scope.names [])) fp7
  have pt7 := ht7 s37 (addC (upd H27 D7 (.lst [])) cq) s37.heap.objs.size (cellsFrom (s37.heap.objs.size + 1) scope.names (cloFrom X.env.cells scope.names [])) fp7
  have pe7 := he7 s37 (addC (upd H27 D7 (.lst [])) cq) s37.heap.objs.size (cellsFrom (s37.heap.objs.size + 1) scope.names (cloFrom X.env.cells scope.names [])) fp7
  show codeAny _ _ (.compStart (.ListComp elt [⟨tg, iter, ifs, 0⟩] scope pos) 0 (.ref it) (.ref D7) (compEnvC scope (cellsFrom (s37.heap.objs.size + 1) scope.names (cloFrom X.env.cells scope.names [])) s37.heap.objs.size X.env)) (compPost (model X.prog X.w) X.A X.xe use Qf (.ref D7) s37.heap.objs.size) { s37 with heap := pushCells (s37.heap.push { cls := .type "dict", data := .dict #[] }) scope.names }
  have nfp7 : ∀ b ∈ fp7, (addC (upd H27 D7 (.lst [])) cq) b = none := fun b hb => by
    cases z : cq b with
    | none => rw [addC_out z]; exact (f37 b hb).1.1
    | some o =>
      obtain ⟨y, h1, h2⟩ := cells3 b o z
      exact ((f37 b hb).1.2.2.2.2.1 y b h2 rfl).elim
  generalize hce7 : compEnvC scope (cellsFrom (s37.heap.objs.size + 1) scope.names (cloFrom X.env.cells scope.names [])) s37.heap.objs.size X.env = ce7 at I47 pg7 pt7 pe7 ⊢
  have cL7 : ce7.locals = s37.heap.objs.size := by subst hce7; rfl
  generalize hH3 : addC (upd H27 D7 (.lst [])) cq = H37 at I47 pg7 pt7 pe7 w07 nfp7
  generalize hs4 : ({ s37 with heap := pushCells (s37.heap.push { cls := .type "dict", data := .dict #[] }) scope.names } : Shared) = s47 at I47 ⊢
  have st47 : tn7 0 s47.heap := T7.keep _ _ _ st37 fun b _ o e => by rw [← hs4]; exact pushCells_keeps _ _ _ _ (Heap.get?_push_of_some _ e)
  have stat7 : ∀ {σ' : L2.St} {H' : Hp} {s' : Shared}, Inv (X.blk s37 H37 scope ce7 fp7) [] σ' H' s' → (∀ b ∈ fp7, H' b = none) → ∀ b ∈ fp7, FpOk (X.blk s37 H37 scope ce7 fp7) [] H' b := fun {σ' H' s'} I' hn7 b hb =>
    ⟨hn7 b hb, (I'.ok.exf b hb).1, I'.ok.exfs b hb, .inl hb, fun x c e => (I'.ok.exf b hb).2 x c e, fun p hp => absurd (show p ∈ ([] : List (Addr × Obj)) ++ [] from hp) (by simp)⟩
  have loop7 : codeAny (model X.prog X.w) X.A (.compLoop (.ListComp elt [⟨tg, iter, ifs, 0⟩] scope pos) 0 (.ref it) (.ref D7) ce7) (compPost (model X.prog X.w) X.A X.xe use Qf (.ref D7) s37.heap.objs.size) s47 := by
    refine compLoop_any (fun n s' => ∃ i H', Inv (X.blk s37 H37 scope ce7 fp7) [] (wipe σ (own.map (·.2))) H' s' ∧ tn7 i s'.heap ∧ (∀ b ∈ fp7, H' b = none) ∧ W i n H') ?_ m07 ⟨0, H37, I47, st47, nfp7, w07⟩
    rintro n s57 ⟨i, H57, I57, st57, n57, w57⟩
    rcases turn7 i n H57 w57 with ⟨stop, kq5, qq⟩ | ⟨go, Nx, hNx, step⟩
    · have td7 := T7.done (X.blk s37 H37 scope ce7 fp7) rfl rfl rfl hc7 i [] s57 _ H57 (fun _ _ => False) I57 (stat7 I57 n57) st57 stop
      refine thnF td7 fun r s67 ⟨hr, I67⟩ => ?_
      subst hr
      -- back in the def's context
      have t7 := thawU kC3 kq5 I67.hok (by have z := I67.base; rw [← hH3] at z; exact z)
      have I77 : Inv X pins σ (delC H57 cq) s67 := I37.call' (ch := fp7) I67.os t7.1 t7.2 I67.bare fun b hb => ⟨(f37 b hb).1.2.2.2.1, (f37 b hb).1.2.1, (f37 b hb).1.2.2.2.2.1, (f37 b hb).1.2.2.2.2.2⟩
      have nC0 : H57 s37.heap.objs.size = none := by
        have z : H57 ce7.locals = none := I67.free
        rw [cL7] at z
        exact z
      have nC7 : delC H57 cq s37.heap.objs.size = none := by
        cases z : cq s37.heap.objs.size with
        | none => rw [delC_out z]; exact nC0
        | some o => exact delC_in z
      obtain ⟨m, hn7, _⟩ := I67.loc
      have hn7 : s67.heap.Ns ce7.locals m := hn7
      rw [cL7] at hn7
      exact hR7 D7 s37.heap.objs.size s67 m (delC H57 cq) I77 (qq _ I67.hok) hn7 (I37.fpOk (Nat.le_refl _) nC7)
    · have ti7 := T7.item (X.blk s37 H37 scope ce7 fp7) rfl rfl rfl hc7 i [] s57 _ H57 (fun _ _ => False) I57 (stat7 I57 n57) st57 go
      refine thnF ti7 fun r s67 ⟨u, hr, h6⟩ => ?_
      subst hr
      refine thnF h6 fun _ s77 ⟨x, H77, I77, r77, y77, st77, n77⟩ => ?_
      have I78 := I77.pinned (stat7 I77 n77) (T7.obj _ _ st77)
      refine thnF (pg7.run _ s77 _ H77 x u _ I78 r77 (step x H77 y77)) fun _ s87 ⟨σ87, H87, I87, hw87, q87⟩ => ?_
      refine thnF (pt7.run _ s87 σ87 H87 _ I87 q87) fun b s97 ⟨H97, I97, q97⟩ => ?_
      -- the turn's end
      have fin7 : ∀ {s' : Shared} {H' : Hp}, Inv (X.blk s37 H37 scope ce7 fp7) ([] ++ pinsAt fp7 s77.heap) σ87 H' s' → Nx H' → ∃ m, m < n ∧ ∃ i H', Inv (X.blk s37 H37 scope ce7 fp7) [] (wipe σ (own.map (·.2))) H' s' ∧ tn7 i s'.heap ∧ (∀ b ∈ fp7, H' b = none) ∧ W i m H' := fun {s' H'} I' nx => by
        obtain ⟨m', hm, w'⟩ := hNx H' nx
        have pin' : ∀ b ∈ fp7, ∀ o, s77.heap.get? b = some o → s'.heap.get? b = some o ∧ H' b = none := fun b hb o e =>
          let z := I'.pin (b, o) (List.mem_append_right _ (List.mem_append_right _ (mem_pinsAt hb e)))
          ⟨z.1, z.2.1⟩
        have hl : (wipe σ (own.map (·.2))).length = σ87.length := by rw [← hw87, wipe_length]
        refine ⟨m', hm, i + 1, H', (I'.unpinned (pins := [])).weak hl (fun j v e => ?_), T7.keep _ _ _ st77 fun b hb o e => (pin' b hb o e).1, fun b hb => ?_, w'⟩
        · rw [← hw87] at e
          exact (wipe_some e).1
        · obtain ⟨o, e, _⟩ := T7.obj _ _ st77 b hb
          exact (pin' b hb o e).2
      cases b with
      | false =>
        simp only [Bool.false_eq_true, if_false] at q97 ⊢
        exact fin7 I97 q97
      | true =>
        simp only [if_true] at q97 ⊢
        refine thnF (pe7.run _ s97 σ87 H97 _ I97 q97) fun z s107 ⟨yv, H107, I107, r107, acc7, hD107, hz107, nx⟩ => ?_
        exact app_ok (X := X.blk s37 H37 scope ce7 fp7) I107 hD107 hz107 r107 fun s117 I117 => fin7 I117 nx
  exact codeAny_compStart_list loop7 (T7.self X.A 0 _ _ _ st47 loop7)
end
end MI
set_option maxRecDepth 100000
set_option maxHeartbeats 4000000
namespace MI
open PySem PySem.Spec PyProof.Rows L2 LamX NdefX
/-! ## the reading of a comprehension over lambdas -/
def capR (r : Rho) : Rho := r.map fun o => match o with
  | some (.d x) => some (.d x)
  | some (.gl x) => some (.gl x)
  | some (.scr x) => some (.scr x)
  | _ => none
def lcLX (g : FG) (t : FT) (e : FE) (r0 : Rho) : List IV → Sto → Out (List PyData)
  | [], S => .ok [] S
  | d :: ds, S => match g d r0 S with
    | .nx r1 S1 => (t r1 S1).bind fun k S2 => if k = true then (e r1 S2).bind fun v S3 => (match v with
        | .d x => (lcLX g t e r0 ds S3).bind fun xs S4 => .ok (x :: xs) S4
        | _ => .bad) else lcLX g t e r0 ds S2
    | _ => .bad
def eLcF (fz : Nat → Option (List Nat)) (i : Nat) (g : FG) (t : FT) (e : FE) (vs : List Nat) : FE := fun r S => match r[i]? with
  | some (some (.ref n)) => (match S[n]? with
    | some (.lsx us) => (match capVs fz r us with
      | some ws => if ws.length ≤ 1000000 then (match lcLX g t e (wipeR (capR r) vs) ws [] with
        | .ok xs _ => .ok (.d (.list xs)) S
        | _ => .bad) else .bad
      | none => .bad)
    | _ => .bad)
  | _ => .bad
section
variable {c : Ct} {W : WX} {X : Cx} {pins : List (Addr × Obj)} {B Z : List Addr} {σ : L2.St} {H H' : Hp} {s : Shared} {r : Rho} {S T : Sto} {P : Program} {w : World} {q : Addr → Option Obj} {h h' : Heap} {B' Zx : List Addr}
theorem thawB (k : CSet q H h) (e : Ev [] (addC H q) B' H') (s1 : SR c H' B' Zx T) (hok : HOk P w H' h') (s : SR c H B Z S) :
    Ev B H B (delC H' q) ∧ SR c (delC H' q) B Z S ∧ ∀ bd ds xs, RDs c.K H' bd ds xs → RDs c.K (delC H' q) bd ds xs := by
  have kq : ∀ b o, q b = some o → H' b = some (KpO b o) := fun b o z => e.keep b _ (addC_in z) (by simp) ntK
  have kp : ∀ a o, H a = some o → NT o → delC H' q a = some o := fun a o z nt => by
    have nq := k.sub a o z
    rw [delC_out nq]
    exact e.keep a o (by rw [addC_out nq]; exact z) (by simp) nt
  have th : ∀ a, H a ≠ none → delC H' q a ≠ none := fun a z => by
    cases za : H a with
    | none => exact absurd za z
    | some o =>
      have nq := k.sub a o za
      rw [delC_out nq]
      exact e.there a (by rw [addC_out nq, za]; simp)
  have e1 : Ev B H B (delC H' q) := ⟨⟨[], by simp, fun _ m => by cases m⟩, fun a o z _ nt => kp a o z nt, fun b hb => th b (s.trk b hb), th⟩
  refine ⟨e1, s.same e1 (tabs_del s1.tb hok kq fun b o z => (k.at_ b o z).2) fun b hb => ?_, fun bd ds xs r => r.monoD (fun a o hd z _ => ?_) fun a m => .inl m⟩
  · rcases s.kind hb with ⟨xs, y⟩ | ⟨xs, y⟩
    · rw [y]; exact kp b _ y ntL
    · rw [y]; exact kp b _ y ntD
  · cases zq : q a with
    | none => rw [delC_out zq]; exact z
    | some o' => rw [kq a o' zq] at z; exact absurd (Option.some.inj z).symm (datKp hd)
theorem rr_cap (rr : RR c H B Z r σ) (up : ∀ a o, H a = some o → H' a = some o) : RR c H' [] (B ++ Z) (capR r) σ := by
  refine ⟨by unfold capR; rw [List.length_map]; exact rr.len, fun i v hv => ?_⟩
  unfold capR at hv
  rw [List.getElem?_map] at hv
  cases hr : r[i]? with
  | none => rw [hr] at hv; cases hv
  | some o =>
    rw [hr] at hv
    cases o with
    | none => cases hv
    | some u =>
      obtain ⟨x, h1, h2⟩ := rr.at_ i u hr
      cases h2 with
      | d h2 => cases hv; exact ⟨x, h1, .d (h2.mono (fun a o z _ _ => up a o z) fun a m => .inl m)⟩
      | gl h2 => cases hv; exact ⟨_, h1, .gl h2⟩
      | scr h2 hb => cases hv; exact ⟨_, h1, .scr (rd_mono h2 ntL fun o z _ => up _ o z) hb⟩
      | scrK h2 => cases hv; exact ⟨_, h1, .scrK h2⟩
      | _ => cases hv
/-- the block's turns, its items any -/
theorem lcX_of {a D : Addr} {Z0 : List Addr} {g : FG} {t : FT} {e : FE} {vs : List Nat} {ws : List IV} {all : List PyData} {r0 : Rho} {T9 : Sto} {xs0 : List V} {Qd : Hp → Prop} (hg : GOk g) (ha0 : H a = some (.lst xs0)) (hri : RIs c H [] Z0 ws xs0) (s : SR c H [] Z0 []) (rr : RR c H [] Z0 r0 σ) (hD : H D = none) (hl : ws.length ≤ 1000000)
    (ha : lcLX g t e (wipeR r0 vs) ws [] = .ok all T9)
    (fin : ∀ B' H' xs, Ev [] H B' H' → SR c H' B' (D :: Z0) T9 → H' D = some (.lst xs) → RDs c.K H' (B' ++ D :: Z0) all xs → Qd H') :
    ∃ Wd : Nat → Nat → Hp → Prop, (∃ m, Wd 0 m (upd H D (.lst []))) ∧ ∀ i m H', Wd i m H' → ((Itl c.K a).stop i H' ∧ Qd H') ∨ ((Itl c.K a).go i H' ∧ ∃ Nx : Hp → Prop, (∀ H2, Nx H2 → ∃ m', m' < m ∧ Wd (i + 1) m' H2) ∧ ∀ x H2, (Itl c.K a).yld i H' x H2 →
      TGw c W0 vs g x (L2.wipe σ vs) H2 fun σ2 H3 => L2.wipe σ2 vs = L2.wipe σ vs ∧ TTx c W0 t σ2 H3 fun b H4 => if b = true then TEx c W0 e σ2 H4 fun y H5 => ∃ acc, H5 D = some (.lst acc) ∧ acc.length < sizeLine ∧ Nx (upd H5 D (.lst (acc ++ [y]))) else Nx H4) := by
  have hlen0 := hri.length
  refine lc_it (walk_list (K := c.K) (a := a) (xs := xs0)) (fun i H' => ∃ B' S' acc xs rest, Ev [] H B' H' ∧ SR c H' B' (D :: Z0) S' ∧ H' D = some (.lst xs) ∧ RDs c.K H' (B' ++ D :: Z0) acc xs ∧ acc.length ≤ i ∧ lcLX g t e (wipeR r0 vs) (ws.drop i) S' = .ok rest T9 ∧ all = acc ++ rest)
    ⟨[], [], [], [], all, Ev.new s hD, s.newZ hD (.inl ⟨_, rfl⟩), upd_same, .nil, Nat.le_refl _, ha, rfl⟩ (fun i H' _ ⟨B', S', acc, xs, rest, e', _⟩ => .of (e'.keep a _ ha0 (by simp) ntL)) ?_ ?_
  · rintro i x H' H2 hi ⟨B', S', acc, xs, rest, e', s', hx, ra, hlen, hL, hall⟩ y
    obtain ⟨rfl, hxi⟩ := y
    have hiw : i < ws.length := by rw [hlen0]; exact hi
    obtain ⟨x2, hx2, rd0⟩ := hri.nth (List.getElem?_eq_getElem hiw)
    rw [hxi] at hx2
    cases hx2
    have rd := rd0.evZ e' hD
    rw [List.drop_eq_getElem_cons hiw] at hL
    unfold lcLX at hL
    have go := hg ws[i] (wipeR r0 vs) S'
    cases hgo : g ws[i] (wipeR r0 vs) S' with
    | nx r1 S1 =>
      rw [hgo] at hL
      obtain ⟨k, S2, ht, hL⟩ := bind_ok hL
      refine ⟨B', D :: Z0, wipeR r0 vs, S', ws[i], s', (rr.wipe vs).evZ e' hD, rd, ?_⟩
      rw [hgo]
      intro σ2 B3 H3 e3 s3 rr3 hw
      refine ⟨hw.trans (wipe_idem σ vs), B3, D :: Z0, r1, S1, s3, rr3, ?_⟩
      rw [ht]
      intro B4 H4 e4 s4
      have e04 := (e'.trans e3).trans e4
      have eD4 := e3.trans e4
      have nD : D ∉ B' := s'.zb D List.mem_cons_self
      have hx4 : H4 D = some (.lst xs) := eD4.keep D _ hx nD ntL
      have ra4 := ra.ev eD4
      cases k with
      | false =>
        rw [if_neg (by decide)] at hL
        dsimp only
        rw [if_neg Bool.false_ne_true]
        exact ⟨B4, S2, acc, xs, rest, e04, s4, hx4, ra4, Nat.le_succ_of_le hlen, hL, hall⟩
      | true =>
        rw [if_pos rfl] at hL
        dsimp only
        rw [if_pos rfl]
        obtain ⟨v, S3, hv, hL⟩ := bind_ok hL
        refine ⟨B4, D :: Z0, r1, S2, s4, rr3.ev e4, ?_⟩
        rw [hv]
        intro B5 H5 e5 s5 y hy
        split at hL
        · rename_i xd
          obtain ⟨rest', S5, hr, hL⟩ := bind_ok hL
          cases hL
          have nD4 : D ∉ B4 := s4.zb D List.mem_cons_self
          have hx5 := e5.keep D _ hx4 nD4 ntL
          have ra5 := ra4.ev e5
          cases hy with
          | d hy =>
            have w := s5.wrZ (o := HO.lst (xs ++ [y])) (.inl ⟨_, hx5⟩) (.inl ⟨_, rfl⟩)
            have e5D : Ev [] H B5 (upd H5 D (.lst (xs ++ [y]))) := evD (e04.trans e5) hD (.inl ⟨_, hx5⟩)
            have lens := ra5.length
            refine ⟨xs, hx5, ?_, B5, S3, acc ++ [xd], xs ++ [y], rest', e5D, w.1, upd_same, ?_, ?_, hr, by rw [hall, List.append_assoc] <;> rfl⟩
            · rw [← lens]
              have : sizeLine = 16777216 := by decide
              omega
            · exact RDs.mono (fun a u h hb _ => by
                have : a ≠ D := fun q => hb (List.mem_append_right _ (by rw [q]; exact List.mem_cons_self))
                rw [upd_ne this]; exact h) (fun _ m => .inl m) (ra5.app (.cons hy .nil))
            · rw [List.length_append]
              simp
              omega
        · cases hL
    | exn n v r1 S1 => rw [hgo] at hL; cases hL
    | bad => rw [hgo] at hL; cases hL
    | ret v S1 => rw [hgo] at go; exact go.elim
    | brk r1 S1 => rw [hgo] at go; exact go.elim
    | ct r1 S1 => rw [hgo] at go; exact go.elim
  · rintro H' ⟨B', S', acc, xs, rest, e', s', hx, ra, hlen, hL, hall⟩
    rw [← hlen0, List.drop_length] at hL
    cases hL
    rw [List.append_nil] at hall
    subst hall
    exact fin B' H' xs e' s' hx ra
theorem tlcF_of {cn : List Str} {fz : Nat → Option (List Nat)} {i : Nat} {g : FG} {t : FT} {e : FE} {vs : List Nat} {Q : VK} (hK : c.K = X.K) (fk : FzK c X cn fz) (hg : GOk g) (hq : TEx c W (eLcF fz i g t e vs) σ H Q) :
    tLcF X pins cn (iAny X.K (tVar i)) (TGw c W0 vs g) (TTx c W0 t) (TEx c W0 e) vs σ H Q := by
  obtain ⟨B, Z, r, S, sr, rr, p⟩ := hq
  unfold eLcF at p
  split at p
  · rename_i n hr
    split at p
    · rename_i us hS
      split at p
      · rename_i ws hws
        split at p
        · rename_i hl
          split at p
          · rename_i all T hall
            obtain ⟨x, h1, h2⟩ := rr.at_ i _ hr
            cases h2 with
            | ref hB =>
              rename_i b
              obtain ⟨xs0, h3, h4⟩ := sr.ob n b _ hB hS
              refine ⟨_, h1, b, xs0, rfl, .inl ⟨.of h3, fun D s I hD hqD => ?_⟩⟩
              have k := capQ_ok (cn := cn) I
              have up : ∀ a o, H a = some o → addC H (capQ X s cn) a = some o := fun a o z => by rw [addC_out (k.sub _ _ z)]; exact z
              obtain ⟨_, s2, sF⟩ := chill k sr
              have hD' : addC H (capQ X s cn) D = none := by rw [addC_out hqD]; exact hD
              have eU : addC (upd H D (.lst [])) (capQ X s cn) = upd (addC H (capQ X s cn)) D (.lst []) := by
                funext b'
                by_cases hb : b' = D
                · rw [hb, addC_out hqD, upd_same, upd_same]
                · rw [upd_ne hb]
                  unfold addC
                  cases capQ X s cn b' with
                  | none => exact upd_ne hb
                  | some o => rfl
              rw [eU, ← hK]
              obtain ⟨Wd, w1, w2⟩ := lcX_of (c := c) (a := b) (D := D) (Z0 := B ++ Z) (t := t) (e := e) (vs := vs) (σ := σ) (Qd := fun H5 => (∀ b o, capQ X s cn b = some o → H5 b = some (KpO b o)) ∧ ∀ h', HOk X.prog X.w H5 h' → Q (.ref D) (delC H5 (capQ X s cn))) hg (up _ _ h3) (RIs.freeze I sr rr fk hws h4) sF (rr_cap rr up) hD' hl hall
                (fun B' H' ys e' s' hx ra => by
                  refine ⟨fun b o z => e'.keep b _ (addC_in z) (by simp) ntK, fun h' hok => ?_⟩
                  obtain ⟨t1, t2, t3⟩ := thawB k e' s' hok sr
                  refine p B _ t1 t2 _ (.d (.lst (by rw [delC_out hqD]; exact hx) (fun m => ?_) ((t3 _ _ _ ra).mono (fun _ _ z _ _ => z) fun a m => .inl (List.mem_append_right _ (List.mem_cons_of_mem _ m)))))
                  rcases List.mem_append.mp m with m | m
                  · exact sr.trk _ m hD
                  · exact kdNe (sr.zt _ m) hD)
              refine ⟨Wd, w1, fun i m H5 h5 => ?_⟩
              rcases w2 i m H5 h5 with ⟨z1, z2⟩ | z
              · exact .inl ⟨z1, z2⟩
              · exact .inr z
          · exact p.elim
        · exact p.elim
      · exact p.elim
    · exact p.elim
  · exact p.elim
theorem s_lcF {cn : List Str} {fz : Nat → Option (List Nat)} {i : Nat} {y : Str} {py : Pos} {elt tg : Expr} {ifs : List Expr} {scope : Scope} {own : List (Str × Nat)} {pos : Pos} {g : FG} {t : FT} {f : FE} (cx : Cxg c W X) (fk : FzK c X cn fz) (hc : X.calm = true) (hN : X.N.Nodup) (hy : X.N[i]? = some y) (hv : visC X.env.scope y = true) (ok : BlkOk X.N X.env.scope scope own) (hgo : GOk g)
    (hg : Blk X scope fun Y => PG Y tg (TGw c W0 (own.map (·.2)) g)) (ht : Blk X scope fun Y => PTs Y ifs (TTx c W0 t)) (he : Blk X scope fun Y => PE Y elt (TEx c W0 f)) (hcn : (cn.all fun y => !decide (scope.names.lookup y = some .free)) = true)
    (hs : ∀ x, foldedSetIterable (.Name y py) X.env x = pure x := by intro _; rfl) (hd : (y == ("__debug__" : Str)) = false := by decide) (hcd : (y == ("__classdict__" : Str)) = false := by decide) :
    PE X (.ListComp elt [⟨tg, .Name y py, ifs, 0⟩] scope pos) (TEx c W (eLcF fz i g t f (own.map (·.2)))) := by
  refine ⟨fun pins s σ H Q I h => ?_⟩
  rw [eval_ListComp]
  refine lc_coreF fk.fn hc hN I (pi_any (pe_var hy (vis_by hv) hd hcd)) ok (fun y hy e => ?_) hg ht he hs (tlcF_of cx.K.symm fk hgo h) fun D C s' m H' I' q hn f => ⟨m, hn, fun h'' sb => ?_⟩
  · have z := List.all_eq_true.mp hcn y hy
    rw [e] at z
    simp at z
  · obtain ⟨f0, f1, f2, f3, f4, f5⟩ := f
    exact ⟨.ref D, H', I'.turned (t' := s'.toks) (fun b o hb e => (sb.2 b hb).trans e) f0 f1 f3 f4 f5, rfl, q⟩
end
end MI
set_option maxRecDepth 100000
set_option maxHeartbeats 4000000
namespace MI
open PySem PySem.Spec PyProof.Rows L2 LamX NdefX
/-! ## a handed lambda is called: its body runs, its cells let go meanwhile -/
abbrev lamE (L : LI) (n f cc : Addr) (cl : List (Str × Addr)) : Env := PySem.W.envX L.qual L.scope n f (.ref cc) cl
def lamC (P : Program) (w : World) (c : Ct) (base : Heap) (L : LI) (A : Around) (outer : List Env) (s : Shared) (H : Hp) (E : XK) (f cc : Addr) (cl : List (Str × Addr)) : Cx where
  prog := P
  w := w
  K := c.K
  mg := c.mg
  base := base
  A := A.deeper (lamE L s.heap.objs.size f cc cl)
  N := L.fr
  s_0 := s
  H_0 := H
  env := lamE L s.heap.objs.size f cc cl
  outer := outer
  stack := lamE L s.heap.objs.size f cc cl :: outer
  ex := []
  fn := fun _ => false
  calm := true
  pn := []
  xe := fun e s' => wpAny (model P w) (A.deeper (lamE L s.heap.objs.size f cc cl)) (leaving (lamE L s.heap.objs.size f cc cl) e) (fun _ s'' => L2.CX P w outer H s E e s'') (fun e' s'' => L2.CX P w outer H s E e' s'') s'
structure LamOk (P : Program) (w : World) (c : Ct) (base : Heap) (j : Nat) (L : LI) (t : FE) : Prop where
  kind : L.scope.kind = .function
  co : L.scope.isCoroutine = false
  gen : L.scope.isGenerator = false
  own : ∀ y ∈ L.scope.names, y.2 ≠ .local ∧ y.2 ≠ .cell
  fr : ∀ y ∈ L.scope.names, y.2 = .free → y.1 ∈ L.fr
  bind : ∀ (q : Str) (cl : List (Str × Addr)) (pm cv ctv : Value), bindArgs (PySem.W.kla_fn "<lambda>" q L.params L.body L.scope cl pm cv ctv) ⟨[], []⟩ = pure []
  body : ∀ (A : Around) (outer : List Env) (s : Shared) (H : Hp) (E : XK) (f cc : Addr) (cl : List (Str × Addr)), Room j (A.deeper (lamE L s.heap.objs.size f cc cl)) → A.guards = some [] →
    PE (lamC P w c base L A outer s H E f cc cl) L.body (TEx c (fun cls d _ H => E cls d H) t)
/-- the lambdas of the text -/
def LamsOk (P : Program) (w : World) (c : Ct) (base : Heap) (j : Nat) (bt : Nat → FE) : Prop := ∀ k L, c.lam k = some L → LamOk P w c base j L (bt k)
def actV (bt : Nat → FE) (v : IV) (S : Sto) : Out IV := match v with
  | .clo k ds => (match bt k (ds.map fun d => some (.d d)) [] with
    | .ok u T => (match toD 0 T u with
      | some d => .ok (.d d) S
      | none => .bad)
    | .exn n x _ => .exn n x S
    | .bad => .bad)
  | _ => .bad
def eAct (bt : Nat → FE) (i : Nat) : FE := fun r S => match r[i]? with
  | some (some v) => actV bt v S
  | _ => .bad
section
variable {c : Ct} {W : WX} {X : Cx} {pins : List (Addr × Obj)} {B Z : List Addr} {σ : L2.St} {H H' : Hp} {s : Shared} {r : Rho} {S T : Sto} {P : Program} {w : World} {q : Addr → Option Obj} {h h' : Heap} {B' Zx : List Addr}
theorem thaw2B (kq : ∀ b o, q b = some o → H b = some (KpO b o)) (kc : CSet q H' h') (e : Ev [] (delC H q) B' H') (s1 : SR c H' B' Zx T) (s : SR c H B Z S) : Ev B H B (addC H' q) ∧ SR c (addC H' q) B Z S ∧ ∀ a o, H' a = some o → addC H' q a = some o := by
  have kp : ∀ a o, H a = some o → NT o → addC H' q a = some o := fun a o z nt => by
    cases zq : q a with
    | some u => rw [addC_in zq, ← z]; exact (kq a u zq).symm
    | none => rw [addC_out zq]; exact e.keep a o (by rw [delC_out zq]; exact z) (by simp) nt
  have th : ∀ a, H a ≠ none → addC H' q a ≠ none := fun a z => by
    cases zq : q a with
    | some u => rw [addC_in zq]; simp
    | none => rw [addC_out zq]; exact e.there a (by rw [delC_out zq]; exact z)
  have e1 : Ev B H B (addC H' q) := ⟨⟨[], by simp, fun _ m => by cases m⟩, fun a o z _ nt => kp a o z nt, fun b hb => th b (s.trk b hb), th⟩
  refine ⟨e1, s.same e1 (tabs_add kc s1.tb) fun b hb => ?_, fun a o z => by rw [addC_out (kc.sub _ _ z)]; exact z⟩
  rcases s.kind hb with ⟨xs, y⟩ | ⟨xs, y⟩
  · rw [y]; exact kp b _ y ntL
  · rw [y]; exact kp b _ y ntD
theorem thaw2U {fs ex : List Addr} (kq : ∀ b o, q b = some o → H b = some (KpO b o)) (kc : CSet q H' h') (hok : HOk P w H' h') (un : Un fs ex (delC H q) H' h h') : Un fs ex H (addC H' q) h h' ∧ HOk P w (addC H' q) h' := by
  have out : ∀ a o, H a = some o → (∀ u, o ≠ KpO a u) → q a = none := fun a o z n => by
    cases zq : q a with
    | none => rfl
    | some u => rw [kq a u zq] at z; exact absurd (Option.some.inj z).symm (n u)
  refine ⟨⟨fun b o z n hb hx => ?_, fun b o z n hb hx => ?_, fun b o z n hx => ?_, un.there, fun b xs z => ?_, fun b o u z => ?_, fun b ps z => ?_⟩, HOk.addC hok kc⟩
  · cases zq : q b with
    | some o' => rw [kq b o' zq] at n; cases n
    | none => exact un.keep b o z (by rw [delC_out zq]; exact n) hb hx
  · cases zq : q b with
    | some o' => rw [kq b o' zq] at n; cases n
    | none => exact un.slot b o z (by rw [delC_out zq]; exact n) hb hx
  · cases zq : q b with
    | some o' => rw [kq b o' zq] at n; cases n
    | none => rw [addC_out zq]; exact un.free b o z (by rw [delC_out zq]; exact n) hx
  · have nq := out _ _ z fun u y => by unfold KpO at y; cases y
    rw [addC_out nq]; exact un.tups b xs (by rw [delC_out nq]; exact z)
  · have nq := out _ _ z fun u y => by unfold KpO at y; cases y
    rw [addC_out nq]; exact un.frzs b o u (by rw [delC_out nq]; exact z)
  · have nq := out _ _ z fun u y => by unfold KpO at y; cases y
    obtain ⟨more, y⟩ := un.tbls b ps (by rw [delC_out nq]; exact z)
    exact ⟨more, by rw [addC_out nq]; exact y⟩
theorem thaw2X {outer : List Env} {E E' : XK} {u : Value} {s s' : Shared} (kq : ∀ b o, q b = some o → H b = some (KpO b o) ∧ s.heap.get? b = some o ∧ ∃ u, o.data = .cell u) (hf : ∀ b o, q b = some o → b ∉ frs outer) (x : L2.CX P w outer (delC H q) s E u s')
    (k : ∀ cls d H' h', CSet q H' h' → E cls d H' → E' cls d (addC H' q)) : L2.CX P w outer H s E' u s' := by
  obtain ⟨a, Bh, H', cls, d, hu, fl, hok, ub, na, os, bare, hE⟩ := x
  have same : ∀ b o, q b = some o → Bh.get? b = some o := fun b o z => ub.keep b o (kq b o z).2.1 (delC_in z) (hf b o z)
  have gone : ∀ b o, q b = some o → H' b = none := fun b o z => ub.free b o (kq b o z).2.1 (delC_in z)
  have kc : CSet q H' Bh := ⟨fun b o z => ⟨same b o z, (kq b o z).2.2⟩, gone⟩
  have out : ∀ a o, H a = some o → (∀ u, o ≠ KpO a u) → q a = none := fun a o z n => by
    cases zq : q a with
    | none => rfl
    | some u => rw [(kq a u zq).1] at z; exact absurd (Option.some.inj z).symm (n u)
  refine ⟨a, Bh, addC H' q, cls, d, hu, fl, HOk.addC hok kc, ⟨fun b o z n hb => ?_, ub.slot, fun b o z n => ?_, ub.there, fun b xs z => ?_, fun b o u z => ?_, fun b ps z => ?_⟩, ?_, os, bare, k cls d H' Bh kc hE⟩
  · cases zq : q b with
    | some o' => rw [(kq b o' zq).1] at n; cases n
    | none => exact ub.keep b o z (by rw [delC_out zq]; exact n) hb
  · cases zq : q b with
    | some o' => rw [(kq b o' zq).1] at n; cases n
    | none => rw [addC_out zq]; exact ub.free b o z (by rw [delC_out zq]; exact n)
  · have nq := out _ _ z fun u y => by unfold KpO at y; cases y
    rw [addC_out nq]; exact ub.tups b xs (by rw [delC_out nq]; exact z)
  · have nq := out _ _ z fun u y => by unfold KpO at y; cases y
    rw [addC_out nq]; exact ub.frzs b o u (by rw [delC_out nq]; exact z)
  · have nq := out _ _ z fun u y => by unfold KpO at y; cases y
    obtain ⟨more, y⟩ := ub.tbls b ps (by rw [delC_out nq]; exact z)
    exact ⟨more, by rw [addC_out nq]; exact y⟩
  · cases zq : q a with
    | none => rw [addC_out zq]; exact na
    | some o =>
      have z := fl.2.1
      rw [same a o zq] at z
      cases z
/-- the lambda's start -/
theorem lamC_start {A : Around} {outer : List Env} {E : XK} {L : LI} {t : FE} {j : Nat} {base : Heap} {f cc : Addr} {cl : List (Str × Addr)} {ws : List V} {h₁ : Heap} {tk : Nat} (lo : LamOk P w c base j L t) (e0 : Env0 P w c.K c.mg base A outer s H) (hd : A.handled = none)
    (hlen : ws.length = L.fr.length) (inj : ∀ x y a, cl.lookup x = some a → cl.lookup y = some a → x = y)
    (hall : ∀ y a, cl.lookup y = some a → H a = none ∧ ∃ v, s.heap.IsCell a v) (hat : ∀ (i : Nat) (y : Str), L.fr[i]? = some y → ∃ (a : Addr) (v : V) (u : Value), cl.lookup y = some a ∧ s.heap.IsCell a (some u) ∧ ws[i]? = some v ∧ RelV v u)
    (hns : h₁.Ns s.heap.objs.size fun y => ([] : List (Str × Value)).reverse.lookup y) (kp : ∀ b o, s.heap.get? b = some o → h₁.get? b = some o) :
    Inv (lamC P w c base L A outer s H E f cc cl) [] (ws.map some) H { s with heap := h₁, toks := tk } := by
  have noA : ∀ b : Addr, b ∉ (lamC P w c base L A outer s H E f cc cl).ex := fun b z => absurd (show b ∈ ([] : List Addr) from z) (by simp)
  have look : ∀ {y}, L.scope.names.lookup y = some .free → ∃ a, cl.lookup y = some a := fun {y} hl => by
    obtain ⟨i, hi⟩ := List.getElem?_of_mem (lo.fr _ (PySem.mem_of_lookup hl) rfl)
    obtain ⟨a, _, _, h1, _⟩ := hat i y hi
    exact ⟨a, h1⟩
  refine ⟨⟨e0.mod, lo.kind, rfl, rfl, Nat.le_refl _, inj, fun y hy => ?_, fun y a z _ => ?_, fun _ => hd, Around.frames_deeper e0.frames, .inr ⟨rfl, rfl⟩, fun b z => absurd z (noA b), e0.bs, e0.bsz, fun b _ _ => noA b, fun b z => absurd z (noA b), e0.funs, e0.frf⟩,
    rfl, e0.bare, Un.kept kp, ⟨_, hns, fun i y v e1 e2 e3 => ?_⟩, fun y a e => ?_, e0.hok.fresh (Nat.le_refl _), fun y a e => (hall y a e).1, fun q hq => absurd (show q ∈ ([] : List (Addr × Obj)) ++ [] from hq) (by simp), e0.hok.kept kp, by rw [List.length_map]; exact hlen⟩
  · have hy : L.scope.names.lookup y = some .cell ∨ L.scope.names.lookup y = some .free := hy
    rcases hy with hy | hy
    · exact absurd rfl (lo.own _ (PySem.mem_of_lookup hy)).2
    · exact look hy
  · have z : false = true := z
    cases z
  · have e1 : L.fr[i]? = some y := e1
    obtain ⟨a, v', u, h1, h2, h3, h4⟩ := hat i y e1
    rw [List.getElem?_map, h3] at e2
    cases e2
    have e3 : Vis L.scope y := e3
    have k : L.scope.names.lookup y = some .free := by
      rcases e3 with k | k | k
      · exact absurd rfl (lo.own _ (PySem.mem_of_lookup k)).1
      · exact absurd rfl (lo.own _ (PySem.mem_of_lookup k)).2
      · exact k
    exact ⟨u, h4, .inr ⟨.inr k, a, h1, h2.keeps kp⟩⟩
  · obtain ⟨v, z⟩ := (hall y a e).2
    exact ⟨v, z.keeps kp⟩
noncomputable def clQ (h : Heap) (cl : List (Str × Addr)) : Addr → Option Obj := fun b => by
  classical exact if ∃ y, cl.lookup y = some b then h.get? b else none
theorem clQ_some {cl : List (Str × Addr)} {b : Addr} {o : Obj} (z : clQ h cl b = some o) : h.get? b = some o ∧ ∃ y, cl.lookup y = some b := by
  unfold clQ at z
  split at z
  · rename_i hy; exact ⟨z, hy⟩
  · cases z
theorem clQ_at {cl : List (Str × Addr)} {b : Addr} {y : Str} (e : cl.lookup y = some b) : clQ h cl b = h.get? b := by
  unfold clQ
  rw [if_pos ⟨y, e⟩]
theorem s_act {bt : Nat → FE} {i j : Nat} {y : Str} {p1 p2 : Pos} (cx : Cxg c W X) (hr : Room (j + 1) X.A) (hcalm : X.A.handled = none) (lm : LamsOk X.prog X.w c X.base j bt) (hN : X.N[i]? = some y) (hv : visC X.env.scope y = true)
    (hd : (y == ("__debug__" : Str)) = false := by decide) (hcd : (y == ("__classdict__" : Str)) = false := by decide) : PE X (.Call (.Name y p1) [] [] p2) (TEx c W (eAct bt i)) := by
  refine ⟨fun pins s0 σ H0 Q I0 ⟨B, Z, r, S, sr, rr, p⟩ => ?_⟩
  unfold eAct at p
  split at p
  · rename_i v0 hv0
    obtain ⟨x0, hx0, rx⟩ := rr.at_ i v0 hv0
    unfold actV at p
    split at p
    · rename_i k ds
      cases rx with
      | clo hk hL hb hco hcb cs rds =>
        rename_i f cc L cl ws
        refine wpAny_Call_Name_kw (thn ((pe_var (pos := p1) (i := i) hN (vis_by hv) hd hcd).run pins s0 σ H0 (fun v H1 => v = .ref f ∧ H1 = H0) I0 ⟨.ref f, hx0, rfl, rfl⟩) fun u s ⟨v, H, I, r1, q1⟩ => ?_)
        obtain ⟨rfl, rfl⟩ := q1
        obtain rfl : u = Value.ref f := r1
        obtain ⟨⟨pm, ctv, hfo⟩, _⟩ := I.hok f _ hL
        refine PySem.W.callWith_F0 ⟨_, _, _, _, hfo⟩ ?_
        obtain ⟨⟨oc, vs, t, hoc, hdc, hvc⟩, _, _⟩ := I.hok cc _ hco
        have lo := lm k L hk
        have e0 := I.env0
        -- the cells
        have cell : ∀ b o, clQ s.heap cl b = some o → H b = some (KpO b o) ∧ s.heap.get? b = some o ∧ (∃ u, o.data = .cell u) ∧ b ∉ B ++ Z := fun b o z => by
          obtain ⟨h1, y', h2⟩ := clQ_some z
          obtain ⟨n, hn⟩ := List.getElem?_of_mem (cs.all y' b h2)
          obtain ⟨a, o', w', u', c1, c2, c3, c4, c5, c6⟩ := cs.at_ n y' hn
          rw [h2] at c1
          cases c1
          have c7 : s.heap.get? b = some o' := (I.hok b _ c2).1
          rw [h1] at c7
          cases c7
          exact ⟨c2, h1, ⟨_, c4⟩, c3⟩
        have e1 : Env0 X.prog X.w c.K c.mg X.base X.A X.stack s (delC H (clQ s.heap cl)) := by
          rw [← cx.K, ← cx.mg]
          have no : ∀ b, H b = none → delC H (clQ s.heap cl) b = none := fun b z => by
            cases zq : clQ s.heap cl b with
            | some o => exact delC_in zq
            | none => rw [delC_out zq]; exact z
          exact ⟨e0.frames, e0.mod, fun b o z => ⟨(e0.bs b o z).1, no b (e0.bs b o z).2⟩, e0.bsz, e0.funs, fun b hb => no b (e0.frf b hb), HOk.delC e0.hok fun b o z => (cell b o z).1, e0.bare⟩
        have nfr : ∀ b o, clQ s.heap cl b = some o → b ∉ frs X.stack := fun b o z hb => by
          have := e0.frf b hb
          rw [(cell b o z).1] at this
          cases this
        have s0' : SR c (delC H (clQ s.heap cl)) [] (B ++ Z) [] := by
          refine ⟨rfl, .nil, fun z hz => ?_, fun z _ m => (by cases m), fun n b o z => (by simp at z), tabs_del sr.tb I.hok (fun b o z => (cell b o z).1) fun b o z => (cell b o z).2.2.1⟩
          have kd : Kd H z := by
            rcases List.mem_append.mp hz with m | m
            · exact sr.kind m
            · exact sr.zt z m
          refine kdKeep kd fun o' h _ => ?_
          cases zq : clQ s.heap cl z with
          | some o => exact absurd hz (cell z o zq).2.2.2
          | none => rw [delC_out zq]; exact h
        have rr0 : RR c (delC H (clQ s.heap cl)) [] (B ++ Z) (ds.map fun d => some (.d d)) (ws.map some) := by
          have rds' : RDs c.K (delC H (clQ s.heap cl)) (B ++ Z) ds ws := rds.monoD (fun a o hdo z _ => by
            cases zq : clQ s.heap cl a with
            | some u => rw [(cell a u zq).1] at z; exact absurd (Option.some.inj z).symm (datKp hdo)
            | none => rw [delC_out zq]; exact z) fun a m => .inl m
          refine ⟨by rw [List.length_map, List.length_map]; exact rds.length, fun n v hv => ?_⟩
          rw [List.getElem?_map] at hv
          cases hn : ds[n]? with
          | none => rw [hn] at hv; cases hv
          | some d =>
            rw [hn] at hv
            cases hv
            obtain ⟨x, g1, g2⟩ := rds'.get hn
            exact ⟨x, by rw [List.getElem?_map, g1] <;> rfl, .d g2⟩
        have rc : codeAny (model X.prog X.w) X.A (.call (.ref f) ⟨[], []⟩) (CR (L2.CX X.prog X.w) X.stack X.prog X.w (delC H (clQ s.heap cl)) s (fun x H' => ∃ B' T u d, Ev [] (delC H (clQ s.heap cl)) B' H' ∧ SR c H' B' (B ++ Z) T ∧ RD c.K H' (B ++ Z) d x ∧ toD 0 T u = some d ∧ bt k (ds.map fun d => some (.d d)) [] = .ok u T)
            (fun cls d H' => ∃ B' T n x, Ev [] (delC H (clQ s.heap cl)) B' H' ∧ SR c H' B' (B ++ Z) T ∧ RX c H' (B' ++ (B ++ Z)) n x cls d ∧ bt k (ds.map fun d => some (.d d)) [] = .exn n x T)) s := by
          refine PySem.W.kla_callFunE hr.depth hfo rfl lo.co lo.gen rfl ⟨cc, oc, vs, t, rfl, hoc, hdc, hvc⟩ ?_
          rw [lo.bind]
          refine wpAny_pure (wpAny_newFunctionEnv (fun y hy => (lo.own y hy).2) (fun y hy => absurd hy (by simp)) (fun h₁ hns hsb => ⟨I.nolimit.fresh _ hsb, ?_⟩) lo.kind)
          show codeAny _ _ (.expr L.body (lamE L s.heap.objs.size f cc cl)) _ _
          have kp : ∀ b o, s.heap.get? b = some o → h₁.get? b = some o := fun b o e => hsb.extBut b o (Nat.ne_of_lt (Heap.lt_size e)) (Heap.get?_push_of_some _ e)
          have J := lamC_start (f := f) (cc := cc) (E := fun cls d H' => ∃ B' T n x, Ev [] (delC H (clQ s.heap cl)) B' H' ∧ SR c H' B' (B ++ Z) T ∧ RX c H' (B' ++ (B ++ Z)) n x cls d ∧ bt k (ds.map fun d => some (.d d)) [] = .exn n x T) (tk := s.toks + ([] : List (Str × Value)).length) lo e1 hcalm cs.len cs.inj (fun y a e => by
            obtain ⟨n, hn⟩ := List.getElem?_of_mem (cs.all y a e)
            obtain ⟨a', o', w', u', c1, c2, c3, c4, c5, c6⟩ := cs.at_ n y hn
            rw [e] at c1
            cases c1
            have c7 : s.heap.get? a = some o' := (I.hok a _ c2).1
            exact ⟨delC_in (by rw [clQ_at e]; exact c7), _, o', c7, c4⟩) (fun n y hn => by
            obtain ⟨a', o', w', u', c1, c2, c3, c4, c5, c6⟩ := cs.at_ n y hn
            exact ⟨a', w', u', c1, ⟨o', (I.hok a' _ c2).1, c4⟩, c5, c6⟩) hns kp
          refine PySem.W.kla_codeExpr (wpAny_mono ((lo.body _ _ s _ _ f cc cl (hr.deeper _) cx.gu).run [] _ _ _ (fun x H' => ∃ B' T u d, Ev [] (delC H (clQ s.heap cl)) B' H' ∧ SR c H' B' (B ++ Z) T ∧ RD c.K H' (B ++ Z) d x ∧ toD 0 T u = some d ∧ bt k (ds.map fun d => some (.d d)) [] = .ok u T) J ⟨[], B ++ Z, _, [], s0', rr0, ?_⟩) (fun v s' hq => ?_) fun e s' hq => hq)
          · cases hbt : bt k (ds.map fun d => some (.d d)) [] with
            | bad => rw [hbt] at p; exact p.elim
            | exn n x T => exact fun cls dd B' H' e s rx => ⟨B', T, n, x, e, s, rx, rfl⟩
            | ok u T =>
              rw [hbt] at p
              intro B' H' e' s' x hx
              cases hd : toD 0 T u with
              | none => simp only [hd] at p; exact p.elim
              | some d => exact ⟨B', T, u, d, e', s', toD_new s' (new_out e' fun b hb => kdNe (s0'.zt b hb)) hd hx, hd, rfl⟩
          · obtain ⟨w', H', J', rv, q⟩ := hq
            exact ⟨w', H', J'.os, J'.bare, J'.base, J'.hok, rv, q⟩
        refine wpAny_call (codeAny_mono rc fun rs s' hq => ?_)
        cases rs with
        | error e =>
          refine passAt cx.tk σ pins H s e s' I (thaw2X (E' := WE W σ) (fun b o z => ⟨(cell b o z).1, (cell b o z).2.1, (cell b o z).2.2.1⟩) nfr hq fun cls d H' h' kc ⟨B', T, n, x, e', s', rx, hbt⟩ => ?_)
          rw [hbt] at p
          obtain ⟨t1, t2, t3⟩ := thaw2B (fun b o z => (cell b o z).1) kc e' s' sr
          obtain ⟨C, dx, yv, a1, a2, a3, a4, a5, a6⟩ := rx
          exact p cls d B _ t1 t2 ⟨C, dx, yv, a1, a2, a3, t3 _ _ a4, fun m => a5 (List.mem_append_right _ m), a6.mono (fun a o z _ _ => t3 a o z) fun a m => .inl (List.mem_append_right _ m)⟩
        | ok fl =>
          cases fl with
          | ret u =>
            obtain ⟨x, H', os, bare, un, hok, rv, B', T, u', d, e', sT, rd, hd, hbt⟩ := hq
            rw [hbt] at p
            simp only [hd] at p
            have kc : CSet (clQ s.heap cl) H' s'.heap := ⟨fun b o z => ⟨un.keep b o (cell b o z).2.1 (delC_in z) (nfr b o z) (by simp), (cell b o z).2.2.1⟩, fun b o z => un.free b o (cell b o z).2.1 (delC_in z) (by simp)⟩
            obtain ⟨t1, t2, t3⟩ := thaw2B (fun b o z => (cell b o z).1) kc e' sT sr
            obtain ⟨u1, u2⟩ := thaw2U (fun b o z => (cell b o z).1) kc hok un
            exact I.after ⟨x, _, os, bare, u1, u2, rv, p B _ t1 t2 x (.d (rd.mono (fun a o z _ _ => t3 a o z) fun a m => .inl m))⟩
          | next => exact hq.elim
          | brk => exact hq.elim
          | cont => exact hq.elim
    · exact p.elim
  · exact p.elim
end
end MI
set_option maxRecDepth 100000
set_option maxHeartbeats 4000000
namespace MI
open PySem PySem.Spec PyProof.Rows L2 LamX NdefX
/-! ## a def that makes lambdas -/
def plainI : IV → Bool
  | .d _ => true
  | .ref _ => true
  | .gl _ => true
  | .scr _ => true
  | _ => false
def plainO : IO → Bool
  | .lsx _ => false
  | _ => true
def killO : IO → IO
  | .lsx _ => .dead
  | o => o
def killW : Out IV → Out IV
  | .ok (.d x) T => .ok (.d x) (T.map killO)
  | .exn n v T => .exn n v (T.map killO)
  | _ => .bad
def fnL (n : Nat) (fs : FS) : FN := fun is S => if is.all plainI && S.all plainO then killW (fnB n fs is S) else .bad
section
variable {c c' : Ct} {B Z : List Addr} {H : Hp} {S : Sto}
structure SameCt (c c' : Ct) : Prop where
  K : c'.K = c.K
  mg : c'.mg = c.mg
  T : c'.T = c.T
theorem RI.own (k : SameCt c c') {v : IV} {x : V} (h : plainI v = true) (r : RI c H B Z v x) : RI c' H B Z v x := by
  cases r with
  | d r => exact .d (by rw [k.K]; exact r)
  | ref r => exact .ref r
  | gl r => exact .gl (by rw [k.mg]; exact r)
  | scr r hb => exact .scr r hb
  | scrK r => exact .scrK (by rw [k.K]; exact r)
  | _ => cases h
theorem RIs.own (k : SameCt c c') : ∀ {v : List IV} {x : List V}, v.all plainI = true → RIs c H B Z v x → RIs c' H B Z v x
  | _, _, _, .nil => .nil
  | _, _, h, .cons r t => by
    rw [List.all_cons, Bool.and_eq_true] at h
    exact .cons (r.own k h.1) (RIs.own k h.2 t)
theorem SR.own (k : SameCt c c') (h : S.all plainO = true) (s : SR c H B Z S) : SR c' H B Z S := by
  refine ⟨s.len, s.nd, s.zt, s.zb, fun n b o hb ho => ?_, by rw [k.T]; exact s.tb⟩
  have r := s.ob n b o hb ho
  have z := List.all_eq_true.mp h o (List.mem_of_getElem? ho)
  cases o with
  | lst ds => obtain ⟨xs, h1, h2⟩ := r; exact ⟨xs, h1, by rw [k.K]; exact h2⟩
  | lsx ds => cases z
  | dct _ => obtain ⟨xs, h1, h2, h3⟩ := r; exact ⟨xs, h1, h2, by rw [k.K]; exact h3⟩
  | dead => exact r
theorem SR.kill (k : SameCt c c') (s : SR c' H B Z S) : SR c H B Z (S.map killO) := by
  refine ⟨by rw [List.length_map]; exact s.len, s.nd, s.zt, s.zb, fun n b o hb ho => ?_, by rw [← k.T]; exact s.tb⟩
  rw [List.getElem?_map] at ho
  cases hn : S[n]? with
  | none => rw [hn] at ho; cases ho
  | some o' =>
    rw [hn] at ho
    cases ho
    have r := s.ob n b o' hb hn
    cases o' with
    | lst ds => obtain ⟨xs, h1, h2⟩ := r; exact ⟨xs, h1, by rw [← k.K]; exact h2⟩
    | lsx ds => obtain ⟨xs, h1, h2⟩ := r; exact ⟨xs, h1⟩
    | dct _ => obtain ⟨xs, h1, h2, h3⟩ := r; exact ⟨xs, h1, h2, by rw [← k.K]; exact h3⟩
    | dead => exact r
theorem Post.own (k : SameCt c c') {W : WX} {σ : L2.St} {o : Out IV} {Q : VK} (h : Post c W B Z H σ (killW o) fun v _ B' H' => ∀ x, RI c H' B' Z v x → Q x H') : Post c' W B Z H σ o fun v _ B' H' => ∀ x, RI c' H' B' Z v x → Q x H' := by
  cases o with
  | bad => exact h
  | exn n v T =>
    have h : Post c W B Z H σ (.exn n v (T.map killO)) (fun v _ B' H' => ∀ x, RI c H' B' Z v x → Q x H') := h
    intro cls dd B' H' e s rx
    refine h cls dd B' H' e (s.kill k) ?_
    obtain ⟨C, dx, y, a1, a2, a3, a4, a5, a6⟩ := rx
    exact ⟨C, dx, y, by rw [← k.mg]; exact a1, a2, a3, a4, a5, by rw [← k.K]; exact a6⟩
  | ok v T =>
    cases v with
    | d y =>
      have h : Post c W B Z H σ (.ok (.d y) (T.map killO)) (fun v _ B' H' => ∀ x, RI c H' B' Z v x → Q x H') := h
      intro B' H' e s x r
      refine h B' H' e (s.kill k) x ?_
      cases r with
      | d r => exact .d (by rw [← k.K]; exact r)
    | _ => exact h.elim
end
section
variable {P : Program} {w : World} {c : Ct} {base : Heap}
theorem fun_okL {x qual : Str} {params : Arguments} {body : List Stmt} {scope : Scope} {kws : List (Str × V)} {fd : FuncData} {N ps : List Str} {k : Nat} {fs : FS} {p : Str × Option Str} (F : FunD c.K x qual params body scope [] kws (He.fAd c.K p) fd) (S : FnScope N ps scope)
    (hbody : ∀ (A : Around) (outer : List Env) (s : Shared) (H : Hp) (E : XK), Room k (A.deeper (envOfC qual scope s.heap.objs.size (He.fAd c.K p) (.ref (He.codeOf c.K p)))) → A.guards = some [] →
      PSs (cxOf (L2.CX P w) P w c.K c.mg base N qual scope (He.fAd c.K p) (.ref (He.codeOf c.K p)) A outer s H E) body (TSx { c with own := (envOfC qual scope s.heap.objs.size (He.fAd c.K p) (.ref (He.codeOf c.K p))).cells } (fun cls d _ H => E cls d H) fs)) :
    FnG P w c base (k + 1) (He.fAd c.K p) fd ps (fnL N.length fs) := by
  obtain ⟨oc, od, dV, kV, doc, pm, an, cdv, ct, osl, rfl, lk, hcd, _, _⟩ := F.ex
  obtain ⟨cd, rfl⟩ := He.codeIn_ref hcd
  have ecd := He.codeOf_eq lk (c := cd) rfl
  rw [ecd] at hbody
  refine ⟨fun A outer s H args us vs Q E B Z S0 is hr hgu e0 hb rv hlen sr0 ri0 hp => ?_⟩
  unfold fnL at hp
  cases hpl : (is.all plainI && S0.all plainO) with
  | false => rw [hpl] at hp; exact hp.elim
  | true =>
    rw [hpl, if_pos rfl] at hp
    rw [Bool.and_eq_true] at hpl
    have kk : SameCt c { c with own := (envOfC qual scope s.heap.objs.size (He.fAd c.K p) (.ref cd)).cells } := ⟨rfl, rfl, rfl⟩
    have hp := Post.own kk hp
    have sr := sr0.own kk hpl.2
    have ri := ri0.own kk hpl.1
    have inH : c.K.In s.heap := e0.mod.kin.keeps fun b o e => (e0.bs b o e).1
    have noL : s.heap.NoLimit := e0.mod.nolimit.keeps fun b o e => (e0.bs b o e).1
    have kinds : ∀ y ∈ ps.zip us, scope.names.lookup y.1 = some .local ∨ (scope.names.lookup y.1 = some .cell ∧ ((cellsFrom (s.heap.objs.size + 1) scope.names []).lookup y.1).isSome = true) := fun ⟨n, v⟩ hy => by
      rcases S.par n (List.of_mem_zip hy).1 with q | q
      · exact .inl q
      · exact .inr ⟨q, PySem.W.cellsFrom_some _ _ _ (.inl q)⟩
    refine codeAny_call_function hr.depth (inH _ _ lk) rfl S.co S.gen rfl (PySem.W.codeRec_of inH hcd) (hb _ _ _ _ ?_)
    refine wpAny_newFunctionEnv_cells S.kind kinds fun env he s1 x => ?_
    subst he
    refine ⟨noL.keeps x.toInCall.keep, codeAny_func ?_⟩
    have I := inv_start (CX := L2.CX P w) (E := E) S hr.hd e0 hlen rv x
    unfold fnB at hp
    by_cases hle : is.length ≤ N.length
    · rw [if_pos hle] at hp
      have pr : TSx { c with own := (envOfC qual scope s.heap.objs.size (He.fAd c.K p) (.ref cd)).cells } (fun cls d _ H => E cls d H) fs { nx := fun _ H' => Q .non H', rt := Q } (L2.start N vs) H := by
        refine ⟨B, Z, _, S0, sr, rr_start ri hle, ?_⟩
        cases q : fs (is.map some ++ List.replicate (N.length - is.length) none) S0 with
        | nx r1 S1 =>
          rw [q] at hp
          exact fun σ1 B1 H1 e s _ => hp B1 H1 e s .non (.d .non)
        | ret v1 S1 =>
          rw [q] at hp
          exact fun x1 B1 H1 e s r => hp B1 H1 e s x1 r
        | exn n1 v1 r1 S1 =>
          rw [q] at hp
          exact fun cls d1 σ1 B1 H1 e s _ rx => hp cls d1 B1 H1 e s rx
        | brk r1 S1 => rw [q] at hp; exact hp.elim
        | ct r1 S1 => rw [q] at hp; exact hp.elim
        | bad => rw [q] at hp; exact hp.elim
      refine wpAny_mono ((hbody A outer s H E (hr.deeper _) hgu).run [] s1 (L2.start N vs) H _ I pr) (fun fl s2 hs => ?_) fun e s2 hs => hs
      have done : ∀ {σ' : L2.St} {H' : Hp} {v : V} {u : Value}, Inv (cxOf (L2.CX P w) P w c.K c.mg base N qual scope (He.fAd c.K p) (.ref cd) A outer s H E) [] σ' H' s2 → RelV v u → Q v H' → CE outer P w H s Q u s2 :=
        fun {σ' H' v u} J r q => ⟨v, H', J.os, J.bare, J.base, J.hok, r, q⟩
      cases fl with
      | ret u => obtain ⟨v, σ', H', J, r, q⟩ := hs; exact done J r q
      | next => obtain ⟨σ', H', J, q⟩ := hs; exact done (v := V.non) (u := Value.none) J rfl q
      | brk => obtain ⟨_, _, _, q⟩ := hs; exact q.elim
      | cont => obtain ⟨_, _, _, q⟩ := hs; exact q.elim
    · rw [if_neg hle] at hp
      exact hp.elim
/-- a def's promise in another frame's context -/
theorem mkl_of {N : List Str} {qual : Str} {scope : Scope} {f : Addr} {cd P0 : Addr} {A : Around} {outer : List Env} {s : Shared} {H : Hp} {E : XK} (TB : TabB base c.mg cd P0) (hm : (P0, (envOfC qual scope s.heap.objs.size f (.ref cd)).qual ++ "<lambda>") ∈ c.T) (hu : ∀ p ∈ c.T, p.1 = P0 → p.2 = (envOfC qual scope s.heap.objs.size f (.ref cd)).qual ++ "<lambda>") :
    MkL { c with own := (envOfC qual scope s.heap.objs.size f (.ref cd)).cells } (cxOf (L2.CX P w) P w c.K c.mg base N qual scope f (.ref cd) A outer s H E) :=
  ⟨rfl, cd, P0, TB, rfl, hm, hu⟩
end
end MI
set_option maxRecDepth 100000
set_option maxHeartbeats 4000000
namespace MI
open PySem PySem.Spec PyProof.Rows L2 LamX NdefX
/-! ## own exception classes, by one Bool -/
def oexB (K : PySem.W.Frag) (C : Addr) : Bool := match K.lookup C with
  | some ⟨.type t, _, .cls cd, sl⟩ => decide (t = "type") && (match cd.mro, sl.toList with
    | .ref C' :: bm, [_, _, _, _, some (.builtin n), _] => decide (C' = C) && (decide (n = "ValueError.__new__") && (!cd.hasDel && (cd.hasDict && PySem.HandSPX.refsVE bm)))
    | _, _ => false)
  | _ => false
theorem oexB_ok {K : PySem.W.Frag} {C : Addr} (h : oexB K C = true) : ∃ nm q N bs bm sn sub ab col dd k0 k1 k2 k3 k5, K.lookup C = some (excClassObj nm q C N bs bm true sn sub ab col dd k0 k1 k2 k3 k5 "ValueError.__new__") ∧ PySem.HandSPX.refsVE bm = true := by
  unfold oexB at h
  split at h
  · rename_i t dd cd sl ho
    rw [Bool.and_eq_true] at h
    obtain ⟨h0, h⟩ := h
    split at h
    · rename_i C' bm k0 k1 k2 k3 n k5 hm hs
      simp only [Bool.and_eq_true, decide_eq_true_eq, Bool.not_eq_true'] at h h0
      obtain ⟨rfl, rfl, hdel, hhd, ht⟩ := h
      subst h0
      obtain ⟨nm, bs, mro, ns, qn, hd, sn, sub, ab, col, del⟩ := cd
      dsimp only at hm hdel hhd
      subst hm hdel hhd
      have hsl : sl = #[k0, k1, k2, k3, some (.builtin "ValueError.__new__"), k5] := by
        obtain ⟨l⟩ := sl
        simp only at hs
        rw [hs]
      subst hsl
      exact ⟨nm, qn, ns, bs, bm, sn, sub, ab, col, dd, k0, k1, k2, k3, k5, ho, ht⟩
    · cases h
  · cases h
/-- the class C, its __init__ being D's at fI -/
structure ExF (K : PySem.W.Frag) (D fI C : Addr) : Prop where
  er : ErC K D C
  xc : L2.ExcC K C
  xf : XfC K C
  exm : PySem.W.exmOne K (.ref C) (.ref D) = some true
  ini : PySem.W.findIn K (.ref C) "__init__" = some (some (.ref fI))
def exB (K : PySem.W.Frag) (D fI C : Addr) : Bool :=
  oexB K C && (decide (PySem.W.findIn K (.ref C) "__setattr__" = some (some (.builtin "object.__setattr__"))) && (decide (PySem.W.subIn K (.ref C) (.type "BaseException") = some true) && (decide (PySem.W.typeIn K (.ref C) = some (.type "type")) && (PySem.W.keepIn K (.ref C) &&
  (decide (PySem.W.mroIn K C (.ref D) = some true) && (decide (PySem.W.ks_superIn K C D "__init__" = some (some (.builtin "ValueError.__init__"))) && (decide (PySem.W.subIn K (.ref C) (.type "ValueError") = some true) && (decide (PySem.W.findIn K (.ref C) "value" = some none) &&
  (decide (PySem.W.findIn K (.ref C) "__getattribute__" = some (some (.builtin "BaseException.__getattribute__"))) && (decide (PySem.W.findIn K (.ref C) "__getattr__" = some none) && (PySem.W.hasDictIn K C && (decide (PySem.W.findIn K (.ref C) "__class__" = some (some (.builtin "object.__class__"))) &&
  (decide (PySem.W.specialIn K (.builtin "object.__class__") "__get__" = some (some (.builtin "getset_descriptor.__get__"))) && (decide (PySem.W.takesIn K (.builtin "object.__class__") = some true) && (decide (PySem.W.mroIn K C (.type "object") = some true) &&
  (decide (PySem.W.exmOne K (.ref C) (.ref D) = some true) && decide (PySem.W.findIn K (.ref C) "__init__" = some (some (.ref fI)))))))))))))))))))
theorem exB_ok {K : PySem.W.Frag} {D fI C : Addr} (h : exB K D fI C = true) : ExF K D fI C := by
  unfold exB at h
  simp only [Bool.and_eq_true, decide_eq_true_eq] at h
  obtain ⟨h1, h2, h3, h4, h5, h6, h7, h8, h9, h10, h11, h12, h13, h14, h15, h16, h17, h18⟩ := h
  exact ⟨⟨⟨oexB_ok h1, h2, h3, h4, h5⟩, h6, h7, h8, h9⟩, ⟨h10, h11, h3, h12, h13, h14, h15, h16⟩, ⟨h10, h11, h3, h12⟩, h17, h18⟩
/-- the def __init__ of the class at D -/
def iniB (file : Str) (K : PySem.W.Frag) (D f : Addr) : Bool := match K.lookup f with
  | some ⟨_, _, .func fd, _⟩ => decide (fd.defaults = .none) && (decide (fd.kwdefaults = .none) && (decide (fd.annotations = none) && ((match fd.closure with
      | [(_, cc)] => (match K.lookup cc with
        | some ⟨_, _, .cell (some (.ref d)), _⟩ => decide (d = D)
        | _ => false)
      | _ => false) && (PySem.W.codeIn K fd.code fd.qualname && ((match fd.code with
        | .ref cda => (match K.lookup cda with
          | some ⟨_, _, .fields vs, _⟩ => (match (vs[2]? : Option Value) with
            | some (Value.str fl _) => file == fl
            | _ => false)
          | _ => false)
        | _ => false) && ((PySem.W.clsIn K D).isSome && (decide (PySem.W.nsIn K cStatics "thirdparty.any" = some none) && decide (PySem.W.typeIn K (.ref f) = some (.type "function")))))))))
  | _ => false
abbrev FnZ : Type := Option (Str × Str × Arguments × FuncBody × Scope × Addr × List Str × Addr)
def fnZ (K : PySem.W.Frag) (f : Addr) : FnZ := match K.lookup f with
  | some ⟨_, _, .func fd, _⟩ => some (fd.name, fd.qualname, fd.params, fd.body, fd.scope, fd.globals, fd.closure.map (·.1), fd.builtins)
  | _ => none
theorem ini_ok {P : Program} {K : PySem.W.Frag} {D f : Addr} {params : Arguments} {body : List Stmt} {scope : Scope} {qual : Str} (e : fnZ K f = (some (("__init__" : Str), qual, params, FuncBody.stmts body, scope, mainGlobals, [("__class__" : Str)], builtinsNs) : FnZ)) (h : iniB P.main.file K D f = true) :
    ∃ fd, InD P K D f params body scope qual fd := by
  unfold fnZ at e
  unfold iniB at h
  cases q : K.lookup f with
  | none => rw [q] at e; cases e
  | some o =>
    obtain ⟨oc, od, dt, osl⟩ := o
    rw [q] at e h
    cases dt with
    | func fd =>
      obtain ⟨n1, n2, n3, n4, n5, n6, n7, n8, n9, n10, n11, n12, n13, n14, n15⟩ := fd
      have e2 : (some (n1, n2, n3, n4, n5, n6, n7.map (·.1), n15) : FnZ) = (some (("__init__" : Str), qual, params, FuncBody.stmts body, scope, mainGlobals, [("__class__" : Str)], builtinsNs) : FnZ) := e
      simp only [Option.some.injEq, Prod.mk.injEq] at e2
      obtain ⟨h1, h2, h3, h4, h5, h6, h7, h8⟩ := e2
      subst h1 h2 h3 h4 h5 h6 h8
      dsimp only at h
      simp only [Bool.and_eq_true, decide_eq_true_eq] at h
      obtain ⟨g1, g2, g3, g4, g5, g6, g7, g8, g9⟩ := h
      subst g1 g2 g3
      match n7, h7, g4 with
      | [(y, cc)], h7, g4 =>
        simp at h7
        subst h7
        have cell : ∃ cl cld csl, K.lookup cc = some ⟨cl, cld, .cell (some (.ref D)), csl⟩ := by
          dsimp only at g4
          split at g4
          · rename_i a b d e hc
            have := of_decide_eq_true g4
            subst this
            exact ⟨a, b, e, hc⟩
          · cases g4
        obtain ⟨cda, rfl⟩ : ∃ cda, n13 = .ref cda := by
          cases n13 with
          | ref c => exact ⟨c, rfl⟩
          | _ => cases g5
        have file : ∃ ccl cdd vs ccs file tf, K.lookup cda = some ⟨ccl, cdd, .fields vs, ccs⟩ ∧ vs[2]? = some (.str file tf) ∧ ((P.main.file : Str) == file) = true := by
          dsimp only at g6
          split at g6
          · rename_i a b vs d hc
            split at g6
            · rename_i fl t hv
              exact ⟨a, b, vs, d, fl, t, hc, hv, g6⟩
            · cases g6
          · cases g6
        exact ⟨_, ⟨cc, cda, n10, n11, n14, oc, od, osl, rfl, q, g5, file, cell⟩, Option.isSome_iff_exists.mp g7, g8⟩
    | _ => cases e
/-! ## readings -/
structure KxF (c : Ct) (ns : List Str) : Prop where
  ex : ∃ D fI, ∀ n, n ∈ ns → ∃ C, c.mg n = some (.ref C) ∧ ExF c.K D fI C
  kit : ∀ n y C E, n ∈ ns → y ∈ ns → c.mg n = some (.ref C) → c.mg y = some (.ref E) → PySem.W.kitOne c.K (.ref C) (.ref E) = some (decide (n = y))
def eXv (ns : List Str) (f : FE) : FE := fun r S => (f r S).bind fun v S1 => match v with
  | .exc n x => if ns.contains n then .ok (.d x) S1 else .bad
  | _ => .bad
def bIsX (ns : List Str) : FN := fun is S => match is with
  | [.exc n x, .gl y] => if ns.contains n && ns.contains y then .ok (.d (.bool (decide (n = y)))) S else .bad
  | _ => .bad
section
variable {c : Ct} {W : WX} {X : Cx} {B Z : List Addr} {H : Hp} {σ : L2.St} {k j : Nat}
theorem s_xv {ns : List Str} {e : Expr} {f : FE} {pos : Pos} (cx : Cxg c W X) (kx : KxF c ns) (he : PE X e (TEx c W f)) (hb : attributeBase e "value" X.env (eval e X.env) = eval e X.env := by rfl) : PE X (.Attribute e "value" pos) (TEx c W (eXv ns f)) := by
  refine pe_imp (pe_xv (n := "value") he hb) fun σ H Q ⟨B, Z, r, S, s, rr, p⟩ => ⟨B, Z, r, S, s, rr, (Post.bind p).imp fun v S1 B1 H1 e1 s1 q x hx => ?_⟩
  split at q
  · rename_i n y
    split at q
    · rename_i hn
      cases hx with
      | exc hC h hb hd hdb rd =>
        rename_i a C dx yv
        obtain ⟨D, fI, hex⟩ := kx.ex
        obtain ⟨C', h1, h2⟩ := hex n (List.contains_iff_mem.mp hn)
        rw [hC] at h1
        cases h1
        rw [cx.K]
        exact ⟨_, C, dx, _, yv, rfl, h, hd, rfl, h2.xf, h2.er.nov, q.ret s1 _ (.d rd)⟩
    · exact q.elim
  · exact q.elim
theorem k_isX {ns : List Str} (kx : KxF c ns) : OkN c W (rIsK c.K) (bIsX ns) := by
  intro σ B Z H S is vs Q s ra p
  unfold bIsX at p
  split at p
  · rename_i n x y
    split at p
    · rename_i hn
      rw [Bool.and_eq_true] at hn
      cases ra with
      | cons r1 r2 =>
        cases r2 with
        | cons r2 r3 =>
          cases r3
          cases r1 with
          | exc hC h hb hd hdb rd =>
            rename_i a C dx yv
            cases r2 with
            | gl hE =>
              rename_i E
              obtain ⟨D, fI, hex⟩ := kx.ex
              obtain ⟨C', h1, h2⟩ := hex n (List.contains_iff_mem.mp hn.1)
              rw [hC] at h1
              cases h1
              exact ⟨a, C, dx, .ref E, .ref E, _, _, rfl, h, hd, h2.xc, fun u hu => hu, kx.kit n y C E (List.contains_iff_mem.mp hn.1) (List.contains_iff_mem.mp hn.2) hC hE, p.ret s _ (.d (.bl _))⟩
    · exact p.elim
  · exact p.elim
theorem f_isX {ns : List Str} (cx : Cxg c W X) (kx : KxF c ns) : Bf c W X (.builtin "isinstance") (bIsX ns) := ⟨_, cx.K ▸ call_isK, k_isX kx⟩
end
end MI
set_option maxRecDepth 100000
set_option maxHeartbeats 4000000
/-! ## the head: facts, defs, the makers' tables, one Bool, one method with a closure -/
namespace He
open PySem PySem.Spec PyProof.Rows L2 MI
/-- what is taken in: all that the module's names reach in n steps, and the statics -/
def asS (g : Addr → Option Obj) : Nat → List Addr
  | 0 => [mainGlobals, cStatics]
  | n + 1 => growD g (asS g n)
def obsI (n : Nat) (fa : List Fa) (fn : List DefD) (tf : List Defn) (ex : PySem.W.Frag → Bool) (ini : PySem.W.Frag → Addr) (g : Addr → Option Obj) : AlX × FnZ :=
  ((obsT fa fn [] (frT g (asS g n)), ex (frT g (asS g n)) && tabsB g tf (frT g (asS g n))), fnZ (frT g (asS g n)) (ini (frT g (asS g n))))
theorem saysI_of {as : List Addr} {fa : List Fa} {fn : List DefD} {tf : List Defn} {ex : PySem.W.Frag → Bool} {w : World} {h : Heap} (e : ((obsT fa fn [] (frT h.get? as), ex (frT h.get? as) && tabsB h.get? tf (frT h.get? as)) : AlX) = valX fn [] w) : SaysX fa fn [] tf ex w h (frT h.get? as) := by
  have e1 : obsT fa fn [] (frT h.get? as) = valT fn [] w := congrArg (fun z : AlX => z.1) e
  have e2 : (ex (frT h.get? as) && tabsB h.get? tf (frT h.get? as)) = true := congrArg (fun z : AlX => z.2) e
  obtain ⟨h1, h2⟩ := ba e2
  have tab : ∀ p ∈ tf, PySem.W.codeHdIn (frT h.get? as) (cT (frT h.get? as) p).1 (cT (frT h.get? as) p).2 = true ∧ ∃ o, h.get? (cT (frT h.get? as) p).2 = some o ∧ emptyTab o = true := fun p hp => by
    obtain ⟨h3, h4⟩ := ba (List.all_eq_true.mp h2 p hp)
    cases q : h.get? (cT (frT h.get? as) p).2 with
    | none => rw [q] at h4; cases h4
    | some o => rw [q] at h4; exact ⟨h3, o, rfl, h4⟩
  refine ⟨e1, h1, fun p hp => (tab p hp).1, fun p hp => ?_, fun p hp => ?_⟩
  · obtain ⟨_, o, q, z⟩ := tab p hp
    exact frT_none q z
  · obtain ⟨_, o, q, z⟩ := tab p hp
    rw [q, emptyTab_eq z]
def hookI (n : Nat) (fa : List Fa) (fn : List DefD) (tf : List Defn) (ex : PySem.W.Frag → Bool) (ini : PySem.W.Frag → Addr) (z : FnZ) : PySem.W.Hook where
  α := AlX × FnZ
  obs := fun s => obsI n fa fn tf ex ini s.heap.get?
  val := fun w => (valX fn [] w, z)
  says := fun w h => ∃ K : PySem.W.Frag, K.In h ∧ SaysX fa fn [] tf ex w h K ∧ fnZ K (ini K) = z
  of := fun _ _ e => ⟨_, frT_in, saysI_of (congrArg Prod.fst e), congrArg Prod.snd e⟩
  keeps := fun _ _ _ ⟨K, hK, c, e⟩ k => ⟨K, PySem.W.Frag.In.keeps hK k, ⟨c.t, c.more, c.hd, c.out, fun p hp => k _ _ (c.empty p hp)⟩, e⟩
theorem obsI_eq {n : Nat} {fa : List Fa} {fn : List DefD} {tf : List Defn} {ex : PySem.W.Frag → Bool} {ini : PySem.W.Frag → Addr} {z : FnZ} {g : Addr → Option Obj} {s : Shared} (h : ∀ a, g a = s.heap.get? a) : obsI n fa fn tf ex ini g = (hookI n fa fn tf ex ini z).obs s := by
  have e : g = s.heap.get? := funext h
  rw [e] <;> rfl
end He
namespace MI
open PySem PySem.Spec PyProof.Rows L2 LamX NdefX
/-- a class whose instances are raised -/
theorem kne_of {P : Program} {w : World} {c : Ct} {base : Heap} {D fI : Addr} {fd : FuncData} {x : Str} {k : Nat} (ex : ∃ C, c.mg x = some (.ref C) ∧ ExF c.K D fI C) (ty : PySem.W.typeIn c.K (.ref fI) = some (.type "function")) (F : FnOk P w c.K c.mg base (L2.CX P w) k fI fd ["self", "value"] (spI c.K D)) (b : Binds c.K fd ["self", "value"] []) :
    KnE P w c base k x := by
  obtain ⟨C, h1, h2⟩ := ex
  exact ⟨C, D, fI, fd, h1, h2.er, h2.ini, ty, F, b⟩
/-- the lambdas of a list -/
def lamsE : Nat → Expr → List Expr
  | 0, _ => []
  | n + 1, e => match e with
    | .Lambda _ _ _ _ => [e]
    | .Tuple es _ _ => es.flatMap (lamsE n)
    | .List es _ => es.flatMap (lamsE n)
    | .Call f es _ _ => lamsE n f ++ es.flatMap (lamsE n)
    | .UnaryOp _ a _ => lamsE n a
    | .BoolOp _ es _ => es.flatMap (lamsE n)
    | .BinOp a _ b _ => lamsE n a ++ lamsE n b
    | .IfExp a b d _ => lamsE n b ++ lamsE n a ++ lamsE n d
    | .Attribute a _ _ => lamsE n a
    | .Compare a _ es _ => lamsE n a ++ es.flatMap (lamsE n)
    | _ => []
def lamsS : Nat → Stmt → List Expr
  | 0, _ => []
  | n + 1, s => match s with
    | .Assign _ e _ => lamsE n e
    | .Expr e _ => lamsE n e
    | .Return (some e) _ => lamsE n e
    | .If a b d _ => lamsE n a ++ b.flatMap (lamsS n) ++ d.flatMap (lamsS n)
    | .For _ a b d _ => lamsE n a ++ b.flatMap (lamsS n) ++ d.flatMap (lamsS n)
    | .While a b d _ => lamsE n a ++ b.flatMap (lamsS n) ++ d.flatMap (lamsS n)
    | .FunctionDef _ _ b _ _ _ _ _ _ _ => b.flatMap (lamsS n)
    | _ => []
def liOf (qual : Str) (fr : List Str) : Expr → Option LI
  | .Lambda ps b sc _ => some ⟨ps, b, sc, qual, fr⟩
  | _ => none
end MI
set_option maxRecDepth 100000
set_option maxHeartbeats 4000000
namespace MI
open PySem PySem.Spec PyProof.Rows L2 LamX NdefX
/-! ## wrappers for printed proofs -/
section
variable {c : Ct} {W : WX} {X : Cx} {B Z : List Addr} {H : Hp} {σ : L2.St} {k j : Nat}
theorem v_knF {cn : List Str} {fz : Nat → Option (List Nat)} {n : Nat} {g : FN} {x : Str} {p pos : Pos} {e : Expr} {es : List Expr} {fa : FA} (cx : Cxg c W X) (fk : FzK c X cn fz) (hr : Room k X.A) (kn : Kn X.prog X.w c X.base j x n g) (hj : j ≤ k) (hg : Gl X x) (ha : PA X (e :: es) (TAx c W fa)) (hdb : (x == ("__debug__" : Str)) = false := by decide)
    (he : starEach (e :: es) X.env = (false, eval e X.env) :: starEach es X.env := by rfl) (hpl : (backTo pos (starEach es X.env)).any (·.1) = false := by rfl) : PE X (.Call (.Name x p) (e :: es) [] pos) (TEx c W (eAppF fz n g fa)) := by
  obtain ⟨f, fd, ps, h1, h2, h3, h4, h5⟩ := kn.ex
  exact s_callF cx fk h1 (hr.mono hj) hg (by rw [cx.mg]; exact h2) (by rw [cx.K]; exact h3) (by rw [cx.K]; exact h4) h5 ha hdb he hpl
theorem s_glx {ns : List Str} {x : Str} {pos : Pos} (cx : Cxg c W X) (kx : KxF c ns) (hn : ns.contains x = true) (hg : Gl X x) (hd : (x == ("__debug__" : Str)) = false := by decide) : PE X (.Name x pos) (TEx c W (eGl x)) := by
  obtain ⟨D, fI, hex⟩ := kx.ex
  obtain ⟨C, h1, h2⟩ := hex x (List.contains_iff_mem.mp hn)
  exact s_gl hg (by rw [cx.mg]; exact h1) cx.mg.symm hd
/-- a module's name that holds a tuple of ints -/
theorem s_gtup {ns : List Int} {x : Str} {pos : Pos} (cx : Cxg c W X) (h : ∃ a, c.mg x = some (.ref a) ∧ KTup c.K a (ns.map V.int) ∧ KNd c.K a) (hg : Gl X x) (hd : (x == ("__debug__" : Str)) = false := by decide) : PE X (.Name x pos) (TEx c W (eC (.tuple (ns.map PyData.int)))) := by
  obtain ⟨a, h1, h2⟩ := h
  exact s_c (pe_glob (v := V.ref a) hg (by rw [cx.mg]; exact h1) rfl hd) fun _ _ => .tupK h2.1 h2.2 (rds_ints ns)
/-- try / except Root as n -/
def subR (ns : List Str) : Str → Option Bool := fun n => if ns.contains n then some true else none
structure RtF (c : Ct) (ns : List Str) (root : Str) : Prop where
  ex : ∃ D fI, c.mg root = some (.ref D) ∧ ∀ n, n ∈ ns → ∃ C, c.mg n = some (.ref C) ∧ ExF c.K D fI C
theorem v_try {ns : List Str} {x n : Str} {i : Nat} {body suite : List Stmt} {b₀ : Stmt} {np pos pos' : Pos} {b h : FS} (cx : Cxg c W X) (rt : RtF c ns x) (hs : X.stack = X.env :: X.outer) (hf : X.env.frame = some X.env.locals) (hN : X.N.Nodup) (hi : X.N[i]? = some n) (hln : X.env.kindOf n = some .local)
    (hg : Gl X x) (hd : (x == ("__debug__" : Str)) = false)
    (hb : ∀ (W' : WX) (pn : List (Addr × Obj)) (xe : Value → Shared → Prop), Cxg c W' (X.tr pn xe) → PSs (X.tr pn xe) body (TSx c W' b))
    (hsu : ∀ (a : Addr) (pn : List (Addr × Obj)), Cxg c W0 (X.suiteK a pn) → PSs (X.suiteK a pn) (b₀ :: suite) (TSx c W0 h)) :
    PS X (.Try body [.ExceptHandler (some (.Name x np)) (some n) (b₀ :: suite) pos'] [] [] pos) (TSx c W (sTryAs (subR ns) i b h)) := by
  obtain ⟨D, fI, h1, h2⟩ := rt.ex
  refine s_try cx hs hf hN hi hln ⟨hg, hd, .inl (by rw [cx.mg]; exact h1)⟩ ⟨fun m bb C hm hC => ?_⟩ (fun W' pn xe cx' _ => hb W' pn xe cx') hsu
  unfold subR at hm
  split at hm
  · rename_i hmn
    cases hm
    obtain ⟨C', e1, e2⟩ := h2 m (List.contains_iff_mem.mp hmn)
    rw [hC] at e1
    cases e1
    exact e2.exm
  · cases hm
theorem v_lam {k : Nat} {li : Nat → Option LI} {params : Arguments} {body : Expr} {scope : Scope} {fr : List Str} {pos : Pos} (m : MkL c X) (hl : c.lam = li) (hk : li k = some ⟨params, body, scope, X.env.qual ++ "<lambda>", fr⟩) (L : lamSB X.env.scope scope = true) (hdef : defaultsOf params X.env = ([], []) := by rfl) :
    PE X (.Lambda params body scope pos) (TEx c W (eLam k)) := s_lam m (by rw [hl]; exact hk) (lamS_by L) hdef
theorem fzK_by {li : Nat → Option LI} {cn : List Str} {fzl : List (Nat × List Nat)} (own : c.own = X.env.cells) (hl : c.lam = li) (fn : ∀ y, y ∈ cn → X.fn y = true)
    (chk : (fzl.all fun p => match li p.1 with
      | some L => fzC X.N X.env.scope cn L p.2
      | none => false) = true) : FzK c X cn (fun k => (fzl.find? (fun p => p.1 == k)).map (·.2)) := by
  refine ⟨own, fun k is h => ?_, fn⟩
  obtain ⟨p, hp, rfl⟩ := Option.map_eq_some_iff.mp h
  have h1 := List.find?_some hp
  have h2 := List.mem_of_find?_eq_some hp
  have h3 := List.all_eq_true.mp chk p h2
  have : p.1 = k := eq_of_beq h1
  subst this
  rw [hl]
  cases hL : li p.1 with
  | none => rw [hL] at h3; cases h3
  | some L => rw [hL] at h3; exact ⟨L, rfl, h3⟩
/-- a lambda's promise: the checks by one Bool -/
def lamB (L : LI) : Bool := decide (L.scope.kind = .function) && (!L.scope.isCoroutine && (!L.scope.isGenerator && ((L.scope.names.all fun y => !decide (y.2 = .local) && !decide (y.2 = .cell)) && L.scope.names.all fun y => !decide (y.2 = .free) || L.fr.contains y.1)))
theorem lamOk_by {P : Program} {w : World} {base : Heap} {L : LI} {t : FE} (h : lamB L = true) (bind : ∀ (q : Str) (cl : List (Str × Addr)) (pm cv ctv : Value), bindArgs (PySem.W.kla_fn "<lambda>" q L.params L.body L.scope cl pm cv ctv) ⟨[], []⟩ = pure [])
    (body : ∀ (A : Around) (outer : List Env) (s : Shared) (H : Hp) (E : XK) (f cc : Addr) (cl : List (Str × Addr)), Room j (A.deeper (lamE L s.heap.objs.size f cc cl)) → A.guards = some [] →
      PE (lamC P w c base L A outer s H E f cc cl) L.body (TEx c (fun cls d _ H => E cls d H) t)) : LamOk P w c base j L t := by
  unfold lamB at h
  simp only [Bool.and_eq_true, decide_eq_true_eq, Bool.not_eq_true', List.all_eq_true, decide_eq_false_iff_not, Bool.or_eq_true, List.contains_iff_mem] at h
  obtain ⟨h1, h2, h3, h4, h5⟩ := h
  exact ⟨h1, h2, h3, h4, fun y hy e => (h5 y hy).elim (fun z => absurd e z) id, bind, body⟩
theorem cxg_lam {P : Program} {w : World} {base : Heap} {L : LI} {A : Around} {outer : List Env} {s : Shared} {H : Hp} {E : XK} {f cc : Addr} {cl : List (Str × Addr)} (hgu : A.guards = some []) : Cxg c (fun cls d _ H => E cls d H) (lamC P w c base L A outer s H E f cc cl) :=
  ⟨rfl, rfl, hgu, takes_of rfl rfl rfl rfl⟩
end
end MI
set_option maxRecDepth 100000
set_option maxHeartbeats 4000000
namespace MI
open PySem PySem.Spec PyProof.Rows L2 LamX NdefX
/-! ## a op b op c op d -/
def tCh3 (r r' r'' : R2) (ta tb tc td : TE) : TE := fun σ H Q => ta σ H fun x H1 => tb σ H1 fun y H2 => r x y H2 fun z H3 => ∃ k, z = .bl k ∧
  (if k = true then tc σ H3 fun u H4 => r' y u H4 fun z' H5 => ∃ k', z' = .bl k' ∧ (if k' = true then td σ H5 fun t H6 => r'' u t H6 Q else Q (.bl false) H5) else Q (.bl false) H3)
section
variable {c : Ct} {W : WX} {X : Cx} {B Z : List Addr} {H : Hp} {σ : L2.St} {k j : Nat} {a b d e : Expr} {ta tb tc td : TE} {f g h u : FE} {pos : Pos} {op op' op2 : CmpOp} {r r' r2 : R2} {o o' o2 : O2}
theorem pe_ch3 (ho : OpR X (compareOp op) r) (ho' : OpR X (compareOp op') r') (ho2 : OpR X (compareOp op2) r2) (ha : PE X a ta) (hb : PE X b tb) (hc : PE X d tc) (hd : PE X e td)
    (hm : lastMarks [op, op', op2] [b, d, e] = false := by with_unfolding_all rfl) : PE X (.Compare a [op, op', op2] [b, d, e] pos) (tCh3 r r' r2 ta tb tc td) := by
  refine ⟨fun pins s σ H Q I h => ?_⟩
  refine Compare_chain (thn (ha.run pins s σ H _ I h) fun v s1 ⟨x, H1, I1, r1, q1⟩ => chain_link (thn (hb.run pins s1 σ H1 _ I1 q1) fun u s2 ⟨y, H2, I2, ry, q2⟩ =>
    thn (ho pins s2 σ H2 x y v u _ I2 r1 ry q2) fun d s3 ⟨z, H3, I3, r3, k, e, q3⟩ => ?_)) hm
  subst e
  cases r3
  refine wpAny_truthy_bool ?_
  cases k with
  | false => exact ite_ff ⟨.bl false, H3, I3, rfl, q3⟩
  | true =>
    refine ite_tt (chain_link (thn (hc.run pins s3 σ H3 _ I3 q3) fun w s4 ⟨y2, H4, I4, r4, q4⟩ => thn (ho' pins s4 σ H4 y y2 u w _ I4 ry r4 q4) fun d' s5 ⟨z', H5, I5, r5, k', e', q5⟩ => ?_))
    subst e'
    cases r5
    refine wpAny_truthy_bool ?_
    cases k' with
    | false => exact ite_ff ⟨.bl false, H5, I5, rfl, q5⟩
    | true => exact ite_tt (chain_last (thn (hd.run pins s5 σ H5 _ I5 q5) fun w' s6 ⟨z6, H6, I6, r6, q6⟩ => ho2 pins s6 σ H6 y2 z6 w w' Q I6 r4 r6 q6))
theorem pt_ch3 (ho : OpR X (compareOp op) r) (ho' : OpR X (compareOp op') r') (ho2 : OpR X (compareOp op2) r2) (ha : PE X a ta) (hb : PE X b tb) (hc : PE X d tc) (hd : PE X e td)
    (hm : lastMarks [op, op', op2] [b, d, e] = false := by with_unfolding_all rfl) : PT X (.Compare a [op, op', op2] [b, d, e] pos) (tTest (tCh3 r r' r2 ta tb tc td)) := by
  refine ⟨fun pins s σ H Q I h => ?_⟩
  refine isTrue_chain (thn (ha.run pins s σ H _ I h) fun v s1 ⟨x, H1, I1, r1, q1⟩ => test_link (thn (hb.run pins s1 σ H1 _ I1 q1) fun u s2 ⟨y, H2, I2, ry, q2⟩ =>
    thn (ho pins s2 σ H2 x y v u _ I2 r1 ry q2) fun d s3 ⟨z, H3, I3, r3, k, e, q3⟩ => ?_)) hm
  subst e
  cases r3
  refine wpAny_truthy_bool ?_
  cases k with
  | false =>
    obtain ⟨k', e', q'⟩ := q3
    cases e'
    exact ite_ff ⟨H3, I3, q'⟩
  | true =>
    refine ite_tt (test_link (thn (hc.run pins s3 σ H3 _ I3 q3) fun w s4 ⟨y2, H4, I4, r4, q4⟩ => thn (ho' pins s4 σ H4 y y2 u w _ I4 ry r4 q4) fun d' s5 ⟨z', H5, I5, r5, k', e', q5⟩ => ?_))
    subst e'
    cases r5
    refine wpAny_truthy_bool ?_
    cases k' with
    | false =>
      obtain ⟨k2, e2, q2'⟩ := q5
      cases e2
      exact ite_ff ⟨H5, I5, q2'⟩
    | true =>
      refine ite_tt (test_last (thn (hd.run pins s5 σ H5 _ I5 q5) fun w' s6 ⟨z6, H6, I6, r6, q6⟩ => thn (ho2 pins s6 σ H6 y2 z6 w w' _ I6 r4 r6 q6) fun d2 s7 ⟨z7, H7, I7, r7, k7, e7, q7⟩ => ?_))
      subst e7
      cases r7
      exact wpAny_truthy_bool ⟨H7, I7, q7⟩
@[simp] def eCh3 (o o' o2 : O2) (f g h u : FE) : FE := fun r S => (f r S).bind fun v S1 => (g r S1).bind fun w S2 => (o v w S2).bind fun z S3 => match z with
  | .d (.bool true) => (h r S3).bind fun t S4 => (o' w t S4).bind fun z' S5 => (match z' with
    | .d (.bool true) => (u r S5).bind fun t' S6 => o2 t t' S6
    | .d (.bool false) => .ok (.d (.bool false)) S5
    | _ => .bad)
  | .d (.bool false) => .ok (.d (.bool false)) S3
  | _ => .bad
theorem ch3_of (k : Ok2 c W r o) (k' : Ok2 c W r' o') (k2 : Ok2 c W r2 o2) {Q : VK} (q : TEx c W (eCh3 o o' o2 f g h u) σ H Q) : tCh3 r r' r2 (TEx c W f) (TEx c W g) (TEx c W h) (TEx c W u) σ H Q := by
  obtain ⟨B, Z, r0, S, s, rr, p⟩ := q
  refine ⟨B, Z, r0, S, s, rr, (Post.bind p).imp fun v S1 B1 H1 e1 s1 q1 x hx => ?_⟩
  refine ⟨B1, Z, r0, S1, s1, rr.ev e1, (Post.bind q1).imp fun w S2 B2 H2 e2 s2 q2 y hy => ?_⟩
  refine k σ B2 Z H2 S2 v w x y _ s2 (hx.ev e2) hy ((Post.bind q2).imp fun z S3 B3 H3 e3 s3 q3 t ht => ?_)
  split at q3
  · cases ht with
    | d ht =>
      cases ht
      refine ⟨true, rfl, ?_⟩
      rw [if_pos rfl]
      refine ⟨B3, Z, r0, S3, s3, (rr.ev (e1.trans e2)).ev e3, (Post.bind q3).imp fun t S4 B4 H4 e4 s4 q4 x4 h4 => ?_⟩
      refine k' σ B4 Z H4 S4 w t y x4 _ s4 ((hy.ev e3).ev e4) h4 ((Post.bind q4).imp fun z' S5 B5 H5 e5 s5 q5 t5 ht5 => ?_)
      split at q5
      · cases ht5 with
        | d ht5 =>
          cases ht5
          refine ⟨true, rfl, ?_⟩
          rw [if_pos rfl]
          refine ⟨B5, Z, r0, S5, s5, (((rr.ev (e1.trans e2)).ev e3).ev e4).ev e5, (Post.bind q5).imp fun t' S6 B6 H6 e6 s6 q6 x6 h6 => ?_⟩
          exact k2 σ B6 Z H6 S6 t t' x4 x6 Q s6 ((h4.ev e5).ev e6) h6 q6
      · cases ht5 with
        | d ht5 =>
          cases ht5
          refine ⟨false, rfl, ?_⟩
          rw [if_neg (by decide)]
          exact q5.ret s5 _ (.d (.bl _))
      · exact q5.elim
  · cases ht with
    | d ht =>
      cases ht
      refine ⟨false, rfl, ?_⟩
      rw [if_neg (by decide)]
      exact q3.ret s3 _ (.d (.bl _))
  · exact q3.elim
theorem v_ch3 (m : Cm c W X op o) (m' : Cm c W X op' o') (m2 : Cm c W X op2 o2) (ha : PE X a (TEx c W f)) (hb : PE X b (TEx c W g)) (hd : PE X d (TEx c W h)) (he : PE X e (TEx c W u)) (hm : lastMarks [op, op', op2] [b, d, e] = false := by with_unfolding_all rfl) : PE X (.Compare a [op, op', op2] [b, d, e] pos) (TEx c W (eCh3 o o' o2 f g h u)) := by
  obtain ⟨r, h1, h2⟩ := m.ex
  obtain ⟨r', h3, h4⟩ := m'.ex
  obtain ⟨r2, h5, h6⟩ := m2.ex
  exact pe_imp (pe_ch3 h1 h3 h5 ha hb hd he hm) fun _ _ _ => ch3_of h2 h4 h6
theorem v_tch3 (m : Cm c W X op o) (m' : Cm c W X op' o') (m2 : Cm c W X op2 o2) (ha : PE X a (TEx c W f)) (hb : PE X b (TEx c W g)) (hd : PE X d (TEx c W h)) (he : PE X e (TEx c W u)) (hm : lastMarks [op, op', op2] [b, d, e] = false := by with_unfolding_all rfl) : PT X (.Compare a [op, op', op2] [b, d, e] pos) (TTx c W (tE (eCh3 o o' o2 f g h u))) := by
  obtain ⟨r, h1, h2⟩ := m.ex
  obtain ⟨r', h3, h4⟩ := m'.ex
  obtain ⟨r2, h5, h6⟩ := m2.ex
  exact pt_imp (pt_ch3 h1 h3 h5 ha hb hd he hm) fun σ H Q q => test_of (fun _ => ch3_of h2 h4 h6) q
/-! ## l.count(x), l of bools or of ints -/
def eqb (k : Bool) (v : Value) : Bool := match v with
  | .bool n => n == k
  | _ => false
def BoolsAre (us : List Value) (bs : List Bool) : Prop := us = bs.map Value.bool
theorem vals_bools : ∀ {bs : List Bool} {us : List Value}, Vals (bs.map V.bl) us → us = bs.map Value.bool
  | [], _, .nil => rfl
  | b :: bs, _, .cons h t => by
    have h : _ = Value.bool b := h
    rw [h, vals_bools t] <;> rfl
def rCntB (K : PySem.W.Frag) : V → List V → Hp → VK → Prop := fun x xs H Q => ∃ (p : Addr) (ns : List Bool) (k : Bool), x = .ref p ∧ xs = [.bl k] ∧ SqL K H p (ns.map V.bl) ∧ Q (.int (ns.count k : Nat)) H
theorem mt_bcount : MtR X "list.count" (rCntB X.K) := by
  intro pins s σ H x xs v us Q I rx rxs h
  obtain ⟨p, ns, k, rfl, rfl, hs, q⟩ := h
  cases rx
  obtain ⟨u, rfl, ru⟩ := rxs.one
  obtain rfl : u = Value.bool k := ru
  obtain ⟨its, rv, ⟨⟨cls, dd, data, sl⟩, n, ho, hc, hdn, hd⟩, hlen⟩ := I.list hs
  simp only at hc hd
  subst hc hd
  have hi := vals_bools rv
  subst hi
  refine call_meets PySem.F.slot_list_count ⟨_, ho, rfl⟩ PySem.F.entry_list_count (PySem.F.args_list_count_2 _ _)
    (SeqAt.list_countAt p (ns.map Value.bool).toArray n dd sl (.bool k) (eqb k)) ⟨ho, fun y hy => ?_, ?_⟩
  · have hy : y ∈ ns.map Value.bool := by simpa using hy
    obtain ⟨a, _, rfl⟩ := List.mem_map.mp hy
    exact SeqAt.EqAt.bool_bool a k
  · have ec : (ns.map Value.bool).toArray.toList.countP (eqb k) = ns.count k := by
      simp only [List.countP_map]
      rw [List.count_eq_countP]
      rfl
    refine ⟨.int (ns.count k : Nat), H, I.tok _, ⟨s.toks, ?_⟩, q⟩
    rw [ec]
def dBools : List PyData → Option (List Bool)
  | [] => some []
  | .bool b :: t => (dBools t).map (b :: ·)
  | _ => none
theorem dBools_eq : ∀ {ds : List PyData} {bs : List Bool}, dBools ds = some bs → ds = bs.map PyData.bool
  | [], _, h => by cases h; rfl
  | .bool b :: t, bs, h => by
    unfold dBools at h
    obtain ⟨us, h1, rfl⟩ := Option.map_eq_some_iff.mp h
    rw [dBools_eq h1] <;> rfl
  | .none :: _, _, h => by cases h
  | .int _ :: _, _, h => by cases h
  | .str _ :: _, _, h => by cases h
  | .list _ :: _, _, h => by cases h
  | .tuple _ :: _, _, h => by cases h
  | .dict _ :: _, _, h => by cases h
def mCntB : FM := fun v is S => match is with
  | [.d (.bool k)] => match lstOf S v with
    | some ds => (match dBools ds with
      | some bs => .ok (.d (.int (bs.count k : Nat))) S
      | none => .bad)
    | none => .bad
  | _ => .bad
theorem k_cntB : OkM c W (rCntB c.K) mCntB := by
  intro σ B Z H S v is x xs Q s rv ra p
  unfold mCntB at p
  split at p
  · rename_i kb
    obtain ⟨y, rfl, ry⟩ := ris1 ra
    cases ry with
    | d ry =>
      cases ry
      split at p
      · rename_i ds q1
        split at p
        · rename_i bs q2
          obtain ⟨a, xs, rfl, h1, h2⟩ := lstOf_sq s rv q1
          rw [dBools_eq q2] at h2
          rw [h2.bools] at h1
          exact ⟨a, bs, kb, rfl, rfl, h1, p.ret s _ (.d (.int _))⟩
        · exact p.elim
      · exact p.elim
  · exact p.elim
theorem d_cntB (cx : Cxg c W X) : Mf c W X "list" "count" "list.count" mCntB := ⟨F.plainAttrs_list, F.slot_list_count, by show builtinType _ = _; rw [builtinType_eq_fast]; kernel_rfl, _, cx.K ▸ mt_bcount, k_cntB⟩
end
end MI
set_option maxRecDepth 100000
set_option maxHeartbeats 4000000
namespace MI
open PySem PySem.Spec PyProof.Rows L2 LamX NdefX
/-! ## the head's facts, as the readings ask -/
instance : Inhabited LI := ⟨⟨default, default, default, default, []⟩⟩
def kndB (K : PySem.W.Frag) (a : Addr) : Bool := match K.lookup a with
  | some o => o.dict.isNone
  | none => true
theorem knd_of {K : PySem.W.Frag} {a : Addr} (h : kndB K a = true) : KNd K a := fun o e => by
  unfold kndB at h
  rw [e] at h
  simpa using h
def tupD (xs : List Int) : List He.Dv := xs.map He.Dv.int
theorem ktup_of {K : PySem.W.Frag} {x : Str} {ns : List Int} (h : He.tupB K x (tupD ns) = true ∧ kndB K (He.ga K x) = true) : KTup K (He.ga K x) (ns.map V.int) ∧ KNd K (He.ga K x) := by
  obtain ⟨h, h'⟩ := h
  refine ⟨?_, knd_of h'⟩
  have z := He.tupB_ok h (fun _ => none)
  have e : (tupD ns).map (He.Dv.v K) = ns.map V.int := by
    unfold tupD
    rw [List.map_map]
    rfl
  rw [e] at z
  rcases z with (z | ⟨o, z⟩) | z
  · cases z
  · cases z
  · exact z
theorem ini_ty {file : Str} {K : PySem.W.Frag} {D f : Addr} (h : iniB file K D f = true) : PySem.W.typeIn K (.ref f) = some (.type "function") := by
  unfold iniB at h
  split at h
  · simp only [Bool.and_eq_true, decide_eq_true_eq] at h
    exact h.2.2.2.2.2.2.2.2
  · cases h
theorem ini_binds {P : Program} {K : PySem.W.Frag} {D f : Addr} {params : Arguments} {body : List Stmt} {scope : Scope} {qual : Str} {fd : FuncData} {ps : List Str} (I : InD P K D f params body scope qual fd)
    (h : ∀ (cc cda : Addr) (doc pm ctv : Value) (us : List Value), us.length = ps.length → bindArgs (PySem.W.ksFn "__init__" qual params body scope .none .none doc pm none (.ref cda) ctv cc) ⟨us, []⟩ = pure (ps.zip us)) : Binds K fd ps [] := by
  obtain ⟨cc, cda, doc, pm, ctv, oc, od, osl, rfl, _⟩ := I.ex
  exact .all fun us hl => h cc cda doc pm ctv us hl
end MI
set_option maxRecDepth 100000
set_option maxHeartbeats 4000000
namespace MI
open PySem PySem.Spec PyProof.Rows L2 LamX NdefX
/-! ## lists of ints in their lexical sequence -/
def lexL : List Int → List Int → Bool
  | _, [] => false
  | [], _ :: _ => true
  | a :: as, b :: bs => if a = b then lexL as bs else decide (a < b)
theorem lexL_nn {x : List Int} : lexL x [] = false := by cases x <;> rfl
theorem lexL_cc {a b : Int} {x y : List Int} : lexL (a :: x) (b :: y) = if a = b then lexL x y else decide (a < b) := rfl
theorem lexL_asym : ∀ {x y : List Int}, lexL x y = true → lexL y x = false
  | _, [], h => by rw [lexL_nn] at h; cases h
  | [], b :: bs, _ => rfl
  | a :: as, b :: bs, h => by
    rw [lexL_cc] at h ⊢
    by_cases e : a = b
    · rw [if_pos e] at h
      rw [if_pos e.symm]
      exact lexL_asym h
    · rw [if_neg e, decide_eq_true_eq] at h
      rw [if_neg fun z => e z.symm, decide_eq_false_iff_not]
      omega
theorem lexL_tr : ∀ {x y z : List Int}, lexL y x = false → lexL z y = false → lexL z x = false
  | [], _, z, _, _ => lexL_nn
  | a :: as, [], _, h, _ => by cases h
  | a :: as, b :: bs, [], _, h => by cases h
  | a :: as, b :: bs, d :: ds, h1, h2 => by
    rw [lexL_cc] at h1 h2 ⊢
    by_cases e1 : b = a
    · rw [if_pos e1] at h1
      by_cases e2 : d = b
      · rw [if_pos e2] at h2
        rw [if_pos (e2.trans e1)]
        exact lexL_tr h1 h2
      · rw [if_neg e2, decide_eq_false_iff_not] at h2
        rw [if_neg (by rw [← e1]; exact e2), decide_eq_false_iff_not]
        omega
    · rw [if_neg e1, decide_eq_false_iff_not] at h1
      by_cases e2 : d = b
      · rw [if_neg (by rw [e2]; exact e1), decide_eq_false_iff_not]
        omega
      · rw [if_neg e2, decide_eq_false_iff_not] at h2
        have : ¬ d = a := by omega
        rw [if_neg this, decide_eq_false_iff_not]
        omega
theorem lexL_anti : ∀ {x y : List Int}, lexL x y = false → lexL y x = false → x = y
  | [], [], _, _ => rfl
  | [], b :: bs, h, _ => by cases h
  | a :: as, [], _, h => by cases h
  | a :: as, b :: bs, h1, h2 => by
    rw [lexL_cc] at h1 h2
    by_cases e : a = b
    · rw [if_pos e] at h1
      rw [if_pos e.symm] at h2
      rw [e, lexL_anti h1 h2]
    · rw [if_neg e, decide_eq_false_iff_not] at h1
      rw [if_neg fun z => e z.symm, decide_eq_false_iff_not] at h2
      omega
def insL (x : List Int) : List (List Int) → List (List Int)
  | [] => [x]
  | y :: t => if lexL y x = true then y :: insL x t else x :: y :: t
def lsort : List (List Int) → List (List Int)
  | [] => []
  | x :: t => insL x (lsort t)
theorem insL_perm (x : List Int) : ∀ t, (insL x t).Perm (x :: t)
  | [] => .refl _
  | y :: t => by
    unfold insL
    split
    · exact ((insL_perm x t).cons y).trans (.swap x y t)
    · exact .refl _
theorem insL_pw (x : List Int) : ∀ t, t.Pairwise (fun a b => lexL b a = false) → (insL x t).Pairwise (fun a b => lexL b a = false)
  | [], _ => List.pairwise_singleton _ _
  | y :: t, h => by
    have z := List.pairwise_cons.mp h
    unfold insL
    split
    · rename_i hy
      refine List.pairwise_cons.mpr ⟨fun a ha => ?_, insL_pw x t z.2⟩
      rcases List.mem_cons.mp ((insL_perm x t).mem_iff.mp ha) with ha | ha
      · rw [ha]; exact lexL_asym hy
      · exact z.1 a ha
    · rename_i hy
      have hy : lexL y x = false := by simpa using hy
      refine List.pairwise_cons.mpr ⟨fun a ha => ?_, h⟩
      rcases List.mem_cons.mp ha with ha | ha
      · rw [ha]; exact hy
      · exact lexL_tr hy (z.1 a ha)
theorem lsort_perm : ∀ l, (lsort l).Perm l
  | [] => .refl _
  | x :: t => (insL_perm x (lsort t)).trans ((lsort_perm t).cons x)
theorem lsort_pw : ∀ l, (lsort l).Pairwise (fun a b => lexL b a = false)
  | [] => .nil
  | x :: t => insL_pw x _ (lsort_pw t)
theorem lexL_uniq : ∀ {l m : List (List Int)}, l.Perm m → l.Pairwise (fun a b => lexL b a = false) → m.Pairwise (fun a b => lexL b a = false) → l = m
  | [], m, p, _, _ => by rw [List.nil_perm.mp p]
  | x :: t, [], p, _, _ => by have := p.length_eq; simp at this
  | x :: t, y :: u, p, h1, h2 => by
    have z1 := List.pairwise_cons.mp h1
    have z2 := List.pairwise_cons.mp h2
    have e : x = y := by
      have m1 : x ∈ y :: u := p.mem_iff.mp List.mem_cons_self
      have m2 : y ∈ x :: t := p.mem_iff.mpr List.mem_cons_self
      rcases List.mem_cons.mp m1 with q1 | q1
      · exact q1
      · rcases List.mem_cons.mp m2 with q2 | q2
        · exact q2.symm
        · exact lexL_anti (z2.1 x q1) (z1.1 y q2)
    subst e
    rw [lexL_uniq ((List.perm_cons x).mp p) z1.2 z2.2]
theorem lsort_of {l m : List (List Int)} (p : m.Perm l) (h : m.Pairwise (fun a b => lexL b a = false)) : m = lsort l := lexL_uniq (p.trans (lsort_perm l).symm) h (lsort_pw l)
/-! ## sorted(l), l of tuples of ints, none of them empty -/
section
variable {prog : Program} {w : World} {A : Around} {E : Value → Shared → Prop} {s : Shared}
theorem lex_any {b fin : Bool} {Q : Bool → Shared → Prop} {xs ys : List Value} {ns ms : List Int} (i : Nat) (hx : IntsAre xs ns) (hy : IntsAre ys ms) (hf : fin = decide (ns.length < ms.length)) (h : Q (lexL ns ms) s) : PySem.W.KatLex prog w A b fin Q (xs.zip ys) i s := by
  induction hx generalizing ys ms i with
  | nil =>
    cases hy with
    | nil => refine PySem.W.kat_nil ?_; rw [hf]; exact h
    | cons m u hy => refine PySem.W.kat_nil ?_; rw [hf]; exact h
  | cons n t hx ih =>
    cases hy with
    | nil =>
      refine PySem.W.kat_nil ?_
      have e : fin = false := by rw [hf]; simp
      rw [e]
      exact h
    | cons m u hy =>
      refine PySem.W.kat_cons (SeqAt.EqAt.int_int n t m u prog w _ _ ?_)
      refine PySem.W.kat_go (fun e1 => ?_) (fun e1 => ?_)
      · have ex : n = m := by simpa using e1
        refine PySem.W.kat_yes (ih (i + 1) hy (by rw [hf]; simp) ?_)
        rw [lexL_cc, if_pos ex] at h
        exact h
      · have ex : ¬ n = m := by simpa using e1
        rw [lexL_cc, if_neg ex] at h
        exact PySem.W.kat_no (TS.oneLt_ints _ h)
theorem firstsL {h : Heap} {k : Value → List Int} : ∀ vs : List Value, (∀ v ∈ vs, TS.TupInts h v (k v) ∧ k v ≠ []) → ∃ fs, PySem.W.KatTups h vs fs ∧ fs.length = vs.length ∧ ∀ f, f ∈ fs → ∃ n t, f = Value.int n t
  | [], _ => ⟨[], PySem.W.KatTups.nil, rfl, fun f hf => by simp at hf⟩
  | v :: vs, x => by
    obtain ⟨fs, k1, hl, hi⟩ := firstsL vs fun u hu => x u (List.mem_cons_of_mem _ hu)
    obtain ⟨⟨a, xs, rfl, ⟨o, ho, hc, n, hdt⟩, i⟩, hne⟩ := x v List.mem_cons_self
    obtain ⟨y, ys, e⟩ : ∃ y ys, xs.toList = y :: ys := by
      cases q : xs.toList with
      | nil =>
        rw [q] at i
        have l := i.length
        exact absurd (List.length_eq_zero_iff.mp l.symm) hne
      | cons y ys => exact ⟨y, ys, rfl⟩
    obtain ⟨m, t, hy⟩ := i.all y (by rw [e]; exact List.mem_cons_self)
    refine ⟨y :: fs, PySem.W.KatTups.cons ho hc hdt ?_ k1, by simp [hl], fun f hf => ?_⟩
    · have : xs = (y :: ys).toArray := by rw [← e]
      rw [this]; rfl
    · rcases List.mem_cons.mp hf with rfl | hf
      · exact ⟨m, t, hy⟩
      · exact hi f hf
theorem tups_sortable {a : Addr} {vs : List Value} {k : Value → List Int} (h0 : 0 < vs.length) (hp : ∀ v ∈ vs, TS.TupInts s.heap v (k v) ∧ k v ≠ []) (ha : ∀ o, s.heap.get? a = some o → o.cls ≠ .type "tuple") : SrtO.SortableO prog w A s a vs fun v u => lexL (k v) (k u) := by
  intro h' keep
  have hp' : ∀ v ∈ vs, TS.TupInts h' v (k v) ∧ k v ≠ [] := fun v hm => ⟨(hp v hm).1.keeps fun b o e c => keep b o (fun z => by subst z; exact ha o e c) e, (hp v hm).2⟩
  obtain ⟨fs, h1, h2, h3⟩ := firstsL vs hp'
  refine ⟨tuples' true, fun Q E hq => ?_, fun p q hm hm' => ?_⟩
  · refine PySem.W.kat_kind (T := .type "int") h1 (by omega) (fun f hm => ?_) (by rfl) ?_
    · obtain ⟨x, t, rfl⟩ := h3 f hm
      exact PySem.W.Looks.now
    · have e : (Value.type "int" != Value.type "tuple") = true := by first | decide +kernel | rfl | decide
      rw [e]
      exact hq
  · obtain ⟨⟨a1, xs, e1, ⟨o1, ho1, hc1, n1, hd1⟩, i1⟩, _⟩ := hp' _ hm
    obtain ⟨⟨a2, ys, e2, ⟨o2, ho2, hc2, n2, hd2⟩, i2⟩, _⟩ := hp' _ hm'
    show wpAny (model prog w) A (keyLt' (tuples' true) p.1 q.1) _ _ _
    rw [e1, e2]
    refine PySem.W.kat_lt ho1 hd1 ho2 hd2 (lex_any 0 i1 i2 ?_ ?_)
    · have l1 := i1.length
      have l2 := i2.length
      simp only [Array.length_toList] at l1 l2
      rw [l1, l2]
    · exact ⟨rfl, rfl⟩
end
section
variable {c : Ct} {W : WX} {X : Cx}
def rSortedL (K : PySem.W.Frag) : List V → Hp → VK → Prop := fun vs H Q => ∃ (a : Addr) (ps : List (V × List Int)), vs = [V.ref a] ∧ SqL K H a (ps.map (·.1)) ∧ (∀ p ∈ ps, ∃ t, p.1 = V.ref t ∧ SqT K H t (p.2.map V.int) ∧ p.2 ≠ []) ∧
  ∀ (qs : List (V × List Int)) (l : Addr), qs.Perm ps → (qs.map (·.2)).Pairwise (fun x y => lexL y x = false) → H l = none → Q (.ref l) (upd H l (.lst (qs.map (·.1))))
theorem cr_sortedL : CallR X (.builtin "sorted") (rSortedL X.K) := by
  intro pins s σ H vs us Q I r h
  obtain ⟨a, ps, rfl, hs, hx, q⟩ := h
  obtain ⟨its, rv, hl, hz⟩ := I.list hs
  rw [Vals.ref1 r]
  obtain ⟨e1, e2⟩ := refs_back rv fun x m => by
    obtain ⟨p, hp, rfl⟩ := List.mem_map.mp m
    obtain ⟨t, e, _⟩ := hx p hp
    exact ⟨t, e⟩
  have hz' : its.length ≤ sizeLine := by rw [← rv.length]; exact hz
  -- each value's ints
  have key : ∀ p ∈ ps, ∀ v, RelV p.1 v → TS.TupInts s.heap v p.2 ∧ p.2 ≠ [] := fun p hp v rv' => by
    obtain ⟨t, e, ht, hne⟩ := hx p hp
    rw [e] at rv'
    obtain rfl : v = Value.ref t := rv'
    exact ⟨tupI_raw I ht, hne⟩
  have eps : its.map (fun v => (backV v, TS.intsOf s.heap v)) = ps := by
    clear q hs hl hz e1 e2 hz' r
    induction ps generalizing its with
    | nil => cases rv; rfl
    | cons p ps ih =>
      cases rv with
      | cons r1 r2 =>
        rename_i b0 bs0
        rw [List.map_cons, ih (fun p hp => hx p (List.mem_cons_of_mem _ hp)) _ r2 fun p hp => key p (List.mem_cons_of_mem _ hp)]
        obtain ⟨t, e, _⟩ := hx p List.mem_cons_self
        have k := (key p List.mem_cons_self _ r1).1
        rw [k.ints]
        have hb : backV b0 = p.1 := by
          have r1 : L2.RelV p.1 b0 := r1
          rw [e] at r1
          have r1 : b0 = Value.ref t := r1
          rw [r1, e] <;> rfl
        rw [hb]
  have hv : ∀ v ∈ its, TS.TupInts s.heap v (TS.intsOf s.heap v) ∧ TS.intsOf s.heap v ≠ [] := fun v hm => by
    have m : (backV v, TS.intsOf s.heap v) ∈ ps := by rw [← eps]; exact List.mem_map.mpr ⟨v, hm, rfl⟩
    obtain ⟨t, rfl⟩ := e2 v hm
    exact key _ m (.ref t) rfl
  refine SrtO.sorted_ord (ltv := fun v u => lexL (TS.intsOf s.heap v) (TS.intsOf s.heap u)) ⟨fun x y z => lexL_asym z, fun x y z z1 z2 => lexL_tr z1 z2⟩ hl.isList hz' (fun h2 h₁ a' ho hk => ?_) fun out h1 h2 => ?_
  · refine tups_sortable (by omega) (fun v hm => ⟨(hv v hm).1.keeps fun b o e _ => (hk b o e).2, (hv v hm).2⟩) fun o e => ?_
    have e : h₁.get? a' = some o := e
    rw [ho] at e
    cases e
    show Value.type "list" ≠ Value.type "tuple"
    simp
  · obtain ⟨ep, e'⟩ := PyProof.Rows.sortedAll_at s.heap its out.toArray
    have pm : (out.map fun v => (backV v, TS.intsOf s.heap v)).Perm ps := by rw [← eps]; exact h2.perm.map _
    have hr : ∀ u ∈ out, ∃ a, u = Value.ref a := fun u hu => e2 u (h2.perm.mem_iff.mp hu)
    have em : (out.map fun v => (backV v, TS.intsOf s.heap v)).map (·.1) = out.map backV := by rw [List.map_map]; rfl
    have zl : (out.map backV).length ≤ sizeLine := by rw [List.length_map, h2.perm.length_eq]; exact hz'
    have qq := q (out.map fun v => (backV v, TS.intsOf s.heap v)) (s.heap.objs.size + 1) pm (by
      rw [List.map_map, List.pairwise_map]
      exact h1) (I.hok.fresh (Nat.le_succ _))
    rw [em] at qq
    exact ⟨.ref _, _, I.laid (a := s.heap.objs.size + 1) (t' := s.toks) (o := .lst (out.map backV)) (fun _ _ => PyProof.Rows.sortedAll_old) (Nat.le_succ _) ⟨zl, out, ep, vals_back hr, e'⟩, rfl, qq⟩
def dTups : List PyData → Option (List (List Int))
  | [] => some []
  | .tuple ds :: t => match intsOf ds, dTups t with
    | some (n :: ns), some u => some ((n :: ns) :: u)
    | _, _ => none
  | _ => none
theorem dTups_eq : ∀ {ds : List PyData} {us : List (List Int)}, dTups ds = some us → ds = us.map (fun n => PyData.tuple (n.map .int)) ∧ ∀ u ∈ us, u ≠ []
  | [], us, h => by cases h; exact ⟨rfl, fun u m => by cases m⟩
  | .tuple es :: t, us, h => by
    unfold dTups at h
    split at h
    · rename_i n ns u h1 h2
      cases h
      obtain ⟨a1, a2⟩ := dTups_eq h2
      refine ⟨by rw [a1, intsOf_eq h1] <;> rfl, fun u m => ?_⟩
      rcases List.mem_cons.mp m with m | m
      · rw [m]; simp
      · exact a2 u m
    · cases h
  | .none :: _, _, h => by cases h
  | .int _ :: _, _, h => by cases h
  | .str _ :: _, _, h => by cases h
  | .list _ :: _, _, h => by cases h
  | .bool _ :: _, _, h => by cases h
  | .dict _ :: _, _, h => by cases h
def bSortA : FN := fun is S => match is with
  | [v] => (match sintsOf S v with
    | some ns => .ok (.d (.list ((isort ns).map .int))) S
    | none => (match lstOf S v with
      | some ds => (match dTups ds with
        | some us => .ok (.d (.list ((lsort us).map fun n => .tuple (n.map .int)))) S
        | none => .bad)
      | none => .bad))
  | _ => .bad
theorem zip_rd {K : PySem.W.Frag} {H : Hp} {bd : List Addr} : ∀ {us : List (List Int)} {xs : List V}, RDs K H bd (us.map fun n => PyData.tuple (n.map .int)) xs → ∃ ps : List (V × List Int), ps.map (·.1) = xs ∧ ps.map (·.2) = us ∧ ∀ p ∈ ps, RD K H bd (.tuple (p.2.map .int)) p.1
  | [], _, .nil => ⟨[], rfl, rfl, fun p m => by cases m⟩
  | u :: us, _, .cons h t => by
    obtain ⟨ps, a1, a2, a3⟩ := zip_rd t
    refine ⟨(_, u) :: ps, by rw [List.map_cons, a1], by rw [List.map_cons, a2], fun p m => ?_⟩
    rcases List.mem_cons.mp m with m | m
    · rw [m]; exact h
    · exact a3 p m
theorem rds_of_zip {K : PySem.W.Frag} {H : Hp} {bd : List Addr} : ∀ {ps : List (V × List Int)}, (∀ p ∈ ps, RD K H bd (.tuple (p.2.map .int)) p.1) → RDs K H bd ((ps.map (·.2)).map fun n => PyData.tuple (n.map .int)) (ps.map (·.1))
  | [], _ => .nil
  | p :: ps, h => .cons (h p List.mem_cons_self) (rds_of_zip fun q m => h q (List.mem_cons_of_mem _ m))
theorem k_sortA : OkN c W (fun vs H Q => rSortedIT c.K vs H Q ∨ rSortedL c.K vs H Q) bSortA := by
  intro σ B Z H S is vs Q s r p
  unfold bSortA at p
  split at p
  · obtain ⟨x, rfl, rx⟩ := ris1 r
    split at p
    · rename_i ns hn
      obtain ⟨a, rfl, h1⟩ := sintsOf_sq s rx hn
      refine .inl ⟨a, ns, rfl, h1, fun ms l pm pw hl => ?_⟩
      rw [isort_of pm pw]
      exact new_list s (rds_ints _) hl p
    · split at p
      · rename_i ds hds
        split at p
        · rename_i us hus
          obtain ⟨a, xs, rfl, h1, h2⟩ := lstOf_sq s rx hds
          obtain ⟨d1, d2⟩ := dTups_eq hus
          rw [d1] at h2
          obtain ⟨ps, z1, z2, z3⟩ := zip_rd h2
          refine .inr ⟨a, ps, rfl, by rw [z1]; exact h1, fun q hq => ?_, fun qs l pm pw hl => ?_⟩
          · obtain ⟨t, ys, e, ht, rt⟩ := (z3 q hq).tupS
            rw [rt.ints] at ht
            exact ⟨t, e, ht, d2 _ (by rw [← z2]; exact List.mem_map.mpr ⟨q, hq, rfl⟩)⟩
          · have e := lsort_of (l := us) (m := qs.map (·.2)) (by rw [← z2]; exact pm.map _) pw
            rw [← e] at p
            exact new_list s (rds_of_zip fun q hq => z3 q (pm.mem_iff.mp hq)) hl p
        · exact p.elim
      · exact p.elim
  · exact p.elim
theorem call_or2 {v : Value} {r r' : List V → Hp → VK → Prop} (h : CallR X v r) (h' : CallR X v r') : CallR X v (fun vs H Q => r vs H Q ∨ r' vs H Q) := by
  intro pins s σ H xs us Q I rv q
  rcases q with q | q
  · exact h pins s σ H xs us Q I rv q
  · exact h' pins s σ H xs us Q I rv q
theorem f_sortedA (cx : Cxg c W X) : Bf c W X (.builtin "sorted") bSortA := ⟨_, call_or2 (cx.K ▸ cr_sortedIT) (cx.K ▸ cr_sortedL), k_sortA⟩
end
end MI
set_option maxRecDepth 100000
set_option maxHeartbeats 4000000
namespace MI
open PySem PySem.Spec PyProof.Rows L2 LamX NdefX
/-! ## sorted(set(l)), l of tuples of ints in [0, 64), all as long -/
def insU (x : List Int) : List (List Int) → List (List Int)
  | [] => [x]
  | y :: t => if lexL y x = true then y :: insU x t else if lexL x y = true then x :: y :: t else y :: t
def usort : List (List Int) → List (List Int)
  | [] => []
  | x :: t => insU x (usort t)
theorem lexL_irr : ∀ {x : List Int}, lexL x x = false
  | [] => rfl
  | a :: as => by rw [lexL_cc, if_pos rfl]; exact lexL_irr
theorem insU_mem {x a : List Int} : ∀ {t : List (List Int)}, a ∈ insU x t ↔ a = x ∨ a ∈ t
  | [] => by unfold insU; simp
  | y :: t => by
    unfold insU
    split
    · rw [List.mem_cons, insU_mem (t := t), List.mem_cons]
      constructor
      · rintro (h | h | h)
        · exact .inr (.inl h)
        · exact .inl h
        · exact .inr (.inr h)
      · rintro (h | h | h)
        · exact .inr (.inl h)
        · exact .inl h
        · exact .inr (.inr h)
    · rename_i h1
      split
      · rw [List.mem_cons]
      · rename_i h2
        have e : y = x := lexL_anti (by simpa using h1) (by simpa using h2)
        constructor
        · exact .inr
        · rintro (h | h)
          · rw [h, e]; exact List.mem_cons_self
          · exact h
theorem usort_mem {a : List Int} : ∀ {l : List (List Int)}, a ∈ usort l ↔ a ∈ l
  | [] => Iff.rfl
  | x :: t => by
    show a ∈ insU x (usort t) ↔ _
    rw [insU_mem, usort_mem (l := t), List.mem_cons]
theorem lexL_tt {x y z : List Int} (h1 : lexL x y = true) (h2 : lexL y z = true) : lexL x z = true := by
  cases h : lexL x z with
  | true => rfl
  | false =>
    have := lexL_tr (x := z) (y := x) (z := y) h (lexL_asym h1)
    rw [h2] at this; cases this
theorem insU_pw (x : List Int) : ∀ {t : List (List Int)}, t.Pairwise (fun a b => lexL a b = true) → (insU x t).Pairwise fun a b => lexL a b = true
  | [], _ => List.pairwise_singleton _ _
  | y :: t, h => by
    have z := List.pairwise_cons.mp h
    unfold insU
    split
    · rename_i h1
      refine List.pairwise_cons.mpr ⟨fun a ha => ?_, insU_pw x z.2⟩
      rcases insU_mem.mp ha with ha | ha
      · rw [ha]; exact h1
      · exact z.1 a ha
    · split
      · rename_i h2
        refine List.pairwise_cons.mpr ⟨fun a ha => ?_, h⟩
        rcases List.mem_cons.mp ha with ha | ha
        · rw [ha]; exact h2
        · exact lexL_tt h2 (z.1 a ha)
      · exact h
theorem usort_pw : ∀ (l : List (List Int)), (usort l).Pairwise fun a b => lexL a b = true
  | [] => .nil
  | x :: t => insU_pw x (usort_pw t)
theorem strict_uniq : ∀ {l m : List (List Int)}, (∀ a, a ∈ l ↔ a ∈ m) → l.Pairwise (fun a b => lexL a b = true) → m.Pairwise (fun a b => lexL a b = true) → l = m
  | [], [], _, _, _ => rfl
  | [], y :: u, h, _, _ => absurd ((h y).mpr List.mem_cons_self) (by simp)
  | x :: t, [], h, _, _ => absurd ((h x).mp List.mem_cons_self) (by simp)
  | x :: t, y :: u, h, h1, h2 => by
    have z1 := List.pairwise_cons.mp h1
    have z2 := List.pairwise_cons.mp h2
    have e : x = y := by
      rcases List.mem_cons.mp ((h x).mp List.mem_cons_self) with q1 | q1
      · exact q1
      · rcases List.mem_cons.mp ((h y).mpr List.mem_cons_self) with q2 | q2
        · exact q2.symm
        · have a1 := lexL_asym (z2.1 x q1)
          rw [z1.1 y q2] at a1; cases a1
    subst e
    have no : ∀ {l : List (List Int)}, (∀ a, a ∈ l → lexL x a = true) → x ∉ l := fun k m => by
      have := k x m
      rw [lexL_irr] at this; cases this
    rw [strict_uniq (l := t) (m := u) (fun a => ?_) z1.2 z2.2]
    constructor
    · intro ha
      rcases List.mem_cons.mp ((h a).mp (List.mem_cons_of_mem _ ha)) with q | q
      · rw [q] at ha; exact absurd ha (no z1.1)
      · exact q
    · intro ha
      rcases List.mem_cons.mp ((h a).mpr (List.mem_cons_of_mem _ ha)) with q | q
      · rw [q] at ha; exact absurd ha (no z2.1)
      · exact q
theorem code_lex {B : Int} : ∀ {x y : List Int}, x.length = y.length → TS.Bd B x → TS.Bd B y → lexL x y = true → TS.code B x < TS.code B y
  | _, [], _, _, _, h => by rw [lexL_nn] at h; cases h
  | [], _ :: _, hl, _, _, _ => by simp at hl
  | a :: x, b :: y, hl, hx, hy, h => by
    have hl2 : x.length = y.length := by simpa using hl
    rw [lexL_cc] at h
    by_cases e : a = b
    · subst e
      rw [if_pos rfl] at h
      have z := code_lex (x := x) (y := y) hl2 hx.tail hy.tail h
      exact (TS.code_same hl2).mpr z
    · rw [if_neg e, decide_eq_true_eq] at h
      exact TS.code_lt hl2 hx.tail hy.tail h
def okB (us : List (List Int)) : Bool := match us with
  | [] => true
  | u :: _ => decide (1 ≤ u.length) && (decide (us.length < 64) && us.all fun v => decide (v.length = u.length) && v.all fun m => decide (0 ≤ m) && decide (m < 64))
def eSrtSetA (f : FE) : FE := fun r S => (f r S).bind fun v S1 => match lintsOf S1 v with
  | some ns => if ns.length < 64 then .ok (.d (.list ((dsort ns).map .int))) S1 else .bad
  | none => (match lstOf S1 v with
    | some ds => (match dTups ds with
      | some us => if okB us then .ok (.d (.list ((usort us).map fun n => .tuple (n.map .int)))) S1 else .bad
      | none => .bad)
    | none => .bad)
section
variable {c : Ct} {W : WX} {X : Cx} {k : Nat}
theorem zip_ks {K : PySem.W.Frag} {H : Hp} {bd : List Addr} : ∀ {us : List (List Int)} {xs : List V}, RDs K H bd (us.map fun n => PyData.tuple (n.map .int)) xs → ∃ ks : List (Addr × List Int), (ks.map fun p => V.ref p.1) = xs ∧ ks.map (·.2) = us ∧ ∀ p ∈ ks, RD K H bd (.tuple (p.2.map .int)) (.ref p.1)
  | [], _, .nil => ⟨[], rfl, rfl, fun p m => by cases m⟩
  | u :: us, _, .cons h t => by
    obtain ⟨ks, a1, a2, a3⟩ := zip_ks t
    obtain ⟨a, ys, rfl, _, _⟩ := id h.tupS
    refine ⟨(a, u) :: ks, by rw [List.map_cons, a1], by rw [List.map_cons, a2], fun p m => ?_⟩
    rcases List.mem_cons.mp m with m | m
    · rw [m]; exact h
    · exact a3 p m
theorem rds_of_ks {K : PySem.W.Frag} {H : Hp} {bd : List Addr} : ∀ {ks : List (Addr × List Int)}, (∀ p ∈ ks, RD K H bd (.tuple (p.2.map .int)) (.ref p.1)) → RDs K H bd ((ks.map (·.2)).map fun n => PyData.tuple (n.map .int)) (ks.map fun p => V.ref p.1)
  | [], _ => .nil
  | p :: ks, h => .cons (h p List.mem_cons_self) (rds_of_ks fun q m => h q (List.mem_cons_of_mem _ m))
theorem rd_sq {K : PySem.W.Frag} {H : Hp} {bd : List Addr} {n : List Int} {a : Addr} (h : RD K H bd (.tuple (n.map .int)) (.ref a)) : SqT K H a (n.map V.int) := by
  obtain ⟨t, ys, e, ht, rt⟩ := h.tupS
  cases e
  rw [rt.ints] at ht
  exact ht
theorem s_srtSetA {a : Expr} {f : FE} {p p2 q pos : Pos} (cx : Cxg c W X) (hr : Room k X.A) (hg : Gl X "sorted") (hm : X.mg "sorted" = none) (hg2 : Gl X "set") (hm2 : X.mg "set" = none) (ha : PE X a (TEx c W f)) (hc : X.calm = true)
    (na : starEach [a] X.env = (false, eval a X.env) :: starEach [] X.env := by rfl) (nb : starEach [.Call (.Name "set" p2) [a] [] q] X.env = (false, eval (.Call (.Name "set" p2) [a] [] q) X.env) :: starEach [] X.env := by rfl) : PE X (.Call (.Name "sorted" p) [.Call (.Name "set" p2) [a] [] q] [] pos) (TEx c W (eSrtSetA f)) := by
  have e1 := s_srtSet (W := W) (p := p) (p2 := p2) (q := q) (pos := pos) cx hg hm hg2 hm2 ha hc na nb
  have e2 := pe_callB (p := p) (pos := pos) (cr_sortedT (X := X) hc) hg hm (by decide +kernel) (pa_cons (pe_callTy (p := p2) (pos := q) (cr_setOfT (X := X) hc (by have := hr.un; omega)) hg2 hm2 (by decide +kernel) (pa_cons ha pa_nil na) (he := na)) pa_nil nb) (he := nb)
  refine ⟨fun pins s σ H Q I ⟨B, Z, r, S, sr, rr, pp⟩ => ?_⟩
  by_cases hi : ∃ v S1 ns, f r S = .ok v S1 ∧ lintsOf S1 v = some ns
  · refine e1.run pins s σ H Q I ⟨B, Z, r, S, sr, rr, ?_⟩
    obtain ⟨v, S1, ns, hf, hn⟩ := hi
    unfold eSrtSetA at pp
    unfold eSrtSet
    rw [hf] at pp ⊢
    simp only [Out.bind, hn] at pp ⊢
    exact pp
  · refine e2.run pins s σ H Q I ?_
    refine ⟨B, Z, r, S, sr, rr, ?_⟩
    unfold eSrtSetA at pp
    cases hf : f r S with
    | bad => rw [hf] at pp; exact pp.elim
    | exn n v S1 => rw [hf] at pp; exact pp
    | ok v S1 =>
    rw [hf] at pp
    intro B1 H1 ev1 s1 y hy
    have q1 := Post.far ev1 pp
    simp only [Out.bind] at q1
    split at q1
    · rename_i ns hns
      exact absurd ⟨v, S1, ns, hf, hns⟩ hi
    · split at q1
      · rename_i ds hds
        split at q1
        · rename_i us hus
          split at q1
          · rename_i hok
            obtain ⟨l, xs, rfl, h1, h2⟩ := lstOf_sq s1 hy hds
            obtain ⟨d1, d2⟩ := dTups_eq hus
            rw [d1] at h2
            obtain ⟨ks, z1, z2, z3⟩ := zip_ks h2
            have hfew : ks.length < 64 := by
              have : ks.length = us.length := by rw [← z2, List.length_map]
              rw [this]
              cases us with
              | nil => simp
              | cons u t =>
                unfold okB at hok
                simp only [Bool.and_eq_true, decide_eq_true_eq] at hok
                exact hok.2.1
            obtain ⟨d, hd1, hd2⟩ : ∃ d, 1 ≤ d ∧ ∀ u ∈ us, u.length = d ∧ TS.Bd 64 u := by
              cases us with
              | nil => exact ⟨1, Nat.le_refl _, fun u m => by cases m⟩
              | cons u t =>
                unfold okB at hok
                simp only [Bool.and_eq_true, decide_eq_true_eq, List.all_eq_true] at hok
                exact ⟨u.length, hok.1, fun v m => ⟨(hok.2.2 v m).1, fun x hx => (hok.2.2 v m).2 x hx⟩⟩
            refine ⟨l, ks, rfl, by rw [cx.K, z1]; exact h1, fun p hp => by rw [cx.K]; exact rd_sq (z3 p hp), hfew, fun a L hL hsub hall => ?_⟩
            have eN := Ev.new (o := SetTO X.prog X.w a L) s1 hL
            have sN := s1.new (o := SetTO X.prog X.w a L) hL
            have hu : ∀ p ∈ L, p.2 ∈ us := fun p hp => by rw [← z2]; exact List.mem_map.mpr ⟨p, hsub p hp, rfl⟩
            refine ⟨a, L, d, 64, rfl, upd_same, fun p hp => by rw [cx.K]; exact rd_sq ((z3 p (hsub p hp)).ev eN), hd1, fun p hp => hd2 _ (hu p hp), fun L' l' pm nd few pw hl' => ?_⟩
            have e : L'.map (·.2) = usort us := by
              refine strict_uniq (fun x => ?_) ?_ (usort_pw us)
              · rw [usort_mem]
                constructor
                · intro m
                  obtain ⟨p, hp, rfl⟩ := List.mem_map.mp m
                  exact hu p (pm.mem_iff.mp hp)
                · intro m
                  rw [← z2] at m
                  obtain ⟨p, hp, rfl⟩ := List.mem_map.mp m
                  obtain ⟨p', hp', e'⟩ := List.mem_map.mp (hall p hp)
                  exact List.mem_map.mpr ⟨p', pm.mem_iff.mpr hp', e'⟩
              · have pw' : (L'.map (·.2)).Pairwise (fun x y => TS.code 64 x ≤ TS.code 64 y) := List.pairwise_map.mpr pw
                have nd' : (L'.map (·.2)).Pairwise (· ≠ ·) := nd
                refine (pw'.and nd').imp_of_mem fun {x y} hx hy hxy => ?_
                have mem : ∀ x ∈ L'.map (·.2), x.length = d ∧ TS.Bd 64 x := fun x m => by
                  obtain ⟨p, hp, rfl⟩ := List.mem_map.mp m
                  exact hd2 _ (hu p (pm.mem_iff.mp hp))
                cases h : lexL x y with
                | true => rfl
                | false =>
                  cases h' : lexL y x with
                  | false => exact absurd (lexL_anti h h') hxy.2
                  | true =>
                    have := code_lex (by rw [(mem x hx).1, (mem y hy).1]) (mem y hy).2 (mem x hx).2 h'
                    omega
            rw [← e] at q1
            have fin := new_list sN (rds_of_ks (ks := L') fun p hp => (z3 p (hsub p (pm.mem_iff.mp hp))).ev eN) hl' (q1.far eN)
            exact fin
          · exact q1.elim
        · exact q1.elim
      · exact q1.elim
end
end MI
set_option maxRecDepth 100000
set_option maxHeartbeats 4000000
namespace MI
open PySem PySem.Spec PyProof.Rows L2 LamX NdefX
/-! ## min(l, key=lambda y: y[1] - y[0]), l of pairs of ints -/
section
variable {prog : Program} {w : World} {A : Around} {E : Value → Shared → Prop} {s : Shared}
theorem raw_ix {env : Env} {y : Str} {t : Addr} {a b r : Value} {k : Int} {j : Nat} {p p2 pos : Pos} {kd : Nat} {m : Str → Option Value} {Q : Value → Shared → Prop} (hk : env.scope.kind = .function) (hl : env.kindOf y = some .local) (hn : s.heap.Ns env.locals m) (hm : m y = some (.ref t)) (ht : IsTup s.heap t #[a, b])
    (hj : seqIndex? k 2 = some j) (hx : (#[a, b] : Array Value)[j]? = some r) (h1 : -(2 ^ 63) ≤ k) (h2 : k < 2 ^ 63) (hd : (y == ("__debug__" : Str)) = false) (h : ∀ tk, Q r { s with toks := tk }) : wpAny (model prog w) A (eval (.Subscript (.Name y p) (.Constant (.int k) kd p2) pos) env) Q E s := by
  refine Subscript_ (wpAny_Name (wpAny_loadName_local hk hl hn hm ?_) hd)
  refine wpAny_Constant_int ?_
  exact subscriptTail_builtinR (x := r) (T := "tuple") (id := "tuple.__getitem__") (show Shared.TypeIs { s with toks := s.toks + 1 } (.ref t) "tuple" from ht.typeIs) slot_tuple_getitem.lookup (getItem_tuple (j := j) (Q := fun u s' => u = r ∧ Q u s') ht h1 h2 hj hx ⟨rfl, h _⟩)
/-- the key, called -/
theorem turn_sub {h₀ : Heap} {Lo f t cc : Addr} {L : LI} {m : Str → Option Value} {need : List (Addr × Obj)} {pm ctv : Value} {x z : Int} {u1 u2 : Tok} {y : Str} {p1 p2 p3 q1 q2 q3 q4 : Pos} {k1 k2 : Nat} {cl : List (Str × Addr)} (hdp : A.depth < recursionLimit)
    (hf : s.heap.get? f = some (PySem.W.kla_obj "<lambda>" L.qual L.params L.body L.scope cl pm cc ctv)) (hcd : s.heap.CodeRec (.ref cc) L.qual) (nl : s.heap.NoLimit) (ht : IsTup s.heap t #[.int x u1, .int z u2]) (F : Fr h₀ Lo s.heap m) (N : News h₀ Lo s.heap need)
    (hbody : L.body = .BinOp (.Subscript (.Name y p1) (.Constant (.int 1) k1 p2) p3) .Sub (.Subscript (.Name y q1) (.Constant (.int 0) k2 q2) q3) q4) (hk : L.scope.kind = .function) (hco : L.scope.isCoroutine = false) (hgen : L.scope.isGenerator = false) (hnc : ∀ y ∈ L.scope.names, y.2 ≠ .cell) (hy : L.scope.names.lookup y = some .local)
    (hbind : ∀ (q : Str) (cl : List (Str × Addr)) (pm cv ctv v : Value), bindArgs (PySem.W.kla_fn "<lambda>" q L.params L.body L.scope cl pm cv ctv) ⟨[v], []⟩ = pure [(y, v)]) (hdb : (y == ("__debug__" : Str)) = false) :
    wpAny (model prog w) A (call (.ref f) [.ref t]) (KskEnd h₀ Lo m need (z - x) s) E s := by
  refine wpAny_call (PySem.W.kla_callFunE hdp hf rfl hco hgen rfl hcd ?_)
  rw [hbind]
  refine wpAny_pure (wpAny_newFunctionEnv hnc (fun v hv => ?_) (fun h₁ hns hsb => ⟨nl.fresh _ hsb, ?_⟩) hk)
  · rw [List.mem_singleton.mp hv]; exact hy
  have kp : ∀ b o, s.heap.get? b = some o → h₁.get? b = some o := fun b o e => hsb.extBut b o (Nat.ne_of_lt (Heap.lt_size e)) (Heap.get?_push_of_some _ e)
  refine PySem.W.kla_codeExpr ?_
  show wpAny _ _ (eval L.body _) _ _ _
  rw [hbody]
  have ht1 : IsTup h₁ t #[.int x u1, .int z u2] := by
    obtain ⟨o, ho, r⟩ := ht
    exact ⟨o, kp _ _ ho, r⟩
  refine wpAny_BinOp (raw_ix (m := fun v => ([(y, Value.ref t)] : List (Str × Value)).reverse.lookup v) hk hy hns (by simp [List.lookup]) ht1 (j := 1) (by decide) rfl (by decide) (by decide) hdb fun tk1 => ?_)
  refine raw_ix (m := fun v => ([(y, Value.ref t)] : List (Str × Value)).reverse.lookup v) hk hy hns (by simp [List.lookup]) ht1 (j := 0) (by decide) rfl (by decide) (by decide) hdb fun tk2 => ?_
  refine sub_int ?_
  obtain ⟨o, es, ep, ho, r⟩ := F.ns
  exact KskEnd.intro (news' := need) ⟨⟨o, es, ep, kp _ _ ho, r⟩, fun b o e => kp _ _ (F.keep b o e), F.above⟩ (fun q hq => ⟨kp _ _ (N q hq).1, (N q hq).2⟩) fun q hq => hq
end
/-- the lambda `lambda y: y[1] - y[0]` -/
structure KeyL (L : LI) : Prop where
  ex : ∃ (y : Str) (p1 p2 p3 q1 q2 q3 q4 : Pos) (k1 k2 : Nat), L.body = .BinOp (.Subscript (.Name y p1) (.Constant (.int 1) k1 p2) p3) .Sub (.Subscript (.Name y q1) (.Constant (.int 0) k2 q2) q3) q4 ∧ L.scope.names.lookup y = some .local ∧
    (∀ (q : Str) (cl : List (Str × Addr)) (pm cv ctv v : Value), bindArgs (PySem.W.kla_fn "<lambda>" q L.params L.body L.scope cl pm cv ctv) ⟨[v], []⟩ = pure [(y, v)]) ∧ (y == ("__debug__" : Str)) = false
  kind : L.scope.kind = .function
  co : L.scope.isCoroutine = false
  gen : L.scope.isGenerator = false
  nc : ∀ y ∈ L.scope.names, y.2 ≠ .cell
def kfP (ps : List (Int × Int)) (i : Nat) : Int := (ps.getD i (0, 0)).2 - (ps.getD i (0, 0)).1
def rMinSub (K : PySem.W.Frag) : List V → List V → Hp → VK → Prop := fun xs zs H Q => ∃ (a f cc : Addr) (L : LI) (cl : List (Str × Addr)) (vs : List V) (ps : List (Int × Int)), xs = [V.ref a] ∧ zs = [V.ref f] ∧ SqL K H a vs ∧ H f = some (LamO f L cl cc) ∧ H cc = some (CodeO cc L.qual) ∧ KeyL L ∧ vs.length = ps.length ∧
  (∀ (i : Nat) (p : Int × Int), ps[i]? = some p → ∃ t, vs[i]? = some (V.ref t) ∧ SqT K H t [.int p.1, .int p.2]) ∧ 0 < ps.length ∧ ∀ (i : Nat) (v : V), vs[i]? = some v → (∀ j, j < ps.length → kfP ps i ≤ kfP ps j ∧ (j < i → kfP ps i < kfP ps j)) → Q v H
section
variable {X : Cx} {k : Nat}
theorem cr_minSub (hr : Room k X.A) : CallRK X (.builtin "min") [Str.ofString "key"] (rMinSub X.K) := by
  intro pins s σ H xs zs us ws Q I r rz h
  obtain ⟨a, f, cc, L, cl, vs, ps, rfl, rfl, hs, hf, hcc, kl, hl, hps, hne, q⟩ := h
  rw [Vals.ref1 r, Vals.ref1 rz]
  obtain ⟨its, rv, pl, hz⟩ := I.list hs
  obtain ⟨⟨pm, ctv, hfo⟩, _⟩ := I.hok f _ hf
  obtain ⟨⟨oc, cvs, tc, hoc, hdc, hvc⟩, _, _⟩ := I.hok cc _ hcc
  obtain ⟨y, p1, p2, p3, q1, q2, q3, q4, k1, k2, hbody, hy, hbind, hdb⟩ := kl.ex
  obtain ⟨m, F⟩ := I.fr
  have rvl := rv.length
  -- all the other objects
  let news : List (Addr × Obj) := (List.range s.heap.objs.size).filterMap fun b => if b = X.env.locals ∨ (X.base.get? b).isSome = true then none else (s.heap.get? b).map (Prod.mk b)
  have N : News X.base X.env.locals s.heap news := fun p hp => by
    obtain ⟨b, _, hb⟩ := List.mem_filterMap.mp hp
    split at hb
    · cases hb
    · rename_i hn
      obtain ⟨o, ho, rfl⟩ := Option.map_eq_some_iff.mp hb
      refine ⟨ho, fun z => hn (.inl z), ?_⟩
      cases z : X.base.get? b with
      | none => rfl
      | some u => exact absurd (.inr (by rw [z]; rfl)) hn
  have all : ∀ (h : Heap) (own : List (Addr × Obj)), Fr X.base X.env.locals h m → News X.base X.env.locals h (news ++ own) → ∀ b o, b ≠ X.env.locals → s.heap.get? b = some o → h.get? b = some o := fun h own F' N' b o hb e => by
    cases z : X.base.get? b with
    | some u =>
      have z2 := I.bk b u z
      rw [e] at z2
      cases z2
      exact F'.keep b o z
    | none =>
      have hm : (b, o) ∈ news := List.mem_filterMap.mpr ⟨b, List.mem_range.mpr (Heap.lt_size e), by rw [if_neg (by rw [z]; simp [hb]), e] <;> rfl⟩
      exact (N' (b, o) (List.mem_append_left _ hm)).1
  have all0 : ∀ (h : Heap), Fr X.base X.env.locals h m → News X.base X.env.locals h news → ∀ b o, b ≠ X.env.locals → s.heap.get? b = some o → h.get? b = some o := fun h F' N' => all h [] F' (by rw [List.append_nil]; exact N')
  have neL : ∀ b o u, H b = some u → s.heap.get? b = some o → b ≠ X.env.locals := fun b o u e _ z => by rw [z, I.free] at e; cases e
  -- what is tracked or of the written part is no frame
  have sqNe : ∀ {t : Addr} {xs : List V}, SqT X.K H t xs → t ≠ X.env.locals := fun {t xs} hq z => by
    obtain ⟨itt, _, ⟨o, ho, hc, n, hd⟩, _⟩ := I.tuple hq
    obtain ⟨m', ⟨o', es, ep, ho', hd', _⟩, _⟩ := I.loc
    rw [z] at ho
    have : o = o' := Option.some.inj (ho.symm.trans ho')
    rw [this, hd'] at hd
    cases hd
  have lNe : a ≠ X.env.locals := fun z => by
    obtain ⟨o, ho, hc, n, hd⟩ := pl.isList
    obtain ⟨m', ⟨o', es, ep, ho', hd', _⟩, _⟩ := I.loc
    rw [z] at ho
    have : o = o' := Option.some.inj (ho.symm.trans ho')
    rw [this, hd'] at hd
    cases hd
  have lstK : ∀ h, Fr X.base X.env.locals h m → News X.base X.env.locals h news → h.IsList a its.toArray := fun h F' N' => by
    obtain ⟨o, ho, hr'⟩ := pl.isList
    exact ⟨o, all0 h F' N' a o lNe ho, hr'⟩
  refine kmk_min (kfP ps) hr.hd F N lstK (by omega) (fun i v hv h tk own F' N' => ?_) fun i v h' tk' hv hbest F' N' => ?_
  · -- a turn
    have hi : i < ps.length := by
      have := (List.getElem?_eq_some_iff.mp hv).1
      omega
    obtain ⟨t, ht1, ht2⟩ := hps i _ (List.getElem?_eq_getElem hi)
    obtain ⟨w, hw1, hw2⟩ := rv.get ht1
    rw [hv] at hw1
    cases hw1
    obtain rfl : v = Value.ref t := hw2
    obtain ⟨itt, rt, ⟨o, ho, hc, n, hd⟩, _⟩ := I.tuple ht2
    obtain ⟨u1, u2, rfl, r1, r2⟩ := vals2 rt
    obtain ⟨t1, rfl⟩ := r1
    obtain ⟨t2, rfl⟩ := r2
    have kk := all h own F' N'
    have ek : kfP ps i = ps[i].2 - ps[i].1 := by
      unfold kfP
      rw [List.getD_eq_getElem?_getD, List.getElem?_eq_getElem hi] <;> rfl
    rw [ek]
    have nl : h.NoLimit := I.ok.mod.nolimit.keeps F'.keep
    exact turn_sub (s := { s with heap := h, toks := tk }) (L := L) (show X.A.depth < recursionLimit from hr.depth) (kk _ _ (neL f _ _ hf hfo) hfo) ⟨cc, oc, cvs, tc, rfl, kk _ _ (neL cc _ _ hcc hoc) hoc, hdc, hvc⟩ nl ⟨o, kk _ _ (sqNe ht2) ho, hc, n, hd⟩ F' N' hbody kl.kind kl.co kl.gen kl.nc hy hbind hdb
  · -- the end
    have hi : i < vs.length := by
      have := (List.getElem?_eq_some_iff.mp hv).1
      omega
    obtain ⟨t, ht1, ht2⟩ := hps i _ (List.getElem?_eq_getElem (by omega))
    obtain ⟨w, hw1, hw2⟩ := rv.get ht1
    rw [hv] at hw1
    cases hw1
    have kk := all0 h' F' N'
    have J : Inv X pins σ H { s with heap := h', gens := s.gens, drawn := s.drawn, toks := tk' } := by
      refine I.step (ch := []) (fun b hb => absurd hb (by simp)) (fun b o hL _ _ e _ => kk b o hL e) (fun b o hL _ _ e _ => ⟨o.slots, kk b o hL e⟩) (fun b o _ _ n => n) (fun b o _ e => ?_) (fun _ _ z => z) (fun _ _ _ z => z) (fun b qs z => ⟨#[], by simpa using z⟩) (fun m' hm' => ?_) (fun b u e => ?_) I.bare
      · by_cases hb : b = X.env.locals
        · obtain ⟨o', es, ep, ho, _⟩ := F'.ns
          exact ⟨o', by rw [hb]; exact ho⟩
        · exact ⟨o, kk b o hb e⟩
      · have e1 := hm'.eq_nsMap
        have e2 := F.ns.eq_nsMap
        rw [e1, ← e2]
        exact F'.ns
      · refine (I.hok b u e).stay (fun d v hd z => kk d v (fun zz => ?_) z) (fun _ z => z) fun _ _ z => z
        rcases hd with hd | hd
        · rw [← hd, zz, I.free] at e; cases e
        · rw [zz, I.free] at hd; cases hd
    exact ⟨_, H, J, hw2, q i _ ht1 fun j hj => by
      have z := hbest j (by omega)
      exact z⟩
end
end MI
set_option maxRecDepth 100000
set_option maxHeartbeats 4000000
namespace MI
open PySem PySem.Spec PyProof.Rows L2 LamX NdefX
/-! ## min(l, key=lambda y: y[1] - y[0]): the reading -/
def dPairs : List PyData → Option (List (Int × Int))
  | [] => some []
  | .tuple [.int x, .int y] :: t => (dPairs t).map ((x, y) :: ·)
  | _ => none
def pairD (p : Int × Int) : PyData := .tuple [.int p.1, .int p.2]
theorem dPairs_eq : ∀ {ds : List PyData} {ps : List (Int × Int)}, dPairs ds = some ps → ds = ps.map pairD
  | [], ps, h => by cases h; rfl
  | d :: t, ps, h => by
    unfold dPairs at h
    split at h
    · rename_i e; cases e
    · rename_i x y t' e
      cases e
      obtain ⟨us, h1, rfl⟩ := Option.map_eq_some_iff.mp h
      rw [dPairs_eq h1] <;> rfl
    · cases h
def kP (p : Int × Int) : Int := p.2 - p.1
def firstMin (ps : List (Int × Int)) : Option (Int × Int) := ps.find? fun p => ps.all fun q => decide (kP p ≤ kP q)
def eMinK (f : FE) : FE := fun r S => (f r S).bind fun v S1 => match v with
  | .d (.list ds) => (match dPairs ds with
    | some ps => (match firstMin ps with
      | some p => .ok (.d (pairD p)) S1
      | none => .bad)
    | none => .bad)
  | _ => .bad
theorem kfP_at {ps : List (Int × Int)} {i : Nat} (h : i < ps.length) : kfP ps i = kP ps[i] := by
  unfold kfP kP
  rw [List.getD_eq_getElem?_getD, List.getElem?_eq_getElem h] <;> rfl
theorem firstMin_at {ps : List (Int × Int)} {i : Nat} (hi : i < ps.length) (h : ∀ j, j < ps.length → kfP ps i ≤ kfP ps j ∧ (j < i → kfP ps i < kfP ps j)) : firstMin ps = some ps[i] := by
  unfold firstMin
  refine List.find?_eq_some_iff_getElem.mpr ⟨?_, i, hi, rfl, fun j hj => ?_⟩
  · rw [List.all_eq_true]
    intro q hq
    obtain ⟨j, hj, rfl⟩ := List.mem_iff_getElem.mp hq
    have z := (h j hj).1
    rw [kfP_at hi, kfP_at hj] at z
    exact decide_eq_true z
  · have hjl : j < ps.length := Nat.lt_trans hj hi
    have z := (h j hjl).2 hj
    rw [kfP_at hi, kfP_at hjl] at z
    rw [Bool.not_eq_true']
    rw [← Bool.not_eq_true, List.all_eq_true]
    intro k
    have := of_decide_eq_true (k ps[i] (List.getElem_mem hi))
    omega
/-- a lambda without captured names, as a keyword -/
def tLamP (c : Ct) (X : Cx) (params : Arguments) (body : Expr) (scope : Scope) : TE := fun σ H Q => Tabs c.T H ∧ ∀ (f cc : Addr) (H1 : Hp), (∀ b o, H b = some o → NT o → H1 b = some o) → (∀ b, H b ≠ none → H1 b ≠ none) → Tabs c.T H1 → H1 f = none →
  H1 cc = some (CodeO cc (X.env.qual ++ "<lambda>")) → Q (.ref f) (upd H1 f (LamO f ⟨params, body, scope, X.env.qual ++ "<lambda>", []⟩ (cloFrom X.env.cells scope.names []) cc))
structure MkT (c : Ct) (X : Cx) : Prop where
  tab : ∃ cd P : Addr, TabB X.base X.mg cd P ∧ X.env.code = .ref cd ∧ (P, X.env.qual ++ "<lambda>") ∈ c.T ∧ ∀ p ∈ c.T, p.1 = P → p.2 = X.env.qual ++ "<lambda>"
section
variable {c : Ct} {W : WX} {X : Cx} {k : Nat}
theorem pe_lamP {params : Arguments} {body : Expr} {scope : Scope} {pos : Pos} (m : MkT c X) (hdef : defaultsOf params X.env = ([], [])) (hnf : ∀ y ∈ scope.names, y.2 ≠ .free) : PE X (.Lambda params body scope pos) (tLamP c X params body scope) := by
  refine ⟨fun pins s σ H Q I ⟨hT, h⟩ => ?_⟩
  obtain ⟨cd, P, TB, hcode, hmT, hun⟩ := m.tab
  exact lamMk (T := c.T) (fr := []) I TB hcode hmT hun hT hdef (fun y hy e => absurd e (hnf y hy)) fun f cc H1 s1 I1 kp th T1 nf hcc _ => ⟨.ref f, _, I1, rfl, h f cc H1 kp th T1 nf hcc⟩
def keyLB (body : Expr) (scope : Scope) : Bool := (match body with
  | .BinOp (.Subscript (.Name y _) (.Constant (.int i) _ _) _) .Sub (.Subscript (.Name z _) (.Constant (.int j) _ _) _) _ => decide (i = 1) && (decide (j = 0) && (decide (y = z) && (decide (scope.names.lookup y = some .local) && !(y == ("__debug__" : Str)))))
  | _ => false) && (decide (scope.kind = .function) && (!scope.isCoroutine && (!scope.isGenerator && (scope.names.all (fun y => !decide (y.2 = .cell)) && scope.names.all fun y => !decide (y.2 = .free)))))
theorem s_minK {a : Expr} {f : FE} {params : Arguments} {scope : Scope} {y : Str} {b1 b2 b3 d1 d2 d3 d4 p lpos kpos pos : Pos} {k1 k2 : Nat} (cx : Cxg c W X) (hr : Room k X.A) (m : MkT c X) (hg : Gl X "min") (hm : X.mg "min" = none) (ha : PE X a (TEx c W f))
    (hb : keyLB (.BinOp (.Subscript (.Name y b1) (.Constant (.int 1) k1 b2) b3) .Sub (.Subscript (.Name y d1) (.Constant (.int 0) k2 d2) d3) d4) scope = true)
    (hbind : ∀ (q : Str) (cl : List (Str × Addr)) (pm cv ctv v : Value), bindArgs (PySem.W.kla_fn "<lambda>" q params (.BinOp (.Subscript (.Name y b1) (.Constant (.int 1) k1 b2) b3) .Sub (.Subscript (.Name y d1) (.Constant (.int 0) k2 d2) d3) d4) scope cl pm cv ctv) ⟨[v], []⟩ = pure [(y, v)])
    (hdef : defaultsOf params X.env = ([], []) := by rfl) (na : starEach [a] X.env = (false, eval a X.env) :: starEach [] X.env := by rfl)
    (he : backTo pos (starEach [a] X.env) = (false, eval a X.env) :: backTo pos (starEach [] X.env) := by rfl) (hpl : (backTo pos (starEach [a] X.env)).any (·.1) = false := by rfl) :
    PE X (.Call (.Name "min" p) [a] [⟨some "key", .Lambda params (.BinOp (.Subscript (.Name y b1) (.Constant (.int 1) k1 b2) b3) .Sub (.Subscript (.Name y d1) (.Constant (.int 0) k2 d2) d3) d4) scope lpos, kpos⟩] pos) (TEx c W (eMinK f)) := by
  unfold keyLB at hb
  simp only [Bool.and_eq_true, decide_eq_true_eq, Bool.not_eq_true', List.all_eq_true, decide_eq_false_iff_not] at hb
  obtain ⟨⟨_, _, _, hy, hdb⟩, hk, hco, hgen, hnc, hnf⟩ := hb
  have kl : KeyL ⟨params, _, scope, X.env.qual ++ "<lambda>", []⟩ := ⟨⟨y, b1, b2, b3, d1, d2, d3, d4, k1, k2, rfl, hy, hbind, hdb⟩, hk, hco, hgen, hnc⟩
  refine pe_imp (pe_callBK (ks := [Str.ofString "key"]) (cr_minSub (X := X) hr) hg hm (by decide +kernel) (pa_cons ha pa_nil na) (pk_cons (pe_lamP (c := c) m hdef hnf) pk_nil) (he := he) (hpl := hpl)) ?_
  rintro σ H Q ⟨B, Z, r, S, sr, rr, pp⟩
  refine ⟨B, Z, r, S, sr, rr, (Post.bind pp).imp fun v S1 B1 H1 ev1 s1 q x hx => ?_⟩
  split at q
  · rename_i ds
    split at q
    · rename_i ps hps
      split at q
      · rename_i pm hpm
        have ed := dPairs_eq hps
        subst ed
        cases hx with
        | d hx =>
          have hx0 := hx
          obtain ⟨a0, xs, rfl, hl, rds⟩ := hx.lstS
          refine ⟨s1.tb, fun f0 cc H2 kp th T2 nf hcc => ?_⟩
          have e2' : Ev B1 H1 B1 H2 := ⟨⟨[], by simp, fun _ z => by cases z⟩, fun u o z _ n => kp u o z n, fun b hb => th b (s1.trk b hb), th⟩
          have s2 : SR c H2 B1 Z S1 := s1.same e2' T2 fun b hb => by
            rcases s1.kind hb with ⟨ys, z⟩ | ⟨ys, z⟩
            · rw [z]; exact kp b _ z ntL
            · rw [z]; exact kp b _ z ntD
          have e3 := Ev.new (o := LamO f0 ⟨params, (.BinOp (.Subscript (.Name y b1) (.Constant (.int 1) k1 b2) b3) .Sub (.Subscript (.Name y d1) (.Constant (.int 0) k2 d2) d3) d4), scope, X.env.qual ++ "<lambda>", []⟩ (cloFrom X.env.cells scope.names []) cc) s2 nf
          have s3 := s2.new (o := LamO f0 ⟨params, (.BinOp (.Subscript (.Name y b1) (.Constant (.int 1) k1 b2) b3) .Sub (.Subscript (.Name y d1) (.Constant (.int 0) k2 d2) d3) d4), scope, X.env.qual ++ "<lambda>", []⟩ (cloFrom X.env.cells scope.names []) cc) nf
          have rd3 := (hx0.ev (e2'.trans e3))
          obtain ⟨a1, xs1, ea, hl1, rds1⟩ := rd3.lstS
          cases ea
          have hlen : xs1.length = ps.length := by rw [← rds1.length, List.length_map]
          refine ⟨a0, f0, cc, _, _, xs1, ps, rfl, rfl, .of hl1, upd_same, by rw [upd_ne (ne_of_none hcc nf)]; exact hcc, kl, hlen, fun i p0 hp => ?_, ?_, fun i v0 hv hbest => ?_⟩
          · have hi : (ps.map pairD)[i]? = some (pairD p0) := by rw [List.getElem?_map, hp] <;> rfl
            obtain ⟨x0, g1, g2⟩ := rds1.get hi
            obtain ⟨t, ys, rfl, ht, rt⟩ := g2.tupS
            rw [show [PyData.int p0.1, PyData.int p0.2] = [p0.1, p0.2].map PyData.int from rfl] at rt
            rw [rt.ints] at ht
            rw [cx.K]
            exact ⟨t, g1, ht⟩
          · cases ps with
            | nil => cases hpm
            | cons _ _ => simp
          · have hi : i < ps.length := by
              rw [← hlen]; exact (List.getElem?_eq_some_iff.mp hv).1
            have em := firstMin_at hi hbest
            rw [em] at hpm
            cases hpm
            have hi2 : (ps.map pairD)[i]? = some (pairD ps[i]) := by rw [List.getElem?_map, List.getElem?_eq_getElem hi] <;> rfl
            obtain ⟨x0, g1, g2⟩ := rds1.get hi2
            rw [hv] at g1
            cases g1
            exact q B1 _ (e2'.trans e3) s3 v0 (.d g2)
      · exact q.elim
    · exact q.elim
  · exact q.elim
end
section
variable {P : Program} {w : World} {c : Ct} {base : Heap}
/-- a def whose code object's table is known -/
theorem fun_okT {x qual : Str} {params : Arguments} {body : List Stmt} {scope : Scope} {kws : List (Str × V)} {fd : FuncData} {N ps : List Str} {k : Nat} {fs : FS} {p : Str × Option Str} (F : FunD c.K x qual params body scope [] kws (He.fAd c.K p) fd) (S : FnScope N ps scope)
    (hbody : ∀ (A : Around) (outer : List Env) (s : Shared) (H : Hp) (E : XK), Room k (A.deeper (envOfC qual scope s.heap.objs.size (He.fAd c.K p) (.ref (He.codeOf c.K p)))) → A.guards = some [] →
      PSs (cxOf (L2.CX P w) P w c.K c.mg base N qual scope (He.fAd c.K p) (.ref (He.codeOf c.K p)) A outer s H E) body (TSx c (fun cls d _ H => E cls d H) fs)) : FnG P w c base (k + 1) (He.fAd c.K p) fd ps (fnB N.length fs) := by
  obtain ⟨oc, od, dV, kV, doc, pm, an, cdv, ct, osl, rfl, lk, hcd, _, _⟩ := F.ex
  obtain ⟨cd, rfl⟩ := He.codeIn_ref hcd
  have ecd := He.codeOf_eq lk (c := cd) rfl
  rw [ecd] at hbody
  exact fn_ofG lk hcd S fun A outer s H E hr hgu => hbody A outer s H E hr hgu
theorem mkt_of {N : List Str} {qual : Str} {scope : Scope} {f : Addr} {cd P0 : Addr} {A : Around} {outer : List Env} {s : Shared} {H : Hp} {E : XK} (TB : TabB base c.mg cd P0) (hm : (P0, (envOfC qual scope s.heap.objs.size f (.ref cd)).qual ++ "<lambda>") ∈ c.T) (hu : ∀ p ∈ c.T, p.1 = P0 → p.2 = (envOfC qual scope s.heap.objs.size f (.ref cd)).qual ++ "<lambda>") :
    MkT c (cxOf (L2.CX P w) P w c.K c.mg base N qual scope f (.ref cd) A outer s H E) := ⟨cd, P0, TB, rfl, hm, hu⟩
end
end MI
set_option maxRecDepth 100000
set_option maxHeartbeats 4000000
namespace MI
open PySem PySem.Spec PyProof.Rows L2 LamX NdefX
/-! ## a tuple many times -/
def oMulA : O2 := fun v w S => match v, w with
  | .d (.tuple ds), .d (.int k) => if ds.isEmpty = false ∧ 2 ≤ k ∧ k ≤ 1000 ∧ ds.length ≤ 1000 then .ok (.d (.tuple (List.replicate k.toNat ds).flatten)) S else .bad
  | v, w => oInt gMul v w S
section
variable {c : Ct} {W : WX} {X : Cx}
theorem rds_rep {K : PySem.W.Frag} {H : Hp} {bd : List Addr} {ds : List PyData} {xs : List V} (r : RDs K H bd ds xs) : ∀ n, RDs K H bd (List.replicate n ds).flatten (List.replicate n xs).flatten
  | 0 => .nil
  | n + 1 => by
    rw [List.replicate_succ, List.replicate_succ, List.flatten_cons, List.flatten_cons]
    exact r.app (rds_rep r n)
theorem k_mulA : Ok2 c W (fun x y H Q => rRepTF c.K x y H Q ∨ rI CMulW (fun i j => .int (i * j)) x y H Q) oMulA := by
  intro σ B Z H S v w x y Q s rv rw_ p
  unfold oMulA at p
  split at p
  · rename_i ds k
    split at p
    · rename_i h
      cases rv with
      | d rv =>
        cases rw_ with
        | d rw_ =>
          cases rw_
          obtain ⟨l, xs, rfl, ht, rt⟩ := rv.tupS
          have hl := rt.length
          refine .inl ⟨l, k, xs, rfl, rfl, ht, fun e => ?_, h.2.1, h.2.2.1, by rw [← hl]; exact h.2.2.2, fun q oq hq toq => ?_⟩
          · rw [e] at hl
            have : ds = [] := List.length_eq_zero_iff.mp hl
            rw [this] at h
            exact absurd h.1 (by simp)
          · exact p B _ (Ev.new s hq) (s.new hq) _ (.d (RD.newTup s hq toq (rds_rep rt _)))
    · exact p.elim
  · exact .inr (k_mul σ B Z H S v w x y Q s rv rw_ p)
theorem v_mulA {a b : Expr} {f g : FE} {pos : Pos} (cx : Cxg c W X) (ha : PE X a (TEx c W f)) (hb : PE X b (TEx c W g)) : PE X (.BinOp a .Mult b pos) (TEx c W (eOp2 oMulA f g)) := s_op (op_repTF.or op_mulW) (by rw [cx.K]; exact k_mulA) ha hb
end
end MI
set_option maxRecDepth 100000
set_option maxHeartbeats 4000000
namespace MI
open PySem PySem.Spec PyProof.Rows L2 LamX NdefX
section
variable {X : Cx} {c : Ct} {W : WX} {B Z : List Addr} {H : Hp} {σ : L2.St}
/-! ## l.index(x), l a list or a tuple -/
def TupV (K : PySem.W.Frag) (x : V) (H : Hp) : Prop := ∃ a xs, x = V.ref a ∧ ((∃ o, H a = some (.frz o (.tup xs)) ∧ TupO o) ∨ (KTup K a xs ∧ KNd K a))
theorem tupV_is {pins : List (Addr × Obj)} {s : Shared} {x : V} {v : Value} (I : Inv X pins σ H s) (rx : RelV x v) (h : TupV X.K x H) : s.TypeIs v "tuple" ∧ ∀ a, v = .ref a → ∃ ob, s.heap.get? a = some ob ∧ ob.dict = none := by
  obtain ⟨a, xs, rfl, h⟩ := h
  cases rx
  rcases h with ⟨o, h, to⟩ | ⟨⟨o, its, n, hk, hc, _⟩, nd⟩
  · have z := (I.hok a _ h).1
    exact ⟨⟨o, z, to.cls⟩, fun b e => by cases e; exact ⟨o, z, to.dict⟩⟩
  · have z := I.kIn a o hk
    exact ⟨⟨o, z, hc⟩, fun b e => by cases e; exact ⟨o, z, nd o hk⟩⟩
def rIndexT (K : PySem.W.Frag) : V → List V → Hp → VK → Prop := fun x xs H Q => ∃ (a : Addr) (y : V) (d : PyData) (ds : List PyData) (j : Nat) (z : PyData), x = V.ref a ∧ xs = [y] ∧ Dp K H (V.ref a) (.tuple ds) ∧ Dp K H y d ∧
  SeqAt.shaped (.list ds) = true ∧ SeqAt.shaped d = true ∧ ds[j]? = some z ∧ PyData.eqv z d = true ∧ (∀ (m : Nat) (z' : PyData), m < j → ds[m]? = some z' → PyData.eqv z' d = false) ∧ Q (.int (j : Nat)) H
theorem mt_indexT (hu : X.A.units + 65 < cLine) : MtR X "tuple.index" (rIndexT X.K) := by
  intro pins s σ H x xs v us Q I rx rxs h
  obtain ⟨a, y, d, ds, j, z, rfl, rfl, hl, hy, sl, sd, hz, hzj, hno, q⟩ := h
  cases rx
  cases rxs with
  | cons ry rt =>
    rename_i uy ut
    cases rt
    obtain ⟨bs, r1⟩ := Dp.reads I d y uy hy ry
    have hxs : PyData.canLayAll0 ds = true := SeqAt.canLay_of_shaped sl
    have hroom : X.A.units + 1 + min (PyData.depthAll ds) d.depth < cLine := room_in_shaped sd hu
    cases hl with
    | tup hs ha =>
      obtain ⟨its, rv, ⟨⟨cls, dd, data, sls⟩, ho, hc, n, hdt⟩, hlen⟩ := I.tuple hs
      simp only at hc hdt
      subst hc hdt
      obtain ⟨as, h4⟩ := Dp.readsAll I ds _ its ha rv
      have hn : its.length = ds.length := SeqAt.ReadsAll.length ds its as h4
      have hmap : its.map (SeqAt.readOf s.heap) = ds := SeqAt.readsAll_map ds its as hxs h4
      have hvl := rv.length
      have hsl := sizeLine_eq
      obtain ⟨hjd, _⟩ := List.getElem?_eq_some_iff.mp hz
      have hjl : j < its.length := by omega
      have hj : j < its.toArray.size := by simpa using hjl
      have at_ : ∀ (m : Nat) (hm : m < its.toArray.size) (z' : PyData), ds[m]? = some z' → SeqAt.readOf s.heap its.toArray[m] = z' := by
        intro m hm z' hz'
        have hml : m < its.length := by simpa using hm
        rw [← hmap, List.getElem?_map, List.getElem?_eq_getElem hml] at hz'
        have e1 : SeqAt.readOf s.heap its[m] = z' := Option.some.inj (show some (SeqAt.readOf s.heap its[m]) = some z' from hz')
        simpa using e1
      refine call_meets PySem.F.slot_tuple_index ⟨_, ho, rfl⟩ PySem.F.entry_tuple_index (PySem.F.args_tuple_index_2 _ _)
        (TI.tuple_indexAt a its.toArray n dd sls uy (fun u => PyData.eqv (SeqAt.readOf s.heap u) d) j hj ?_ ?_) ⟨ho, SeqAt.items_eqAt (vs := its.toArray) (show ReadsAll s.heap its.toArray.toList ds as from h4) r1 hxs (SeqAt.canLay_of_shaped sd) hroom, ?_⟩
      · show PyData.eqv (SeqAt.readOf s.heap its.toArray[j]) d = true
        rw [at_ j hj z hz]
        exact hzj
      · intro m hm hmj
        have hmd : m < ds.length := by omega
        have hz' : ds[m]? = some ds[m] := List.getElem?_eq_getElem hmd
        show PyData.eqv (SeqAt.readOf s.heap its.toArray[m]) d = false
        rw [at_ m hm _ hz']
        exact hno m _ hmj hz'
      · exact ⟨.int (j : Nat), H, I.tok _, ⟨_, rfl⟩, q⟩
variable {o e : Expr} {es : List Expr} {to : TE} {t : TA} {name : Str} {apos cpos : Pos} {id1 id2 : String} {r1 r2 : V → List V → Hp → VK → Prop}
/-- a method that lists and tuples have -/
theorem pe_bm2 (pa : PlainAttrs "list") (slot : Slot "list" name id1) (hty : typeOf (.builtin id1) = pure (.type "method_descriptor")) (hm : MtR X id1 r1) (pa2 : PlainAttrs "tuple") (slot2 : Slot "tuple" name id2) (hty2 : typeOf (.builtin id2) = pure (.type "method_descriptor")) (hm2 : MtR X id2 r2) (ho : PE X o to) (ha : PA X (e :: es) t)
    (hbase : attributeBase o name X.env (eval o X.env) = eval o X.env := by rfl)
    (hfew : ((backTo cpos (starEach (e :: es) X.env)).all (fun x => !x.1) && (backToKw cpos (keywordEach [] X.env)).all (fun x => x.1.isSome)
      && decide ((e :: es).length + ([] : List Keyword).length + (if ([] : List Keyword).isEmpty then 0 else 1) < 30)) = true := by rfl)
    (hline : (apos.endLine == cpos.line) = true := by rfl) (hs : starEach (e :: es) X.env = (false, eval e X.env) :: starEach es X.env := by rfl) (hplain : (backTo cpos (starEach es X.env)).any (·.1) = false := by rfl) :
    PE X (.Call (.Attribute o name apos) (e :: es) [] cpos) (fun σ H Q => to σ H fun x H1 => (tyV X.K "list" x H1 ∧ t σ H1 fun xs H2 => r1 x xs H2 Q) ∨ (TupV X.K x H1 ∧ t σ H1 fun xs H2 => r2 x xs H2 Q)) := by
  refine ⟨fun pins s σ H Q I h => ?_⟩
  refine wpAny_Call_method_late hbase hfew hline rfl (thn (ho.run pins s σ H _ I h) fun v s1 ⟨x, H1, I1, rx, q1⟩ => ?_)
  rcases q1 with ⟨ty, q1⟩ | ⟨ty, q1⟩
  · obtain ⟨h1, h2⟩ := tyV_is I1 rx ty
    refine ⟨"list", id1, pa, slot, hty, h1, h2, ?_⟩
    have hA := ha.run cpos pins s1 σ H1 _ I1 q1
    rw [hs] at hA ⊢
    refine Calls.callWith_builtin (by show (false || (backTo cpos (starEach es X.env)).any (·.1)) = false; rw [hplain] <;> rfl) (Calls.evalArgs_plain ?_)
    exact thn hA fun us s2 ⟨vs, H2, I2, ru, q2⟩ => hm pins s2 σ H2 x vs v us Q I2 rx ru q2
  · obtain ⟨h1, h2⟩ := tupV_is I1 rx ty
    refine ⟨"tuple", id2, pa2, slot2, hty2, h1, h2, ?_⟩
    have hA := ha.run cpos pins s1 σ H1 _ I1 q1
    rw [hs] at hA ⊢
    refine Calls.callWith_builtin (by show (false || (backTo cpos (starEach es X.env)).any (·.1)) = false; rw [hplain] <;> rfl) (Calls.evalArgs_plain ?_)
    exact thn hA fun us s2 ⟨vs, H2, I2, ru, q2⟩ => hm2 pins s2 σ H2 x vs v us Q I2 rx ru q2
@[simp] def mIdxT (ds : List PyData) : FN := fun is S => match is with
  | [w] => match toD 0 S w with
    | some d => if SeqAt.shaped (.list ds) && SeqAt.shaped d then (match ds.findIdx? (fun z => PyData.eqv z d) with
      | some j => .ok (.d (.int (j : Nat))) S
      | none => .bad) else .bad
    | _ => .bad
  | _ => .bad
@[simp] def eIdxA (fo : FE) (fa : FA) : FE := fun r S => (fo r S).bind fun v S1 => match tupOf v with
  | some ds => (fa r S1).bind fun is S2 => mIdxT ds is S2
  | none => if tyOk "list" S1 v then (fa r S1).bind fun is S2 => mIdx v is S2 else .bad
theorem k_idxT {S : Sto} {ds : List PyData} {is : List IV} {x : V} {xs : List V} {Q : VK} (s : SR c H B Z S) (rv : RI c H B Z (.d (.tuple ds)) x) (ra : RIs c H B Z is xs) (p : Post c W B Z H σ (mIdxT ds is S) (fun v S' B' H' => ∀ x, RI c H' B' Z v x → Q x H')) : rIndexT c.K x xs H Q := by
  unfold mIdxT at p
  split at p
  · rename_i w
    obtain ⟨y, rfl, ry⟩ := ris1 ra
    split at p
    · rename_i d q2
      by_cases hs : (SeqAt.shaped (.list ds) && SeqAt.shaped d) = true
      · rw [if_pos hs] at p
        simp only [Bool.and_eq_true] at hs
        have hd : Dp c.K H x (.tuple ds) := by
          cases rv with | d rv => exact rv.dp (show SeqAt.shaped (.tuple ds) = true from hs.1)
        have hx : ∃ a, x = V.ref a := by
          cases rv with | d rv => obtain ⟨a, xs, e, _⟩ := rv.tupS; exact ⟨a, e⟩
        obtain ⟨a, rfl⟩ := hx
        split at p
        · rename_i j hj
          obtain ⟨hl, h3, h4⟩ := List.findIdx?_eq_some_iff_getElem.mp hj
          refine ⟨a, y, d, ds, j, ds[j], rfl, rfl, hd, (whole_rd s ry q2).dp hs.2, hs.1, hs.2, List.getElem?_eq_getElem hl, h3, fun m z hm hz => ?_, p.ret s _ (.d (.int _))⟩
          obtain ⟨hm2, rfl⟩ := List.getElem?_eq_some_iff.mp hz
          simpa using h4 m hm
        · exact p.elim
      · rw [if_neg hs] at p; exact p.elim
    · exact p.elim
  · exact p.elim
variable {fo : FE} {fa : FA}
theorem tupV_of {ds : List PyData} {x : V} (h : RI c H B Z (.d (.tuple ds)) x) : TupV c.K x H := by
  cases h with
  | d h =>
    cases h with
    | tup h to _ _ => exact ⟨_, _, rfl, .inl ⟨_, h, to⟩⟩
    | tupK h nd _ => exact ⟨_, _, rfl, .inr ⟨h, nd⟩⟩
theorem s_idxA (cx : Cxg c W X) (hr : Room k X.A) (ho : PE X o (TEx c W fo)) (ha : PA X (e :: es) (TAx c W fa)) (hbase : attributeBase o "index" X.env (eval o X.env) = eval o X.env := by rfl)
    (few : ((backTo cpos (starEach (e :: es) X.env)).all (fun x => !x.1) && (backToKw cpos (keywordEach [] X.env)).all (fun x => x.1.isSome) && decide ((e :: es).length + ([] : List Keyword).length + (if ([] : List Keyword).isEmpty then 0 else 1) < 30)) = true := by rfl)
    (line : (apos.endLine == cpos.line) = true := by rfl) (hs : starEach (e :: es) X.env = (false, eval e X.env) :: starEach es X.env := by rfl) (plain : (backTo cpos (starEach es X.env)).any (·.1) = false := by rfl) :
    PE X (.Call (.Attribute o "index" apos) (e :: es) [] cpos) (TEx c W (eIdxA fo fa)) :=
  pe_imp (pe_bm2 F.plainAttrs_list F.slot_list_index (by show builtinType _ = _; rw [builtinType_eq_fast]; kernel_rfl) (mt_indexD (by have := hr.un; omega)) PySem.F.plainAttrs_tuple PySem.F.slot_tuple_index PySem.F.type_tuple_index (mt_indexT (by have := hr.un; omega)) ho ha hbase few line hs plain) fun σ H Q ⟨B, Z, r, S, s, rr, p⟩ => ⟨B, Z, r, S, s, rr, (Post.bind p).imp fun v S1 B1 H1 e1 s1 q x rx => by
    rw [cx.K]
    split at q
    · rename_i ds hn
      rw [tupOf_d hn] at rx
      exact .inr ⟨tupV_of rx, B1, Z, r, S1, s1, rr.ev e1, (Post.bind q).imp fun is S2 B2 H2 e2 s2 q xs rxs => k_idxT s2 (rx.ev e2) rxs q⟩
    · split at q
      · rename_i h
        exact .inl ⟨tyOk_v s1 rx h, B1, Z, r, S1, s1, rr.ev e1, (Post.bind q).imp fun is S2 B2 H2 e2 s2 q xs rxs => k_idx s2 (rx.ev e2) rxs q⟩
      · exact q.elim⟩
end
end MI
set_option maxRecDepth 100000
set_option maxHeartbeats 0
namespace K22
open PySem PySem.Spec PyProof.Rows L2 MI LamX
/-! ## the text -/
def top (i : Nat) : Stmt := PySem.Challenge.pw_endforend_k22_what_stretches_and_knots_r.main.body.getD i (.Pass ⟨0, 0, 0, 0⟩)

/-- the names that are not the text's own, its constants -/
structure Blt (c : Ct) : Prop where
  abs_ : c.mg "abs" = none
  all_ : c.mg "all" = none
  any_ : c.mg "any" = none
  bool_ : c.mg "bool" = none
  int_ : c.mg "int" = none
  isinstance_ : c.mg "isinstance" = none
  len_ : c.mg "len" = none
  list_ : c.mg "list" = none
  max_ : c.mg "max" = none
  min_ : c.mg "min" = none
  range_ : c.mg "range" = none
  repr_ : c.mg "repr" = none
  set_ : c.mg "set" = none
  sorted_ : c.mg "sorted" = none
  str_ : c.mg "str" = none
  tuple_ : c.mg "tuple" = none
  DOWN_ : ∃ t, c.mg "DOWN" = some (.str "down" t)
  MOST_COUNTED_ : ∃ t, c.mg "MOST_COUNTED" = some (.int 6 t)
  MOST_ROWS_ : ∃ t, c.mg "MOST_ROWS" = some (.int 6 t)
  MOST_WAGONS_ : ∃ t, c.mg "MOST_WAGONS" = some (.int 12 t)
  ONE_ : ∃ t, c.mg "ONE" = some (.str "one" t)
  PRIME_ : ∃ t, c.mg "PRIME" = some (.str "prime" t)
  UP_ : ∃ t, c.mg "UP" = some (.str "up" t)
  FEW_ : ∃ a, c.mg "FEW" = some (.ref a) ∧ KTup c.K a (List.map V.int [1, 2, 0, 2, 6, 46, 338, 2926, 28146, 298526, 3454434, 43286528]) ∧ KNd c.K a
theorem bo_abs : bootBuiltins "abs" = some (.builtin "abs") := by decide +kernel
theorem bo_all : bootBuiltins "all" = some (.builtin "all") := by decide +kernel
theorem bo_any : bootBuiltins "any" = some (.builtin "any") := by decide +kernel
theorem bo_bool : bootBuiltins "bool" = some (.type "bool") := by decide +kernel
theorem bo_int : bootBuiltins "int" = some (.type "int") := by decide +kernel
theorem bo_isinstance : bootBuiltins "isinstance" = some (.builtin "isinstance") := by decide +kernel
theorem bo_len : bootBuiltins "len" = some (.builtin "len") := by decide +kernel
theorem bo_list : bootBuiltins "list" = some (.type "list") := by decide +kernel
theorem bo_max : bootBuiltins "max" = some (.builtin "max") := by decide +kernel
theorem bo_min : bootBuiltins "min" = some (.builtin "min") := by decide +kernel
theorem bo_repr : bootBuiltins "repr" = some (.builtin "repr") := by decide +kernel
theorem bo_sorted : bootBuiltins "sorted" = some (.builtin "sorted") := by decide +kernel
theorem bo_str : bootBuiltins "str" = some (.type "str") := by decide +kernel
theorem bo_tuple : bootBuiltins "tuple" = some (.type "tuple") := by decide +kernel
abbrev excs : List Str := ["BadKnot", "BadMany", "BadPlace", "BadPlain", "BadRows", "BadTree", "Single", "TooMany"]
/-! _law_cells -/
abbrev N__law_cells : List Str := ["script", "limit"]
def f__law_cells : FN := fnB 2 ((sCons (sRet (eRgL (rg1 (eApp bMax2 (aCons (eC (.int 1)) (aCons (eApp bMin2 (aCons (eVar 1) (aCons (eApp bLen (aCons (eVar 0) aNil)) aNil))) aNil))))))
  sNil))
/-! _law_pot -/
abbrev N__law_pot : List Str := ["script", "place", "cell", "own", "small"]
def f__law_pot : FN := fnB 5 ((sCons (sSet (eIf (tE (eOp2 (cInt gLt) (eVar 1) (eApp bLen (aCons (eVar 0) aNil)))) (eOp2 oIx (eVar 0) (eVar 1)) (eOp2 oAdd (eOp2 (oInt gMul) (eC (.int 1427)) (eVar 1)) (eC (.int 1229)))) 2)
  (sCons (sSet (eOp2 (oInt gMul) (eOp2 (oInt gMod) (eApp bInt (aCons (eApp bAbs (aCons (eVar 2) aNil)) aNil)) (eOp2 (oInt gPw) (eOp2 (oInt gPw) (eC (.int 10)) (eC (.int 60))) (eC (.int 5)))) (eApp bInt (aCons (eOp2 (cInt gGe) (eApp bAbs (aCons (eVar 2) aNil)) (eOp2 (oInt gPw) (eC (.int 10)) (eC (.int 18)))) aNil))) 3)
  (sCons (sSet (eOp2 (oInt gMod) (eApp bInt (aCons (eVar 2) aNil)) (eC (.int 2305843009213693951))) 4)
  (sCons (sRet (eLstM (aCons (eVar 3) (aCons (eOp2 (oInt gMod) (eApp bInt (aCons (eOp2 oAdd (eOp2 oAdd (eOp2 (oInt gMul) (eVar 4) (eC (.int 88379))) (eOp2 (oInt gMul) (eOp2 (oInt gMul) (eC (.int 8191)) (eVar 1)) (eVar 1))) (eC (.int 1321))) aNil)) (eC (.int 2305843009213693921))) (aCons (eC (.int 0)) aNil)))))
  sNil)))))
/-! _law_take -/
abbrev N__law_take : List Str := ["pot", "upto", "prime", "blend", "digit"]
def f__law_take : FN := fnB 5 ((sCons (sIf (tE (eOp2 (cInt gGt) (eOp2 oIx (eVar 0) (eC (.int 0))) (eC (.int 0)))) (sCons (sSet (eOp2 (oInt gMod) (eApp bInt (aCons (eOp2 oIx (eVar 0) (eC (.int 0))) aNil)) (eVar 1)) 4)
  (sCons (sAs (eOp2 (oInt gDiv) (eOp2 oIx (eVar 0) (eC (.int 0))) (eVar 1)) (gSb (eVar 0) (eC (.int 0))))
  (sCons (sRet (eVar 4))
  sNil))) sNil)
  (sCons (sAs (eOp2 oAdd (eOp2 oIx (eVar 0) (eC (.int 2))) (eC (.int 1))) (gSb (eVar 0) (eC (.int 2))))
  (sCons (sSet (eOp2 oIx (eLst (aCons (eC (.int 2147483647)) (aCons (eC (.int 2147483629)) (aCons (eC (.int 2147483587)) (aCons (eC (.int 2147483579)) (aCons (eC (.int 2147483563)) aNil)))))) (eOp2 (oInt gMod) (eApp bInt (aCons (eOp2 oIx (eVar 0) (eC (.int 2))) aNil)) (eC (.int 5)))) 2)
  (sCons (sSet (eOp2 (oInt gMod) (eApp bInt (aCons (eOp2 (oInt gPw) (eApp bInt (aCons (eOp2 oAdd (eOp2 oAdd (eOp2 oIx (eVar 0) (eC (.int 1))) (eOp2 (oInt gMul) (eOp2 (oInt gMul) (eC (.int 101081)) (eOp2 oIx (eVar 0) (eC (.int 2)))) (eOp2 oIx (eVar 0) (eC (.int 2))))) (eC (.int 1409))) aNil)) (eC (.int 3))) aNil)) (eVar 2)) 3)
  (sCons (sSet (eOp2 (oInt gMod) (eApp bInt (aCons (eOp2 (oInt gMul) (eVar 3) (eOp2 oAdd (eOp2 (oInt gMod) (eApp bInt (aCons (eVar 3) aNil)) (eC (.int 10335))) (eOp2 (oInt gMul) (eC (.int 165)) (eOp2 oIx (eVar 0) (eC (.int 2)))))) aNil)) (eC (.int 2305843009213693907))) 3)
  (sCons (sRet (eOp2 (oInt gMod) (eApp bInt (aCons (eOp2 (oInt gDiv) (eVar 3) (eC (.int 155))) aNil)) (eVar 1)))
  sNil)))))))
/-! _law_of -/
abbrev N__law_of : List Str := ["pot", "some"]
def f__law_of : FN := fnB 2 ((sCons (sRet (eOp2 oIx (eVar 1) (eApp (callN 2 f__law_take) (aCons (eVar 0) (aCons (eApp bLen (aCons (eVar 1) aNil)) aNil)))))
  sNil))
/-! _law_any_plain -/
abbrev N__law_any_plain : List Str := ["pot", "strange", "fine"]
def f__law_any_plain : FN := fnB 3 ((sCons (sSet (eLst (aCons (eTup aNil) (aCons (eTup (aCons (eC (.int 0)) aNil)) (aCons (eTup (aCons (eC (.int 2)) aNil)) (aCons (eTup (aCons (eC (.int 1)) (aCons (eC (.int 1)) aNil))) (aCons (eTup (aCons (eC (.int 1)) (aCons (eC (.int 3)) aNil))) (aCons (eLst (aCons (eC (.int 1)) (aCons (eC (.int 2)) aNil))) (aCons (eC .none) (aCons (eTup (aCons (eC (.bool true)) aNil)) (aCons (eTup (aCons (eC (.int 1)) (aCons (eOp1 oNeg (eC (.int 2))) aNil))) (aCons (eTup (aCons (eC (.str "1")) aNil)) (aCons (eRgT (rg2 (eC (.int 1)) (eC (.int 14)))) (aCons (eC (.int 1)) aNil))))))))))))) 1)
  (sCons (sSet (eLst (aCons (eTup (aCons (eC (.int 1)) aNil)) (aCons (eTup (aCons (eC (.int 2)) (aCons (eC (.int 1)) aNil))) (aCons (eTup (aCons (eC (.int 3)) (aCons (eC (.int 1)) (aCons (eC (.int 2)) aNil)))) (aCons (eTup (aCons (eC (.int 2)) (aCons (eC (.int 4)) (aCons (eC (.int 1)) (aCons (eC (.int 3)) aNil))))) (aCons (eTup (aCons (eC (.int 1)) (aCons (eC (.int 2)) (aCons (eC (.int 3)) aNil)))) (aCons (eTup (aCons (eC (.int 3)) (aCons (eC (.int 2)) (aCons (eC (.int 1)) (aCons (eC (.int 4)) aNil))))) aNil))))))) 2)
  (sCons (sRet (eIf (tE (eOp2 cEq (eApp (callN 2 f__law_take) (aCons (eVar 0) (aCons (eC (.int 4)) aNil))) (eC (.int 0)))) (eTup (aCons (eApp (callN 2 f__law_of) (aCons (eVar 0) (aCons (eVar 1) aNil))) (aCons (eC (.bool false)) aNil))) (eTup (aCons (eApp (callN 2 f__law_of) (aCons (eVar 0) (aCons (eVar 2) aNil))) (aCons (eC (.bool true)) aNil)))))
  sNil))))
/-! _law_is_plain -/
abbrev N__law_is_plain : List Str := ["value", "one"]
def f__law_is_plain : FN := fnB 2 ((sCons (sIf (tOr' (tNt (tE (eIsa "tuple" (eVar 0)))) (tOr' (tNt (tE (eCh (cInt gLe) (cInt gLe) (eC (.int 1)) (eApp bLen (aCons (eVar 0) aNil)) (eC (.int 12))))) (tNt (tE (eApp bAll (aCons (eLc (iSeq (eVar 0)) (gNm 1) tYe (eAn (eIsa "int" (eVar 1)) (eNt (eIsa "bool" (eVar 1)))) [1]) aNil)))))) (sCons (sRet (eC (.bool false)))
  sNil) sNil)
  (sCons (sRet (eOp2 cEq (eApp bSortA (aCons (eVar 0) aNil)) (eRgL (rg2 (eC (.int 1)) (eOp2 oAdd (eApp bLen (aCons (eVar 0) aNil)) (eC (.int 1)))))))
  sNil)))
/-! _law_are_places -/
abbrev N__law_are_places : List Str := ["many", "value", "size", "one"]
def f__law_are_places : FN := fnB 4 ((sCons (sIf (tOr' (tNt (tE (eIsa "tuple" (eVar 1)))) (tOr' (tE (eOp2 cNe (eApp bLen (aCons (eVar 1) aNil)) (eVar 2))) (tNt (tE (eApp bAll (aCons (eLc (iSeq (eVar 1)) (gNm 3) tYe (eAn (eIsa "int" (eVar 3)) (eNt (eIsa "bool" (eVar 3)))) [3]) aNil)))))) (sCons (sRet (eC (.bool false)))
  sNil) sNil)
  (sCons (sRet (eApp bAll (aCons (eLc (iSeq (eVar 1)) (gNm 3) tYe (eCh (cInt gLe) (cInt gLe) (eC (.int 1)) (eVar 3) (eVar 0)) [3]) aNil)))
  sNil)))
/-! _law_is_int -/
abbrev N__law_is_int : List Str := ["value", "low", "high"]
def f__law_is_int : FN := fnB 3 ((sCons (sRet (eAn (eIsa "int" (eVar 0)) (eAn (eNt (eIsa "bool" (eVar 0))) (eCh (cInt gLe) (cInt gLe) (eVar 1) (eVar 0) (eVar 2)))))
  sNil))
/-! is_integer -/
abbrev N_is_integer : List Str := ["value"]
def f_is_integer : FN := fnB 1 ((sCons (sRet (eAn (eIsa "int" (eVar 0)) (eNt (eIsa "bool" (eVar 0)))))
  sNil))
/-! is_between -/
abbrev N_is_between : List Str := ["value", "low", "high"]
def f_is_between : FN := fnB 3 ((sCons (sRet (eAn (eApp (callN 1 f_is_integer) (aCons (eVar 0) aNil)) (eCh (cInt gLe) (cInt gLe) (eVar 1) (eVar 0) (eVar 2))))
  sNil))
/-! are_between -/
abbrev N_are_between : List Str := ["value", "low", "high", "one"]
def f_are_between : FN := fnB 4 ((sCons (sRet (eAn (eIsa "tuple" (eVar 0)) (eApp bAll (aCons (eLc (iSeq (eVar 0)) (gNm 3) tYe (eApp (callN 3 f_is_between) (aCons (eVar 3) (aCons (eVar 1) (aCons (eVar 2) aNil)))) [3]) aNil))))
  sNil))
/-! is_plain -/
abbrev N_is_plain : List Str := ["value"]
def f_is_plain : FN := fnB 1 ((sCons (sIf (tOr' (tNt (tE (eIsa "tuple" (eVar 0)))) (tOr' (tNt (tE (eCh (cInt gLe) (cInt gLe) (eC (.int 1)) (eApp bLen (aCons (eVar 0) aNil)) (eC (.int 12))))) (tNt (tE (eApp (callN 3 f_are_between) (aCons (eVar 0) (aCons (eC (.int 1)) (aCons (eApp bLen (aCons (eVar 0) aNil)) aNil)))))))) (sCons (sRet (eC (.bool false)))
  sNil) sNil)
  (sCons (sRet (eOp2 cEq (eLenSet (eVar 0)) (eApp bLen (aCons (eVar 0) aNil))))
  sNil)))
/-! check_plain -/
abbrev N_check_plain : List Str := ["value"]
def f_check_plain : FN := fnB 1 ((sCons (sIf (tNt (tE (eApp (callN 1 f_is_plain) (aCons (eVar 0) aNil)))) (sCons (sRaise "BadPlain" (eVar 0))
  sNil) sNil)
  sNil))
/-! stretches_of -/
abbrev N_stretches_of : List Str := ["row", "found", "first", "last", "low", "high"]
def f_stretches_of : FN := fnB 6 ((sCons (sSet (eLstM aNil) 1)
  (sCons (sFor (iR2 (eC (.int 1)) (eOp2 oAdd (eApp bLen (aCons (eVar 0) aNil)) (eC (.int 1)))) (gNm 2) (sCons (sPar 4 5 (aCons (eOp2 oIx (eVar 0) (eOp2 (oInt gSub) (eVar 2) (eC (.int 1)))) (aCons (eOp2 oIx (eVar 0) (eOp2 (oInt gSub) (eVar 2) (eC (.int 1)))) aNil)))
  (sCons (sFor (iR2 (eVar 2) (eOp2 oAdd (eApp bLen (aCons (eVar 0) aNil)) (eC (.int 1)))) (gNm 3) (sCons (sPar 4 5 (aCons (eApp bMin2 (aCons (eVar 4) (aCons (eOp2 oIx (eVar 0) (eOp2 (oInt gSub) (eVar 3) (eC (.int 1)))) aNil))) (aCons (eApp bMax2 (aCons (eVar 5) (aCons (eOp2 oIx (eVar 0) (eOp2 (oInt gSub) (eVar 3) (eC (.int 1)))) aNil))) aNil)))
  (sCons (sIf (tE (eOp2 cEq (eOp2 (oInt gSub) (eVar 5) (eVar 4)) (eOp2 (oInt gSub) (eVar 3) (eVar 2)))) (sCons (sEx (eMt "list" mApp (eVar 1) (aCons (eTup (aCons (eVar 2) (aCons (eVar 3) aNil))) aNil)))
  sNil) sNil)
  sNil)))
  sNil)))
  (sCons (sRet (eVar 1))
  sNil))))
/-! stretches -/
abbrev N_stretches : List Str := ["row"]
def f_stretches : FN := fnB 1 ((sCons (sEx (eApp (callN 1 f_check_plain) (aCons (eVar 0) aNil)))
  (sCons (sRet (eApp bTup (aCons (eApp (callN 1 f_stretches_of) (aCons (eVar 0) aNil)) aNil)))
  sNil)))
/-! how_many -/
abbrev N_how_many : List Str := ["row"]
def f_how_many : FN := fnB 1 ((sCons (sEx (eApp (callN 1 f_check_plain) (aCons (eVar 0) aNil)))
  (sCons (sRet (eApp bLen (aCons (eApp (callN 1 f_stretches_of) (aCons (eVar 0) aNil)) aNil)))
  sNil)))
/-! least_of -/
abbrev N_least_of : List Str := ["row", "place", "some", "one"]
def f_least_of : FN := fnB 4 ((sCons (sSet (eLc (iSeq (eApp (callN 1 f_stretches_of) (aCons (eVar 0) aNil))) (gNm 3) (tE (eCh (cInt gLe) (cInt gLt) (eOp2 oIx (eVar 3) (eC (.int 0))) (eVar 1) (eOp2 oIx (eVar 3) (eC (.int 1))))) (eVar 3) [3]) 2)
  (sCons (sRet (eMinK (eVar 2)))
  sNil)))
/-! seeds -/
abbrev N_seeds : List Str := ["row", "place"]
def f_seeds : FN := fnB 2 ((sCons (sEx (eApp (callN 1 f_check_plain) (aCons (eVar 0) aNil)))
  (sCons (sRet (eApp bTup (aCons (eSrtSetA (eLc (iR2 (eC (.int 1)) (eApp bLen (aCons (eVar 0) aNil))) (gNm 1) tYe (eApp (callN 2 f_least_of) (aCons (eVar 0) (aCons (eVar 1) aNil))) [1])) aNil)))
  sNil)))
/-! least_around -/
abbrev N_least_around : List Str := ["row", "place"]
def f_least_around : FN := fnB 2 ((sCons (sEx (eApp (callN 1 f_check_plain) (aCons (eVar 0) aNil)))
  (sCons (sIf (tNt (tE (eApp (callN 3 f_is_between) (aCons (eVar 1) (aCons (eC (.int 1)) (aCons (eOp2 (oInt gSub) (eApp bLen (aCons (eVar 0) aNil)) (eC (.int 1))) aNil)))))) (sCons (sRaise "BadPlace" (eVar 1))
  sNil) sNil)
  (sCons (sRet (eApp (callN 2 f_least_of) (aCons (eVar 0) (aCons (eVar 1) aNil))))
  sNil))))
/-! check_rows -/
abbrev N_check_rows : List Str := ["rows", "row"]
def f_check_rows : FN := fnB 2 ((sCons (sIf (tOr' (tNt (tE (eIsa "tuple" (eVar 0)))) (tOr' (tNt (tE (eCh (cInt gLe) (cInt gLe) (eC (.int 1)) (eApp bLen (aCons (eVar 0) aNil)) (eC (.int 6))))) (tNt (tE (eApp bAll (aCons (eLc (iSeq (eVar 0)) (gNm 1) tYe (eApp (callN 1 f_is_plain) (aCons (eVar 1) aNil)) [1]) aNil)))))) (sCons (sRaise "BadRows" (eVar 0))
  sNil) sNil)
  (sCons (sIf (tE (eOp2 cNe (eLenSet (eLc (iSeq (eVar 0)) (gNm 1) tYe (eApp bLen (aCons (eVar 1) aNil)) [1])) (eC (.int 1)))) (sCons (sRaise "BadRows" (eVar 0))
  sNil) sNil)
  sNil)))
/-! side_by_side -/
abbrev N_side_by_side : List Str := ["row", "lot", "places", "wagon"]
def f_side_by_side : FN := fnB 4 ((sCons (sSet (eApp bSortA (aCons (eLc (iSeq (eVar 1)) (gNm 3) tYe (eIdxA (eVar 0) (aCons (eVar 3) aNil)) [3]) aNil)) 2)
  (sCons (sRet (eOp2 cEq (eOp2 (oInt gSub) (eOp2 oIx (eVar 2) (eOp1 oNeg (eC (.int 1)))) (eOp2 oIx (eVar 2) (eC (.int 0)))) (eOp2 (oInt gSub) (eApp bLen (aCons (eVar 2) aNil)) (eC (.int 1)))))
  sNil)))
/-! shared_of -/
abbrev N_shared_of : List Str := ["rows", "first", "found", "many", "last", "lot", "row"]
def f_shared_of : FN := fnB 7 ((sCons (sPar 2 3 (aCons (eLstM aNil) (aCons (eApp bLen (aCons (eOp2 oIx (eVar 0) (eC (.int 0))) aNil)) aNil)))
  (sCons (sFor (iR1 (eVar 3)) (gNm 1) (sCons (sFor (iR2 (eOp2 oAdd (eVar 1) (eC (.int 1))) (eOp2 oAdd (eVar 3) (eC (.int 1)))) (gNm 4) (sCons (sSet (eApp bTup (aCons (eApp bSortA (aCons (eSl (eOp2 oIx (eVar 0) (eC (.int 0))) (pSm (eVar 1)) (pSm (eVar 4))) aNil)) aNil)) 5)
  (sCons (sIf (tE (eApp bAll (aCons (eLc (iSeq (eVar 0)) (gNm 6) tYe (eApp (callN 2 f_side_by_side) (aCons (eVar 6) (aCons (eVar 5) aNil))) [6]) aNil))) (sCons (sEx (eMt "list" mApp (eVar 2) (aCons (eVar 5) aNil)))
  sNil) sNil)
  sNil)))
  sNil))
  (sCons (sRet (eApp bSortA (aCons (eVar 2) aNil)))
  sNil))))
/-! shared -/
abbrev N_shared : List Str := ["rows"]
def f_shared : FN := fnB 1 ((sCons (sEx (eApp (callN 1 f_check_rows) (aCons (eVar 0) aNil)))
  (sCons (sRet (eApp bTup (aCons (eApp (callN 1 f_shared_of) (aCons (eVar 0) aNil)) aNil)))
  sNil)))
/-! do_clash -/
abbrev N_do_clash : List Str := ["one", "other", "common", "wagon"]
def f_do_clash : FN := fnB 4 ((sCons (sSet (eLc (iSeq (eVar 0)) (gNm 3) (tE (eOp2 (cInN false) (eVar 3) (eVar 1))) (eVar 3) [3]) 2)
  (sCons (sRet (eAn (eOp2 cNe (eVar 2) (eLst aNil)) (eAn (eOp2 (cInt gLt) (eApp bLen (aCons (eVar 2) aNil)) (eApp bLen (aCons (eVar 0) aNil))) (eOp2 (cInt gLt) (eApp bLen (aCons (eVar 2) aNil)) (eApp bLen (aCons (eVar 1) aNil))))))
  sNil)))
/-! shared_knots -/
abbrev N_shared_knots : List Str := ["rows", "some", "lot", "other"]
def f_shared_knots : FN := fnB 4 ((sCons (sEx (eApp (callN 1 f_check_rows) (aCons (eVar 0) aNil)))
  (sCons (sSet (eApp (callN 1 f_shared_of) (aCons (eVar 0) aNil)) 1)
  (sCons (sRet (eApp bTup (aCons (eLc (iSeq (eVar 1)) (gNm 2) (tNt (tE (eApp bAny (aCons (eLc (iSeq (eVar 1)) (gNm 3) tYe (eApp (callN 2 f_do_clash) (aCons (eVar 2) (aCons (eVar 3) aNil))) [3]) aNil)))) (eVar 2) [2]) aNil)))
  sNil))))
/-! do_cross -/
abbrev N_do_cross : List Str := ["one", "other"]
def f_do_cross : FN := fnB 2 ((sCons (sRet (eOr (eCh3 (cInt gLt) (cInt gLe) (cInt gLt) (eOp2 oIx (eVar 0) (eC (.int 0))) (eOp2 oIx (eVar 1) (eC (.int 0))) (eOp2 oIx (eVar 0) (eC (.int 1))) (eOp2 oIx (eVar 1) (eC (.int 1)))) (eCh3 (cInt gLt) (cInt gLe) (cInt gLt) (eOp2 oIx (eVar 1) (eC (.int 0))) (eOp2 oIx (eVar 0) (eC (.int 0))) (eOp2 oIx (eVar 1) (eC (.int 1))) (eOp2 oIx (eVar 0) (eC (.int 1))))))
  sNil))
/-! knots_of -/
abbrev N_knots_of : List Str := ["row", "some", "one", "other"]
def f_knots_of : FN := fnB 4 ((sCons (sSet (eApp (callN 1 f_stretches_of) (aCons (eVar 0) aNil)) 1)
  (sCons (sRet (eLc (iSeq (eVar 1)) (gNm 2) (tNt (tE (eApp bAny (aCons (eLc (iSeq (eVar 1)) (gNm 3) tYe (eApp (callN 2 f_do_cross) (aCons (eVar 2) (aCons (eVar 3) aNil))) [3]) aNil)))) (eVar 2) [2]))
  sNil)))
/-! pattern_of -/
abbrev N_pattern_of : List Str := ["row", "spans", "firsts", "order", "first", "last", "wagon"]
def f_pattern_of : FN := fnB 7 ((sCons (sSet (eLc (iSeq (eVar 1)) (gTp 2 (gsCons (gNm 4) (gsCons (gNm 5) gsNil))) tYe (eOp2 oIx (eVar 0) (eOp2 (oInt gSub) (eVar 4) (eC (.int 1)))) [4, 5]) 2)
  (sCons (sSet (eApp bSortA (aCons (eVar 2) aNil)) 3)
  (sCons (sRet (eApp bTup (aCons (eLc (iSeq (eVar 2)) (gNm 6) tYe (eOp2 oAdd (eIdxA (eVar 3) (aCons (eVar 6) aNil)) (eC (.int 1))) [6]) aNil)))
  sNil))))
/-! is_within -/
abbrev N_is_within : List Str := ["one", "other"]
def f_is_within : FN := fnB 2 ((sCons (sRet (eAn (eOp2 (cInt gLe) (eOp2 oIx (eVar 1) (eC (.int 0))) (eOp2 oIx (eVar 0) (eC (.int 0)))) (eAn (eOp2 (cInt gLe) (eOp2 oIx (eVar 0) (eC (.int 1))) (eOp2 oIx (eVar 1) (eC (.int 1)))) (eOp2 cNe (eVar 0) (eVar 1)))))
  sNil))
/-! parts_of -/
abbrev N_parts_of : List Str := ["some", "knot", "inner", "one", "other"]
def f_parts_of : FN := fnB 5 ((sCons (sSet (eLc (iSeq (eVar 0)) (gNm 3) (tE (eApp (callN 2 f_is_within) (aCons (eVar 3) (aCons (eVar 1) aNil)))) (eVar 3) [3]) 2)
  (sCons (sRet (eLc (iSeq (eVar 2)) (gNm 3) (tNt (tE (eApp bAny (aCons (eLc (iSeq (eVar 2)) (gNm 4) tYe (eApp (callN 2 f_is_within) (aCons (eVar 3) (aCons (eVar 4) aNil))) [4]) aNil)))) (eVar 3) [3]))
  sNil)))
/-! home_of -/
abbrev N_home_of : List Str := ["many"]
def f_home_of : FN := fnB 1 ((sCons (sRet (eApp bTup (aCons (eRgL (rg2 (eC (.int 1)) (eOp2 oAdd (eVar 0) (eC (.int 1))))) aNil)))
  sNil))
/-! kind_of -/
abbrev N_kind_of : List Str := ["row", "some", "knot", "pattern", "home"]
def f_kind_of : FN := fnB 5 ((sCons (sIf (tE (eOp2 cEq (eOp2 oIx (eVar 2) (eC (.int 0))) (eOp2 oIx (eVar 2) (eC (.int 1))))) (sCons (sRet (eC (.str "one")))
  sNil) sNil)
  (sCons (sSet (eApp (callN 2 f_pattern_of) (aCons (eVar 0) (aCons (eApp (callN 2 f_parts_of) (aCons (eVar 1) (aCons (eVar 2) aNil))) aNil))) 3)
  (sCons (sSet (eApp (callN 1 f_home_of) (aCons (eApp bLen (aCons (eVar 3) aNil)) aNil)) 4)
  (sCons (sRet (eIf (tE (eOp2 cEq (eVar 3) (eVar 4))) (eC (.str "up")) (eIf (tE (eOp2 cEq (eVar 3) (eRev (eVar 4)))) (eC (.str "down")) (eC (.str "prime")))))
  sNil)))))
/-! knots -/
abbrev N_knots : List Str := ["row", "some", "knot"]
def f_knots : FN := fnB 3 ((sCons (sEx (eApp (callN 1 f_check_plain) (aCons (eVar 0) aNil)))
  (sCons (sSet (eApp (callN 1 f_knots_of) (aCons (eVar 0) aNil)) 1)
  (sCons (sRet (eApp bTup (aCons (eLc (iSeq (eVar 1)) (gNm 2) tYe (eTup (aStar (eVar 2) (aCons (eApp (callN 3 f_kind_of) (aCons (eVar 0) (aCons (eVar 1) (aCons (eVar 2) aNil)))) aNil))) [2]) aNil)))
  sNil))))
/-! check_knot -/
abbrev N_check_knot : List Str := ["row", "knot", "one"]
def f_check_knot : FN := fnB 3 ((sCons (sEx (eApp (callN 1 f_check_plain) (aCons (eVar 0) aNil)))
  (sCons (sIf (tOr' (tNt (tE (eIsa "tuple" (eVar 1)))) (tOr' (tNt (tE (eApp bAll (aCons (eLc (iSeq (eVar 1)) (gNm 2) tYe (eApp (callN 1 f_is_integer) (aCons (eVar 2) aNil)) [2]) aNil)))) (tE (eOp2 (cInN true) (eVar 1) (eApp (callN 1 f_knots_of) (aCons (eVar 0) aNil)))))) (sCons (sRaise "BadKnot" (eVar 1))
  sNil) sNil)
  (sCons (sIf (tE (eOp2 cEq (eOp2 oIx (eVar 1) (eC (.int 0))) (eOp2 oIx (eVar 1) (eC (.int 1))))) (sCons (sRaise "Single" (eVar 1))
  sNil) sNil)
  sNil))))
/-! parts -/
abbrev N_parts : List Str := ["row", "knot"]
def f_parts : FN := fnB 2 ((sCons (sEx (eApp (callN 2 f_check_knot) (aCons (eVar 0) (aCons (eVar 1) aNil))))
  (sCons (sRet (eApp bTup (aCons (eApp (callN 2 f_parts_of) (aCons (eApp (callN 1 f_knots_of) (aCons (eVar 0) aNil)) (aCons (eVar 1) aNil))) aNil)))
  sNil)))
/-! pattern -/
abbrev N_pattern : List Str := ["row", "knot"]
def f_pattern : FN := fnB 2 ((sCons (sEx (eApp (callN 2 f_check_knot) (aCons (eVar 0) (aCons (eVar 1) aNil))))
  (sCons (sRet (eApp (callN 2 f_pattern_of) (aCons (eVar 0) (aCons (eApp (callN 2 f_parts_of) (aCons (eApp (callN 1 f_knots_of) (aCons (eVar 0) aNil)) (aCons (eVar 1) aNil))) aNil))))
  sNil)))
/-! tree_at -/
abbrev N_tree_at : List Str := ["row", "some", "knot", "one"]
def b_tree_at (self : FN) : FN := fnB 4 ((sCons (sIf (tE (eOp2 cEq (eOp2 oIx (eVar 2) (eC (.int 0))) (eOp2 oIx (eVar 2) (eC (.int 1))))) (sCons (sRet (eOp2 oIx (eVar 0) (eOp2 (oInt gSub) (eOp2 oIx (eVar 2) (eC (.int 0))) (eC (.int 1)))))
  sNil) sNil)
  (sCons (sRet (eTup (aCons (eApp (callN 3 f_kind_of) (aCons (eVar 0) (aCons (eVar 1) (aCons (eVar 2) aNil)))) (aCons (eApp bTup (aCons (eLc (iSeq (eApp (callN 2 f_parts_of) (aCons (eVar 1) (aCons (eVar 2) aNil)))) (gNm 3) tYe (eApp (callN 3 self) (aCons (eVar 0) (aCons (eVar 1) (aCons (eVar 3) aNil)))) [3]) aNil)) aNil))))
  sNil)))
def fR_tree_at : Nat → FN
  | 0 => fun _ _ => .bad
  | n + 1 => b_tree_at (fR_tree_at n)
def f_tree_at : FN := fR_tree_at 8
/-! tree_of -/
abbrev N_tree_of : List Str := ["row"]
def f_tree_of : FN := fnB 1 ((sCons (sRet (eApp (callN 3 f_tree_at) (aCons (eVar 0) (aCons (eApp (callN 1 f_knots_of) (aCons (eVar 0) aNil)) (aCons (eTup (aCons (eC (.int 1)) (aCons (eApp bLen (aCons (eVar 0) aNil)) aNil))) aNil)))))
  sNil))
/-! tree -/
abbrev N_tree : List Str := ["row"]
def f_tree : FN := fnB 1 ((sCons (sEx (eApp (callN 1 f_check_plain) (aCons (eVar 0) aNil)))
  (sCons (sRet (eApp (callN 1 f_tree_of) (aCons (eVar 0) aNil)))
  sNil)))
/-! wagons_of -/
abbrev N_wagons_of : List Str := ["value", "found", "part", "some"]
def b_wagons_of (self : FN) : FN := fnB 4 ((sCons (sIf (tE (eApp (callN 1 f_is_integer) (aCons (eVar 0) aNil))) (sCons (sRet (eLst (aCons (eVar 0) aNil)))
  sNil) sNil)
  (sCons (sIf (tOr' (tNt (tE (eIsa "tuple" (eVar 0)))) (tOr' (tE (eOp2 cNe (eApp bLen (aCons (eVar 0) aNil)) (eC (.int 2)))) (tNt (tE (eIsa "str" (eOp2 oIx (eVar 0) (eC (.int 0)))))))) (sCons (sRet (eC .none))
  sNil) sNil)
  (sCons (sIf (tNt (tE (eIsa "tuple" (eOp2 oIx (eVar 0) (eC (.int 1)))))) (sCons (sRet (eC .none))
  sNil) sNil)
  (sCons (sSet (eLstM aNil) 1)
  (sCons (sFor (iSeq (eOp2 oIx (eVar 0) (eC (.int 1)))) (gNm 2) (sCons (sSet (eApp (callN 1 self) (aCons (eVar 2) aNil)) 3)
  (sCons (sIf (tE (eOp2 (cIsN false) (eVar 3) (eC .none))) (sCons (sRet (eC .none))
  sNil) sNil)
  (sCons (sEx (eMt "list" mExt (eVar 1) (aCons (eVar 3) aNil)))
  sNil))))
  (sCons (sRet (eVar 1))
  sNil)))))))
def fR_wagons_of : Nat → FN
  | 0 => fun _ _ => .bad
  | n + 1 => b_wagons_of (fR_wagons_of n)
def f_wagons_of : FN := fR_wagons_of 6
/-! is_tree -/
abbrev N_is_tree : List Str := ["value", "wagons"]
def f_is_tree : FN := fnB 2 ((sCons (sSet (eApp (callN 1 f_wagons_of) (aCons (eVar 0) aNil)) 1)
  (sCons (sRet (eAn (eOp2 (cIsN true) (eVar 1) (eC .none)) (eAn (eApp (callN 1 f_is_plain) (aCons (eApp bTup (aCons (eVar 1) aNil)) aNil)) (eOp2 cEq (eApp bRepr (aCons (eApp (callN 1 f_tree_of) (aCons (eApp bTup (aCons (eVar 1) aNil)) aNil)) aNil)) (eApp bRepr (aCons (eVar 0) aNil))))))
  sNil)))
/-! row_by -/
abbrev N_row_by : List Str := ["told"]
def f_row_by : FN := fnB 1 ((sCons (sIf (tNt (tE (eApp (callN 1 f_is_tree) (aCons (eVar 0) aNil)))) (sCons (sRaise "BadTree" (eVar 0))
  sNil) sNil)
  (sCons (sRet (eApp bTup (aCons (eApp (callN 1 f_wagons_of) (aCons (eVar 0) aNil)) aNil)))
  sNil)))
/-! simple_count -/
abbrev N_simple_count : List Str := ["many"]
def f_simple_count : FN := fnB 1 ((sCons (sRet (eOp2 oIx (eC (.tuple (List.map PyData.int [1, 2, 0, 2, 6, 46, 338, 2926, 28146, 298526, 3454434, 43286528]))) (eOp2 (oInt gSub) (eVar 0) (eC (.int 1)))))
  sNil))
/-! ways_of -/
abbrev N_ways_of : List Str := ["some", "row", "knot", "above", "kind", "inner", "found", "one"]
def b_ways_of (self : FN) : FN := fnB 8 ((sCons (sSet (eApp (callN 3 f_kind_of) (aCons (eVar 1) (aCons (eVar 0) (aCons (eVar 2) aNil)))) 4)
  (sCons (sIf (tE (eOp2 cEq (eVar 4) (eC (.str "one")))) (sCons (sRet (eC (.int 1)))
  sNil) sNil)
  (sCons (sSet (eApp (callN 2 f_parts_of) (aCons (eVar 0) (aCons (eVar 2) aNil))) 5)
  (sCons (sSet (eIf (tE (eOp2 (cInN false) (eVar 3) (eTup (aCons (eC (.str "up")) (aCons (eC (.str "down")) aNil))))) (eC (.int 1)) (eC (.int 2))) 6)
  (sCons (sIf (tE (eOp2 cEq (eVar 4) (eC (.str "prime")))) (sCons (sSet (eApp (callN 1 f_simple_count) (aCons (eApp bLen (aCons (eVar 5) aNil)) aNil)) 6)
  sNil) sNil)
  (sCons (sFor (iSeq (eVar 5)) (gNm 7) (sCons (sSet (eOp2 (oInt gMul) (eVar 6) (eApp (callN 4 self) (aCons (eVar 0) (aCons (eVar 1) (aCons (eVar 7) (aCons (eVar 4) aNil)))))) 6)
  sNil))
  (sCons (sRet (eVar 6))
  sNil))))))))
def fR_ways_of : Nat → FN
  | 0 => fun _ _ => .bad
  | n + 1 => b_ways_of (fR_ways_of n)
def f_ways_of : FN := fR_ways_of 8
/-! like_rows -/
abbrev N_like_rows : List Str := ["row"]
def f_like_rows : FN := fnB 1 ((sCons (sEx (eApp (callN 1 f_check_plain) (aCons (eVar 0) aNil)))
  (sCons (sRet (eApp (callN 4 f_ways_of) (aCons (eApp (callN 1 f_knots_of) (aCons (eVar 0) aNil)) (aCons (eVar 0) (aCons (eTup (aCons (eC (.int 1)) (aCons (eApp bLen (aCons (eVar 0) aNil)) aNil))) (aCons (eC (.str "prime")) aNil))))))
  sNil)))
/-! is_simple_row -/
abbrev N_is_simple_row : List Str := ["row", "first", "last"]
def f_is_simple_row : FN := fnB 3 ((sCons (sRet (eApp bAll (aCons (eLc (iSeq (eApp (callN 1 f_stretches_of) (aCons (eVar 0) aNil))) (gTp 2 (gsCons (gNm 1) (gsCons (gNm 2) gsNil))) tYe (eOr (eOp2 cEq (eVar 1) (eVar 2)) (eOp2 cEq (eOp2 (oInt gSub) (eVar 2) (eVar 1)) (eOp2 (oInt gSub) (eApp bLen (aCons (eVar 0) aNil)) (eC (.int 1))))) [1, 2]) aNil)))
  sNil))
/-! is_simple -/
abbrev N_is_simple : List Str := ["row"]
def f_is_simple : FN := fnB 1 ((sCons (sEx (eApp (callN 1 f_check_plain) (aCons (eVar 0) aNil)))
  (sCons (sRet (eApp (callN 1 f_is_simple_row) (aCons (eVar 0) aNil)))
  sNil)))
/-! put_in -/
abbrev N_put_in : List Str := ["row", "place", "other", "wagon", "later", "one"]
def f_put_in : FN := fnB 6 ((sCons (sEx (eApp (callN 1 f_check_plain) (aCons (eVar 0) aNil)))
  (sCons (sEx (eApp (callN 1 f_check_plain) (aCons (eVar 2) aNil)))
  (sCons (sIf (tNt (tE (eApp (callN 3 f_is_between) (aCons (eVar 1) (aCons (eC (.int 1)) (aCons (eApp bLen (aCons (eVar 0) aNil)) aNil)))))) (sCons (sRaise "BadPlace" (eVar 1))
  sNil) sNil)
  (sCons (sIf (tE (eOp2 (cInt gGt) (eOp2 (oInt gSub) (eOp2 oAdd (eApp bLen (aCons (eVar 0) aNil)) (eApp bLen (aCons (eVar 2) aNil))) (eC (.int 1))) (eC (.int 12)))) (sCons (sRaise "TooMany" (eC (.int 12)))
  sNil) sNil)
  (sCons (sSet (eOp2 oIx (eVar 0) (eOp2 (oInt gSub) (eVar 1) (eC (.int 1)))) 3)
  (sCons (sSet (eLc (iSeq (eVar 0)) (gNm 5) tYe (eIf (tE (eOp2 (cInt gLt) (eVar 5) (eVar 3))) (eVar 5) (eOp2 (oInt gSub) (eOp2 oAdd (eVar 5) (eApp bLen (aCons (eVar 2) aNil))) (eC (.int 1)))) [5]) 4)
  (sCons (sRet (eApp bTup (aCons (eLst (aStar (eSl (eVar 4) pNo (pSm (eOp2 (oInt gSub) (eVar 1) (eC (.int 1))))) (aStar (eLc (iSeq (eVar 2)) (gNm 5) tYe (eOp2 (oInt gSub) (eOp2 oAdd (eVar 3) (eVar 5)) (eC (.int 1))) [5]) (aStar (eSl (eVar 4) (pSm (eVar 1)) pNo) aNil)))) aNil)))
  sNil))))))))
/-! check_counted -/
abbrev N_check_counted : List Str := ["many"]
def f_check_counted : FN := fnB 1 ((sCons (sIf (tNt (tE (eApp (callN 3 f_is_between) (aCons (eVar 0) (aCons (eC (.int 1)) (aCons (eC (.int 6)) aNil)))))) (sCons (sRaise "BadMany" (eVar 0))
  sNil) sNil)
  sNil))
/-! all_plains -/
abbrev N_all_plains : List Str := ["many", "found", "lap", "longer", "row", "wagon"]
def f_all_plains : FN := fnB 6 ((sCons (sSet (eLstM (aCons (eTup aNil) aNil)) 1)
  (sCons (sFor (iR1 (eVar 0)) (gNm 2) (sCons (sSet (eLstM aNil) 3)
  (sCons (sForV (eVar 1) (gNm 4) (sCons (sEx (eMt "list" mExt (eVar 3) (aCons (eLc (iR2 (eC (.int 1)) (eOp2 oAdd (eVar 0) (eC (.int 1)))) (gNm 5) (tE (eOp2 (cInN true) (eVar 5) (eVar 4))) (eTup (aStar (eVar 4) (aCons (eVar 5) aNil))) [5]) aNil)))
  sNil))
  (sCons (sSet (eVar 3) 1)
  sNil))))
  (sCons (sRet (eVar 1))
  sNil))))
/-! counts_simple -/
abbrev N_counts_simple : List Str := ["many", "found", "size", "row"]
def f_counts_simple : FN := fnB 4 ((sCons (sEx (eApp (callN 1 f_check_counted) (aCons (eVar 0) aNil)))
  (sCons (sSet (eLstM aNil) 1)
  (sCons (sFor (iR2 (eC (.int 1)) (eOp2 oAdd (eVar 0) (eC (.int 1)))) (gNm 2) (sCons (sEx (eMt "list" mApp (eVar 1) (aCons (eApp bLen (aCons (eLc (iSeq (eApp (callN 1 f_all_plains) (aCons (eVar 2) aNil))) (gNm 3) (tE (eApp (callN 1 f_is_simple_row) (aCons (eVar 3) aNil))) (eVar 3) [3]) aNil)) aNil)))
  sNil))
  (sCons (sRet (eApp bTup (aCons (eVar 1) aNil)))
  sNil)))))
/-! the lambdas -/
abbrev fr_0 : List Str := ["plain"]
abbrev fr_1 : List Str := ["plain"]
abbrev fr_2 : List Str := ["plain"]
abbrev fr_3 : List Str := ["plain", "place"]
abbrev fr_4 : List Str := ["rows"]
abbrev fr_5 : List Str := ["rows"]
abbrev fr_6 : List Str := ["plain"]
abbrev fr_7 : List Str := ["plain", "knot"]
abbrev fr_8 : List Str := ["plain", "knot"]
abbrev fr_9 : List Str := ["plain"]
abbrev fr_10 : List Str := ["told"]
abbrev fr_11 : List Str := ["plain"]
abbrev fr_12 : List Str := ["plain"]
abbrev fr_13 : List Str := ["plain", "place", "other"]
abbrev fr_14 : List Str := ["number"]
def lamI : Nat → Option LI
  | 0 => liOf "_law_right.<locals>.<lambda>" fr_0 ((lamsS 20 (top 80)).getD 0 (.Name "" ⟨0, 0, 0, 0⟩))
  | 1 => liOf "_law_right.<locals>.<lambda>" fr_1 ((lamsS 20 (top 80)).getD 1 (.Name "" ⟨0, 0, 0, 0⟩))
  | 2 => liOf "_law_right.<locals>.<lambda>" fr_2 ((lamsS 20 (top 80)).getD 2 (.Name "" ⟨0, 0, 0, 0⟩))
  | 3 => liOf "_law_right.<locals>.<lambda>" fr_3 ((lamsS 20 (top 80)).getD 3 (.Name "" ⟨0, 0, 0, 0⟩))
  | 4 => liOf "_law_right.<locals>.<lambda>" fr_4 ((lamsS 20 (top 80)).getD 4 (.Name "" ⟨0, 0, 0, 0⟩))
  | 5 => liOf "_law_right.<locals>.<lambda>" fr_5 ((lamsS 20 (top 80)).getD 5 (.Name "" ⟨0, 0, 0, 0⟩))
  | 6 => liOf "_law_right.<locals>.<lambda>" fr_6 ((lamsS 20 (top 80)).getD 6 (.Name "" ⟨0, 0, 0, 0⟩))
  | 7 => liOf "_law_right.<locals>.<lambda>" fr_7 ((lamsS 20 (top 80)).getD 7 (.Name "" ⟨0, 0, 0, 0⟩))
  | 8 => liOf "_law_right.<locals>.<lambda>" fr_8 ((lamsS 20 (top 80)).getD 8 (.Name "" ⟨0, 0, 0, 0⟩))
  | 9 => liOf "_law_right.<locals>.<lambda>" fr_9 ((lamsS 20 (top 80)).getD 9 (.Name "" ⟨0, 0, 0, 0⟩))
  | 10 => liOf "_law_right.<locals>.<lambda>" fr_10 ((lamsS 20 (top 80)).getD 10 (.Name "" ⟨0, 0, 0, 0⟩))
  | 11 => liOf "_law_right.<locals>.<lambda>" fr_11 ((lamsS 20 (top 80)).getD 11 (.Name "" ⟨0, 0, 0, 0⟩))
  | 12 => liOf "_law_right.<locals>.<lambda>" fr_12 ((lamsS 20 (top 80)).getD 12 (.Name "" ⟨0, 0, 0, 0⟩))
  | 13 => liOf "_law_right.<locals>.<lambda>" fr_13 ((lamsS 20 (top 80)).getD 13 (.Name "" ⟨0, 0, 0, 0⟩))
  | 14 => liOf "_law_right.<locals>.<lambda>" fr_14 ((lamsS 20 (top 80)).getD 14 (.Name "" ⟨0, 0, 0, 0⟩))
  | _ => none
def lamT : Nat → FE
  | 0 => (eApp (callN 1 f_stretches) (aCons (eVar 0) aNil))
  | 1 => (eApp (callN 1 f_how_many) (aCons (eVar 0) aNil))
  | 2 => (eApp (callN 1 f_seeds) (aCons (eVar 0) aNil))
  | 3 => (eApp (callN 2 f_least_around) (aCons (eVar 0) (aCons (eVar 1) aNil)))
  | 4 => (eApp (callN 1 f_shared) (aCons (eVar 0) aNil))
  | 5 => (eApp (callN 1 f_shared_knots) (aCons (eVar 0) aNil))
  | 6 => (eApp (callN 1 f_knots) (aCons (eVar 0) aNil))
  | 7 => (eApp (callN 2 f_parts) (aCons (eVar 0) (aCons (eVar 1) aNil)))
  | 8 => (eApp (callN 2 f_pattern) (aCons (eVar 0) (aCons (eVar 1) aNil)))
  | 9 => (eApp (callN 1 f_tree) (aCons (eVar 0) aNil))
  | 10 => (eApp (callN 1 f_row_by) (aCons (eVar 0) aNil))
  | 11 => (eApp (callN 1 f_like_rows) (aCons (eVar 0) aNil))
  | 12 => (eApp (callN 1 f_is_simple) (aCons (eVar 0) aNil))
  | 13 => (eApp (callN 3 f_put_in) (aCons (eVar 0) (aCons (eVar 1) (aCons (eVar 2) aNil))))
  | 14 => (eApp (callN 1 f_counts_simple) (aCons (eVar 0) aNil))
  | _ => eBad
/-! _law_heard -/
abbrev N__law_heard : List Str := ["call", "error", "caught", "said"]
def f__law_heard : FN := fnB 4 ((sCons (sAs (eTup (aCons (eC .none) (aCons (eC .none) aNil))) (gTp 2 (gsCons (gNm 2) (gsCons (gNm 3) gsNil))))
  (sCons (sTryAs (subR excs) 1 (sCons (sSet (eAct lamT 0) 3)
  sNil) (sCons (sSet (eVar 1) 2)
  sNil))
  (sCons (sRet (eTup (aCons (eVar 2) (aCons (eVar 3) aNil))))
  sNil))))
/-! _law_word -/
abbrev N__law_word : List Str := ["error", "marks"]
def f__law_word : FN := fnB 2 ((sCons (sSet (eLst (aCons (eApp (bIsX excs) (aCons (eVar 0) (aCons (eGl "BadPlain") aNil))) (aCons (eApp (bIsX excs) (aCons (eVar 0) (aCons (eGl "BadRows") aNil))) (aCons (eApp (bIsX excs) (aCons (eVar 0) (aCons (eGl "BadTree") aNil))) (aCons (eApp (bIsX excs) (aCons (eVar 0) (aCons (eGl "BadKnot") aNil))) aNil))))) 1)
  (sCons (sSet (eOp2 oAdd (eVar 1) (eLst (aCons (eApp (bIsX excs) (aCons (eVar 0) (aCons (eGl "BadPlace") aNil))) (aCons (eApp (bIsX excs) (aCons (eVar 0) (aCons (eGl "BadMany") aNil))) (aCons (eApp (bIsX excs) (aCons (eVar 0) (aCons (eGl "Single") aNil))) aNil))))) 1)
  (sCons (sRet (eIf (tE (eOp2 cEq (eMt "list" mCntB (eVar 1) (aCons (eC (.bool true)) aNil)) (eC (.int 1)))) (eOp2 oIx (eLst (aCons (eC (.str "plain")) (aCons (eC (.str "rows")) (aCons (eC (.str "tree")) (aCons (eC (.str "knot")) (aCons (eC (.str "place")) (aCons (eC (.str "many")) (aCons (eC (.str "single")) aNil)))))))) (eIdxA (eVar 1) (aCons (eC (.bool true)) aNil))) (eC (.str "other"))))
  sNil))))
/-! _law_is_refused -/
abbrev N__law_is_refused : List Str := ["call", "due", "caught"]
def f__law_is_refused : FN := fnB 3 ((sCons (sSet (eOp2 oIx (eApp (callN 1 f__law_heard) (aCons (eVar 0) aNil)) (eC (.int 0))) 2)
  (sCons (sIf (tOr' (tE (eOp2 (cIsN false) (eVar 1) (eC .none))) (tE (eOp2 (cIsN false) (eVar 2) (eC .none)))) (sCons (sRet (eAn (eOp2 (cIsN false) (eVar 1) (eC .none)) (eOp2 (cIsN false) (eVar 2) (eC .none))))
  sNil) sNil)
  (sCons (sRet (eAn (eOp2 cEq (eApp (callN 1 f__law_word) (aCons (eVar 2) aNil)) (eOp2 oIx (eVar 1) (eC (.int 0)))) (eOp2 cEq (eApp bRepr (aCons (eXv excs (eVar 2)) aNil)) (eApp bRepr (aCons (eOp2 oIx (eVar 1) (eC (.int 1))) aNil)))))
  sNil))))
/-! _law_first -/
abbrev N__law_first : List Str := ["rows", "wrong", "word", "value", "is_right"]
def f__law_first : FN := fnB 5 ((sCons (sSet (eLc (iSeq (eVar 0)) (gTp 3 (gsCons (gNm 2) (gsCons (gNm 3) (gsCons (gNm 4) gsNil)))) (tNt (tE (eVar 4))) (eTup (aCons (eVar 2) (aCons (eVar 3) aNil))) [2, 3, 4]) 1)
  (sCons (sRet (eIf (tE (eOp2 cNe (eVar 1) (eLst aNil))) (eOp2 oIx (eVar 1) (eC (.int 0))) (eC .none)))
  sNil)))
/-! _law_right -/
abbrev N__law_right : List Str := ["pot", "many", "rows", "are_rows", "place", "knot", "is_knot", "told", "is_tree_here", "number", "head", "single", "asked", "both", "looks", "plain", "is_fine", "other", "is_other", "row", "look", "due"]
abbrev cn__law_right : List Str := ["plain", "place", "rows", "knot", "told", "other", "number"]
abbrev fzl__law_right : List (Nat × List Nat) := [(0, [15]), (1, [15]), (2, [15]), (3, [15, 4]), (4, [2]), (5, [2]), (6, [15]), (7, [15, 5]), (8, [15, 5]), (9, [15]), (10, [7]), (11, [15]), (12, [15]), (13, [15, 4, 17]), (14, [9])]
def fz__law_right : Nat → Option (List Nat) := fun k => (fzl__law_right.find? (fun p => p.1 == k)).map (·.2)
def f__law_right : FN := fnL 22 ((sCons (sAs (eTup (aCons (eApp (callN 1 f__law_any_plain) (aCons (eVar 0) aNil)) (aCons (eApp (callN 1 f__law_any_plain) (aCons (eVar 0) aNil)) aNil))) (gTp 2 (gsCons (gTp 2 (gsCons (gNm 15) (gsCons (gNm 16) gsNil))) (gsCons (gTp 2 (gsCons (gNm 17) (gsCons (gNm 18) gsNil))) gsNil))))
  (sCons (sSet (eIf (tE (eVar 16)) (eApp bLen (aCons (eVar 15) aNil)) (eC (.int 2))) 1)
  (sCons (sSet (eApp (callN 2 f__law_of) (aCons (eVar 0) (aCons (eLst (aCons (eTup (aCons (eVar 15) aNil)) (aCons (eTup (aCons (eVar 15) (aCons (eVar 15) aNil))) (aCons (eTup (aCons (eVar 15) (aCons (eVar 17) aNil))) (aCons (eOp2 oMulA (eTup (aCons (eVar 15) aNil)) (eC (.int 7))) (aCons (eTup aNil) (aCons (eLst (aCons (eVar 15) aNil)) (aCons (eC .none) (aCons (eVar 15) aNil))))))))) aNil))) 2)
  (sCons (sSet (eAn (eIsa "tuple" (eVar 2)) (eAn (eCh (cInt gLe) (cInt gLe) (eC (.int 1)) (eApp bLen (aCons (eVar 2) aNil)) (eC (.int 6))) (eApp bAll (aCons (eLc (iSeq (eVar 2)) (gNm 19) tYe (eApp (callN 1 f__law_is_plain) (aCons (eVar 19) aNil)) [19]) aNil)))) 3)
  (sCons (sSet (eAn (eVar 3) (eOp2 cEq (eLenSet (eLc (iSeq (eVar 2)) (gNm 19) tYe (eApp bLen (aCons (eVar 19) aNil)) [19])) (eC (.int 1)))) 3)
  (sCons (sSet (eApp (callN 2 f__law_of) (aCons (eVar 0) (aCons (eLst (aCons (eC (.int 1)) (aCons (eVar 1) (aCons (eOp2 oAdd (eVar 1) (eC (.int 1))) (aCons (eC (.int 0)) (aCons (eC .none) (aCons (eC (.bool true)) (aCons (eC (.str "1")) aNil)))))))) aNil))) 4)
  (sCons (sSet (eApp (callN 2 f__law_of) (aCons (eVar 0) (aCons (eLst (aCons (eTup (aCons (eC (.int 1)) (aCons (eC (.int 1)) aNil))) (aCons (eTup (aCons (eC (.int 1)) (aCons (eVar 1) aNil))) (aCons (eTup (aCons (eVar 1) (aCons (eVar 1) aNil))) (aCons (eTup (aCons (eC (.int 0)) (aCons (eC (.int 1)) aNil))) (aCons (eTup (aCons (eC (.int 2)) (aCons (eC (.int 1)) aNil))) (aCons (eTup (aCons (eC (.int 1)) (aCons (eOp2 oAdd (eVar 1) (eC (.int 1))) aNil))) (aCons (eTup (aCons (eC (.int 1)) aNil)) (aCons (eLst (aCons (eC (.int 1)) (aCons (eC (.int 1)) aNil))) (aCons (eC .none) (aCons (eTup (aCons (eC (.bool true)) (aCons (eC (.bool true)) aNil))) aNil))))))))))) aNil))) 5)
  (sCons (sSet (eAn (eApp (callN 3 f__law_are_places) (aCons (eVar 1) (aCons (eVar 5) (aCons (eC (.int 2)) aNil)))) (eOr (eOp2 cEq (eOp2 oIx (eVar 5) (eC (.int 0))) (eOp2 oIx (eVar 5) (eC (.int 1)))) (eOp2 cEq (eVar 5) (eTup (aCons (eC (.int 1)) (aCons (eVar 1) aNil)))))) 6)
  (sCons (sSet (eApp (callN 2 f__law_of) (aCons (eVar 0) (aCons (eLst (aCons (eC (.int 1)) (aCons (eTup (aCons (eC (.str "up")) (aCons (eTup (aCons (eC (.int 1)) (aCons (eC (.int 2)) aNil))) aNil))) (aCons (eTup (aCons (eC (.str "down")) (aCons (eTup (aCons (eC (.int 2)) (aCons (eC (.int 1)) aNil))) aNil))) (aCons (eTup (aCons (eC (.str "up")) (aCons (eTup (aCons (eC (.int 2)) (aCons (eC (.int 1)) aNil))) aNil))) (aCons (eC (.int 2)) (aCons (eC (.int 0)) (aCons (eC .none) (aCons (eC (.bool true)) (aCons (eTup aNil) (aCons (eTup (aCons (eC (.str "up")) (aCons (eTup aNil) aNil))) (aCons (eTup (aCons (eC (.str "up")) (aCons (eTup (aCons (eC (.int 1)) aNil)) aNil))) (aCons (eLst (aCons (eC (.int 1)) aNil)) aNil))))))))))))) aNil))) 7)
  (sCons (sSet (eOp2 (cInN false) (eApp bRepr (aCons (eVar 7) aNil)) (eLst (aCons (eApp bRepr (aCons (eC (.int 1)) aNil)) (aCons (eApp bRepr (aCons (eTup (aCons (eC (.str "up")) (aCons (eTup (aCons (eC (.int 1)) (aCons (eC (.int 2)) aNil))) aNil))) aNil)) (aCons (eApp bRepr (aCons (eTup (aCons (eC (.str "down")) (aCons (eTup (aCons (eC (.int 2)) (aCons (eC (.int 1)) aNil))) aNil))) aNil)) aNil))))) 8)
  (sCons (sSet (eApp (callN 2 f__law_of) (aCons (eVar 0) (aCons (eLst (aCons (eC (.int 1)) (aCons (eC (.int 3)) (aCons (eC (.int 5)) (aCons (eC (.int 7)) (aCons (eC (.int 0)) (aCons (eOp1 oNeg (eC (.int 1))) (aCons (eC .none) (aCons (eC (.bool true)) (aCons (eC (.str "2")) aNil)))))))))) aNil))) 9)
  (sCons (sSet (eLst (aCons (eTup (aCons (eC (.str "plain")) (aCons (eVar 15) (aCons (eVar 16) aNil)))) aNil)) 10)
  (sCons (sSet (eTup (aCons (eC (.str "single")) (aCons (eVar 5) (aCons (eOr (eNt (eVar 6)) (eOp2 (cInt gLt) (eOp2 oIx (eVar 5) (eC (.int 0))) (eOp2 oIx (eVar 5) (eC (.int 1))))) aNil)))) 11)
  (sCons (sSet (eOp2 oAdd (eVar 10) (eLst (aCons (eTup (aCons (eC (.str "knot")) (aCons (eVar 5) (aCons (eVar 6) aNil)))) (aCons (eVar 11) aNil)))) 12)
  (sCons (sSet (eOp2 oAdd (eVar 10) (eLst (aCons (eTup (aCons (eC (.str "plain")) (aCons (eVar 17) (aCons (eVar 18) aNil)))) (aCons (eTup (aCons (eC (.str "place")) (aCons (eVar 4) (aCons (eApp (callN 3 f__law_is_int) (aCons (eVar 4) (aCons (eC (.int 1)) (aCons (eVar 1) aNil)))) aNil)))) aNil)))) 13)
  (sCons (sSet (eLstX (aCons (eTup (aCons (eLam 0) (aCons (eVar 10) aNil))) aNil)) 14)
  (sCons (sEx (eMt "list" mApp (eVar 14) (aCons (eTup (aCons (eLam 1) (aCons (eVar 10) aNil))) aNil)))
  (sCons (sEx (eMt "list" mApp (eVar 14) (aCons (eTup (aCons (eLam 2) (aCons (eVar 10) aNil))) aNil)))
  (sCons (sEx (eMt "list" mApp (eVar 14) (aCons (eTup (aCons (eLam 3) (aCons (eOp2 oAdd (eVar 10) (eLst (aCons (eTup (aCons (eC (.str "place")) (aCons (eVar 4) (aCons (eApp (callN 3 f__law_is_int) (aCons (eVar 4) (aCons (eC (.int 1)) (aCons (eOp2 (oInt gSub) (eVar 1) (eC (.int 1))) aNil)))) aNil)))) aNil))) aNil))) aNil)))
  (sCons (sEx (eMt "list" mApp (eVar 14) (aCons (eTup (aCons (eLam 4) (aCons (eLst (aCons (eTup (aCons (eC (.str "rows")) (aCons (eVar 2) (aCons (eVar 3) aNil)))) aNil)) aNil))) aNil)))
  (sCons (sEx (eMt "list" mApp (eVar 14) (aCons (eTup (aCons (eLam 5) (aCons (eLst (aCons (eTup (aCons (eC (.str "rows")) (aCons (eVar 2) (aCons (eVar 3) aNil)))) aNil)) aNil))) aNil)))
  (sCons (sEx (eMt "list" mApp (eVar 14) (aCons (eTup (aCons (eLam 6) (aCons (eVar 10) aNil))) aNil)))
  (sCons (sEx (eMt "list" mApp (eVar 14) (aCons (eTup (aCons (eLam 7) (aCons (eVar 12) aNil))) aNil)))
  (sCons (sEx (eMt "list" mApp (eVar 14) (aCons (eTup (aCons (eLam 8) (aCons (eVar 12) aNil))) aNil)))
  (sCons (sEx (eMt "list" mApp (eVar 14) (aCons (eTup (aCons (eLam 9) (aCons (eVar 10) aNil))) aNil)))
  (sCons (sEx (eMt "list" mApp (eVar 14) (aCons (eTup (aCons (eLam 10) (aCons (eLst (aCons (eTup (aCons (eC (.str "tree")) (aCons (eVar 7) (aCons (eVar 8) aNil)))) aNil)) aNil))) aNil)))
  (sCons (sEx (eMt "list" mApp (eVar 14) (aCons (eTup (aCons (eLam 11) (aCons (eVar 10) aNil))) aNil)))
  (sCons (sEx (eMt "list" mApp (eVar 14) (aCons (eTup (aCons (eLam 12) (aCons (eVar 10) aNil))) aNil)))
  (sCons (sEx (eMt "list" mApp (eVar 14) (aCons (eTup (aCons (eLam 13) (aCons (eVar 13) aNil))) aNil)))
  (sCons (sEx (eMt "list" mApp (eVar 14) (aCons (eTup (aCons (eLam 14) (aCons (eLst (aCons (eTup (aCons (eC (.str "many")) (aCons (eVar 9) (aCons (eApp (callN 3 f__law_is_int) (aCons (eVar 9) (aCons (eC (.int 1)) (aCons (eC (.int 6)) aNil)))) aNil)))) aNil)) aNil))) aNil)))
  (sCons (sRet (eApp bAll (aCons (eLcF fz__law_right 14 (gTp 2 (gsCons (gNm 20) (gsCons (gNm 21) gsNil))) tYe (eApp (callN 2 f__law_is_refused) (aCons (eVar 20) (aCons (eApp (callN 1 f__law_first) (aCons (eVar 21) aNil)) aNil))) [20, 21]) aNil)))
  sNil))))))))))))))))))))))))))))))))
/-! law -/
abbrev N_law : List Str := ["script", "place", "pot", "lap"]
def f_law : FN := fnB 4 ((sCons (sFor (iSeq (eApp (callN 2 f__law_cells) (aCons (eVar 0) (aCons (eC (.int 4)) aNil)))) (gNm 1) (sCons (sSet (eApp (callNM 2 f__law_pot) (aCons (eVar 0) (aCons (eVar 1) aNil))) 2)
  (sCons (sIf (tNt (tE (eApp bAll (aCons (eLc (iR1 (eC (.int 5))) (gNm 3) tYe (eApp (callN 1 f__law_right) (aCons (eVar 2) aNil)) [3]) aNil)))) (sCons (sRet (eC (.bool false)))
  sNil) sNil)
  sNil)))
  (sCons (sRet (eC (.bool true)))
  sNil)))
section
variable {P : Program} {w : World} {c : Ct} {base : Heap} {f : Addr} {fd : FuncData}
theorem sc__law_cells : FnScope N__law_cells ["script", "limit"] (defScope (top 71)) := ⟨rfl, rfl, rfl, by decide +kernel, rfl, by decide +kernel, by decide +kernel⟩
theorem ok__law_cells (F : FunD c.K "_law_cells" "_law_cells" (defArgs (top 71)) (defBody (top 71)) (defScope (top 71)) [] [] f fd) (b : Blt c) : FnG P w c base 1 f fd ["script", "limit"] f__law_cells := by
  refine fun_okG F sc__law_cells fun cdv A outer s H E hr hgu => ?_
  have nd := sc__law_cells.nd
  have cx := cxg_of (P := P) (w := w) (c := c) (base := base) (N := N__law_cells) (qual := "_law_cells") (scope := defScope (top 71)) (f := f) (cdv := cdv) (A := A) (outer := outer) (s := s) (H := H) (E := E) hgu
  exact (s_scons (s_ret (s_rgL rfl rfl b.list_ (s_rg1 rfl b.range_ (v_blt (f_max2 rfl) rfl b.max_ bo_max (s_cons s_int (s_cons (v_blt (f_min2 rfl) rfl b.min_ bo_min (s_cons (v_v 1 rfl rfl) (s_cons (v_blt (f_len cx) rfl b.len_ bo_len (s_cons (v_v 0 rfl rfl) s_nil)) s_nil))) s_nil))))))
  s_snil)
theorem sc__law_pot : FnScope N__law_pot ["script", "place"] (defScope (top 68)) := ⟨rfl, rfl, rfl, by decide +kernel, rfl, by decide +kernel, by decide +kernel⟩
theorem ok__law_pot (F : FunD c.K "_law_pot" "_law_pot" (defArgs (top 68)) (defBody (top 68)) (defScope (top 68)) [] [] f fd) (b : Blt c) : FnG P w c base 1 f fd ["script", "place"] f__law_pot := by
  refine fun_okG F sc__law_pot fun cdv A outer s H E hr hgu => ?_
  have nd := sc__law_pot.nd
  have cx := cxg_of (P := P) (w := w) (c := c) (base := base) (N := N__law_pot) (qual := "_law_pot") (scope := defScope (top 68)) (f := f) (cdv := cdv) (A := A) (outer := outer) (s := s) (H := H) (E := E) hgu
  exact (s_scons (s_set (i := 2) nd rfl (loc_by rfl) (s_if (v_tcmp m_lt (v_v 1 rfl rfl) (v_blt (f_len cx) rfl b.len_ bo_len (s_cons (v_v 0 rfl rfl) s_nil))) (v_ix cx (v_v 0 rfl rfl) (v_v 1 rfl rfl)) (v_add cx (v_mul s_int (v_v 1 rfl rfl)) s_int)))
  (s_scons (s_set (i := 3) nd rfl (loc_by rfl) (v_mul (v_mod (v_bty f_int rfl b.int_ bo_int (s_cons (v_blt (f_abs) rfl b.abs_ bo_abs (s_cons (v_v 2 rfl rfl) s_nil)) s_nil)) (v_pow (v_pow s_int s_int) s_int)) (v_bty f_int rfl b.int_ bo_int (s_cons (v_cmp m_ge (v_blt (f_abs) rfl b.abs_ bo_abs (s_cons (v_v 2 rfl rfl) s_nil)) (v_pow s_int s_int)) s_nil))))
  (s_scons (s_set (i := 4) nd rfl (loc_by rfl) (v_mod (v_bty f_int rfl b.int_ bo_int (s_cons (v_v 2 rfl rfl) s_nil)) s_int))
  (s_scons (s_ret (s_lstM (s_cons (v_v 3 rfl rfl) (s_cons (v_mod (v_bty f_int rfl b.int_ bo_int (s_cons (v_add cx (v_add cx (v_mul (v_v 4 rfl rfl) s_int) (v_mul (v_mul s_int (v_v 1 rfl rfl)) (v_v 1 rfl rfl))) s_int) s_nil)) s_int) (s_cons s_int s_nil)))))
  s_snil))))
theorem sc__law_take : FnScope N__law_take ["pot", "upto"] (defScope (top 69)) := ⟨rfl, rfl, rfl, by decide +kernel, rfl, by decide +kernel, by decide +kernel⟩
theorem ok__law_take (F : FunD c.K "_law_take" "_law_take" (defArgs (top 69)) (defBody (top 69)) (defScope (top 69)) [] [] f fd) (b : Blt c) : FnG P w c base 1 f fd ["pot", "upto"] f__law_take := by
  refine fun_okG F sc__law_take fun cdv A outer s H E hr hgu => ?_
  have nd := sc__law_take.nd
  have cx := cxg_of (P := P) (w := w) (c := c) (base := base) (N := N__law_take) (qual := "_law_take") (scope := defScope (top 69)) (f := f) (cdv := cdv) (A := A) (outer := outer) (s := s) (H := H) (E := E) hgu
  exact (s_scons (s_sif (v_tcmp m_gt (v_ix cx (v_v 0 rfl rfl) s_int) s_int) (s_scons (s_set (i := 4) nd rfl (loc_by rfl) (v_mod (v_bty f_int rfl b.int_ bo_int (s_cons (v_ix cx (v_v 0 rfl rfl) s_int) s_nil)) (v_v 1 rfl rfl)))
  (s_scons (s_as (v_div (v_ix cx (v_v 0 rfl rfl) s_int) (v_v 1 rfl rfl)) (s_gsb (v_v 0 rfl rfl) s_int) g_sb)
  (s_scons (s_ret (v_v 4 rfl rfl))
  s_snil))) s_snil)
  (s_scons (s_as (v_add cx (v_ix cx (v_v 0 rfl rfl) s_int) s_int) (s_gsb (v_v 0 rfl rfl) s_int) g_sb)
  (s_scons (s_set (i := 2) nd rfl (loc_by rfl) (v_ix cx (s_lst (s_cons s_int (s_cons s_int (s_cons s_int (s_cons s_int (s_cons s_int s_nil)))))) (v_mod (v_bty f_int rfl b.int_ bo_int (s_cons (v_ix cx (v_v 0 rfl rfl) s_int) s_nil)) s_int)))
  (s_scons (s_set (i := 3) nd rfl (loc_by rfl) (v_mod (v_bty f_int rfl b.int_ bo_int (s_cons (v_pow (v_bty f_int rfl b.int_ bo_int (s_cons (v_add cx (v_add cx (v_ix cx (v_v 0 rfl rfl) s_int) (v_mul (v_mul s_int (v_ix cx (v_v 0 rfl rfl) s_int)) (v_ix cx (v_v 0 rfl rfl) s_int))) s_int) s_nil)) s_int) s_nil)) (v_v 2 rfl rfl)))
  (s_scons (s_set (i := 3) nd rfl (loc_by rfl) (v_mod (v_bty f_int rfl b.int_ bo_int (s_cons (v_mul (v_v 3 rfl rfl) (v_add cx (v_mod (v_bty f_int rfl b.int_ bo_int (s_cons (v_v 3 rfl rfl) s_nil)) s_int) (v_mul s_int (v_ix cx (v_v 0 rfl rfl) s_int)))) s_nil)) s_int))
  (s_scons (s_ret (v_mod (v_bty f_int rfl b.int_ bo_int (s_cons (v_div (v_v 3 rfl rfl) s_int) s_nil)) (v_v 1 rfl rfl)))
  s_snil))))))
theorem sc__law_of : FnScope N__law_of ["pot", "some"] (defScope (top 70)) := ⟨rfl, rfl, rfl, by decide +kernel, rfl, by decide +kernel, by decide +kernel⟩
theorem ok__law_of (F : FunD c.K "_law_of" "_law_of" (defArgs (top 70)) (defBody (top 70)) (defScope (top 70)) [] [] f fd) (b : Blt c) (k__law_take : Kn P w c base 1 "_law_take" 2 f__law_take) : FnG P w c base 2 f fd ["pot", "some"] f__law_of := by
  refine fun_okG F sc__law_of fun cdv A outer s H E hr hgu => ?_
  have nd := sc__law_of.nd
  have cx := cxg_of (P := P) (w := w) (c := c) (base := base) (N := N__law_of) (qual := "_law_of") (scope := defScope (top 70)) (f := f) (cdv := cdv) (A := A) (outer := outer) (s := s) (H := H) (E := E) hgu
  exact (s_scons (s_ret (v_ix cx (v_v 1 rfl rfl) (v_kn cx hr k__law_take (by decide) rfl (s_cons (v_v 0 rfl rfl) (s_cons (v_blt (f_len cx) rfl b.len_ bo_len (s_cons (v_v 1 rfl rfl) s_nil)) s_nil)))))
  s_snil)
theorem sc__law_any_plain : FnScope N__law_any_plain ["pot"] (defScope (top 78)) := ⟨rfl, rfl, rfl, by decide +kernel, rfl, by decide +kernel, by decide +kernel⟩
theorem ok__law_any_plain (F : FunD c.K "_law_any_plain" "_law_any_plain" (defArgs (top 78)) (defBody (top 78)) (defScope (top 78)) [] [] f fd) (b : Blt c) (k__law_take : Kn P w c base 1 "_law_take" 2 f__law_take) (k__law_of : Kn P w c base 2 "_law_of" 2 f__law_of) : FnG P w c base 3 f fd ["pot"] f__law_any_plain := by
  refine fun_okG F sc__law_any_plain fun cdv A outer s H E hr hgu => ?_
  have nd := sc__law_any_plain.nd
  have cx := cxg_of (P := P) (w := w) (c := c) (base := base) (N := N__law_any_plain) (qual := "_law_any_plain") (scope := defScope (top 78)) (f := f) (cdv := cdv) (A := A) (outer := outer) (s := s) (H := H) (E := E) hgu
  exact (s_scons (s_set (i := 1) nd rfl (loc_by rfl) (s_lst (s_cons (s_tup s_nil) (s_cons (s_tup (s_cons s_int s_nil)) (s_cons (s_tup (s_cons s_int s_nil)) (s_cons (s_tup (s_cons s_int (s_cons s_int s_nil))) (s_cons (s_tup (s_cons s_int (s_cons s_int s_nil))) (s_cons (s_lst (s_cons s_int (s_cons s_int s_nil))) (s_cons s_none (s_cons (s_tup (s_cons s_bool s_nil)) (s_cons (s_tup (s_cons s_int (s_cons (v_neg s_int) s_nil))) (s_cons (s_tup (s_cons s_str s_nil)) (s_cons (s_rgT rfl rfl b.tuple_ (s_rg2 rfl b.range_ s_int s_int)) (s_cons s_int s_nil))))))))))))))
  (s_scons (s_set (i := 2) nd rfl (loc_by rfl) (s_lst (s_cons (s_tup (s_cons s_int s_nil)) (s_cons (s_tup (s_cons s_int (s_cons s_int s_nil))) (s_cons (s_tup (s_cons s_int (s_cons s_int (s_cons s_int s_nil)))) (s_cons (s_tup (s_cons s_int (s_cons s_int (s_cons s_int (s_cons s_int s_nil))))) (s_cons (s_tup (s_cons s_int (s_cons s_int (s_cons s_int s_nil)))) (s_cons (s_tup (s_cons s_int (s_cons s_int (s_cons s_int (s_cons s_int s_nil))))) s_nil))))))))
  (s_scons (s_ret (s_if (v_tcmp (m_eq cx hr) (v_kn cx hr k__law_take (by decide) rfl (s_cons (v_v 0 rfl rfl) (s_cons s_int s_nil))) s_int) (s_tup (s_cons (v_kn cx hr k__law_of (by decide) rfl (s_cons (v_v 0 rfl rfl) (s_cons (v_v 1 rfl rfl) s_nil))) (s_cons s_bool s_nil))) (s_tup (s_cons (v_kn cx hr k__law_of (by decide) rfl (s_cons (v_v 0 rfl rfl) (s_cons (v_v 2 rfl rfl) s_nil))) (s_cons s_bool s_nil)))))
  s_snil)))
theorem sc__law_is_plain : FnScope N__law_is_plain ["value"] (defScope (top 73)) := ⟨rfl, rfl, rfl, by decide +kernel, rfl, by decide +kernel, by decide +kernel⟩
theorem ok__law_is_plain (F : FunD c.K "_law_is_plain" "_law_is_plain" (defArgs (top 73)) (defBody (top 73)) (defScope (top 73)) [] [] f fd) (b : Blt c) : FnG P w c base 1 f fd ["value"] f__law_is_plain := by
  refine fun_okG F sc__law_is_plain fun cdv A outer s H E hr hgu => ?_
  have nd := sc__law_is_plain.nd
  have cx := cxg_of (P := P) (w := w) (c := c) (base := base) (N := N__law_is_plain) (qual := "_law_is_plain") (scope := defScope (top 73)) (f := f) (cdv := cdv) (A := A) (outer := outer) (s := s) (H := H) (E := E) hgu
  exact (s_scons (s_sif (PW.pt (s_tor (s_tnot (s_tval (s_isa cx rfl b.isinstance_ bo_isinstance rfl b.tuple_ bo_tuple (by decide) (v_v 0 rfl rfl)))) (s_tor (s_tnot (v_tchain m_le m_le s_int (v_blt (f_len cx) rfl b.len_ bo_len (s_cons (v_v 0 rfl rfl) s_nil)) s_int)) (s_tor1 (s_tnot (s_tval (v_blt (f_all cx rfl) rfl b.all_ bo_all (s_cons (s_lc rfl nd (s_iseq rfl (v_v 0 rfl rfl)) (own := [("one", 1)]) (blkOk_by (by kernel_rfl)) g_nm (fun s1 H1 C1 l1 f1 => (w_gnm (by decide) (pg_name (i := 1) nd rfl (loc_by rfl)))) (fun s1 H1 C1 l1 f1 => s_tnil) (fun s1 H1 C1 l1 f1 => (s_and (s_isa (Cxg.blk cx) rfl b.isinstance_ bo_isinstance rfl b.int_ bo_int (by decide) (v_v 1 rfl rfl)) (s_one (s_not (s_isa (Cxg.blk cx) rfl b.isinstance_ bo_isinstance rfl b.bool_ bo_bool (by decide) (v_v 1 rfl rfl))))))) s_nil)))))))) (s_scons (s_ret s_bool)
  s_snil) s_snil)
  (s_scons (s_ret (v_cmp (m_eq cx hr) (v_blt (f_sortedA cx) rfl b.sorted_ bo_sorted (s_cons (v_v 0 rfl rfl) s_nil)) (s_rgL rfl rfl b.list_ (s_rg2 rfl b.range_ s_int (v_add cx (v_blt (f_len cx) rfl b.len_ bo_len (s_cons (v_v 0 rfl rfl) s_nil)) s_int)))))
  s_snil))
theorem sc__law_are_places : FnScope N__law_are_places ["many", "value", "size"] (defScope (top 74)) := ⟨rfl, rfl, rfl, by decide +kernel, rfl, by decide +kernel, by decide +kernel⟩
theorem ok__law_are_places (F : FunD c.K "_law_are_places" "_law_are_places" (defArgs (top 74)) (defBody (top 74)) (defScope (top 74)) [] [] f fd) (b : Blt c) : FnG P w c base 1 f fd ["many", "value", "size"] f__law_are_places := by
  refine fun_okG F sc__law_are_places fun cdv A outer s H E hr hgu => ?_
  have nd := sc__law_are_places.nd
  have cx := cxg_of (P := P) (w := w) (c := c) (base := base) (N := N__law_are_places) (qual := "_law_are_places") (scope := defScope (top 74)) (f := f) (cdv := cdv) (A := A) (outer := outer) (s := s) (H := H) (E := E) hgu
  exact (s_scons (s_sif (PW.pt (s_tor (s_tnot (s_tval (s_isa cx rfl b.isinstance_ bo_isinstance rfl b.tuple_ bo_tuple (by decide) (v_v 1 rfl rfl)))) (s_tor (v_tcmp (m_ne cx hr) (v_blt (f_len cx) rfl b.len_ bo_len (s_cons (v_v 1 rfl rfl) s_nil)) (v_v 2 rfl rfl)) (s_tor1 (s_tnot (s_tval (v_blt (f_all cx rfl) rfl b.all_ bo_all (s_cons (s_lc rfl nd (s_iseq rfl (v_v 1 rfl rfl)) (own := [("one", 3)]) (blkOk_by (by kernel_rfl)) g_nm (fun s1 H1 C1 l1 f1 => (w_gnm (by decide) (pg_name (i := 3) nd rfl (loc_by rfl)))) (fun s1 H1 C1 l1 f1 => s_tnil) (fun s1 H1 C1 l1 f1 => (s_and (s_isa (Cxg.blk cx) rfl b.isinstance_ bo_isinstance rfl b.int_ bo_int (by decide) (v_v 3 rfl rfl)) (s_one (s_not (s_isa (Cxg.blk cx) rfl b.isinstance_ bo_isinstance rfl b.bool_ bo_bool (by decide) (v_v 3 rfl rfl))))))) s_nil)))))))) (s_scons (s_ret s_bool)
  s_snil) s_snil)
  (s_scons (s_ret (v_blt (f_all cx rfl) rfl b.all_ bo_all (s_cons (s_lc rfl nd (s_iseq rfl (v_v 1 rfl rfl)) (own := [("one", 3)]) (blkOk_by (by kernel_rfl)) g_nm (fun s1 H1 C1 l1 f1 => (w_gnm (by decide) (pg_name (i := 3) nd rfl (loc_by rfl)))) (fun s1 H1 C1 l1 f1 => s_tnil) (fun s1 H1 C1 l1 f1 => (v_chain m_le m_le s_int (v_v 3 rfl rfl) (v_v 0 rfl rfl)))) s_nil)))
  s_snil))
theorem sc__law_is_int : FnScope N__law_is_int ["value", "low", "high"] (defScope (top 77)) := ⟨rfl, rfl, rfl, by decide +kernel, rfl, by decide +kernel, by decide +kernel⟩
theorem ok__law_is_int (F : FunD c.K "_law_is_int" "_law_is_int" (defArgs (top 77)) (defBody (top 77)) (defScope (top 77)) [] [] f fd) (b : Blt c) : FnG P w c base 1 f fd ["value", "low", "high"] f__law_is_int := by
  refine fun_okG F sc__law_is_int fun cdv A outer s H E hr hgu => ?_
  have nd := sc__law_is_int.nd
  have cx := cxg_of (P := P) (w := w) (c := c) (base := base) (N := N__law_is_int) (qual := "_law_is_int") (scope := defScope (top 77)) (f := f) (cdv := cdv) (A := A) (outer := outer) (s := s) (H := H) (E := E) hgu
  exact (s_scons (s_ret (s_and (s_isa cx rfl b.isinstance_ bo_isinstance rfl b.int_ bo_int (by decide) (v_v 0 rfl rfl)) (s_and (s_not (s_isa cx rfl b.isinstance_ bo_isinstance rfl b.bool_ bo_bool (by decide) (v_v 0 rfl rfl))) (s_one (v_chain m_le m_le (v_v 1 rfl rfl) (v_v 0 rfl rfl) (v_v 2 rfl rfl))))))
  s_snil)
theorem sc_is_integer : FnScope N_is_integer ["value"] (defScope (top 11)) := ⟨rfl, rfl, rfl, by decide +kernel, rfl, by decide +kernel, by decide +kernel⟩
theorem ok_is_integer (F : FunD c.K "is_integer" "is_integer" (defArgs (top 11)) (defBody (top 11)) (defScope (top 11)) [] [] f fd) (b : Blt c) : FnG P w c base 1 f fd ["value"] f_is_integer := by
  refine fun_okG F sc_is_integer fun cdv A outer s H E hr hgu => ?_
  have nd := sc_is_integer.nd
  have cx := cxg_of (P := P) (w := w) (c := c) (base := base) (N := N_is_integer) (qual := "is_integer") (scope := defScope (top 11)) (f := f) (cdv := cdv) (A := A) (outer := outer) (s := s) (H := H) (E := E) hgu
  exact (s_scons (s_ret (s_and (s_isa cx rfl b.isinstance_ bo_isinstance rfl b.int_ bo_int (by decide) (v_v 0 rfl rfl)) (s_one (s_not (s_isa cx rfl b.isinstance_ bo_isinstance rfl b.bool_ bo_bool (by decide) (v_v 0 rfl rfl))))))
  s_snil)
theorem sc_is_between : FnScope N_is_between ["value", "low", "high"] (defScope (top 12)) := ⟨rfl, rfl, rfl, by decide +kernel, rfl, by decide +kernel, by decide +kernel⟩
theorem ok_is_between (F : FunD c.K "is_between" "is_between" (defArgs (top 12)) (defBody (top 12)) (defScope (top 12)) [] [] f fd) (b : Blt c) (k_is_integer : Kn P w c base 1 "is_integer" 1 f_is_integer) : FnG P w c base 2 f fd ["value", "low", "high"] f_is_between := by
  refine fun_okG F sc_is_between fun cdv A outer s H E hr hgu => ?_
  have nd := sc_is_between.nd
  have cx := cxg_of (P := P) (w := w) (c := c) (base := base) (N := N_is_between) (qual := "is_between") (scope := defScope (top 12)) (f := f) (cdv := cdv) (A := A) (outer := outer) (s := s) (H := H) (E := E) hgu
  exact (s_scons (s_ret (s_and (v_kn cx hr k_is_integer (by decide) rfl (s_cons (v_v 0 rfl rfl) s_nil)) (s_one (v_chain m_le m_le (v_v 1 rfl rfl) (v_v 0 rfl rfl) (v_v 2 rfl rfl)))))
  s_snil)
theorem sc_are_between : FnScope N_are_between ["value", "low", "high"] (defScope (top 13)) := ⟨rfl, rfl, rfl, by decide +kernel, rfl, by decide +kernel, by decide +kernel⟩
theorem ok_are_between (F : FunD c.K "are_between" "are_between" (defArgs (top 13)) (defBody (top 13)) (defScope (top 13)) [] [] f fd) (b : Blt c) (k_is_between : Kn P w c base 2 "is_between" 3 f_is_between) : FnG P w c base 3 f fd ["value", "low", "high"] f_are_between := by
  refine fun_okG F sc_are_between fun cdv A outer s H E hr hgu => ?_
  have nd := sc_are_between.nd
  have cx := cxg_of (P := P) (w := w) (c := c) (base := base) (N := N_are_between) (qual := "are_between") (scope := defScope (top 13)) (f := f) (cdv := cdv) (A := A) (outer := outer) (s := s) (H := H) (E := E) hgu
  exact (s_scons (s_ret (s_and (s_isa cx rfl b.isinstance_ bo_isinstance rfl b.tuple_ bo_tuple (by decide) (v_v 0 rfl rfl)) (s_one (v_blt (f_all cx rfl) rfl b.all_ bo_all (s_cons (s_lc rfl nd (s_iseq rfl (v_v 0 rfl rfl)) (own := [("one", 3)]) (blkOk_by (by kernel_rfl)) g_nm (fun s1 H1 C1 l1 f1 => (w_gnm (by decide) (pg_name (i := 3) nd rfl (loc_by rfl)))) (fun s1 H1 C1 l1 f1 => s_tnil) (fun s1 H1 C1 l1 f1 => (v_kn (Cxg.blk cx) hr k_is_between (by decide) rfl (s_cons (v_v 3 rfl rfl) (s_cons (v_v 1 rfl rfl) (s_cons (v_v 2 rfl rfl) s_nil)))))) s_nil)))))
  s_snil)
theorem sc_is_plain : FnScope N_is_plain ["value"] (defScope (top 16)) := ⟨rfl, rfl, rfl, by decide +kernel, rfl, by decide +kernel, by decide +kernel⟩
theorem ok_is_plain (F : FunD c.K "is_plain" "is_plain" (defArgs (top 16)) (defBody (top 16)) (defScope (top 16)) [] [] f fd) (b : Blt c) (k_are_between : Kn P w c base 3 "are_between" 3 f_are_between) : FnG P w c base 4 f fd ["value"] f_is_plain := by
  refine fun_okG F sc_is_plain fun cdv A outer s H E hr hgu => ?_
  have nd := sc_is_plain.nd
  have cx := cxg_of (P := P) (w := w) (c := c) (base := base) (N := N_is_plain) (qual := "is_plain") (scope := defScope (top 16)) (f := f) (cdv := cdv) (A := A) (outer := outer) (s := s) (H := H) (E := E) hgu
  exact (s_scons (s_sif (PW.pt (s_tor (s_tnot (s_tval (s_isa cx rfl b.isinstance_ bo_isinstance rfl b.tuple_ bo_tuple (by decide) (v_v 0 rfl rfl)))) (s_tor (s_tnot (v_tchain m_le m_le s_int (v_blt (f_len cx) rfl b.len_ bo_len (s_cons (v_v 0 rfl rfl) s_nil)) (s_gint rfl b.MOST_WAGONS_))) (s_tor1 (s_tnot (s_tval (v_kn cx hr k_are_between (by decide) rfl (s_cons (v_v 0 rfl rfl) (s_cons s_int (s_cons (v_blt (f_len cx) rfl b.len_ bo_len (s_cons (v_v 0 rfl rfl) s_nil)) s_nil)))))))))) (s_scons (s_ret s_bool)
  s_snil) s_snil)
  (s_scons (s_ret (v_cmp (m_eq cx hr) (s_lenSet cx rfl b.len_ rfl b.set_ (v_v 0 rfl rfl) rfl) (v_blt (f_len cx) rfl b.len_ bo_len (s_cons (v_v 0 rfl rfl) s_nil))))
  s_snil))
theorem sc_check_plain : FnScope N_check_plain ["value"] (defScope (top 17)) := ⟨rfl, rfl, rfl, by decide +kernel, rfl, by decide +kernel, by decide +kernel⟩
theorem ok_check_plain (F : FunD c.K "check_plain" "check_plain" (defArgs (top 17)) (defBody (top 17)) (defScope (top 17)) [] [] f fd) (b : Blt c) (k_is_plain : Kn P w c base 4 "is_plain" 1 f_is_plain) (ke_BadPlain : KnE P w c base 1 "BadPlain") : FnG P w c base 5 f fd ["value"] f_check_plain := by
  refine fun_okG F sc_check_plain fun cdv A outer s H E hr hgu => ?_
  have nd := sc_check_plain.nd
  have cx := cxg_of (P := P) (w := w) (c := c) (base := base) (N := N_check_plain) (qual := "check_plain") (scope := defScope (top 17)) (f := f) (cdv := cdv) (A := A) (outer := outer) (s := s) (H := H) (E := E) hgu
  exact (s_scons (s_sif (s_tnot (s_tval (v_kn cx hr k_is_plain (by decide) rfl (s_cons (v_v 0 rfl rfl) s_nil)))) (s_scons (s_raise cx hr ke_BadPlain (by decide) rfl rfl (v_v 0 rfl rfl))
  s_snil) s_snil)
  s_snil)
theorem sc_stretches_of : FnScope N_stretches_of ["row"] (defScope (top 25)) := ⟨rfl, rfl, rfl, by decide +kernel, rfl, by decide +kernel, by decide +kernel⟩
theorem ok_stretches_of (F : FunD c.K "stretches_of" "stretches_of" (defArgs (top 25)) (defBody (top 25)) (defScope (top 25)) [] [] f fd) (b : Blt c) : FnG P w c base 1 f fd ["row"] f_stretches_of := by
  refine fun_okG F sc_stretches_of fun cdv A outer s H E hr hgu => ?_
  have nd := sc_stretches_of.nd
  have cx := cxg_of (P := P) (w := w) (c := c) (base := base) (N := N_stretches_of) (qual := "stretches_of") (scope := defScope (top 25)) (f := f) (cdv := cdv) (A := A) (outer := outer) (s := s) (H := H) (E := E) hgu
  exact (s_scons (s_set (i := 1) nd rfl (loc_by rfl) (s_lstM s_nil))
  (s_scons (s_for (passes_of rfl) rfl (s_ir2 rfl b.range_ s_int (v_add cx (v_blt (f_len cx) rfl b.len_ bo_len (s_cons (v_v 0 rfl rfl) s_nil)) s_int)) (s_gnm (pg_name (i := 2) nd rfl (loc_by rfl))) g_nm (s_scons (s_par (i := 4) (j := 5) rfl nd rfl rfl (by decide) rfl rfl (s_cons (v_ix cx (v_v 0 rfl rfl) (v_sub (v_v 2 rfl rfl) s_int)) (s_cons (v_ix cx (v_v 0 rfl rfl) (v_sub (v_v 2 rfl rfl) s_int)) s_nil)) rfl)
  (s_scons (s_for (passes_of rfl) rfl (s_ir2 rfl b.range_ (v_v 2 rfl rfl) (v_add cx (v_blt (f_len cx) rfl b.len_ bo_len (s_cons (v_v 0 rfl rfl) s_nil)) s_int)) (s_gnm (pg_name (i := 3) nd rfl (loc_by rfl))) g_nm (s_scons (s_par (i := 4) (j := 5) rfl nd rfl rfl (by decide) rfl rfl (s_cons (v_blt (f_min2 rfl) rfl b.min_ bo_min (s_cons (v_v 4 rfl rfl) (s_cons (v_ix cx (v_v 0 rfl rfl) (v_sub (v_v 3 rfl rfl) s_int)) s_nil))) (s_cons (v_blt (f_max2 rfl) rfl b.max_ bo_max (s_cons (v_v 5 rfl rfl) (s_cons (v_ix cx (v_v 0 rfl rfl) (v_sub (v_v 3 rfl rfl) s_int)) s_nil))) s_nil)) rfl)
  (s_scons (s_sif (v_tcmp (m_eq cx hr) (v_sub (v_v 5 rfl rfl) (v_v 4 rfl rfl)) (v_sub (v_v 3 rfl rfl) (v_v 2 rfl rfl))) (s_scons (s_ex (v_mt cx d_append (v_v 1 rfl rfl) (s_cons (s_tup (s_cons (v_v 2 rfl rfl) (s_cons (v_v 3 rfl rfl) s_nil))) s_nil)))
  s_snil) s_snil)
  s_snil)))
  s_snil)))
  (s_scons (s_ret (v_v 1 rfl rfl))
  s_snil)))
theorem sc_stretches : FnScope N_stretches ["row"] (defScope (top 26)) := ⟨rfl, rfl, rfl, by decide +kernel, rfl, by decide +kernel, by decide +kernel⟩
theorem ok_stretches (F : FunD c.K "stretches" "stretches" (defArgs (top 26)) (defBody (top 26)) (defScope (top 26)) [] [] f fd) (b : Blt c) (k_check_plain : Kn P w c base 5 "check_plain" 1 f_check_plain) (k_stretches_of : Kn P w c base 1 "stretches_of" 1 f_stretches_of) : FnG P w c base 6 f fd ["row"] f_stretches := by
  refine fun_okG F sc_stretches fun cdv A outer s H E hr hgu => ?_
  have nd := sc_stretches.nd
  have cx := cxg_of (P := P) (w := w) (c := c) (base := base) (N := N_stretches) (qual := "stretches") (scope := defScope (top 26)) (f := f) (cdv := cdv) (A := A) (outer := outer) (s := s) (H := H) (E := E) hgu
  exact (s_scons (s_ex (v_kn cx hr k_check_plain (by decide) rfl (s_cons (v_v 0 rfl rfl) s_nil)))
  (s_scons (s_ret (v_bty (f_tuple cx) rfl b.tuple_ bo_tuple (s_cons (v_kn cx hr k_stretches_of (by decide) rfl (s_cons (v_v 0 rfl rfl) s_nil)) s_nil)))
  s_snil))
theorem sc_how_many : FnScope N_how_many ["row"] (defScope (top 27)) := ⟨rfl, rfl, rfl, by decide +kernel, rfl, by decide +kernel, by decide +kernel⟩
theorem ok_how_many (F : FunD c.K "how_many" "how_many" (defArgs (top 27)) (defBody (top 27)) (defScope (top 27)) [] [] f fd) (b : Blt c) (k_check_plain : Kn P w c base 5 "check_plain" 1 f_check_plain) (k_stretches_of : Kn P w c base 1 "stretches_of" 1 f_stretches_of) : FnG P w c base 6 f fd ["row"] f_how_many := by
  refine fun_okG F sc_how_many fun cdv A outer s H E hr hgu => ?_
  have nd := sc_how_many.nd
  have cx := cxg_of (P := P) (w := w) (c := c) (base := base) (N := N_how_many) (qual := "how_many") (scope := defScope (top 27)) (f := f) (cdv := cdv) (A := A) (outer := outer) (s := s) (H := H) (E := E) hgu
  exact (s_scons (s_ex (v_kn cx hr k_check_plain (by decide) rfl (s_cons (v_v 0 rfl rfl) s_nil)))
  (s_scons (s_ret (v_blt (f_len cx) rfl b.len_ bo_len (s_cons (v_kn cx hr k_stretches_of (by decide) rfl (s_cons (v_v 0 rfl rfl) s_nil)) s_nil)))
  s_snil))
theorem sc_least_of : FnScope N_least_of ["row", "place"] (defScope (top 29)) := ⟨rfl, rfl, rfl, by decide +kernel, rfl, by decide +kernel, by decide +kernel⟩
theorem ok_least_of {P0 : Addr} (F : FunD c.K "least_of" "least_of" (defArgs (top 29)) (defBody (top 29)) (defScope (top 29)) [] [] (He.fAd c.K ("least_of", none)) fd) (b : Blt c) (k_stretches_of : Kn P w c base 1 "stretches_of" 1 f_stretches_of) (TB : TabB base c.mg (He.codeOf c.K ("least_of", none)) P0) (hmT : (P0, ("least_of.<locals>.<lambda>" : Str)) ∈ c.T) (huT : ∀ p ∈ c.T, p.1 = P0 → p.2 = "least_of.<locals>.<lambda>") : FnG P w c base 2 (He.fAd c.K ("least_of", none)) fd ["row", "place"] f_least_of := by
  refine fun_okT F sc_least_of fun A outer s H E hr hgu => ?_
  have nd := sc_least_of.nd
  have cx := cxg_of (P := P) (w := w) (c := c) (base := base) (N := N_least_of) (qual := "least_of") (scope := defScope (top 29)) (f := He.fAd c.K ("least_of", none)) (cdv := .ref (He.codeOf c.K ("least_of", none))) (A := A) (outer := outer) (s := s) (H := H) (E := E) hgu
  have mt := mkt_of (P := P) (w := w) (N := N_least_of) (qual := "least_of") (scope := defScope (top 29)) (f := He.fAd c.K ("least_of", none)) (A := A) (outer := outer) (s := s) (H := H) (E := E) TB hmT huT
  exact (s_scons (by first | exact s_setLc (i := 2) rfl nd rfl rfl rfl (s_iseq rfl (v_kn cx hr k_stretches_of (by decide) rfl (s_cons (v_v 0 rfl rfl) s_nil))) (own := [("one", 3)]) (blkOk_by (by kernel_rfl)) (fun s1 H1 C1 l1 f1 => (w_gnm (by decide) (pg_name (i := 3) nd rfl (loc_by rfl)))) (fun s1 H1 C1 l1 f1 => (s_tone (v_tchain m_le m_lt (v_ix (Cxg.blk cx) (v_v 3 rfl rfl) s_int) (v_v 1 rfl rfl) (v_ix (Cxg.blk cx) (v_v 3 rfl rfl) s_int)))) (fun s1 H1 C1 l1 f1 => (v_v 3 rfl rfl)) (fun _ _ _ => tlc_fr g_nm) | exact s_set (i := 2) nd rfl (loc_by rfl) (s_lc rfl nd (s_iseq rfl (v_kn cx hr k_stretches_of (by decide) rfl (s_cons (v_v 0 rfl rfl) s_nil))) (own := [("one", 3)]) (blkOk_by (by kernel_rfl)) g_nm (fun s1 H1 C1 l1 f1 => (w_gnm (by decide) (pg_name (i := 3) nd rfl (loc_by rfl)))) (fun s1 H1 C1 l1 f1 => (s_tone (v_tchain m_le m_lt (v_ix (Cxg.blk cx) (v_v 3 rfl rfl) s_int) (v_v 1 rfl rfl) (v_ix (Cxg.blk cx) (v_v 3 rfl rfl) s_int)))) (fun s1 H1 C1 l1 f1 => (v_v 3 rfl rfl))))
  (s_scons (s_ret (s_minK cx hr mt rfl b.min_ (v_v 2 rfl rfl) (by kernel_rfl) (fun _ _ _ _ _ _ => rfl)))
  s_snil))
theorem sc_seeds : FnScope N_seeds ["row"] (defScope (top 31)) := ⟨rfl, rfl, rfl, by decide +kernel, rfl, by decide +kernel, by decide +kernel⟩
theorem ok_seeds (F : FunD c.K "seeds" "seeds" (defArgs (top 31)) (defBody (top 31)) (defScope (top 31)) [] [] f fd) (b : Blt c) (k_check_plain : Kn P w c base 5 "check_plain" 1 f_check_plain) (k_least_of : Kn P w c base 2 "least_of" 2 f_least_of) : FnG P w c base 6 f fd ["row"] f_seeds := by
  refine fun_okG F sc_seeds fun cdv A outer s H E hr hgu => ?_
  have nd := sc_seeds.nd
  have cx := cxg_of (P := P) (w := w) (c := c) (base := base) (N := N_seeds) (qual := "seeds") (scope := defScope (top 31)) (f := f) (cdv := cdv) (A := A) (outer := outer) (s := s) (H := H) (E := E) hgu
  exact (s_scons (s_ex (v_kn cx hr k_check_plain (by decide) rfl (s_cons (v_v 0 rfl rfl) s_nil)))
  (s_scons (s_ret (v_bty (f_tuple cx) rfl b.tuple_ bo_tuple (s_cons (s_srtSetA cx hr rfl b.sorted_ rfl b.set_ (s_lc rfl nd (s_ir2 rfl b.range_ s_int (v_blt (f_len cx) rfl b.len_ bo_len (s_cons (v_v 0 rfl rfl) s_nil))) (own := [("place", 1)]) (blkOk_by (by kernel_rfl)) g_nm (fun s1 H1 C1 l1 f1 => (w_gnm (by decide) (pg_name (i := 1) nd rfl (loc_by rfl)))) (fun s1 H1 C1 l1 f1 => s_tnil) (fun s1 H1 C1 l1 f1 => (v_kn (Cxg.blk cx) hr k_least_of (by decide) rfl (s_cons (v_v 0 rfl rfl) (s_cons (v_v 1 rfl rfl) s_nil))))) rfl) s_nil)))
  s_snil))
theorem sc_least_around : FnScope N_least_around ["row", "place"] (defScope (top 30)) := ⟨rfl, rfl, rfl, by decide +kernel, rfl, by decide +kernel, by decide +kernel⟩
theorem ok_least_around (F : FunD c.K "least_around" "least_around" (defArgs (top 30)) (defBody (top 30)) (defScope (top 30)) [] [] f fd) (b : Blt c) (k_check_plain : Kn P w c base 5 "check_plain" 1 f_check_plain) (k_is_between : Kn P w c base 2 "is_between" 3 f_is_between) (k_least_of : Kn P w c base 2 "least_of" 2 f_least_of) (ke_BadPlace : KnE P w c base 1 "BadPlace") : FnG P w c base 6 f fd ["row", "place"] f_least_around := by
  refine fun_okG F sc_least_around fun cdv A outer s H E hr hgu => ?_
  have nd := sc_least_around.nd
  have cx := cxg_of (P := P) (w := w) (c := c) (base := base) (N := N_least_around) (qual := "least_around") (scope := defScope (top 30)) (f := f) (cdv := cdv) (A := A) (outer := outer) (s := s) (H := H) (E := E) hgu
  exact (s_scons (s_ex (v_kn cx hr k_check_plain (by decide) rfl (s_cons (v_v 0 rfl rfl) s_nil)))
  (s_scons (s_sif (s_tnot (s_tval (v_kn cx hr k_is_between (by decide) rfl (s_cons (v_v 1 rfl rfl) (s_cons s_int (s_cons (v_sub (v_blt (f_len cx) rfl b.len_ bo_len (s_cons (v_v 0 rfl rfl) s_nil)) s_int) s_nil)))))) (s_scons (s_raise cx hr ke_BadPlace (by decide) rfl rfl (v_v 1 rfl rfl))
  s_snil) s_snil)
  (s_scons (s_ret (v_kn cx hr k_least_of (by decide) rfl (s_cons (v_v 0 rfl rfl) (s_cons (v_v 1 rfl rfl) s_nil))))
  s_snil)))
theorem sc_check_rows : FnScope N_check_rows ["rows"] (defScope (top 32)) := ⟨rfl, rfl, rfl, by decide +kernel, rfl, by decide +kernel, by decide +kernel⟩
theorem ok_check_rows (F : FunD c.K "check_rows" "check_rows" (defArgs (top 32)) (defBody (top 32)) (defScope (top 32)) [] [] f fd) (b : Blt c) (k_is_plain : Kn P w c base 4 "is_plain" 1 f_is_plain) (ke_BadRows : KnE P w c base 1 "BadRows") : FnG P w c base 5 f fd ["rows"] f_check_rows := by
  refine fun_okG F sc_check_rows fun cdv A outer s H E hr hgu => ?_
  have nd := sc_check_rows.nd
  have cx := cxg_of (P := P) (w := w) (c := c) (base := base) (N := N_check_rows) (qual := "check_rows") (scope := defScope (top 32)) (f := f) (cdv := cdv) (A := A) (outer := outer) (s := s) (H := H) (E := E) hgu
  exact (s_scons (s_sif (PW.pt (s_tor (s_tnot (s_tval (s_isa cx rfl b.isinstance_ bo_isinstance rfl b.tuple_ bo_tuple (by decide) (v_v 0 rfl rfl)))) (s_tor (s_tnot (v_tchain m_le m_le s_int (v_blt (f_len cx) rfl b.len_ bo_len (s_cons (v_v 0 rfl rfl) s_nil)) (s_gint rfl b.MOST_ROWS_))) (s_tor1 (s_tnot (s_tval (v_blt (f_all cx rfl) rfl b.all_ bo_all (s_cons (s_lc rfl nd (s_iseq rfl (v_v 0 rfl rfl)) (own := [("row", 1)]) (blkOk_by (by kernel_rfl)) g_nm (fun s1 H1 C1 l1 f1 => (w_gnm (by decide) (pg_name (i := 1) nd rfl (loc_by rfl)))) (fun s1 H1 C1 l1 f1 => s_tnil) (fun s1 H1 C1 l1 f1 => (v_kn (Cxg.blk cx) hr k_is_plain (by decide) rfl (s_cons (v_v 1 rfl rfl) s_nil)))) s_nil)))))))) (s_scons (s_raise cx hr ke_BadRows (by decide) rfl rfl (v_v 0 rfl rfl))
  s_snil) s_snil)
  (s_scons (s_sif (v_tcmp (m_ne cx hr) (s_lenSet cx rfl b.len_ rfl b.set_ (s_lc rfl nd (s_iseq rfl (v_v 0 rfl rfl)) (own := [("row", 1)]) (blkOk_by (by kernel_rfl)) g_nm (fun s1 H1 C1 l1 f1 => (w_gnm (by decide) (pg_name (i := 1) nd rfl (loc_by rfl)))) (fun s1 H1 C1 l1 f1 => s_tnil) (fun s1 H1 C1 l1 f1 => (v_blt (f_len (Cxg.blk cx)) rfl b.len_ bo_len (s_cons (v_v 1 rfl rfl) s_nil)))) rfl) s_int) (s_scons (s_raise cx hr ke_BadRows (by decide) rfl rfl (v_v 0 rfl rfl))
  s_snil) s_snil)
  s_snil))
theorem sc_side_by_side : FnScope N_side_by_side ["row", "lot"] (defScope (top 33)) := ⟨rfl, rfl, rfl, by decide +kernel, rfl, by decide +kernel, by decide +kernel⟩
theorem ok_side_by_side (F : FunD c.K "side_by_side" "side_by_side" (defArgs (top 33)) (defBody (top 33)) (defScope (top 33)) [] [] f fd) (b : Blt c) : FnG P w c base 1 f fd ["row", "lot"] f_side_by_side := by
  refine fun_okG F sc_side_by_side fun cdv A outer s H E hr hgu => ?_
  have nd := sc_side_by_side.nd
  have cx := cxg_of (P := P) (w := w) (c := c) (base := base) (N := N_side_by_side) (qual := "side_by_side") (scope := defScope (top 33)) (f := f) (cdv := cdv) (A := A) (outer := outer) (s := s) (H := H) (E := E) hgu
  exact (s_scons (s_set (i := 2) nd rfl (loc_by rfl) (v_blt (f_sortedA cx) rfl b.sorted_ bo_sorted (s_cons (s_lc rfl nd (s_iseq rfl (v_v 1 rfl rfl)) (own := [("wagon", 3)]) (blkOk_by (by kernel_rfl)) g_nm (fun s1 H1 C1 l1 f1 => (w_gnm (by decide) (pg_name (i := 3) nd rfl (loc_by rfl)))) (fun s1 H1 C1 l1 f1 => s_tnil) (fun s1 H1 C1 l1 f1 => (s_idxA (Cxg.blk cx) hr (v_v 0 rfl rfl) (s_cons (v_v 3 rfl rfl) s_nil)))) s_nil)))
  (s_scons (s_ret (v_cmp (m_eq cx hr) (v_sub (v_ix cx (v_v 2 rfl rfl) (v_neg s_int)) (v_ix cx (v_v 2 rfl rfl) s_int)) (v_sub (v_blt (f_len cx) rfl b.len_ bo_len (s_cons (v_v 2 rfl rfl) s_nil)) s_int)))
  s_snil))
theorem sc_shared_of : FnScope N_shared_of ["rows"] (defScope (top 34)) := ⟨rfl, rfl, rfl, by decide +kernel, rfl, by decide +kernel, by decide +kernel⟩
theorem ok_shared_of (F : FunD c.K "shared_of" "shared_of" (defArgs (top 34)) (defBody (top 34)) (defScope (top 34)) [] [] f fd) (b : Blt c) (k_side_by_side : Kn P w c base 1 "side_by_side" 2 f_side_by_side) : FnG P w c base 2 f fd ["rows"] f_shared_of := by
  refine fun_okG F sc_shared_of fun cdv A outer s H E hr hgu => ?_
  have nd := sc_shared_of.nd
  have cx := cxg_of (P := P) (w := w) (c := c) (base := base) (N := N_shared_of) (qual := "shared_of") (scope := defScope (top 34)) (f := f) (cdv := cdv) (A := A) (outer := outer) (s := s) (H := H) (E := E) hgu
  exact (s_scons (s_par (i := 2) (j := 3) rfl nd rfl rfl (by decide) rfl rfl (s_cons (s_lstM s_nil) (s_cons (v_blt (f_len cx) rfl b.len_ bo_len (s_cons (v_ix cx (v_v 0 rfl rfl) s_int) s_nil)) s_nil)) rfl)
  (s_scons (s_for (passes_of rfl) rfl (s_ir1 rfl b.range_ (v_v 3 rfl rfl)) (s_gnm (pg_name (i := 1) nd rfl (loc_by rfl))) g_nm (s_scons (s_for (passes_of rfl) rfl (s_ir2 rfl b.range_ (v_add cx (v_v 1 rfl rfl) s_int) (v_add cx (v_v 3 rfl rfl) s_int)) (s_gnm (pg_name (i := 4) nd rfl (loc_by rfl))) g_nm (s_scons (s_set (i := 5) nd rfl (loc_by rfl) (v_bty (f_tuple cx) rfl b.tuple_ bo_tuple (s_cons (v_blt (f_sortedA cx) rfl b.sorted_ bo_sorted (s_cons (v_sl cx (v_ix cx (v_v 0 rfl rfl) s_int) (s_psm (v_v 1 rfl rfl)) (s_psm (v_v 4 rfl rfl))) s_nil)) s_nil)))
  (s_scons (s_sif (s_tval (v_blt (f_all cx rfl) rfl b.all_ bo_all (s_cons (s_lc rfl nd (s_iseq rfl (v_v 0 rfl rfl)) (own := [("row", 6)]) (blkOk_by (by kernel_rfl)) g_nm (fun s1 H1 C1 l1 f1 => (w_gnm (by decide) (pg_name (i := 6) nd rfl (loc_by rfl)))) (fun s1 H1 C1 l1 f1 => s_tnil) (fun s1 H1 C1 l1 f1 => (v_kn (Cxg.blk cx) hr k_side_by_side (by decide) rfl (s_cons (v_v 6 rfl rfl) (s_cons (v_v 5 rfl rfl) s_nil))))) s_nil))) (s_scons (s_ex (v_mt cx d_append (v_v 2 rfl rfl) (s_cons (v_v 5 rfl rfl) s_nil)))
  s_snil) s_snil)
  s_snil)))
  s_snil))
  (s_scons (s_ret (v_blt (f_sortedA cx) rfl b.sorted_ bo_sorted (s_cons (v_v 2 rfl rfl) s_nil)))
  s_snil)))
theorem sc_shared : FnScope N_shared ["rows"] (defScope (top 35)) := ⟨rfl, rfl, rfl, by decide +kernel, rfl, by decide +kernel, by decide +kernel⟩
theorem ok_shared (F : FunD c.K "shared" "shared" (defArgs (top 35)) (defBody (top 35)) (defScope (top 35)) [] [] f fd) (b : Blt c) (k_check_rows : Kn P w c base 5 "check_rows" 1 f_check_rows) (k_shared_of : Kn P w c base 2 "shared_of" 1 f_shared_of) : FnG P w c base 6 f fd ["rows"] f_shared := by
  refine fun_okG F sc_shared fun cdv A outer s H E hr hgu => ?_
  have nd := sc_shared.nd
  have cx := cxg_of (P := P) (w := w) (c := c) (base := base) (N := N_shared) (qual := "shared") (scope := defScope (top 35)) (f := f) (cdv := cdv) (A := A) (outer := outer) (s := s) (H := H) (E := E) hgu
  exact (s_scons (s_ex (v_kn cx hr k_check_rows (by decide) rfl (s_cons (v_v 0 rfl rfl) s_nil)))
  (s_scons (s_ret (v_bty (f_tuple cx) rfl b.tuple_ bo_tuple (s_cons (v_kn cx hr k_shared_of (by decide) rfl (s_cons (v_v 0 rfl rfl) s_nil)) s_nil)))
  s_snil))
theorem sc_do_clash : FnScope N_do_clash ["one", "other"] (defScope (top 36)) := ⟨rfl, rfl, rfl, by decide +kernel, rfl, by decide +kernel, by decide +kernel⟩
theorem ok_do_clash (F : FunD c.K "do_clash" "do_clash" (defArgs (top 36)) (defBody (top 36)) (defScope (top 36)) [] [] f fd) (b : Blt c) : FnG P w c base 1 f fd ["one", "other"] f_do_clash := by
  refine fun_okG F sc_do_clash fun cdv A outer s H E hr hgu => ?_
  have nd := sc_do_clash.nd
  have cx := cxg_of (P := P) (w := w) (c := c) (base := base) (N := N_do_clash) (qual := "do_clash") (scope := defScope (top 36)) (f := f) (cdv := cdv) (A := A) (outer := outer) (s := s) (H := H) (E := E) hgu
  exact (s_scons (by first | exact s_setLc (i := 2) rfl nd rfl rfl rfl (s_iseq rfl (v_v 0 rfl rfl)) (own := [("wagon", 3)]) (blkOk_by (by kernel_rfl)) (fun s1 H1 C1 l1 f1 => (w_gnm (by decide) (pg_name (i := 3) nd rfl (loc_by rfl)))) (fun s1 H1 C1 l1 f1 => (s_tone (v_tcmp (m_in (Cxg.blk cx) hr) (v_v 3 rfl rfl) (v_v 1 rfl rfl)))) (fun s1 H1 C1 l1 f1 => (v_v 3 rfl rfl)) (fun _ _ _ => tlc_fr g_nm) | exact s_set (i := 2) nd rfl (loc_by rfl) (s_lc rfl nd (s_iseq rfl (v_v 0 rfl rfl)) (own := [("wagon", 3)]) (blkOk_by (by kernel_rfl)) g_nm (fun s1 H1 C1 l1 f1 => (w_gnm (by decide) (pg_name (i := 3) nd rfl (loc_by rfl)))) (fun s1 H1 C1 l1 f1 => (s_tone (v_tcmp (m_in (Cxg.blk cx) hr) (v_v 3 rfl rfl) (v_v 1 rfl rfl)))) (fun s1 H1 C1 l1 f1 => (v_v 3 rfl rfl))))
  (s_scons (s_ret (s_and (v_cmp (m_ne cx hr) (v_v 2 rfl rfl) (s_lst s_nil)) (s_and (v_cmp m_lt (v_blt (f_len cx) rfl b.len_ bo_len (s_cons (v_v 2 rfl rfl) s_nil)) (v_blt (f_len cx) rfl b.len_ bo_len (s_cons (v_v 0 rfl rfl) s_nil))) (s_one (v_cmp m_lt (v_blt (f_len cx) rfl b.len_ bo_len (s_cons (v_v 2 rfl rfl) s_nil)) (v_blt (f_len cx) rfl b.len_ bo_len (s_cons (v_v 1 rfl rfl) s_nil)))))))
  s_snil))
theorem sc_shared_knots : FnScope N_shared_knots ["rows"] (defScope (top 37)) := ⟨rfl, rfl, rfl, by decide +kernel, rfl, by decide +kernel, by decide +kernel⟩
theorem ok_shared_knots (F : FunD c.K "shared_knots" "shared_knots" (defArgs (top 37)) (defBody (top 37)) (defScope (top 37)) [] [] f fd) (b : Blt c) (k_check_rows : Kn P w c base 5 "check_rows" 1 f_check_rows) (k_shared_of : Kn P w c base 2 "shared_of" 1 f_shared_of) (k_do_clash : Kn P w c base 1 "do_clash" 2 f_do_clash) : FnG P w c base 6 f fd ["rows"] f_shared_knots := by
  refine fun_okG F sc_shared_knots fun cdv A outer s H E hr hgu => ?_
  have nd := sc_shared_knots.nd
  have cx := cxg_of (P := P) (w := w) (c := c) (base := base) (N := N_shared_knots) (qual := "shared_knots") (scope := defScope (top 37)) (f := f) (cdv := cdv) (A := A) (outer := outer) (s := s) (H := H) (E := E) hgu
  exact (s_scons (s_ex (v_kn cx hr k_check_rows (by decide) rfl (s_cons (v_v 0 rfl rfl) s_nil)))
  (s_scons (s_set (i := 1) nd rfl (loc_by rfl) (v_kn cx hr k_shared_of (by decide) rfl (s_cons (v_v 0 rfl rfl) s_nil)))
  (s_scons (s_ret (v_bty (f_tuple cx) rfl b.tuple_ bo_tuple (s_cons (s_lc rfl nd (s_iseq rfl (v_v 1 rfl rfl)) (own := [("lot", 2)]) (blkOk_by (by kernel_rfl)) g_nm (fun s1 H1 C1 l1 f1 => (w_gnm (by decide) (pg_name (i := 2) nd rfl (loc_by rfl)))) (fun s1 H1 C1 l1 f1 => (s_tone (s_tnot (s_tval (v_blt (f_any (Cxg.blk cx) rfl) rfl b.any_ bo_any (s_cons (s_lc rfl nd (s_iseq rfl (v_v 1 rfl rfl)) (own := [("other", 3)]) (blkOk_by (by kernel_rfl)) g_nm (fun s2 H2 C2 l2 f2 => (w_gnm (by decide) (pg_name (i := 3) nd rfl (loc_by rfl)))) (fun s2 H2 C2 l2 f2 => s_tnil) (fun s2 H2 C2 l2 f2 => (v_kn (Cxg.blk (Cxg.blk cx)) hr k_do_clash (by decide) rfl (s_cons (v_v 2 rfl rfl) (s_cons (v_v 3 rfl rfl) s_nil))))) s_nil)))))) (fun s1 H1 C1 l1 f1 => (v_v 2 rfl rfl))) s_nil)))
  s_snil)))
theorem sc_do_cross : FnScope N_do_cross ["one", "other"] (defScope (top 28)) := ⟨rfl, rfl, rfl, by decide +kernel, rfl, by decide +kernel, by decide +kernel⟩
theorem ok_do_cross (F : FunD c.K "do_cross" "do_cross" (defArgs (top 28)) (defBody (top 28)) (defScope (top 28)) [] [] f fd) (b : Blt c) : FnG P w c base 1 f fd ["one", "other"] f_do_cross := by
  refine fun_okG F sc_do_cross fun cdv A outer s H E hr hgu => ?_
  have nd := sc_do_cross.nd
  have cx := cxg_of (P := P) (w := w) (c := c) (base := base) (N := N_do_cross) (qual := "do_cross") (scope := defScope (top 28)) (f := f) (cdv := cdv) (A := A) (outer := outer) (s := s) (H := H) (E := E) hgu
  exact (s_scons (s_ret (s_or (v_ch3 m_lt m_le m_lt (v_ix cx (v_v 0 rfl rfl) s_int) (v_ix cx (v_v 1 rfl rfl) s_int) (v_ix cx (v_v 0 rfl rfl) s_int) (v_ix cx (v_v 1 rfl rfl) s_int)) (s_one (v_ch3 m_lt m_le m_lt (v_ix cx (v_v 1 rfl rfl) s_int) (v_ix cx (v_v 0 rfl rfl) s_int) (v_ix cx (v_v 1 rfl rfl) s_int) (v_ix cx (v_v 0 rfl rfl) s_int)))))
  s_snil)
theorem sc_knots_of : FnScope N_knots_of ["row"] (defScope (top 50)) := ⟨rfl, rfl, rfl, by decide +kernel, rfl, by decide +kernel, by decide +kernel⟩
theorem ok_knots_of (F : FunD c.K "knots_of" "knots_of" (defArgs (top 50)) (defBody (top 50)) (defScope (top 50)) [] [] f fd) (b : Blt c) (k_stretches_of : Kn P w c base 1 "stretches_of" 1 f_stretches_of) (k_do_cross : Kn P w c base 1 "do_cross" 2 f_do_cross) : FnG P w c base 2 f fd ["row"] f_knots_of := by
  refine fun_okG F sc_knots_of fun cdv A outer s H E hr hgu => ?_
  have nd := sc_knots_of.nd
  have cx := cxg_of (P := P) (w := w) (c := c) (base := base) (N := N_knots_of) (qual := "knots_of") (scope := defScope (top 50)) (f := f) (cdv := cdv) (A := A) (outer := outer) (s := s) (H := H) (E := E) hgu
  exact (s_scons (s_set (i := 1) nd rfl (loc_by rfl) (v_kn cx hr k_stretches_of (by decide) rfl (s_cons (v_v 0 rfl rfl) s_nil)))
  (s_scons (s_ret (s_lc rfl nd (s_iseq rfl (v_v 1 rfl rfl)) (own := [("one", 2)]) (blkOk_by (by kernel_rfl)) g_nm (fun s1 H1 C1 l1 f1 => (w_gnm (by decide) (pg_name (i := 2) nd rfl (loc_by rfl)))) (fun s1 H1 C1 l1 f1 => (s_tone (s_tnot (s_tval (v_blt (f_any (Cxg.blk cx) rfl) rfl b.any_ bo_any (s_cons (s_lc rfl nd (s_iseq rfl (v_v 1 rfl rfl)) (own := [("other", 3)]) (blkOk_by (by kernel_rfl)) g_nm (fun s2 H2 C2 l2 f2 => (w_gnm (by decide) (pg_name (i := 3) nd rfl (loc_by rfl)))) (fun s2 H2 C2 l2 f2 => s_tnil) (fun s2 H2 C2 l2 f2 => (v_kn (Cxg.blk (Cxg.blk cx)) hr k_do_cross (by decide) rfl (s_cons (v_v 2 rfl rfl) (s_cons (v_v 3 rfl rfl) s_nil))))) s_nil)))))) (fun s1 H1 C1 l1 f1 => (v_v 2 rfl rfl))))
  s_snil))
theorem sc_pattern_of : FnScope N_pattern_of ["row", "spans"] (defScope (top 53)) := ⟨rfl, rfl, rfl, by decide +kernel, rfl, by decide +kernel, by decide +kernel⟩
theorem ok_pattern_of (F : FunD c.K "pattern_of" "pattern_of" (defArgs (top 53)) (defBody (top 53)) (defScope (top 53)) [] [] f fd) (b : Blt c) : FnG P w c base 1 f fd ["row", "spans"] f_pattern_of := by
  refine fun_okG F sc_pattern_of fun cdv A outer s H E hr hgu => ?_
  have nd := sc_pattern_of.nd
  have cx := cxg_of (P := P) (w := w) (c := c) (base := base) (N := N_pattern_of) (qual := "pattern_of") (scope := defScope (top 53)) (f := f) (cdv := cdv) (A := A) (outer := outer) (s := s) (H := H) (E := E) hgu
  exact (s_scons (by first | exact s_setLc (i := 2) rfl nd rfl rfl rfl (s_iseq rfl (v_v 1 rfl rfl)) (own := [("first", 4), ("last", 5)]) (blkOk_by (by kernel_rfl)) (fun s1 H1 C1 l1 f1 => (w_gtp rfl rfl (w_gscons (w_gnm (by decide) (pg_name (i := 4) nd rfl (loc_by rfl))) (w_gscons (w_gnm (by decide) (pg_name (i := 5) nd rfl (loc_by rfl))) w_gsnil)))) (fun s1 H1 C1 l1 f1 => s_tnil) (fun s1 H1 C1 l1 f1 => (v_ix (Cxg.blk cx) (v_v 0 rfl rfl) (v_sub (v_v 4 rfl rfl) s_int))) (fun _ _ _ => tlc_fr (g_tp (g_scons g_nm (g_scons g_nm g_snil)))) | exact s_set (i := 2) nd rfl (loc_by rfl) (s_lc rfl nd (s_iseq rfl (v_v 1 rfl rfl)) (own := [("first", 4), ("last", 5)]) (blkOk_by (by kernel_rfl)) (g_tp (g_scons g_nm (g_scons g_nm g_snil))) (fun s1 H1 C1 l1 f1 => (w_gtp rfl rfl (w_gscons (w_gnm (by decide) (pg_name (i := 4) nd rfl (loc_by rfl))) (w_gscons (w_gnm (by decide) (pg_name (i := 5) nd rfl (loc_by rfl))) w_gsnil)))) (fun s1 H1 C1 l1 f1 => s_tnil) (fun s1 H1 C1 l1 f1 => (v_ix (Cxg.blk cx) (v_v 0 rfl rfl) (v_sub (v_v 4 rfl rfl) s_int)))))
  (s_scons (s_set (i := 3) nd rfl (loc_by rfl) (v_blt (f_sortedA cx) rfl b.sorted_ bo_sorted (s_cons (v_v 2 rfl rfl) s_nil)))
  (s_scons (s_ret (v_bty (f_tuple cx) rfl b.tuple_ bo_tuple (s_cons (s_lc rfl nd (s_iseq rfl (v_v 2 rfl rfl)) (own := [("wagon", 6)]) (blkOk_by (by kernel_rfl)) g_nm (fun s1 H1 C1 l1 f1 => (w_gnm (by decide) (pg_name (i := 6) nd rfl (loc_by rfl)))) (fun s1 H1 C1 l1 f1 => s_tnil) (fun s1 H1 C1 l1 f1 => (v_add (Cxg.blk cx) (s_idxA (Cxg.blk cx) hr (v_v 3 rfl rfl) (s_cons (v_v 6 rfl rfl) s_nil)) s_int))) s_nil)))
  s_snil)))
theorem sc_is_within : FnScope N_is_within ["one", "other"] (defScope (top 51)) := ⟨rfl, rfl, rfl, by decide +kernel, rfl, by decide +kernel, by decide +kernel⟩
theorem ok_is_within (F : FunD c.K "is_within" "is_within" (defArgs (top 51)) (defBody (top 51)) (defScope (top 51)) [] [] f fd) (b : Blt c) : FnG P w c base 1 f fd ["one", "other"] f_is_within := by
  refine fun_okG F sc_is_within fun cdv A outer s H E hr hgu => ?_
  have nd := sc_is_within.nd
  have cx := cxg_of (P := P) (w := w) (c := c) (base := base) (N := N_is_within) (qual := "is_within") (scope := defScope (top 51)) (f := f) (cdv := cdv) (A := A) (outer := outer) (s := s) (H := H) (E := E) hgu
  exact (s_scons (s_ret (s_and (v_cmp m_le (v_ix cx (v_v 1 rfl rfl) s_int) (v_ix cx (v_v 0 rfl rfl) s_int)) (s_and (v_cmp m_le (v_ix cx (v_v 0 rfl rfl) s_int) (v_ix cx (v_v 1 rfl rfl) s_int)) (s_one (v_cmp (m_ne cx hr) (v_v 0 rfl rfl) (v_v 1 rfl rfl))))))
  s_snil)
theorem sc_parts_of : FnScope N_parts_of ["some", "knot"] (defScope (top 52)) := ⟨rfl, rfl, rfl, by decide +kernel, rfl, by decide +kernel, by decide +kernel⟩
theorem ok_parts_of (F : FunD c.K "parts_of" "parts_of" (defArgs (top 52)) (defBody (top 52)) (defScope (top 52)) [] [] f fd) (b : Blt c) (k_is_within : Kn P w c base 1 "is_within" 2 f_is_within) : FnG P w c base 2 f fd ["some", "knot"] f_parts_of := by
  refine fun_okG F sc_parts_of fun cdv A outer s H E hr hgu => ?_
  have nd := sc_parts_of.nd
  have cx := cxg_of (P := P) (w := w) (c := c) (base := base) (N := N_parts_of) (qual := "parts_of") (scope := defScope (top 52)) (f := f) (cdv := cdv) (A := A) (outer := outer) (s := s) (H := H) (E := E) hgu
  exact (s_scons (s_set (i := 2) nd rfl (loc_by rfl) (s_lc rfl nd (s_iseq rfl (v_v 0 rfl rfl)) (own := [("one", 3)]) (blkOk_by (by kernel_rfl)) g_nm (fun s1 H1 C1 l1 f1 => (w_gnm (by decide) (pg_name (i := 3) nd rfl (loc_by rfl)))) (fun s1 H1 C1 l1 f1 => (s_tone (s_tval (v_kn (Cxg.blk cx) hr k_is_within (by decide) rfl (s_cons (v_v 3 rfl rfl) (s_cons (v_v 1 rfl rfl) s_nil)))))) (fun s1 H1 C1 l1 f1 => (v_v 3 rfl rfl))))
  (s_scons (s_ret (s_lc rfl nd (s_iseq rfl (v_v 2 rfl rfl)) (own := [("one", 3)]) (blkOk_by (by kernel_rfl)) g_nm (fun s1 H1 C1 l1 f1 => (w_gnm (by decide) (pg_name (i := 3) nd rfl (loc_by rfl)))) (fun s1 H1 C1 l1 f1 => (s_tone (s_tnot (s_tval (v_blt (f_any (Cxg.blk cx) rfl) rfl b.any_ bo_any (s_cons (s_lc rfl nd (s_iseq rfl (v_v 2 rfl rfl)) (own := [("other", 4)]) (blkOk_by (by kernel_rfl)) g_nm (fun s2 H2 C2 l2 f2 => (w_gnm (by decide) (pg_name (i := 4) nd rfl (loc_by rfl)))) (fun s2 H2 C2 l2 f2 => s_tnil) (fun s2 H2 C2 l2 f2 => (v_kn (Cxg.blk (Cxg.blk cx)) hr k_is_within (by decide) rfl (s_cons (v_v 3 rfl rfl) (s_cons (v_v 4 rfl rfl) s_nil))))) s_nil)))))) (fun s1 H1 C1 l1 f1 => (v_v 3 rfl rfl))))
  s_snil))
theorem sc_home_of : FnScope N_home_of ["many"] (defScope (top 18)) := ⟨rfl, rfl, rfl, by decide +kernel, rfl, by decide +kernel, by decide +kernel⟩
theorem ok_home_of (F : FunD c.K "home_of" "home_of" (defArgs (top 18)) (defBody (top 18)) (defScope (top 18)) [] [] f fd) (b : Blt c) : FnG P w c base 1 f fd ["many"] f_home_of := by
  refine fun_okG F sc_home_of fun cdv A outer s H E hr hgu => ?_
  have nd := sc_home_of.nd
  have cx := cxg_of (P := P) (w := w) (c := c) (base := base) (N := N_home_of) (qual := "home_of") (scope := defScope (top 18)) (f := f) (cdv := cdv) (A := A) (outer := outer) (s := s) (H := H) (E := E) hgu
  exact (s_scons (s_ret (v_bty (f_tuple cx) rfl b.tuple_ bo_tuple (s_cons (s_rgL rfl rfl b.list_ (s_rg2 rfl b.range_ s_int (v_add cx (v_v 0 rfl rfl) s_int))) s_nil)))
  s_snil)
theorem sc_kind_of : FnScope N_kind_of ["row", "some", "knot"] (defScope (top 54)) := ⟨rfl, rfl, rfl, by decide +kernel, rfl, by decide +kernel, by decide +kernel⟩
theorem ok_kind_of (F : FunD c.K "kind_of" "kind_of" (defArgs (top 54)) (defBody (top 54)) (defScope (top 54)) [] [] f fd) (b : Blt c) (k_pattern_of : Kn P w c base 1 "pattern_of" 2 f_pattern_of) (k_parts_of : Kn P w c base 2 "parts_of" 2 f_parts_of) (k_home_of : Kn P w c base 1 "home_of" 1 f_home_of) : FnG P w c base 3 f fd ["row", "some", "knot"] f_kind_of := by
  refine fun_okG F sc_kind_of fun cdv A outer s H E hr hgu => ?_
  have nd := sc_kind_of.nd
  have cx := cxg_of (P := P) (w := w) (c := c) (base := base) (N := N_kind_of) (qual := "kind_of") (scope := defScope (top 54)) (f := f) (cdv := cdv) (A := A) (outer := outer) (s := s) (H := H) (E := E) hgu
  exact (s_scons (s_sif (v_tcmp (m_eq cx hr) (v_ix cx (v_v 2 rfl rfl) s_int) (v_ix cx (v_v 2 rfl rfl) s_int)) (s_scons (s_ret (s_gstr rfl b.ONE_))
  s_snil) s_snil)
  (s_scons (s_set (i := 3) nd rfl (loc_by rfl) (v_kn cx hr k_pattern_of (by decide) rfl (s_cons (v_v 0 rfl rfl) (s_cons (v_kn cx hr k_parts_of (by decide) rfl (s_cons (v_v 1 rfl rfl) (s_cons (v_v 2 rfl rfl) s_nil))) s_nil))))
  (s_scons (s_set (i := 4) nd rfl (loc_by rfl) (v_kn cx hr k_home_of (by decide) rfl (s_cons (v_blt (f_len cx) rfl b.len_ bo_len (s_cons (v_v 3 rfl rfl) s_nil)) s_nil)))
  (s_scons (s_ret (s_if (v_tcmp (m_eq cx hr) (v_v 3 rfl rfl) (v_v 4 rfl rfl)) (s_gstr rfl b.UP_) (s_if (v_tcmp (m_eq cx hr) (v_v 3 rfl rfl) (s_rev cx (v_v 4 rfl rfl))) (s_gstr rfl b.DOWN_) (s_gstr rfl b.PRIME_))))
  s_snil))))
theorem sc_knots : FnScope N_knots ["row"] (defScope (top 55)) := ⟨rfl, rfl, rfl, by decide +kernel, rfl, by decide +kernel, by decide +kernel⟩
theorem ok_knots (F : FunD c.K "knots" "knots" (defArgs (top 55)) (defBody (top 55)) (defScope (top 55)) [] [] f fd) (b : Blt c) (k_check_plain : Kn P w c base 5 "check_plain" 1 f_check_plain) (k_knots_of : Kn P w c base 2 "knots_of" 1 f_knots_of) (k_kind_of : Kn P w c base 3 "kind_of" 3 f_kind_of) : FnG P w c base 6 f fd ["row"] f_knots := by
  refine fun_okG F sc_knots fun cdv A outer s H E hr hgu => ?_
  have nd := sc_knots.nd
  have cx := cxg_of (P := P) (w := w) (c := c) (base := base) (N := N_knots) (qual := "knots") (scope := defScope (top 55)) (f := f) (cdv := cdv) (A := A) (outer := outer) (s := s) (H := H) (E := E) hgu
  exact (s_scons (s_ex (v_kn cx hr k_check_plain (by decide) rfl (s_cons (v_v 0 rfl rfl) s_nil)))
  (s_scons (s_set (i := 1) nd rfl (loc_by rfl) (v_kn cx hr k_knots_of (by decide) rfl (s_cons (v_v 0 rfl rfl) s_nil)))
  (s_scons (s_ret (v_bty (f_tuple cx) rfl b.tuple_ bo_tuple (s_cons (s_lc rfl nd (s_iseq rfl (v_v 1 rfl rfl)) (own := [("knot", 2)]) (blkOk_by (by kernel_rfl)) g_nm (fun s1 H1 C1 l1 f1 => (w_gnm (by decide) (pg_name (i := 2) nd rfl (loc_by rfl)))) (fun s1 H1 C1 l1 f1 => s_tnil) (fun s1 H1 C1 l1 f1 => (s_tup (s_star rfl rfl (v_v 2 rfl rfl) (s_cons (v_kn (Cxg.blk cx) hr k_kind_of (by decide) rfl (s_cons (v_v 0 rfl rfl) (s_cons (v_v 1 rfl rfl) (s_cons (v_v 2 rfl rfl) s_nil)))) s_nil))))) s_nil)))
  s_snil)))
theorem sc_check_knot : FnScope N_check_knot ["row", "knot"] (defScope (top 56)) := ⟨rfl, rfl, rfl, by decide +kernel, rfl, by decide +kernel, by decide +kernel⟩
theorem ok_check_knot (F : FunD c.K "check_knot" "check_knot" (defArgs (top 56)) (defBody (top 56)) (defScope (top 56)) [] [] f fd) (b : Blt c) (k_check_plain : Kn P w c base 5 "check_plain" 1 f_check_plain) (k_is_integer : Kn P w c base 1 "is_integer" 1 f_is_integer) (k_knots_of : Kn P w c base 2 "knots_of" 1 f_knots_of) (ke_BadKnot : KnE P w c base 1 "BadKnot") (ke_Single : KnE P w c base 1 "Single") : FnG P w c base 6 f fd ["row", "knot"] f_check_knot := by
  refine fun_okG F sc_check_knot fun cdv A outer s H E hr hgu => ?_
  have nd := sc_check_knot.nd
  have cx := cxg_of (P := P) (w := w) (c := c) (base := base) (N := N_check_knot) (qual := "check_knot") (scope := defScope (top 56)) (f := f) (cdv := cdv) (A := A) (outer := outer) (s := s) (H := H) (E := E) hgu
  exact (s_scons (s_ex (v_kn cx hr k_check_plain (by decide) rfl (s_cons (v_v 0 rfl rfl) s_nil)))
  (s_scons (s_sif (PW.pt (s_tor (s_tnot (s_tval (s_isa cx rfl b.isinstance_ bo_isinstance rfl b.tuple_ bo_tuple (by decide) (v_v 1 rfl rfl)))) (s_tor (s_tnot (s_tval (v_blt (f_all cx rfl) rfl b.all_ bo_all (s_cons (s_lc rfl nd (s_iseq rfl (v_v 1 rfl rfl)) (own := [("one", 2)]) (blkOk_by (by kernel_rfl)) g_nm (fun s1 H1 C1 l1 f1 => (w_gnm (by decide) (pg_name (i := 2) nd rfl (loc_by rfl)))) (fun s1 H1 C1 l1 f1 => s_tnil) (fun s1 H1 C1 l1 f1 => (v_kn (Cxg.blk cx) hr k_is_integer (by decide) rfl (s_cons (v_v 2 rfl rfl) s_nil)))) s_nil)))) (s_tor1 (v_tcmp (m_ni cx hr) (v_v 1 rfl rfl) (v_kn cx hr k_knots_of (by decide) rfl (s_cons (v_v 0 rfl rfl) s_nil))))))) (s_scons (s_raise cx hr ke_BadKnot (by decide) rfl rfl (v_v 1 rfl rfl))
  s_snil) s_snil)
  (s_scons (s_sif (v_tcmp (m_eq cx hr) (v_ix cx (v_v 1 rfl rfl) s_int) (v_ix cx (v_v 1 rfl rfl) s_int)) (s_scons (s_raise cx hr ke_Single (by decide) rfl rfl (v_v 1 rfl rfl))
  s_snil) s_snil)
  s_snil)))
theorem sc_parts : FnScope N_parts ["row", "knot"] (defScope (top 58)) := ⟨rfl, rfl, rfl, by decide +kernel, rfl, by decide +kernel, by decide +kernel⟩
theorem ok_parts (F : FunD c.K "parts" "parts" (defArgs (top 58)) (defBody (top 58)) (defScope (top 58)) [] [] f fd) (b : Blt c) (k_check_knot : Kn P w c base 6 "check_knot" 2 f_check_knot) (k_parts_of : Kn P w c base 2 "parts_of" 2 f_parts_of) (k_knots_of : Kn P w c base 2 "knots_of" 1 f_knots_of) : FnG P w c base 7 f fd ["row", "knot"] f_parts := by
  refine fun_okG F sc_parts fun cdv A outer s H E hr hgu => ?_
  have nd := sc_parts.nd
  have cx := cxg_of (P := P) (w := w) (c := c) (base := base) (N := N_parts) (qual := "parts") (scope := defScope (top 58)) (f := f) (cdv := cdv) (A := A) (outer := outer) (s := s) (H := H) (E := E) hgu
  exact (s_scons (s_ex (v_kn cx hr k_check_knot (by decide) rfl (s_cons (v_v 0 rfl rfl) (s_cons (v_v 1 rfl rfl) s_nil))))
  (s_scons (s_ret (v_bty (f_tuple cx) rfl b.tuple_ bo_tuple (s_cons (v_kn cx hr k_parts_of (by decide) rfl (s_cons (v_kn cx hr k_knots_of (by decide) rfl (s_cons (v_v 0 rfl rfl) s_nil)) (s_cons (v_v 1 rfl rfl) s_nil))) s_nil)))
  s_snil))
theorem sc_pattern : FnScope N_pattern ["row", "knot"] (defScope (top 57)) := ⟨rfl, rfl, rfl, by decide +kernel, rfl, by decide +kernel, by decide +kernel⟩
theorem ok_pattern (F : FunD c.K "pattern" "pattern" (defArgs (top 57)) (defBody (top 57)) (defScope (top 57)) [] [] f fd) (b : Blt c) (k_check_knot : Kn P w c base 6 "check_knot" 2 f_check_knot) (k_pattern_of : Kn P w c base 1 "pattern_of" 2 f_pattern_of) (k_parts_of : Kn P w c base 2 "parts_of" 2 f_parts_of) (k_knots_of : Kn P w c base 2 "knots_of" 1 f_knots_of) : FnG P w c base 7 f fd ["row", "knot"] f_pattern := by
  refine fun_okG F sc_pattern fun cdv A outer s H E hr hgu => ?_
  have nd := sc_pattern.nd
  have cx := cxg_of (P := P) (w := w) (c := c) (base := base) (N := N_pattern) (qual := "pattern") (scope := defScope (top 57)) (f := f) (cdv := cdv) (A := A) (outer := outer) (s := s) (H := H) (E := E) hgu
  exact (s_scons (s_ex (v_kn cx hr k_check_knot (by decide) rfl (s_cons (v_v 0 rfl rfl) (s_cons (v_v 1 rfl rfl) s_nil))))
  (s_scons (s_ret (v_kn cx hr k_pattern_of (by decide) rfl (s_cons (v_v 0 rfl rfl) (s_cons (v_kn cx hr k_parts_of (by decide) rfl (s_cons (v_kn cx hr k_knots_of (by decide) rfl (s_cons (v_v 0 rfl rfl) s_nil)) (s_cons (v_v 1 rfl rfl) s_nil))) s_nil))))
  s_snil))
theorem sc_tree_at : FnScope N_tree_at ["row", "some", "knot"] (defScope (top 59)) := ⟨rfl, rfl, rfl, by decide +kernel, rfl, by decide +kernel, by decide +kernel⟩
theorem ok_tree_at (F : FunD c.K "tree_at" "tree_at" (defArgs (top 59)) (defBody (top 59)) (defScope (top 59)) [] [] f fd) (b : Blt c) (k_kind_of : Kn P w c base 3 "kind_of" 3 f_kind_of) (k_parts_of : Kn P w c base 2 "parts_of" 2 f_parts_of) (hmS : c.mg "tree_at" = some (.ref f)) (hbS : Binds c.K fd ["row", "some", "knot"] []) : ∀ n, FnG P w c base (4 + n) f fd ["row", "some", "knot"] (fR_tree_at n)
  | 0 => FnG.bad
  | m + 1 => by
    have k_self : Kn P w c base (4 + m) "tree_at" 3 (fR_tree_at m) := ⟨_, fd, ["row", "some", "knot"], ok_tree_at F b k_kind_of k_parts_of hmS hbS m, hmS, F.kp, hbS, rfl⟩
    have FG : FnG P w c base ((4 + m) + 1) f fd ["row", "some", "knot"] (b_tree_at (fR_tree_at m)) := by
      refine fun_okG F sc_tree_at fun cdv A outer s H E hr hgu => ?_
      have nd := sc_tree_at.nd
      have cx := cxg_of (P := P) (w := w) (c := c) (base := base) (N := N_tree_at) (qual := "tree_at") (scope := defScope (top 59)) (f := f) (cdv := cdv) (A := A) (outer := outer) (s := s) (H := H) (E := E) hgu
      revert k_self
      generalize fR_tree_at m = self
      intro k_self
      exact (s_scons (s_sif (v_tcmp (m_eq cx hr) (v_ix cx (v_v 2 rfl rfl) s_int) (v_ix cx (v_v 2 rfl rfl) s_int)) (s_scons (s_ret (v_ix cx (v_v 0 rfl rfl) (v_sub (v_ix cx (v_v 2 rfl rfl) s_int) s_int)))
  s_snil) s_snil)
  (s_scons (s_ret (s_tup (s_cons (v_kn cx hr k_kind_of (by omega) rfl (s_cons (v_v 0 rfl rfl) (s_cons (v_v 1 rfl rfl) (s_cons (v_v 2 rfl rfl) s_nil)))) (s_cons (v_bty (f_tuple cx) rfl b.tuple_ bo_tuple (s_cons (s_lc rfl nd (s_iseq rfl (v_kn cx hr k_parts_of (by omega) rfl (s_cons (v_v 1 rfl rfl) (s_cons (v_v 2 rfl rfl) s_nil)))) (own := [("one", 3)]) (blkOk_by (by kernel_rfl)) g_nm (fun s1 H1 C1 l1 f1 => (w_gnm (by decide) (pg_name (i := 3) nd rfl (loc_by rfl)))) (fun s1 H1 C1 l1 f1 => s_tnil) (fun s1 H1 C1 l1 f1 => (v_kn (Cxg.blk cx) hr k_self (by omega) rfl (s_cons (v_v 0 rfl rfl) (s_cons (v_v 1 rfl rfl) (s_cons (v_v 3 rfl rfl) s_nil)))))) s_nil)) s_nil))))
  s_snil))
    exact FG
theorem sc_tree_of : FnScope N_tree_of ["row"] (defScope (top 60)) := ⟨rfl, rfl, rfl, by decide +kernel, rfl, by decide +kernel, by decide +kernel⟩
theorem ok_tree_of (F : FunD c.K "tree_of" "tree_of" (defArgs (top 60)) (defBody (top 60)) (defScope (top 60)) [] [] f fd) (b : Blt c) (k_tree_at : Kn P w c base 12 "tree_at" 3 f_tree_at) (k_knots_of : Kn P w c base 2 "knots_of" 1 f_knots_of) : FnG P w c base 13 f fd ["row"] f_tree_of := by
  refine fun_okG F sc_tree_of fun cdv A outer s H E hr hgu => ?_
  have nd := sc_tree_of.nd
  have cx := cxg_of (P := P) (w := w) (c := c) (base := base) (N := N_tree_of) (qual := "tree_of") (scope := defScope (top 60)) (f := f) (cdv := cdv) (A := A) (outer := outer) (s := s) (H := H) (E := E) hgu
  exact (s_scons (s_ret (v_kn cx hr k_tree_at (by decide) rfl (s_cons (v_v 0 rfl rfl) (s_cons (v_kn cx hr k_knots_of (by decide) rfl (s_cons (v_v 0 rfl rfl) s_nil)) (s_cons (s_tup (s_cons s_int (s_cons (v_blt (f_len cx) rfl b.len_ bo_len (s_cons (v_v 0 rfl rfl) s_nil)) s_nil))) s_nil)))))
  s_snil)
theorem sc_tree : FnScope N_tree ["row"] (defScope (top 61)) := ⟨rfl, rfl, rfl, by decide +kernel, rfl, by decide +kernel, by decide +kernel⟩
theorem ok_tree (F : FunD c.K "tree" "tree" (defArgs (top 61)) (defBody (top 61)) (defScope (top 61)) [] [] f fd) (b : Blt c) (k_check_plain : Kn P w c base 5 "check_plain" 1 f_check_plain) (k_tree_of : Kn P w c base 13 "tree_of" 1 f_tree_of) : FnG P w c base 14 f fd ["row"] f_tree := by
  refine fun_okG F sc_tree fun cdv A outer s H E hr hgu => ?_
  have nd := sc_tree.nd
  have cx := cxg_of (P := P) (w := w) (c := c) (base := base) (N := N_tree) (qual := "tree") (scope := defScope (top 61)) (f := f) (cdv := cdv) (A := A) (outer := outer) (s := s) (H := H) (E := E) hgu
  exact (s_scons (s_ex (v_kn cx hr k_check_plain (by decide) rfl (s_cons (v_v 0 rfl rfl) s_nil)))
  (s_scons (s_ret (v_kn cx hr k_tree_of (by decide) rfl (s_cons (v_v 0 rfl rfl) s_nil)))
  s_snil))
theorem sc_wagons_of : FnScope N_wagons_of ["value"] (defScope (top 62)) := ⟨rfl, rfl, rfl, by decide +kernel, rfl, by decide +kernel, by decide +kernel⟩
theorem ok_wagons_of (F : FunD c.K "wagons_of" "wagons_of" (defArgs (top 62)) (defBody (top 62)) (defScope (top 62)) [] [] f fd) (b : Blt c) (k_is_integer : Kn P w c base 1 "is_integer" 1 f_is_integer) (hmS : c.mg "wagons_of" = some (.ref f)) (hbS : Binds c.K fd ["value"] []) : ∀ n, FnG P w c base (2 + n) f fd ["value"] (fR_wagons_of n)
  | 0 => FnG.bad
  | m + 1 => by
    have k_self : Kn P w c base (2 + m) "wagons_of" 1 (fR_wagons_of m) := ⟨_, fd, ["value"], ok_wagons_of F b k_is_integer hmS hbS m, hmS, F.kp, hbS, rfl⟩
    have FG : FnG P w c base ((2 + m) + 1) f fd ["value"] (b_wagons_of (fR_wagons_of m)) := by
      refine fun_okG F sc_wagons_of fun cdv A outer s H E hr hgu => ?_
      have nd := sc_wagons_of.nd
      have cx := cxg_of (P := P) (w := w) (c := c) (base := base) (N := N_wagons_of) (qual := "wagons_of") (scope := defScope (top 62)) (f := f) (cdv := cdv) (A := A) (outer := outer) (s := s) (H := H) (E := E) hgu
      revert k_self
      generalize fR_wagons_of m = self
      intro k_self
      exact (s_scons (s_sif (s_tval (v_kn cx hr k_is_integer (by omega) rfl (s_cons (v_v 0 rfl rfl) s_nil))) (s_scons (s_ret (s_lst (s_cons (v_v 0 rfl rfl) s_nil)))
  s_snil) s_snil)
  (s_scons (s_sif (PW.pt (s_tor (s_tnot (s_tval (s_isa cx rfl b.isinstance_ bo_isinstance rfl b.tuple_ bo_tuple (by decide) (v_v 0 rfl rfl)))) (s_tor (v_tcmp (m_ne cx hr) (v_blt (f_len cx) rfl b.len_ bo_len (s_cons (v_v 0 rfl rfl) s_nil)) s_int) (s_tor1 (s_tnot (s_tval (s_isa cx rfl b.isinstance_ bo_isinstance rfl b.str_ bo_str (by decide) (v_ix cx (v_v 0 rfl rfl) s_int)))))))) (s_scons (s_ret s_none)
  s_snil) s_snil)
  (s_scons (s_sif (s_tnot (s_tval (s_isa cx rfl b.isinstance_ bo_isinstance rfl b.tuple_ bo_tuple (by decide) (v_ix cx (v_v 0 rfl rfl) s_int)))) (s_scons (s_ret s_none)
  s_snil) s_snil)
  (s_scons (s_set (i := 1) nd rfl (loc_by rfl) (s_lstM s_nil))
  (s_scons (s_for (passes_of rfl) rfl (s_iseq rfl (v_ix cx (v_v 0 rfl rfl) s_int)) (s_gnm (pg_name (i := 2) nd rfl (loc_by rfl))) g_nm (s_scons (s_set (i := 3) nd rfl (loc_by rfl) (v_kn cx hr k_self (by omega) rfl (s_cons (v_v 2 rfl rfl) s_nil)))
  (s_scons (s_sif (v_tcmp m_is (v_v 3 rfl rfl) s_none) (s_scons (s_ret s_none)
  s_snil) s_snil)
  (s_scons (s_ex (v_mt cx d_extend (v_v 1 rfl rfl) (s_cons (v_v 3 rfl rfl) s_nil)))
  s_snil))))
  (s_scons (s_ret (v_v 1 rfl rfl))
  s_snil))))))
    exact FG
theorem sc_is_tree : FnScope N_is_tree ["value"] (defScope (top 63)) := ⟨rfl, rfl, rfl, by decide +kernel, rfl, by decide +kernel, by decide +kernel⟩
theorem ok_is_tree (F : FunD c.K "is_tree" "is_tree" (defArgs (top 63)) (defBody (top 63)) (defScope (top 63)) [] [] f fd) (b : Blt c) (k_wagons_of : Kn P w c base 8 "wagons_of" 1 f_wagons_of) (k_is_plain : Kn P w c base 4 "is_plain" 1 f_is_plain) (k_tree_of : Kn P w c base 13 "tree_of" 1 f_tree_of) : FnG P w c base 14 f fd ["value"] f_is_tree := by
  refine fun_okG F sc_is_tree fun cdv A outer s H E hr hgu => ?_
  have nd := sc_is_tree.nd
  have cx := cxg_of (P := P) (w := w) (c := c) (base := base) (N := N_is_tree) (qual := "is_tree") (scope := defScope (top 63)) (f := f) (cdv := cdv) (A := A) (outer := outer) (s := s) (H := H) (E := E) hgu
  exact (s_scons (s_set (i := 1) nd rfl (loc_by rfl) (v_kn cx hr k_wagons_of (by decide) rfl (s_cons (v_v 0 rfl rfl) s_nil)))
  (s_scons (s_ret (s_and (v_cmp m_isn (v_v 1 rfl rfl) s_none) (s_and (v_kn cx hr k_is_plain (by decide) rfl (s_cons (v_bty (f_tuple cx) rfl b.tuple_ bo_tuple (s_cons (v_v 1 rfl rfl) s_nil)) s_nil)) (s_one (v_cmp (m_eq cx hr) (v_blt (f_repr cx hr) rfl b.repr_ bo_repr (s_cons (v_kn cx hr k_tree_of (by decide) rfl (s_cons (v_bty (f_tuple cx) rfl b.tuple_ bo_tuple (s_cons (v_v 1 rfl rfl) s_nil)) s_nil)) s_nil)) (v_blt (f_repr cx hr) rfl b.repr_ bo_repr (s_cons (v_v 0 rfl rfl) s_nil)))))))
  s_snil))
theorem sc_row_by : FnScope N_row_by ["told"] (defScope (top 64)) := ⟨rfl, rfl, rfl, by decide +kernel, rfl, by decide +kernel, by decide +kernel⟩
theorem ok_row_by (F : FunD c.K "row_by" "row_by" (defArgs (top 64)) (defBody (top 64)) (defScope (top 64)) [] [] f fd) (b : Blt c) (k_is_tree : Kn P w c base 14 "is_tree" 1 f_is_tree) (k_wagons_of : Kn P w c base 8 "wagons_of" 1 f_wagons_of) (ke_BadTree : KnE P w c base 1 "BadTree") : FnG P w c base 15 f fd ["told"] f_row_by := by
  refine fun_okG F sc_row_by fun cdv A outer s H E hr hgu => ?_
  have nd := sc_row_by.nd
  have cx := cxg_of (P := P) (w := w) (c := c) (base := base) (N := N_row_by) (qual := "row_by") (scope := defScope (top 64)) (f := f) (cdv := cdv) (A := A) (outer := outer) (s := s) (H := H) (E := E) hgu
  exact (s_scons (s_sif (s_tnot (s_tval (v_kn cx hr k_is_tree (by decide) rfl (s_cons (v_v 0 rfl rfl) s_nil)))) (s_scons (s_raise cx hr ke_BadTree (by decide) rfl rfl (v_v 0 rfl rfl))
  s_snil) s_snil)
  (s_scons (s_ret (v_bty (f_tuple cx) rfl b.tuple_ bo_tuple (s_cons (v_kn cx hr k_wagons_of (by decide) rfl (s_cons (v_v 0 rfl rfl) s_nil)) s_nil)))
  s_snil))
theorem sc_simple_count : FnScope N_simple_count ["many"] (defScope (top 42)) := ⟨rfl, rfl, rfl, by decide +kernel, rfl, by decide +kernel, by decide +kernel⟩
theorem ok_simple_count (F : FunD c.K "simple_count" "simple_count" (defArgs (top 42)) (defBody (top 42)) (defScope (top 42)) [] [] f fd) (b : Blt c) : FnG P w c base 1 f fd ["many"] f_simple_count := by
  refine fun_okG F sc_simple_count fun cdv A outer s H E hr hgu => ?_
  have nd := sc_simple_count.nd
  have cx := cxg_of (P := P) (w := w) (c := c) (base := base) (N := N_simple_count) (qual := "simple_count") (scope := defScope (top 42)) (f := f) (cdv := cdv) (A := A) (outer := outer) (s := s) (H := H) (E := E) hgu
  exact (s_scons (s_ret (v_ix cx (s_gtup cx b.FEW_ rfl) (v_sub (v_v 0 rfl rfl) s_int)))
  s_snil)
theorem sc_ways_of : FnScope N_ways_of ["some", "row", "knot", "above"] (defScope (top 65)) := ⟨rfl, rfl, rfl, by decide +kernel, rfl, by decide +kernel, by decide +kernel⟩
theorem ok_ways_of (F : FunD c.K "ways_of" "ways_of" (defArgs (top 65)) (defBody (top 65)) (defScope (top 65)) [] [] f fd) (b : Blt c) (k_kind_of : Kn P w c base 3 "kind_of" 3 f_kind_of) (k_parts_of : Kn P w c base 2 "parts_of" 2 f_parts_of) (k_simple_count : Kn P w c base 1 "simple_count" 1 f_simple_count) (hmS : c.mg "ways_of" = some (.ref f)) (hbS : Binds c.K fd ["some", "row", "knot", "above"] []) : ∀ n, FnG P w c base (4 + n) f fd ["some", "row", "knot", "above"] (fR_ways_of n)
  | 0 => FnG.bad
  | m + 1 => by
    have k_self : Kn P w c base (4 + m) "ways_of" 4 (fR_ways_of m) := ⟨_, fd, ["some", "row", "knot", "above"], ok_ways_of F b k_kind_of k_parts_of k_simple_count hmS hbS m, hmS, F.kp, hbS, rfl⟩
    have FG : FnG P w c base ((4 + m) + 1) f fd ["some", "row", "knot", "above"] (b_ways_of (fR_ways_of m)) := by
      refine fun_okG F sc_ways_of fun cdv A outer s H E hr hgu => ?_
      have nd := sc_ways_of.nd
      have cx := cxg_of (P := P) (w := w) (c := c) (base := base) (N := N_ways_of) (qual := "ways_of") (scope := defScope (top 65)) (f := f) (cdv := cdv) (A := A) (outer := outer) (s := s) (H := H) (E := E) hgu
      revert k_self
      generalize fR_ways_of m = self
      intro k_self
      exact (s_scons (s_set (i := 4) nd rfl (loc_by rfl) (v_kn cx hr k_kind_of (by omega) rfl (s_cons (v_v 1 rfl rfl) (s_cons (v_v 0 rfl rfl) (s_cons (v_v 2 rfl rfl) s_nil)))))
  (s_scons (s_sif (v_tcmp (m_eq cx hr) (v_v 4 rfl rfl) (s_gstr rfl b.ONE_)) (s_scons (s_ret s_int)
  s_snil) s_snil)
  (s_scons (s_set (i := 5) nd rfl (loc_by rfl) (v_kn cx hr k_parts_of (by omega) rfl (s_cons (v_v 0 rfl rfl) (s_cons (v_v 2 rfl rfl) s_nil))))
  (s_scons (s_set (i := 6) nd rfl (loc_by rfl) (s_if (v_tcmp (m_in cx hr) (v_v 3 rfl rfl) (s_tup (s_cons (s_gstr rfl b.UP_) (s_cons (s_gstr rfl b.DOWN_) s_nil)))) s_int s_int))
  (s_scons (s_sif (v_tcmp (m_eq cx hr) (v_v 4 rfl rfl) (s_gstr rfl b.PRIME_)) (s_scons (s_set (i := 6) nd rfl (loc_by rfl) (v_kn cx hr k_simple_count (by omega) rfl (s_cons (v_blt (f_len cx) rfl b.len_ bo_len (s_cons (v_v 5 rfl rfl) s_nil)) s_nil)))
  s_snil) s_snil)
  (s_scons (s_for (passes_of rfl) rfl (s_iseq rfl (v_v 5 rfl rfl)) (s_gnm (pg_name (i := 7) nd rfl (loc_by rfl))) g_nm (s_scons (s_set (i := 6) nd rfl (loc_by rfl) (v_mul (v_v 6 rfl rfl) (v_kn cx hr k_self (by omega) rfl (s_cons (v_v 0 rfl rfl) (s_cons (v_v 1 rfl rfl) (s_cons (v_v 7 rfl rfl) (s_cons (v_v 4 rfl rfl) s_nil)))))))
  s_snil))
  (s_scons (s_ret (v_v 6 rfl rfl))
  s_snil)))))))
    exact FG
theorem sc_like_rows : FnScope N_like_rows ["row"] (defScope (top 66)) := ⟨rfl, rfl, rfl, by decide +kernel, rfl, by decide +kernel, by decide +kernel⟩
theorem ok_like_rows (F : FunD c.K "like_rows" "like_rows" (defArgs (top 66)) (defBody (top 66)) (defScope (top 66)) [] [] f fd) (b : Blt c) (k_check_plain : Kn P w c base 5 "check_plain" 1 f_check_plain) (k_ways_of : Kn P w c base 12 "ways_of" 4 f_ways_of) (k_knots_of : Kn P w c base 2 "knots_of" 1 f_knots_of) : FnG P w c base 13 f fd ["row"] f_like_rows := by
  refine fun_okG F sc_like_rows fun cdv A outer s H E hr hgu => ?_
  have nd := sc_like_rows.nd
  have cx := cxg_of (P := P) (w := w) (c := c) (base := base) (N := N_like_rows) (qual := "like_rows") (scope := defScope (top 66)) (f := f) (cdv := cdv) (A := A) (outer := outer) (s := s) (H := H) (E := E) hgu
  exact (s_scons (s_ex (v_kn cx hr k_check_plain (by decide) rfl (s_cons (v_v 0 rfl rfl) s_nil)))
  (s_scons (s_ret (v_kn cx hr k_ways_of (by decide) rfl (s_cons (v_kn cx hr k_knots_of (by decide) rfl (s_cons (v_v 0 rfl rfl) s_nil)) (s_cons (v_v 0 rfl rfl) (s_cons (s_tup (s_cons s_int (s_cons (v_blt (f_len cx) rfl b.len_ bo_len (s_cons (v_v 0 rfl rfl) s_nil)) s_nil))) (s_cons (s_gstr rfl b.PRIME_) s_nil))))))
  s_snil))
theorem sc_is_simple_row : FnScope N_is_simple_row ["row"] (defScope (top 40)) := ⟨rfl, rfl, rfl, by decide +kernel, rfl, by decide +kernel, by decide +kernel⟩
theorem ok_is_simple_row (F : FunD c.K "is_simple_row" "is_simple_row" (defArgs (top 40)) (defBody (top 40)) (defScope (top 40)) [] [] f fd) (b : Blt c) (k_stretches_of : Kn P w c base 1 "stretches_of" 1 f_stretches_of) : FnG P w c base 2 f fd ["row"] f_is_simple_row := by
  refine fun_okG F sc_is_simple_row fun cdv A outer s H E hr hgu => ?_
  have nd := sc_is_simple_row.nd
  have cx := cxg_of (P := P) (w := w) (c := c) (base := base) (N := N_is_simple_row) (qual := "is_simple_row") (scope := defScope (top 40)) (f := f) (cdv := cdv) (A := A) (outer := outer) (s := s) (H := H) (E := E) hgu
  exact (s_scons (s_ret (v_blt (f_all cx rfl) rfl b.all_ bo_all (s_cons (s_lc rfl nd (s_iseq rfl (v_kn cx hr k_stretches_of (by decide) rfl (s_cons (v_v 0 rfl rfl) s_nil))) (own := [("first", 1), ("last", 2)]) (blkOk_by (by kernel_rfl)) (g_tp (g_scons g_nm (g_scons g_nm g_snil))) (fun s1 H1 C1 l1 f1 => (w_gtp rfl rfl (w_gscons (w_gnm (by decide) (pg_name (i := 1) nd rfl (loc_by rfl))) (w_gscons (w_gnm (by decide) (pg_name (i := 2) nd rfl (loc_by rfl))) w_gsnil)))) (fun s1 H1 C1 l1 f1 => s_tnil) (fun s1 H1 C1 l1 f1 => (s_or (v_cmp (m_eq (Cxg.blk cx) hr) (v_v 1 rfl rfl) (v_v 2 rfl rfl)) (s_one (v_cmp (m_eq (Cxg.blk cx) hr) (v_sub (v_v 2 rfl rfl) (v_v 1 rfl rfl)) (v_sub (v_blt (f_len (Cxg.blk cx)) rfl b.len_ bo_len (s_cons (v_v 0 rfl rfl) s_nil)) s_int)))))) s_nil)))
  s_snil)
theorem sc_is_simple : FnScope N_is_simple ["row"] (defScope (top 41)) := ⟨rfl, rfl, rfl, by decide +kernel, rfl, by decide +kernel, by decide +kernel⟩
theorem ok_is_simple (F : FunD c.K "is_simple" "is_simple" (defArgs (top 41)) (defBody (top 41)) (defScope (top 41)) [] [] f fd) (b : Blt c) (k_check_plain : Kn P w c base 5 "check_plain" 1 f_check_plain) (k_is_simple_row : Kn P w c base 2 "is_simple_row" 1 f_is_simple_row) : FnG P w c base 6 f fd ["row"] f_is_simple := by
  refine fun_okG F sc_is_simple fun cdv A outer s H E hr hgu => ?_
  have nd := sc_is_simple.nd
  have cx := cxg_of (P := P) (w := w) (c := c) (base := base) (N := N_is_simple) (qual := "is_simple") (scope := defScope (top 41)) (f := f) (cdv := cdv) (A := A) (outer := outer) (s := s) (H := H) (E := E) hgu
  exact (s_scons (s_ex (v_kn cx hr k_check_plain (by decide) rfl (s_cons (v_v 0 rfl rfl) s_nil)))
  (s_scons (s_ret (v_kn cx hr k_is_simple_row (by decide) rfl (s_cons (v_v 0 rfl rfl) s_nil)))
  s_snil))
theorem sc_put_in : FnScope N_put_in ["row", "place", "other"] (defScope (top 44)) := ⟨rfl, rfl, rfl, by decide +kernel, rfl, by decide +kernel, by decide +kernel⟩
theorem ok_put_in (F : FunD c.K "put_in" "put_in" (defArgs (top 44)) (defBody (top 44)) (defScope (top 44)) [] [] f fd) (b : Blt c) (k_check_plain : Kn P w c base 5 "check_plain" 1 f_check_plain) (k_is_between : Kn P w c base 2 "is_between" 3 f_is_between) (ke_BadPlace : KnE P w c base 1 "BadPlace") (ke_TooMany : KnE P w c base 1 "TooMany") : FnG P w c base 6 f fd ["row", "place", "other"] f_put_in := by
  refine fun_okG F sc_put_in fun cdv A outer s H E hr hgu => ?_
  have nd := sc_put_in.nd
  have cx := cxg_of (P := P) (w := w) (c := c) (base := base) (N := N_put_in) (qual := "put_in") (scope := defScope (top 44)) (f := f) (cdv := cdv) (A := A) (outer := outer) (s := s) (H := H) (E := E) hgu
  exact (s_scons (s_ex (v_kn cx hr k_check_plain (by decide) rfl (s_cons (v_v 0 rfl rfl) s_nil)))
  (s_scons (s_ex (v_kn cx hr k_check_plain (by decide) rfl (s_cons (v_v 2 rfl rfl) s_nil)))
  (s_scons (s_sif (s_tnot (s_tval (v_kn cx hr k_is_between (by decide) rfl (s_cons (v_v 1 rfl rfl) (s_cons s_int (s_cons (v_blt (f_len cx) rfl b.len_ bo_len (s_cons (v_v 0 rfl rfl) s_nil)) s_nil)))))) (s_scons (s_raise cx hr ke_BadPlace (by decide) rfl rfl (v_v 1 rfl rfl))
  s_snil) s_snil)
  (s_scons (s_sif (v_tcmp m_gt (v_sub (v_add cx (v_blt (f_len cx) rfl b.len_ bo_len (s_cons (v_v 0 rfl rfl) s_nil)) (v_blt (f_len cx) rfl b.len_ bo_len (s_cons (v_v 2 rfl rfl) s_nil))) s_int) (s_gint rfl b.MOST_WAGONS_)) (s_scons (s_raise cx hr ke_TooMany (by decide) rfl rfl (s_gint rfl b.MOST_WAGONS_))
  s_snil) s_snil)
  (s_scons (s_set (i := 3) nd rfl (loc_by rfl) (v_ix cx (v_v 0 rfl rfl) (v_sub (v_v 1 rfl rfl) s_int)))
  (s_scons (by first | exact s_setLc (i := 4) rfl nd rfl rfl rfl (s_iseq rfl (v_v 0 rfl rfl)) (own := [("one", 5)]) (blkOk_by (by kernel_rfl)) (fun s1 H1 C1 l1 f1 => (w_gnm (by decide) (pg_name (i := 5) nd rfl (loc_by rfl)))) (fun s1 H1 C1 l1 f1 => s_tnil) (fun s1 H1 C1 l1 f1 => (s_if (v_tcmp m_lt (v_v 5 rfl rfl) (v_v 3 rfl rfl)) (v_v 5 rfl rfl) (v_sub (v_add (Cxg.blk cx) (v_v 5 rfl rfl) (v_blt (f_len (Cxg.blk cx)) rfl b.len_ bo_len (s_cons (v_v 2 rfl rfl) s_nil))) s_int))) (fun _ _ _ => tlc_fr g_nm) | exact s_set (i := 4) nd rfl (loc_by rfl) (s_lc rfl nd (s_iseq rfl (v_v 0 rfl rfl)) (own := [("one", 5)]) (blkOk_by (by kernel_rfl)) g_nm (fun s1 H1 C1 l1 f1 => (w_gnm (by decide) (pg_name (i := 5) nd rfl (loc_by rfl)))) (fun s1 H1 C1 l1 f1 => s_tnil) (fun s1 H1 C1 l1 f1 => (s_if (v_tcmp m_lt (v_v 5 rfl rfl) (v_v 3 rfl rfl)) (v_v 5 rfl rfl) (v_sub (v_add (Cxg.blk cx) (v_v 5 rfl rfl) (v_blt (f_len (Cxg.blk cx)) rfl b.len_ bo_len (s_cons (v_v 2 rfl rfl) s_nil))) s_int)))))
  (s_scons (s_ret (v_bty (f_tuple cx) rfl b.tuple_ bo_tuple (s_cons (s_lst (s_star rfl rfl (v_sl cx (v_v 4 rfl rfl) s_pno (s_psm (v_sub (v_v 1 rfl rfl) s_int))) (s_star rfl rfl (s_lc rfl nd (s_iseq rfl (v_v 2 rfl rfl)) (own := [("one", 5)]) (blkOk_by (by kernel_rfl)) g_nm (fun s1 H1 C1 l1 f1 => (w_gnm (by decide) (pg_name (i := 5) nd rfl (loc_by rfl)))) (fun s1 H1 C1 l1 f1 => s_tnil) (fun s1 H1 C1 l1 f1 => (v_sub (v_add (Cxg.blk cx) (v_v 3 rfl rfl) (v_v 5 rfl rfl)) s_int))) (s_star rfl rfl (v_sl cx (v_v 4 rfl rfl) (s_psm (v_v 1 rfl rfl)) s_pno) s_nil)))) s_nil)))
  s_snil)))))))
theorem sc_check_counted : FnScope N_check_counted ["many"] (defScope (top 22)) := ⟨rfl, rfl, rfl, by decide +kernel, rfl, by decide +kernel, by decide +kernel⟩
theorem ok_check_counted (F : FunD c.K "check_counted" "check_counted" (defArgs (top 22)) (defBody (top 22)) (defScope (top 22)) [] [] f fd) (b : Blt c) (k_is_between : Kn P w c base 2 "is_between" 3 f_is_between) (ke_BadMany : KnE P w c base 1 "BadMany") : FnG P w c base 3 f fd ["many"] f_check_counted := by
  refine fun_okG F sc_check_counted fun cdv A outer s H E hr hgu => ?_
  have nd := sc_check_counted.nd
  have cx := cxg_of (P := P) (w := w) (c := c) (base := base) (N := N_check_counted) (qual := "check_counted") (scope := defScope (top 22)) (f := f) (cdv := cdv) (A := A) (outer := outer) (s := s) (H := H) (E := E) hgu
  exact (s_scons (s_sif (s_tnot (s_tval (v_kn cx hr k_is_between (by decide) rfl (s_cons (v_v 0 rfl rfl) (s_cons s_int (s_cons (s_gint rfl b.MOST_COUNTED_) s_nil)))))) (s_scons (s_raise cx hr ke_BadMany (by decide) rfl rfl (v_v 0 rfl rfl))
  s_snil) s_snil)
  s_snil)
theorem sc_all_plains : FnScope N_all_plains ["many"] (defScope (top 21)) := ⟨rfl, rfl, rfl, by decide +kernel, rfl, by decide +kernel, by decide +kernel⟩
theorem ok_all_plains (F : FunD c.K "all_plains" "all_plains" (defArgs (top 21)) (defBody (top 21)) (defScope (top 21)) [] [] f fd) (b : Blt c) : FnG P w c base 1 f fd ["many"] f_all_plains := by
  refine fun_okG F sc_all_plains fun cdv A outer s H E hr hgu => ?_
  have nd := sc_all_plains.nd
  have cx := cxg_of (P := P) (w := w) (c := c) (base := base) (N := N_all_plains) (qual := "all_plains") (scope := defScope (top 21)) (f := f) (cdv := cdv) (A := A) (outer := outer) (s := s) (H := H) (E := E) hgu
  exact (s_scons (s_set (i := 1) nd rfl (loc_by rfl) (s_lstM (s_cons (s_tup s_nil) s_nil)))
  (s_scons (s_for (passes_of rfl) rfl (s_ir1 rfl b.range_ (v_v 0 rfl rfl)) (s_gnm (pg_name (i := 2) nd rfl (loc_by rfl))) g_nm (s_scons (s_set (i := 3) nd rfl (loc_by rfl) (s_lstM s_nil))
  (s_scons (s_forV rfl (passes_of rfl) rfl (v_v 1 rfl rfl) (s_gnm (pg_name (i := 4) nd rfl (loc_by rfl))) g_nm (s_scons (s_ex (v_mt cx d_extend (v_v 3 rfl rfl) (s_cons (s_lc rfl nd (s_ir2 rfl b.range_ s_int (v_add cx (v_v 0 rfl rfl) s_int)) (own := [("wagon", 5)]) (blkOk_by (by kernel_rfl)) g_nm (fun s1 H1 C1 l1 f1 => (w_gnm (by decide) (pg_name (i := 5) nd rfl (loc_by rfl)))) (fun s1 H1 C1 l1 f1 => (s_tone (v_tcmp (m_ni (Cxg.blk cx) hr) (v_v 5 rfl rfl) (v_v 4 rfl rfl)))) (fun s1 H1 C1 l1 f1 => (s_tup (s_star rfl rfl (v_v 4 rfl rfl) (s_cons (v_v 5 rfl rfl) s_nil))))) s_nil)))
  s_snil))
  (s_scons (s_set (i := 1) nd rfl (loc_by rfl) (v_v 3 rfl rfl))
  s_snil))))
  (s_scons (s_ret (v_v 1 rfl rfl))
  s_snil)))
theorem sc_counts_simple : FnScope N_counts_simple ["many"] (defScope (top 43)) := ⟨rfl, rfl, rfl, by decide +kernel, rfl, by decide +kernel, by decide +kernel⟩
theorem ok_counts_simple (F : FunD c.K "counts_simple" "counts_simple" (defArgs (top 43)) (defBody (top 43)) (defScope (top 43)) [] [] f fd) (b : Blt c) (k_check_counted : Kn P w c base 3 "check_counted" 1 f_check_counted) (k_all_plains : Kn P w c base 1 "all_plains" 1 f_all_plains) (k_is_simple_row : Kn P w c base 2 "is_simple_row" 1 f_is_simple_row) : FnG P w c base 4 f fd ["many"] f_counts_simple := by
  refine fun_okG F sc_counts_simple fun cdv A outer s H E hr hgu => ?_
  have nd := sc_counts_simple.nd
  have cx := cxg_of (P := P) (w := w) (c := c) (base := base) (N := N_counts_simple) (qual := "counts_simple") (scope := defScope (top 43)) (f := f) (cdv := cdv) (A := A) (outer := outer) (s := s) (H := H) (E := E) hgu
  exact (s_scons (s_ex (v_kn cx hr k_check_counted (by decide) rfl (s_cons (v_v 0 rfl rfl) s_nil)))
  (s_scons (s_set (i := 1) nd rfl (loc_by rfl) (s_lstM s_nil))
  (s_scons (s_for (passes_of rfl) rfl (s_ir2 rfl b.range_ s_int (v_add cx (v_v 0 rfl rfl) s_int)) (s_gnm (pg_name (i := 2) nd rfl (loc_by rfl))) g_nm (s_scons (s_ex (v_mt cx d_append (v_v 1 rfl rfl) (s_cons (v_blt (f_len cx) rfl b.len_ bo_len (s_cons (s_lc rfl nd (s_iseq rfl (v_kn cx hr k_all_plains (by decide) rfl (s_cons (v_v 2 rfl rfl) s_nil))) (own := [("row", 3)]) (blkOk_by (by kernel_rfl)) g_nm (fun s1 H1 C1 l1 f1 => (w_gnm (by decide) (pg_name (i := 3) nd rfl (loc_by rfl)))) (fun s1 H1 C1 l1 f1 => (s_tone (s_tval (v_kn (Cxg.blk cx) hr k_is_simple_row (by decide) rfl (s_cons (v_v 3 rfl rfl) s_nil))))) (fun s1 H1 C1 l1 f1 => (v_v 3 rfl rfl))) s_nil)) s_nil)))
  s_snil))
  (s_scons (s_ret (v_bty (f_tuple cx) rfl b.tuple_ bo_tuple (s_cons (v_v 1 rfl rfl) s_nil)))
  s_snil))))
theorem lam_0 (b : Blt c) (k_stretches : Kn P w c base 6 "stretches" 1 f_stretches) (k_how_many : Kn P w c base 6 "how_many" 1 f_how_many) (k_seeds : Kn P w c base 6 "seeds" 1 f_seeds) (k_least_around : Kn P w c base 6 "least_around" 2 f_least_around) (k_shared : Kn P w c base 6 "shared" 1 f_shared) (k_shared_knots : Kn P w c base 6 "shared_knots" 1 f_shared_knots) (k_knots : Kn P w c base 6 "knots" 1 f_knots) (k_parts : Kn P w c base 7 "parts" 2 f_parts) (k_pattern : Kn P w c base 7 "pattern" 2 f_pattern) (k_tree : Kn P w c base 14 "tree" 1 f_tree) (k_row_by : Kn P w c base 15 "row_by" 1 f_row_by) (k_like_rows : Kn P w c base 13 "like_rows" 1 f_like_rows) (k_is_simple : Kn P w c base 6 "is_simple" 1 f_is_simple) (k_put_in : Kn P w c base 6 "put_in" 3 f_put_in) (k_counts_simple : Kn P w c base 4 "counts_simple" 1 f_counts_simple) {L : LI} (hL : lamI 0 = some L) : LamOk P w c base 15 L (lamT 0) := by
  obtain rfl : (lamI 0).getD default = L := by rw [hL]; rfl
  refine lamOk_by (by kernel_rfl) (fun _ _ _ _ _ => rfl) fun A outer s H E f cc cl hr hgu => ?_
  have cx := cxg_lam (c := c) (P := P) (w := w) (base := base) (L := (lamI 0).getD default) (A := A) (outer := outer) (s := s) (H := H) (E := E) (f := f) (cc := cc) (cl := cl) hgu
  exact (v_kn cx hr k_stretches (by decide) rfl (s_cons (v_v 0 rfl rfl) s_nil))
theorem lam_1 (b : Blt c) (k_stretches : Kn P w c base 6 "stretches" 1 f_stretches) (k_how_many : Kn P w c base 6 "how_many" 1 f_how_many) (k_seeds : Kn P w c base 6 "seeds" 1 f_seeds) (k_least_around : Kn P w c base 6 "least_around" 2 f_least_around) (k_shared : Kn P w c base 6 "shared" 1 f_shared) (k_shared_knots : Kn P w c base 6 "shared_knots" 1 f_shared_knots) (k_knots : Kn P w c base 6 "knots" 1 f_knots) (k_parts : Kn P w c base 7 "parts" 2 f_parts) (k_pattern : Kn P w c base 7 "pattern" 2 f_pattern) (k_tree : Kn P w c base 14 "tree" 1 f_tree) (k_row_by : Kn P w c base 15 "row_by" 1 f_row_by) (k_like_rows : Kn P w c base 13 "like_rows" 1 f_like_rows) (k_is_simple : Kn P w c base 6 "is_simple" 1 f_is_simple) (k_put_in : Kn P w c base 6 "put_in" 3 f_put_in) (k_counts_simple : Kn P w c base 4 "counts_simple" 1 f_counts_simple) {L : LI} (hL : lamI 1 = some L) : LamOk P w c base 15 L (lamT 1) := by
  obtain rfl : (lamI 1).getD default = L := by rw [hL]; rfl
  refine lamOk_by (by kernel_rfl) (fun _ _ _ _ _ => rfl) fun A outer s H E f cc cl hr hgu => ?_
  have cx := cxg_lam (c := c) (P := P) (w := w) (base := base) (L := (lamI 1).getD default) (A := A) (outer := outer) (s := s) (H := H) (E := E) (f := f) (cc := cc) (cl := cl) hgu
  exact (v_kn cx hr k_how_many (by decide) rfl (s_cons (v_v 0 rfl rfl) s_nil))
theorem lam_2 (b : Blt c) (k_stretches : Kn P w c base 6 "stretches" 1 f_stretches) (k_how_many : Kn P w c base 6 "how_many" 1 f_how_many) (k_seeds : Kn P w c base 6 "seeds" 1 f_seeds) (k_least_around : Kn P w c base 6 "least_around" 2 f_least_around) (k_shared : Kn P w c base 6 "shared" 1 f_shared) (k_shared_knots : Kn P w c base 6 "shared_knots" 1 f_shared_knots) (k_knots : Kn P w c base 6 "knots" 1 f_knots) (k_parts : Kn P w c base 7 "parts" 2 f_parts) (k_pattern : Kn P w c base 7 "pattern" 2 f_pattern) (k_tree : Kn P w c base 14 "tree" 1 f_tree) (k_row_by : Kn P w c base 15 "row_by" 1 f_row_by) (k_like_rows : Kn P w c base 13 "like_rows" 1 f_like_rows) (k_is_simple : Kn P w c base 6 "is_simple" 1 f_is_simple) (k_put_in : Kn P w c base 6 "put_in" 3 f_put_in) (k_counts_simple : Kn P w c base 4 "counts_simple" 1 f_counts_simple) {L : LI} (hL : lamI 2 = some L) : LamOk P w c base 15 L (lamT 2) := by
  obtain rfl : (lamI 2).getD default = L := by rw [hL]; rfl
  refine lamOk_by (by kernel_rfl) (fun _ _ _ _ _ => rfl) fun A outer s H E f cc cl hr hgu => ?_
  have cx := cxg_lam (c := c) (P := P) (w := w) (base := base) (L := (lamI 2).getD default) (A := A) (outer := outer) (s := s) (H := H) (E := E) (f := f) (cc := cc) (cl := cl) hgu
  exact (v_kn cx hr k_seeds (by decide) rfl (s_cons (v_v 0 rfl rfl) s_nil))
theorem lam_3 (b : Blt c) (k_stretches : Kn P w c base 6 "stretches" 1 f_stretches) (k_how_many : Kn P w c base 6 "how_many" 1 f_how_many) (k_seeds : Kn P w c base 6 "seeds" 1 f_seeds) (k_least_around : Kn P w c base 6 "least_around" 2 f_least_around) (k_shared : Kn P w c base 6 "shared" 1 f_shared) (k_shared_knots : Kn P w c base 6 "shared_knots" 1 f_shared_knots) (k_knots : Kn P w c base 6 "knots" 1 f_knots) (k_parts : Kn P w c base 7 "parts" 2 f_parts) (k_pattern : Kn P w c base 7 "pattern" 2 f_pattern) (k_tree : Kn P w c base 14 "tree" 1 f_tree) (k_row_by : Kn P w c base 15 "row_by" 1 f_row_by) (k_like_rows : Kn P w c base 13 "like_rows" 1 f_like_rows) (k_is_simple : Kn P w c base 6 "is_simple" 1 f_is_simple) (k_put_in : Kn P w c base 6 "put_in" 3 f_put_in) (k_counts_simple : Kn P w c base 4 "counts_simple" 1 f_counts_simple) {L : LI} (hL : lamI 3 = some L) : LamOk P w c base 15 L (lamT 3) := by
  obtain rfl : (lamI 3).getD default = L := by rw [hL]; rfl
  refine lamOk_by (by kernel_rfl) (fun _ _ _ _ _ => rfl) fun A outer s H E f cc cl hr hgu => ?_
  have cx := cxg_lam (c := c) (P := P) (w := w) (base := base) (L := (lamI 3).getD default) (A := A) (outer := outer) (s := s) (H := H) (E := E) (f := f) (cc := cc) (cl := cl) hgu
  exact (v_kn cx hr k_least_around (by decide) rfl (s_cons (v_v 0 rfl rfl) (s_cons (v_v 1 rfl rfl) s_nil)))
theorem lam_4 (b : Blt c) (k_stretches : Kn P w c base 6 "stretches" 1 f_stretches) (k_how_many : Kn P w c base 6 "how_many" 1 f_how_many) (k_seeds : Kn P w c base 6 "seeds" 1 f_seeds) (k_least_around : Kn P w c base 6 "least_around" 2 f_least_around) (k_shared : Kn P w c base 6 "shared" 1 f_shared) (k_shared_knots : Kn P w c base 6 "shared_knots" 1 f_shared_knots) (k_knots : Kn P w c base 6 "knots" 1 f_knots) (k_parts : Kn P w c base 7 "parts" 2 f_parts) (k_pattern : Kn P w c base 7 "pattern" 2 f_pattern) (k_tree : Kn P w c base 14 "tree" 1 f_tree) (k_row_by : Kn P w c base 15 "row_by" 1 f_row_by) (k_like_rows : Kn P w c base 13 "like_rows" 1 f_like_rows) (k_is_simple : Kn P w c base 6 "is_simple" 1 f_is_simple) (k_put_in : Kn P w c base 6 "put_in" 3 f_put_in) (k_counts_simple : Kn P w c base 4 "counts_simple" 1 f_counts_simple) {L : LI} (hL : lamI 4 = some L) : LamOk P w c base 15 L (lamT 4) := by
  obtain rfl : (lamI 4).getD default = L := by rw [hL]; rfl
  refine lamOk_by (by kernel_rfl) (fun _ _ _ _ _ => rfl) fun A outer s H E f cc cl hr hgu => ?_
  have cx := cxg_lam (c := c) (P := P) (w := w) (base := base) (L := (lamI 4).getD default) (A := A) (outer := outer) (s := s) (H := H) (E := E) (f := f) (cc := cc) (cl := cl) hgu
  exact (v_kn cx hr k_shared (by decide) rfl (s_cons (v_v 0 rfl rfl) s_nil))
theorem lam_5 (b : Blt c) (k_stretches : Kn P w c base 6 "stretches" 1 f_stretches) (k_how_many : Kn P w c base 6 "how_many" 1 f_how_many) (k_seeds : Kn P w c base 6 "seeds" 1 f_seeds) (k_least_around : Kn P w c base 6 "least_around" 2 f_least_around) (k_shared : Kn P w c base 6 "shared" 1 f_shared) (k_shared_knots : Kn P w c base 6 "shared_knots" 1 f_shared_knots) (k_knots : Kn P w c base 6 "knots" 1 f_knots) (k_parts : Kn P w c base 7 "parts" 2 f_parts) (k_pattern : Kn P w c base 7 "pattern" 2 f_pattern) (k_tree : Kn P w c base 14 "tree" 1 f_tree) (k_row_by : Kn P w c base 15 "row_by" 1 f_row_by) (k_like_rows : Kn P w c base 13 "like_rows" 1 f_like_rows) (k_is_simple : Kn P w c base 6 "is_simple" 1 f_is_simple) (k_put_in : Kn P w c base 6 "put_in" 3 f_put_in) (k_counts_simple : Kn P w c base 4 "counts_simple" 1 f_counts_simple) {L : LI} (hL : lamI 5 = some L) : LamOk P w c base 15 L (lamT 5) := by
  obtain rfl : (lamI 5).getD default = L := by rw [hL]; rfl
  refine lamOk_by (by kernel_rfl) (fun _ _ _ _ _ => rfl) fun A outer s H E f cc cl hr hgu => ?_
  have cx := cxg_lam (c := c) (P := P) (w := w) (base := base) (L := (lamI 5).getD default) (A := A) (outer := outer) (s := s) (H := H) (E := E) (f := f) (cc := cc) (cl := cl) hgu
  exact (v_kn cx hr k_shared_knots (by decide) rfl (s_cons (v_v 0 rfl rfl) s_nil))
theorem lam_6 (b : Blt c) (k_stretches : Kn P w c base 6 "stretches" 1 f_stretches) (k_how_many : Kn P w c base 6 "how_many" 1 f_how_many) (k_seeds : Kn P w c base 6 "seeds" 1 f_seeds) (k_least_around : Kn P w c base 6 "least_around" 2 f_least_around) (k_shared : Kn P w c base 6 "shared" 1 f_shared) (k_shared_knots : Kn P w c base 6 "shared_knots" 1 f_shared_knots) (k_knots : Kn P w c base 6 "knots" 1 f_knots) (k_parts : Kn P w c base 7 "parts" 2 f_parts) (k_pattern : Kn P w c base 7 "pattern" 2 f_pattern) (k_tree : Kn P w c base 14 "tree" 1 f_tree) (k_row_by : Kn P w c base 15 "row_by" 1 f_row_by) (k_like_rows : Kn P w c base 13 "like_rows" 1 f_like_rows) (k_is_simple : Kn P w c base 6 "is_simple" 1 f_is_simple) (k_put_in : Kn P w c base 6 "put_in" 3 f_put_in) (k_counts_simple : Kn P w c base 4 "counts_simple" 1 f_counts_simple) {L : LI} (hL : lamI 6 = some L) : LamOk P w c base 15 L (lamT 6) := by
  obtain rfl : (lamI 6).getD default = L := by rw [hL]; rfl
  refine lamOk_by (by kernel_rfl) (fun _ _ _ _ _ => rfl) fun A outer s H E f cc cl hr hgu => ?_
  have cx := cxg_lam (c := c) (P := P) (w := w) (base := base) (L := (lamI 6).getD default) (A := A) (outer := outer) (s := s) (H := H) (E := E) (f := f) (cc := cc) (cl := cl) hgu
  exact (v_kn cx hr k_knots (by decide) rfl (s_cons (v_v 0 rfl rfl) s_nil))
theorem lam_7 (b : Blt c) (k_stretches : Kn P w c base 6 "stretches" 1 f_stretches) (k_how_many : Kn P w c base 6 "how_many" 1 f_how_many) (k_seeds : Kn P w c base 6 "seeds" 1 f_seeds) (k_least_around : Kn P w c base 6 "least_around" 2 f_least_around) (k_shared : Kn P w c base 6 "shared" 1 f_shared) (k_shared_knots : Kn P w c base 6 "shared_knots" 1 f_shared_knots) (k_knots : Kn P w c base 6 "knots" 1 f_knots) (k_parts : Kn P w c base 7 "parts" 2 f_parts) (k_pattern : Kn P w c base 7 "pattern" 2 f_pattern) (k_tree : Kn P w c base 14 "tree" 1 f_tree) (k_row_by : Kn P w c base 15 "row_by" 1 f_row_by) (k_like_rows : Kn P w c base 13 "like_rows" 1 f_like_rows) (k_is_simple : Kn P w c base 6 "is_simple" 1 f_is_simple) (k_put_in : Kn P w c base 6 "put_in" 3 f_put_in) (k_counts_simple : Kn P w c base 4 "counts_simple" 1 f_counts_simple) {L : LI} (hL : lamI 7 = some L) : LamOk P w c base 15 L (lamT 7) := by
  obtain rfl : (lamI 7).getD default = L := by rw [hL]; rfl
  refine lamOk_by (by kernel_rfl) (fun _ _ _ _ _ => rfl) fun A outer s H E f cc cl hr hgu => ?_
  have cx := cxg_lam (c := c) (P := P) (w := w) (base := base) (L := (lamI 7).getD default) (A := A) (outer := outer) (s := s) (H := H) (E := E) (f := f) (cc := cc) (cl := cl) hgu
  exact (v_kn cx hr k_parts (by decide) rfl (s_cons (v_v 0 rfl rfl) (s_cons (v_v 1 rfl rfl) s_nil)))
theorem lam_8 (b : Blt c) (k_stretches : Kn P w c base 6 "stretches" 1 f_stretches) (k_how_many : Kn P w c base 6 "how_many" 1 f_how_many) (k_seeds : Kn P w c base 6 "seeds" 1 f_seeds) (k_least_around : Kn P w c base 6 "least_around" 2 f_least_around) (k_shared : Kn P w c base 6 "shared" 1 f_shared) (k_shared_knots : Kn P w c base 6 "shared_knots" 1 f_shared_knots) (k_knots : Kn P w c base 6 "knots" 1 f_knots) (k_parts : Kn P w c base 7 "parts" 2 f_parts) (k_pattern : Kn P w c base 7 "pattern" 2 f_pattern) (k_tree : Kn P w c base 14 "tree" 1 f_tree) (k_row_by : Kn P w c base 15 "row_by" 1 f_row_by) (k_like_rows : Kn P w c base 13 "like_rows" 1 f_like_rows) (k_is_simple : Kn P w c base 6 "is_simple" 1 f_is_simple) (k_put_in : Kn P w c base 6 "put_in" 3 f_put_in) (k_counts_simple : Kn P w c base 4 "counts_simple" 1 f_counts_simple) {L : LI} (hL : lamI 8 = some L) : LamOk P w c base 15 L (lamT 8) := by
  obtain rfl : (lamI 8).getD default = L := by rw [hL]; rfl
  refine lamOk_by (by kernel_rfl) (fun _ _ _ _ _ => rfl) fun A outer s H E f cc cl hr hgu => ?_
  have cx := cxg_lam (c := c) (P := P) (w := w) (base := base) (L := (lamI 8).getD default) (A := A) (outer := outer) (s := s) (H := H) (E := E) (f := f) (cc := cc) (cl := cl) hgu
  exact (v_kn cx hr k_pattern (by decide) rfl (s_cons (v_v 0 rfl rfl) (s_cons (v_v 1 rfl rfl) s_nil)))
theorem lam_9 (b : Blt c) (k_stretches : Kn P w c base 6 "stretches" 1 f_stretches) (k_how_many : Kn P w c base 6 "how_many" 1 f_how_many) (k_seeds : Kn P w c base 6 "seeds" 1 f_seeds) (k_least_around : Kn P w c base 6 "least_around" 2 f_least_around) (k_shared : Kn P w c base 6 "shared" 1 f_shared) (k_shared_knots : Kn P w c base 6 "shared_knots" 1 f_shared_knots) (k_knots : Kn P w c base 6 "knots" 1 f_knots) (k_parts : Kn P w c base 7 "parts" 2 f_parts) (k_pattern : Kn P w c base 7 "pattern" 2 f_pattern) (k_tree : Kn P w c base 14 "tree" 1 f_tree) (k_row_by : Kn P w c base 15 "row_by" 1 f_row_by) (k_like_rows : Kn P w c base 13 "like_rows" 1 f_like_rows) (k_is_simple : Kn P w c base 6 "is_simple" 1 f_is_simple) (k_put_in : Kn P w c base 6 "put_in" 3 f_put_in) (k_counts_simple : Kn P w c base 4 "counts_simple" 1 f_counts_simple) {L : LI} (hL : lamI 9 = some L) : LamOk P w c base 15 L (lamT 9) := by
  obtain rfl : (lamI 9).getD default = L := by rw [hL]; rfl
  refine lamOk_by (by kernel_rfl) (fun _ _ _ _ _ => rfl) fun A outer s H E f cc cl hr hgu => ?_
  have cx := cxg_lam (c := c) (P := P) (w := w) (base := base) (L := (lamI 9).getD default) (A := A) (outer := outer) (s := s) (H := H) (E := E) (f := f) (cc := cc) (cl := cl) hgu
  exact (v_kn cx hr k_tree (by decide) rfl (s_cons (v_v 0 rfl rfl) s_nil))
theorem lam_10 (b : Blt c) (k_stretches : Kn P w c base 6 "stretches" 1 f_stretches) (k_how_many : Kn P w c base 6 "how_many" 1 f_how_many) (k_seeds : Kn P w c base 6 "seeds" 1 f_seeds) (k_least_around : Kn P w c base 6 "least_around" 2 f_least_around) (k_shared : Kn P w c base 6 "shared" 1 f_shared) (k_shared_knots : Kn P w c base 6 "shared_knots" 1 f_shared_knots) (k_knots : Kn P w c base 6 "knots" 1 f_knots) (k_parts : Kn P w c base 7 "parts" 2 f_parts) (k_pattern : Kn P w c base 7 "pattern" 2 f_pattern) (k_tree : Kn P w c base 14 "tree" 1 f_tree) (k_row_by : Kn P w c base 15 "row_by" 1 f_row_by) (k_like_rows : Kn P w c base 13 "like_rows" 1 f_like_rows) (k_is_simple : Kn P w c base 6 "is_simple" 1 f_is_simple) (k_put_in : Kn P w c base 6 "put_in" 3 f_put_in) (k_counts_simple : Kn P w c base 4 "counts_simple" 1 f_counts_simple) {L : LI} (hL : lamI 10 = some L) : LamOk P w c base 15 L (lamT 10) := by
  obtain rfl : (lamI 10).getD default = L := by rw [hL]; rfl
  refine lamOk_by (by kernel_rfl) (fun _ _ _ _ _ => rfl) fun A outer s H E f cc cl hr hgu => ?_
  have cx := cxg_lam (c := c) (P := P) (w := w) (base := base) (L := (lamI 10).getD default) (A := A) (outer := outer) (s := s) (H := H) (E := E) (f := f) (cc := cc) (cl := cl) hgu
  exact (v_kn cx hr k_row_by (by decide) rfl (s_cons (v_v 0 rfl rfl) s_nil))
theorem lam_11 (b : Blt c) (k_stretches : Kn P w c base 6 "stretches" 1 f_stretches) (k_how_many : Kn P w c base 6 "how_many" 1 f_how_many) (k_seeds : Kn P w c base 6 "seeds" 1 f_seeds) (k_least_around : Kn P w c base 6 "least_around" 2 f_least_around) (k_shared : Kn P w c base 6 "shared" 1 f_shared) (k_shared_knots : Kn P w c base 6 "shared_knots" 1 f_shared_knots) (k_knots : Kn P w c base 6 "knots" 1 f_knots) (k_parts : Kn P w c base 7 "parts" 2 f_parts) (k_pattern : Kn P w c base 7 "pattern" 2 f_pattern) (k_tree : Kn P w c base 14 "tree" 1 f_tree) (k_row_by : Kn P w c base 15 "row_by" 1 f_row_by) (k_like_rows : Kn P w c base 13 "like_rows" 1 f_like_rows) (k_is_simple : Kn P w c base 6 "is_simple" 1 f_is_simple) (k_put_in : Kn P w c base 6 "put_in" 3 f_put_in) (k_counts_simple : Kn P w c base 4 "counts_simple" 1 f_counts_simple) {L : LI} (hL : lamI 11 = some L) : LamOk P w c base 15 L (lamT 11) := by
  obtain rfl : (lamI 11).getD default = L := by rw [hL]; rfl
  refine lamOk_by (by kernel_rfl) (fun _ _ _ _ _ => rfl) fun A outer s H E f cc cl hr hgu => ?_
  have cx := cxg_lam (c := c) (P := P) (w := w) (base := base) (L := (lamI 11).getD default) (A := A) (outer := outer) (s := s) (H := H) (E := E) (f := f) (cc := cc) (cl := cl) hgu
  exact (v_kn cx hr k_like_rows (by decide) rfl (s_cons (v_v 0 rfl rfl) s_nil))
theorem lam_12 (b : Blt c) (k_stretches : Kn P w c base 6 "stretches" 1 f_stretches) (k_how_many : Kn P w c base 6 "how_many" 1 f_how_many) (k_seeds : Kn P w c base 6 "seeds" 1 f_seeds) (k_least_around : Kn P w c base 6 "least_around" 2 f_least_around) (k_shared : Kn P w c base 6 "shared" 1 f_shared) (k_shared_knots : Kn P w c base 6 "shared_knots" 1 f_shared_knots) (k_knots : Kn P w c base 6 "knots" 1 f_knots) (k_parts : Kn P w c base 7 "parts" 2 f_parts) (k_pattern : Kn P w c base 7 "pattern" 2 f_pattern) (k_tree : Kn P w c base 14 "tree" 1 f_tree) (k_row_by : Kn P w c base 15 "row_by" 1 f_row_by) (k_like_rows : Kn P w c base 13 "like_rows" 1 f_like_rows) (k_is_simple : Kn P w c base 6 "is_simple" 1 f_is_simple) (k_put_in : Kn P w c base 6 "put_in" 3 f_put_in) (k_counts_simple : Kn P w c base 4 "counts_simple" 1 f_counts_simple) {L : LI} (hL : lamI 12 = some L) : LamOk P w c base 15 L (lamT 12) := by
  obtain rfl : (lamI 12).getD default = L := by rw [hL]; rfl
  refine lamOk_by (by kernel_rfl) (fun _ _ _ _ _ => rfl) fun A outer s H E f cc cl hr hgu => ?_
  have cx := cxg_lam (c := c) (P := P) (w := w) (base := base) (L := (lamI 12).getD default) (A := A) (outer := outer) (s := s) (H := H) (E := E) (f := f) (cc := cc) (cl := cl) hgu
  exact (v_kn cx hr k_is_simple (by decide) rfl (s_cons (v_v 0 rfl rfl) s_nil))
theorem lam_13 (b : Blt c) (k_stretches : Kn P w c base 6 "stretches" 1 f_stretches) (k_how_many : Kn P w c base 6 "how_many" 1 f_how_many) (k_seeds : Kn P w c base 6 "seeds" 1 f_seeds) (k_least_around : Kn P w c base 6 "least_around" 2 f_least_around) (k_shared : Kn P w c base 6 "shared" 1 f_shared) (k_shared_knots : Kn P w c base 6 "shared_knots" 1 f_shared_knots) (k_knots : Kn P w c base 6 "knots" 1 f_knots) (k_parts : Kn P w c base 7 "parts" 2 f_parts) (k_pattern : Kn P w c base 7 "pattern" 2 f_pattern) (k_tree : Kn P w c base 14 "tree" 1 f_tree) (k_row_by : Kn P w c base 15 "row_by" 1 f_row_by) (k_like_rows : Kn P w c base 13 "like_rows" 1 f_like_rows) (k_is_simple : Kn P w c base 6 "is_simple" 1 f_is_simple) (k_put_in : Kn P w c base 6 "put_in" 3 f_put_in) (k_counts_simple : Kn P w c base 4 "counts_simple" 1 f_counts_simple) {L : LI} (hL : lamI 13 = some L) : LamOk P w c base 15 L (lamT 13) := by
  obtain rfl : (lamI 13).getD default = L := by rw [hL]; rfl
  refine lamOk_by (by kernel_rfl) (fun _ _ _ _ _ => rfl) fun A outer s H E f cc cl hr hgu => ?_
  have cx := cxg_lam (c := c) (P := P) (w := w) (base := base) (L := (lamI 13).getD default) (A := A) (outer := outer) (s := s) (H := H) (E := E) (f := f) (cc := cc) (cl := cl) hgu
  exact (v_kn cx hr k_put_in (by decide) rfl (s_cons (v_v 0 rfl rfl) (s_cons (v_v 1 rfl rfl) (s_cons (v_v 2 rfl rfl) s_nil))))
theorem lam_14 (b : Blt c) (k_stretches : Kn P w c base 6 "stretches" 1 f_stretches) (k_how_many : Kn P w c base 6 "how_many" 1 f_how_many) (k_seeds : Kn P w c base 6 "seeds" 1 f_seeds) (k_least_around : Kn P w c base 6 "least_around" 2 f_least_around) (k_shared : Kn P w c base 6 "shared" 1 f_shared) (k_shared_knots : Kn P w c base 6 "shared_knots" 1 f_shared_knots) (k_knots : Kn P w c base 6 "knots" 1 f_knots) (k_parts : Kn P w c base 7 "parts" 2 f_parts) (k_pattern : Kn P w c base 7 "pattern" 2 f_pattern) (k_tree : Kn P w c base 14 "tree" 1 f_tree) (k_row_by : Kn P w c base 15 "row_by" 1 f_row_by) (k_like_rows : Kn P w c base 13 "like_rows" 1 f_like_rows) (k_is_simple : Kn P w c base 6 "is_simple" 1 f_is_simple) (k_put_in : Kn P w c base 6 "put_in" 3 f_put_in) (k_counts_simple : Kn P w c base 4 "counts_simple" 1 f_counts_simple) {L : LI} (hL : lamI 14 = some L) : LamOk P w c base 15 L (lamT 14) := by
  obtain rfl : (lamI 14).getD default = L := by rw [hL]; rfl
  refine lamOk_by (by kernel_rfl) (fun _ _ _ _ _ => rfl) fun A outer s H E f cc cl hr hgu => ?_
  have cx := cxg_lam (c := c) (P := P) (w := w) (base := base) (L := (lamI 14).getD default) (A := A) (outer := outer) (s := s) (H := H) (E := E) (f := f) (cc := cc) (cl := cl) hgu
  exact (v_kn cx hr k_counts_simple (by decide) rfl (s_cons (v_v 0 rfl rfl) s_nil))
theorem lams_ok (hlam : c.lam = lamI) (b : Blt c) (k_stretches : Kn P w c base 6 "stretches" 1 f_stretches) (k_how_many : Kn P w c base 6 "how_many" 1 f_how_many) (k_seeds : Kn P w c base 6 "seeds" 1 f_seeds) (k_least_around : Kn P w c base 6 "least_around" 2 f_least_around) (k_shared : Kn P w c base 6 "shared" 1 f_shared) (k_shared_knots : Kn P w c base 6 "shared_knots" 1 f_shared_knots) (k_knots : Kn P w c base 6 "knots" 1 f_knots) (k_parts : Kn P w c base 7 "parts" 2 f_parts) (k_pattern : Kn P w c base 7 "pattern" 2 f_pattern) (k_tree : Kn P w c base 14 "tree" 1 f_tree) (k_row_by : Kn P w c base 15 "row_by" 1 f_row_by) (k_like_rows : Kn P w c base 13 "like_rows" 1 f_like_rows) (k_is_simple : Kn P w c base 6 "is_simple" 1 f_is_simple) (k_put_in : Kn P w c base 6 "put_in" 3 f_put_in) (k_counts_simple : Kn P w c base 4 "counts_simple" 1 f_counts_simple) : LamsOk P w c base 15 lamT := fun k L hk => by
  rw [hlam] at hk
  match k, hk with
  | 0, hk => exact lam_0 b k_stretches k_how_many k_seeds k_least_around k_shared k_shared_knots k_knots k_parts k_pattern k_tree k_row_by k_like_rows k_is_simple k_put_in k_counts_simple hk
  | 1, hk => exact lam_1 b k_stretches k_how_many k_seeds k_least_around k_shared k_shared_knots k_knots k_parts k_pattern k_tree k_row_by k_like_rows k_is_simple k_put_in k_counts_simple hk
  | 2, hk => exact lam_2 b k_stretches k_how_many k_seeds k_least_around k_shared k_shared_knots k_knots k_parts k_pattern k_tree k_row_by k_like_rows k_is_simple k_put_in k_counts_simple hk
  | 3, hk => exact lam_3 b k_stretches k_how_many k_seeds k_least_around k_shared k_shared_knots k_knots k_parts k_pattern k_tree k_row_by k_like_rows k_is_simple k_put_in k_counts_simple hk
  | 4, hk => exact lam_4 b k_stretches k_how_many k_seeds k_least_around k_shared k_shared_knots k_knots k_parts k_pattern k_tree k_row_by k_like_rows k_is_simple k_put_in k_counts_simple hk
  | 5, hk => exact lam_5 b k_stretches k_how_many k_seeds k_least_around k_shared k_shared_knots k_knots k_parts k_pattern k_tree k_row_by k_like_rows k_is_simple k_put_in k_counts_simple hk
  | 6, hk => exact lam_6 b k_stretches k_how_many k_seeds k_least_around k_shared k_shared_knots k_knots k_parts k_pattern k_tree k_row_by k_like_rows k_is_simple k_put_in k_counts_simple hk
  | 7, hk => exact lam_7 b k_stretches k_how_many k_seeds k_least_around k_shared k_shared_knots k_knots k_parts k_pattern k_tree k_row_by k_like_rows k_is_simple k_put_in k_counts_simple hk
  | 8, hk => exact lam_8 b k_stretches k_how_many k_seeds k_least_around k_shared k_shared_knots k_knots k_parts k_pattern k_tree k_row_by k_like_rows k_is_simple k_put_in k_counts_simple hk
  | 9, hk => exact lam_9 b k_stretches k_how_many k_seeds k_least_around k_shared k_shared_knots k_knots k_parts k_pattern k_tree k_row_by k_like_rows k_is_simple k_put_in k_counts_simple hk
  | 10, hk => exact lam_10 b k_stretches k_how_many k_seeds k_least_around k_shared k_shared_knots k_knots k_parts k_pattern k_tree k_row_by k_like_rows k_is_simple k_put_in k_counts_simple hk
  | 11, hk => exact lam_11 b k_stretches k_how_many k_seeds k_least_around k_shared k_shared_knots k_knots k_parts k_pattern k_tree k_row_by k_like_rows k_is_simple k_put_in k_counts_simple hk
  | 12, hk => exact lam_12 b k_stretches k_how_many k_seeds k_least_around k_shared k_shared_knots k_knots k_parts k_pattern k_tree k_row_by k_like_rows k_is_simple k_put_in k_counts_simple hk
  | 13, hk => exact lam_13 b k_stretches k_how_many k_seeds k_least_around k_shared k_shared_knots k_knots k_parts k_pattern k_tree k_row_by k_like_rows k_is_simple k_put_in k_counts_simple hk
  | 14, hk => exact lam_14 b k_stretches k_how_many k_seeds k_least_around k_shared k_shared_knots k_knots k_parts k_pattern k_tree k_row_by k_like_rows k_is_simple k_put_in k_counts_simple hk
  | n + 15, hk => cases hk
theorem sc__law_heard : FnScope N__law_heard ["call"] (defScope (top 72)) := ⟨rfl, rfl, rfl, by decide +kernel, rfl, by decide +kernel, by decide +kernel⟩
theorem ok__law_heard (F : FunD c.K "_law_heard" "_law_heard" (defArgs (top 72)) (defBody (top 72)) (defScope (top 72)) [] [] f fd) (b : Blt c) (rt : RtF c excs "TurnError") (lm : LamsOk P w c base 15 lamT) : FnG P w c base 17 f fd ["call"] f__law_heard := by
  refine fun_okG F sc__law_heard fun cdv A outer s H E hr hgu => ?_
  have nd := sc__law_heard.nd
  have cx := cxg_of (P := P) (w := w) (c := c) (base := base) (N := N__law_heard) (qual := "_law_heard") (scope := defScope (top 72)) (f := f) (cdv := cdv) (A := A) (outer := outer) (s := s) (H := H) (E := E) hgu
  exact (s_scons (s_as (s_tup (s_cons s_none (s_cons s_none s_nil))) (s_gtp rfl rfl (s_gscons (s_gnm (pg_name (i := 2) nd rfl (loc_by rfl))) (s_gscons (s_gnm (pg_name (i := 3) nd rfl (loc_by rfl))) s_gsnil))) (g_tp (g_scons g_nm (g_scons g_nm g_snil))))
  (s_scons (v_try (i := 1) cx rt rfl rfl nd rfl rfl rfl (by decide) (fun W' pn xe cx => (s_scons (s_set (i := 3) nd rfl (loc_by rfl) (s_act (i := 0) cx (hr.mono (by decide)) hr.hd lm rfl rfl))
  s_snil)) (fun a pn cx => (s_scons (s_set (i := 2) nd rfl (loc_by rfl) (v_v 1 rfl rfl))
  s_snil)))
  (s_scons (s_ret (s_tup (s_cons (v_v 2 rfl rfl) (s_cons (v_v 3 rfl rfl) s_nil))))
  s_snil)))
theorem sc__law_word : FnScope N__law_word ["error"] (defScope (top 79)) := ⟨rfl, rfl, rfl, by decide +kernel, rfl, by decide +kernel, by decide +kernel⟩
theorem ok__law_word (F : FunD c.K "_law_word" "_law_word" (defArgs (top 79)) (defBody (top 79)) (defScope (top 79)) [] [] f fd) (b : Blt c) (kx : KxF c excs) : FnG P w c base 1 f fd ["error"] f__law_word := by
  refine fun_okG F sc__law_word fun cdv A outer s H E hr hgu => ?_
  have nd := sc__law_word.nd
  have cx := cxg_of (P := P) (w := w) (c := c) (base := base) (N := N__law_word) (qual := "_law_word") (scope := defScope (top 79)) (f := f) (cdv := cdv) (A := A) (outer := outer) (s := s) (H := H) (E := E) hgu
  exact (s_scons (s_set (i := 1) nd rfl (loc_by rfl) (s_lst (s_cons (v_blt (f_isX cx kx) rfl b.isinstance_ bo_isinstance (s_cons (v_v 0 rfl rfl) (s_cons (s_glx cx kx (by decide) rfl) s_nil))) (s_cons (v_blt (f_isX cx kx) rfl b.isinstance_ bo_isinstance (s_cons (v_v 0 rfl rfl) (s_cons (s_glx cx kx (by decide) rfl) s_nil))) (s_cons (v_blt (f_isX cx kx) rfl b.isinstance_ bo_isinstance (s_cons (v_v 0 rfl rfl) (s_cons (s_glx cx kx (by decide) rfl) s_nil))) (s_cons (v_blt (f_isX cx kx) rfl b.isinstance_ bo_isinstance (s_cons (v_v 0 rfl rfl) (s_cons (s_glx cx kx (by decide) rfl) s_nil))) s_nil))))))
  (s_scons (s_set (i := 1) nd rfl (loc_by rfl) (v_add cx (v_v 1 rfl rfl) (s_lst (s_cons (v_blt (f_isX cx kx) rfl b.isinstance_ bo_isinstance (s_cons (v_v 0 rfl rfl) (s_cons (s_glx cx kx (by decide) rfl) s_nil))) (s_cons (v_blt (f_isX cx kx) rfl b.isinstance_ bo_isinstance (s_cons (v_v 0 rfl rfl) (s_cons (s_glx cx kx (by decide) rfl) s_nil))) (s_cons (v_blt (f_isX cx kx) rfl b.isinstance_ bo_isinstance (s_cons (v_v 0 rfl rfl) (s_cons (s_glx cx kx (by decide) rfl) s_nil))) s_nil))))))
  (s_scons (s_ret (s_if (v_tcmp (m_eq cx hr) (v_mt cx (d_cntB cx) (v_v 1 rfl rfl) (s_cons s_bool s_nil)) s_int) (v_ix cx (s_lst (s_cons s_str (s_cons s_str (s_cons s_str (s_cons s_str (s_cons s_str (s_cons s_str (s_cons s_str s_nil)))))))) (s_idxA cx hr (v_v 1 rfl rfl) (s_cons s_bool s_nil))) s_str))
  s_snil)))
theorem sc__law_is_refused : FnScope N__law_is_refused ["call", "due"] (defScope (top 75)) := ⟨rfl, rfl, rfl, by decide +kernel, rfl, by decide +kernel, by decide +kernel⟩
theorem ok__law_is_refused (F : FunD c.K "_law_is_refused" "_law_is_refused" (defArgs (top 75)) (defBody (top 75)) (defScope (top 75)) [] [] f fd) (b : Blt c) (k__law_heard : Kn P w c base 17 "_law_heard" 1 f__law_heard) (k__law_word : Kn P w c base 1 "_law_word" 1 f__law_word) (kx : KxF c excs) : FnG P w c base 18 f fd ["call", "due"] f__law_is_refused := by
  refine fun_okG F sc__law_is_refused fun cdv A outer s H E hr hgu => ?_
  have nd := sc__law_is_refused.nd
  have cx := cxg_of (P := P) (w := w) (c := c) (base := base) (N := N__law_is_refused) (qual := "_law_is_refused") (scope := defScope (top 75)) (f := f) (cdv := cdv) (A := A) (outer := outer) (s := s) (H := H) (E := E) hgu
  exact (s_scons (s_set (i := 2) nd rfl (loc_by rfl) (v_ix cx (v_kn cx hr k__law_heard (by decide) rfl (s_cons (v_v 0 rfl rfl) s_nil)) s_int))
  (s_scons (s_sif (PW.pt (s_tor (v_tcmp m_is (v_v 1 rfl rfl) s_none) (s_tor1 (v_tcmp m_is (v_v 2 rfl rfl) s_none)))) (s_scons (s_ret (s_and (v_cmp m_is (v_v 1 rfl rfl) s_none) (s_one (v_cmp m_is (v_v 2 rfl rfl) s_none))))
  s_snil) s_snil)
  (s_scons (s_ret (s_and (v_cmp (m_eq cx hr) (v_kn cx hr k__law_word (by decide) rfl (s_cons (v_v 2 rfl rfl) s_nil)) (v_ix cx (v_v 1 rfl rfl) s_int)) (s_one (v_cmp (m_eq cx hr) (v_blt (f_repr cx hr) rfl b.repr_ bo_repr (s_cons (s_xv cx kx (v_v 2 rfl rfl)) s_nil)) (v_blt (f_repr cx hr) rfl b.repr_ bo_repr (s_cons (v_ix cx (v_v 1 rfl rfl) s_int) s_nil))))))
  s_snil)))
theorem sc__law_first : FnScope N__law_first ["rows"] (defScope (top 76)) := ⟨rfl, rfl, rfl, by decide +kernel, rfl, by decide +kernel, by decide +kernel⟩
theorem ok__law_first (F : FunD c.K "_law_first" "_law_first" (defArgs (top 76)) (defBody (top 76)) (defScope (top 76)) [] [] f fd) (b : Blt c) : FnG P w c base 1 f fd ["rows"] f__law_first := by
  refine fun_okG F sc__law_first fun cdv A outer s H E hr hgu => ?_
  have nd := sc__law_first.nd
  have cx := cxg_of (P := P) (w := w) (c := c) (base := base) (N := N__law_first) (qual := "_law_first") (scope := defScope (top 76)) (f := f) (cdv := cdv) (A := A) (outer := outer) (s := s) (H := H) (E := E) hgu
  exact (s_scons (by first | exact s_setLc (i := 1) rfl nd rfl rfl rfl (s_iseq rfl (v_v 0 rfl rfl)) (own := [("word", 2), ("value", 3), ("is_right", 4)]) (blkOk_by (by kernel_rfl)) (fun s1 H1 C1 l1 f1 => (w_gtp rfl rfl (w_gscons (w_gnm (by decide) (pg_name (i := 2) nd rfl (loc_by rfl))) (w_gscons (w_gnm (by decide) (pg_name (i := 3) nd rfl (loc_by rfl))) (w_gscons (w_gnm (by decide) (pg_name (i := 4) nd rfl (loc_by rfl))) w_gsnil))))) (fun s1 H1 C1 l1 f1 => (s_tone (s_tnot (s_tval (v_v 4 rfl rfl))))) (fun s1 H1 C1 l1 f1 => (s_tup (s_cons (v_v 2 rfl rfl) (s_cons (v_v 3 rfl rfl) s_nil)))) (fun _ _ _ => tlc_fr (g_tp (g_scons g_nm (g_scons g_nm (g_scons g_nm g_snil))))) | exact s_set (i := 1) nd rfl (loc_by rfl) (s_lc rfl nd (s_iseq rfl (v_v 0 rfl rfl)) (own := [("word", 2), ("value", 3), ("is_right", 4)]) (blkOk_by (by kernel_rfl)) (g_tp (g_scons g_nm (g_scons g_nm (g_scons g_nm g_snil)))) (fun s1 H1 C1 l1 f1 => (w_gtp rfl rfl (w_gscons (w_gnm (by decide) (pg_name (i := 2) nd rfl (loc_by rfl))) (w_gscons (w_gnm (by decide) (pg_name (i := 3) nd rfl (loc_by rfl))) (w_gscons (w_gnm (by decide) (pg_name (i := 4) nd rfl (loc_by rfl))) w_gsnil))))) (fun s1 H1 C1 l1 f1 => (s_tone (s_tnot (s_tval (v_v 4 rfl rfl))))) (fun s1 H1 C1 l1 f1 => (s_tup (s_cons (v_v 2 rfl rfl) (s_cons (v_v 3 rfl rfl) s_nil))))))
  (s_scons (s_ret (s_if (v_tcmp (m_ne cx hr) (v_v 1 rfl rfl) (s_lst s_nil)) (v_ix cx (v_v 1 rfl rfl) s_int) s_none))
  s_snil))
theorem sc__law_right : FnScope N__law_right ["pot"] (defScope (top 80)) := ⟨rfl, rfl, rfl, by decide +kernel, rfl, by decide +kernel, by decide +kernel⟩
theorem ok__law_right {P0 : Addr} (F : FunD c.K "_law_right" "_law_right" (defArgs (top 80)) (defBody (top 80)) (defScope (top 80)) [] [] (He.fAd c.K ("_law_right", none)) fd) (b : ∀ own, Blt { c with own := own }) (k__law_any_plain : ∀ own, Kn P w { c with own := own } base 3 "_law_any_plain" 1 f__law_any_plain) (k__law_of : ∀ own, Kn P w { c with own := own } base 2 "_law_of" 2 f__law_of) (k__law_is_plain : ∀ own, Kn P w { c with own := own } base 1 "_law_is_plain" 1 f__law_is_plain) (k__law_are_places : ∀ own, Kn P w { c with own := own } base 1 "_law_are_places" 3 f__law_are_places) (k__law_is_int : ∀ own, Kn P w { c with own := own } base 1 "_law_is_int" 3 f__law_is_int) (k__law_is_refused : ∀ own, Kn P w { c with own := own } base 18 "_law_is_refused" 2 f__law_is_refused) (k__law_first : ∀ own, Kn P w { c with own := own } base 1 "_law_first" 1 f__law_first) (hlam : c.lam = lamI) (TB : TabB base c.mg (He.codeOf c.K ("_law_right", none)) P0) (hmT : (P0, ("_law_right.<locals>.<lambda>" : Str)) ∈ c.T) (huT : ∀ p ∈ c.T, p.1 = P0 → p.2 = "_law_right.<locals>.<lambda>") : FnG P w c base 19 (He.fAd c.K ("_law_right", none)) fd ["pot"] f__law_right := by
  refine fun_okL F sc__law_right fun A outer s H E hr hgu => ?_
  have nd := sc__law_right.nd
  have cx := cxg_of (P := P) (w := w) (c := { c with own := (envOfC "_law_right" (defScope (top 80)) s.heap.objs.size (He.fAd c.K ("_law_right", none)) (.ref (He.codeOf c.K ("_law_right", none)))).cells }) (base := base) (N := N__law_right) (qual := "_law_right") (scope := defScope (top 80)) (f := He.fAd c.K ("_law_right", none)) (cdv := .ref (He.codeOf c.K ("_law_right", none))) (A := A) (outer := outer) (s := s) (H := H) (E := E) hgu
  have mk := mkl_of (P := P) (w := w) (N := N__law_right) (qual := "_law_right") (scope := defScope (top 80)) (f := He.fAd c.K ("_law_right", none)) (A := A) (outer := outer) (s := s) (H := H) (E := E) TB hmT huT
  have fk : FzK { c with own := (envOfC "_law_right" (defScope (top 80)) s.heap.objs.size (He.fAd c.K ("_law_right", none)) (.ref (He.codeOf c.K ("_law_right", none)))).cells } (cxOf (L2.CX P w) P w c.K c.mg base N__law_right "_law_right" (defScope (top 80)) (He.fAd c.K ("_law_right", none)) (.ref (He.codeOf c.K ("_law_right", none))) A outer s H E) cn__law_right fz__law_right := fzK_by rfl hlam (fun _ _ => rfl) (by kernel_rfl)
  have b := b (envOfC "_law_right" (defScope (top 80)) s.heap.objs.size (He.fAd c.K ("_law_right", none)) (.ref (He.codeOf c.K ("_law_right", none)))).cells
  have k__law_any_plain := k__law_any_plain (envOfC "_law_right" (defScope (top 80)) s.heap.objs.size (He.fAd c.K ("_law_right", none)) (.ref (He.codeOf c.K ("_law_right", none)))).cells
  have k__law_of := k__law_of (envOfC "_law_right" (defScope (top 80)) s.heap.objs.size (He.fAd c.K ("_law_right", none)) (.ref (He.codeOf c.K ("_law_right", none)))).cells
  have k__law_is_plain := k__law_is_plain (envOfC "_law_right" (defScope (top 80)) s.heap.objs.size (He.fAd c.K ("_law_right", none)) (.ref (He.codeOf c.K ("_law_right", none)))).cells
  have k__law_are_places := k__law_are_places (envOfC "_law_right" (defScope (top 80)) s.heap.objs.size (He.fAd c.K ("_law_right", none)) (.ref (He.codeOf c.K ("_law_right", none)))).cells
  have k__law_is_int := k__law_is_int (envOfC "_law_right" (defScope (top 80)) s.heap.objs.size (He.fAd c.K ("_law_right", none)) (.ref (He.codeOf c.K ("_law_right", none)))).cells
  have k__law_is_refused := k__law_is_refused (envOfC "_law_right" (defScope (top 80)) s.heap.objs.size (He.fAd c.K ("_law_right", none)) (.ref (He.codeOf c.K ("_law_right", none)))).cells
  have k__law_first := k__law_first (envOfC "_law_right" (defScope (top 80)) s.heap.objs.size (He.fAd c.K ("_law_right", none)) (.ref (He.codeOf c.K ("_law_right", none)))).cells
  exact (s_scons (s_as (s_tup (s_cons (v_kn cx hr k__law_any_plain (by decide) rfl (s_cons (v_v 0 rfl rfl) s_nil)) (s_cons (v_kn cx hr k__law_any_plain (by decide) rfl (s_cons (v_v 0 rfl rfl) s_nil)) s_nil))) (s_gtp rfl rfl (s_gscons (s_gtp rfl rfl (s_gscons (s_gnm (pg_name (i := 15) nd rfl (loc_by rfl))) (s_gscons (s_gnm (pg_name (i := 16) nd rfl (loc_by rfl))) s_gsnil))) (s_gscons (s_gtp rfl rfl (s_gscons (s_gnm (pg_name (i := 17) nd rfl (loc_by rfl))) (s_gscons (s_gnm (pg_name (i := 18) nd rfl (loc_by rfl))) s_gsnil))) s_gsnil))) (g_tp (g_scons (g_tp (g_scons g_nm (g_scons g_nm g_snil))) (g_scons (g_tp (g_scons g_nm (g_scons g_nm g_snil))) g_snil))))
  (s_scons (s_set (i := 1) nd rfl (loc_by rfl) (s_if (s_tval (v_v 16 rfl rfl)) (v_blt (f_len cx) rfl b.len_ bo_len (s_cons (v_v 15 rfl rfl) s_nil)) s_int))
  (s_scons (s_set (i := 2) nd rfl (loc_by rfl) (v_kn cx hr k__law_of (by decide) rfl (s_cons (v_v 0 rfl rfl) (s_cons (s_lst (s_cons (s_tup (s_cons (v_v 15 rfl rfl) s_nil)) (s_cons (s_tup (s_cons (v_v 15 rfl rfl) (s_cons (v_v 15 rfl rfl) s_nil))) (s_cons (s_tup (s_cons (v_v 15 rfl rfl) (s_cons (v_v 17 rfl rfl) s_nil))) (s_cons (v_mulA cx (s_tup (s_cons (v_v 15 rfl rfl) s_nil)) s_int) (s_cons (s_tup s_nil) (s_cons (s_lst (s_cons (v_v 15 rfl rfl) s_nil)) (s_cons s_none (s_cons (v_v 15 rfl rfl) s_nil))))))))) s_nil))))
  (s_scons (s_set (i := 3) nd rfl (loc_by rfl) (s_and (s_isa cx rfl b.isinstance_ bo_isinstance rfl b.tuple_ bo_tuple (by decide) (v_v 2 rfl rfl)) (s_and (v_chain m_le m_le s_int (v_blt (f_len cx) rfl b.len_ bo_len (s_cons (v_v 2 rfl rfl) s_nil)) s_int) (s_one (v_blt (f_all cx rfl) rfl b.all_ bo_all (s_cons (s_lc rfl nd (s_iseq rfl (v_v 2 rfl rfl)) (own := [("row", 19)]) (blkOk_by (by kernel_rfl)) g_nm (fun s1 H1 C1 l1 f1 => (w_gnm (by decide) (pg_name (i := 19) nd rfl (loc_by rfl)))) (fun s1 H1 C1 l1 f1 => s_tnil) (fun s1 H1 C1 l1 f1 => (v_kn (Cxg.blk cx) hr k__law_is_plain (by decide) rfl (s_cons (v_v 19 rfl rfl) s_nil)))) s_nil))))))
  (s_scons (s_set (i := 3) nd rfl (loc_by rfl) (s_and (v_v 3 rfl rfl) (s_one (v_cmp (m_eq cx hr) (s_lenSet cx rfl b.len_ rfl b.set_ (s_lc rfl nd (s_iseq rfl (v_v 2 rfl rfl)) (own := [("row", 19)]) (blkOk_by (by kernel_rfl)) g_nm (fun s1 H1 C1 l1 f1 => (w_gnm (by decide) (pg_name (i := 19) nd rfl (loc_by rfl)))) (fun s1 H1 C1 l1 f1 => s_tnil) (fun s1 H1 C1 l1 f1 => (v_blt (f_len (Cxg.blk cx)) rfl b.len_ bo_len (s_cons (v_v 19 rfl rfl) s_nil)))) rfl) s_int))))
  (s_scons (s_set (i := 4) nd rfl (loc_by rfl) (v_kn cx hr k__law_of (by decide) rfl (s_cons (v_v 0 rfl rfl) (s_cons (s_lst (s_cons s_int (s_cons (v_v 1 rfl rfl) (s_cons (v_add cx (v_v 1 rfl rfl) s_int) (s_cons s_int (s_cons s_none (s_cons s_bool (s_cons s_str s_nil)))))))) s_nil))))
  (s_scons (s_set (i := 5) nd rfl (loc_by rfl) (v_kn cx hr k__law_of (by decide) rfl (s_cons (v_v 0 rfl rfl) (s_cons (s_lst (s_cons (s_tup (s_cons s_int (s_cons s_int s_nil))) (s_cons (s_tup (s_cons s_int (s_cons (v_v 1 rfl rfl) s_nil))) (s_cons (s_tup (s_cons (v_v 1 rfl rfl) (s_cons (v_v 1 rfl rfl) s_nil))) (s_cons (s_tup (s_cons s_int (s_cons s_int s_nil))) (s_cons (s_tup (s_cons s_int (s_cons s_int s_nil))) (s_cons (s_tup (s_cons s_int (s_cons (v_add cx (v_v 1 rfl rfl) s_int) s_nil))) (s_cons (s_tup (s_cons s_int s_nil)) (s_cons (s_lst (s_cons s_int (s_cons s_int s_nil))) (s_cons s_none (s_cons (s_tup (s_cons s_bool (s_cons s_bool s_nil))) s_nil))))))))))) s_nil))))
  (s_scons (s_set (i := 6) nd rfl (loc_by rfl) (s_and (v_kn cx hr k__law_are_places (by decide) rfl (s_cons (v_v 1 rfl rfl) (s_cons (v_v 5 rfl rfl) (s_cons s_int s_nil)))) (s_one (s_or (v_cmp (m_eq cx hr) (v_ix cx (v_v 5 rfl rfl) s_int) (v_ix cx (v_v 5 rfl rfl) s_int)) (s_one (v_cmp (m_eq cx hr) (v_v 5 rfl rfl) (s_tup (s_cons s_int (s_cons (v_v 1 rfl rfl) s_nil)))))))))
  (s_scons (s_set (i := 7) nd rfl (loc_by rfl) (v_kn cx hr k__law_of (by decide) rfl (s_cons (v_v 0 rfl rfl) (s_cons (s_lst (s_cons s_int (s_cons (s_tup (s_cons s_str (s_cons (s_tup (s_cons s_int (s_cons s_int s_nil))) s_nil))) (s_cons (s_tup (s_cons s_str (s_cons (s_tup (s_cons s_int (s_cons s_int s_nil))) s_nil))) (s_cons (s_tup (s_cons s_str (s_cons (s_tup (s_cons s_int (s_cons s_int s_nil))) s_nil))) (s_cons s_int (s_cons s_int (s_cons s_none (s_cons s_bool (s_cons (s_tup s_nil) (s_cons (s_tup (s_cons s_str (s_cons (s_tup s_nil) s_nil))) (s_cons (s_tup (s_cons s_str (s_cons (s_tup (s_cons s_int s_nil)) s_nil))) (s_cons (s_lst (s_cons s_int s_nil)) s_nil))))))))))))) s_nil))))
  (s_scons (s_set (i := 8) nd rfl (loc_by rfl) (v_cmp (m_in cx hr) (v_blt (f_repr cx hr) rfl b.repr_ bo_repr (s_cons (v_v 7 rfl rfl) s_nil)) (s_lst (s_cons (v_blt (f_repr cx hr) rfl b.repr_ bo_repr (s_cons s_int s_nil)) (s_cons (v_blt (f_repr cx hr) rfl b.repr_ bo_repr (s_cons (s_tup (s_cons s_str (s_cons (s_tup (s_cons s_int (s_cons s_int s_nil))) s_nil))) s_nil)) (s_cons (v_blt (f_repr cx hr) rfl b.repr_ bo_repr (s_cons (s_tup (s_cons s_str (s_cons (s_tup (s_cons s_int (s_cons s_int s_nil))) s_nil))) s_nil)) s_nil))))))
  (s_scons (s_set (i := 9) nd rfl (loc_by rfl) (v_kn cx hr k__law_of (by decide) rfl (s_cons (v_v 0 rfl rfl) (s_cons (s_lst (s_cons s_int (s_cons s_int (s_cons s_int (s_cons s_int (s_cons s_int (s_cons (v_neg s_int) (s_cons s_none (s_cons s_bool (s_cons s_str s_nil)))))))))) s_nil))))
  (s_scons (s_set (i := 10) nd rfl (loc_by rfl) (s_lst (s_cons (s_tup (s_cons s_str (s_cons (v_v 15 rfl rfl) (s_cons (v_v 16 rfl rfl) s_nil)))) s_nil)))
  (s_scons (s_set (i := 11) nd rfl (loc_by rfl) (s_tup (s_cons s_str (s_cons (v_v 5 rfl rfl) (s_cons (s_or (s_not (v_v 6 rfl rfl)) (s_one (v_cmp m_lt (v_ix cx (v_v 5 rfl rfl) s_int) (v_ix cx (v_v 5 rfl rfl) s_int)))) s_nil)))))
  (s_scons (s_set (i := 12) nd rfl (loc_by rfl) (v_add cx (v_v 10 rfl rfl) (s_lst (s_cons (s_tup (s_cons s_str (s_cons (v_v 5 rfl rfl) (s_cons (v_v 6 rfl rfl) s_nil)))) (s_cons (v_v 11 rfl rfl) s_nil)))))
  (s_scons (s_set (i := 13) nd rfl (loc_by rfl) (v_add cx (v_v 10 rfl rfl) (s_lst (s_cons (s_tup (s_cons s_str (s_cons (v_v 17 rfl rfl) (s_cons (v_v 18 rfl rfl) s_nil)))) (s_cons (s_tup (s_cons s_str (s_cons (v_v 4 rfl rfl) (s_cons (v_kn cx hr k__law_is_int (by decide) rfl (s_cons (v_v 4 rfl rfl) (s_cons s_int (s_cons (v_v 1 rfl rfl) s_nil)))) s_nil)))) s_nil)))))
  (s_scons (s_set (i := 14) nd rfl (loc_by rfl) (s_lstX (s_cons (s_tup (s_cons (v_lam (k := 0) (fr := fr_0) mk hlam (by kernel_rfl) (by kernel_rfl)) (s_cons (v_v 10 rfl rfl) s_nil))) s_nil)))
  (s_scons (s_ex (v_mt cx d_append (v_v 14 rfl rfl) (s_cons (s_tup (s_cons (v_lam (k := 1) (fr := fr_1) mk hlam (by kernel_rfl) (by kernel_rfl)) (s_cons (v_v 10 rfl rfl) s_nil))) s_nil)))
  (s_scons (s_ex (v_mt cx d_append (v_v 14 rfl rfl) (s_cons (s_tup (s_cons (v_lam (k := 2) (fr := fr_2) mk hlam (by kernel_rfl) (by kernel_rfl)) (s_cons (v_v 10 rfl rfl) s_nil))) s_nil)))
  (s_scons (s_ex (v_mt cx d_append (v_v 14 rfl rfl) (s_cons (s_tup (s_cons (v_lam (k := 3) (fr := fr_3) mk hlam (by kernel_rfl) (by kernel_rfl)) (s_cons (v_add cx (v_v 10 rfl rfl) (s_lst (s_cons (s_tup (s_cons s_str (s_cons (v_v 4 rfl rfl) (s_cons (v_kn cx hr k__law_is_int (by decide) rfl (s_cons (v_v 4 rfl rfl) (s_cons s_int (s_cons (v_sub (v_v 1 rfl rfl) s_int) s_nil)))) s_nil)))) s_nil))) s_nil))) s_nil)))
  (s_scons (s_ex (v_mt cx d_append (v_v 14 rfl rfl) (s_cons (s_tup (s_cons (v_lam (k := 4) (fr := fr_4) mk hlam (by kernel_rfl) (by kernel_rfl)) (s_cons (s_lst (s_cons (s_tup (s_cons s_str (s_cons (v_v 2 rfl rfl) (s_cons (v_v 3 rfl rfl) s_nil)))) s_nil)) s_nil))) s_nil)))
  (s_scons (s_ex (v_mt cx d_append (v_v 14 rfl rfl) (s_cons (s_tup (s_cons (v_lam (k := 5) (fr := fr_5) mk hlam (by kernel_rfl) (by kernel_rfl)) (s_cons (s_lst (s_cons (s_tup (s_cons s_str (s_cons (v_v 2 rfl rfl) (s_cons (v_v 3 rfl rfl) s_nil)))) s_nil)) s_nil))) s_nil)))
  (s_scons (s_ex (v_mt cx d_append (v_v 14 rfl rfl) (s_cons (s_tup (s_cons (v_lam (k := 6) (fr := fr_6) mk hlam (by kernel_rfl) (by kernel_rfl)) (s_cons (v_v 10 rfl rfl) s_nil))) s_nil)))
  (s_scons (s_ex (v_mt cx d_append (v_v 14 rfl rfl) (s_cons (s_tup (s_cons (v_lam (k := 7) (fr := fr_7) mk hlam (by kernel_rfl) (by kernel_rfl)) (s_cons (v_v 12 rfl rfl) s_nil))) s_nil)))
  (s_scons (s_ex (v_mt cx d_append (v_v 14 rfl rfl) (s_cons (s_tup (s_cons (v_lam (k := 8) (fr := fr_8) mk hlam (by kernel_rfl) (by kernel_rfl)) (s_cons (v_v 12 rfl rfl) s_nil))) s_nil)))
  (s_scons (s_ex (v_mt cx d_append (v_v 14 rfl rfl) (s_cons (s_tup (s_cons (v_lam (k := 9) (fr := fr_9) mk hlam (by kernel_rfl) (by kernel_rfl)) (s_cons (v_v 10 rfl rfl) s_nil))) s_nil)))
  (s_scons (s_ex (v_mt cx d_append (v_v 14 rfl rfl) (s_cons (s_tup (s_cons (v_lam (k := 10) (fr := fr_10) mk hlam (by kernel_rfl) (by kernel_rfl)) (s_cons (s_lst (s_cons (s_tup (s_cons s_str (s_cons (v_v 7 rfl rfl) (s_cons (v_v 8 rfl rfl) s_nil)))) s_nil)) s_nil))) s_nil)))
  (s_scons (s_ex (v_mt cx d_append (v_v 14 rfl rfl) (s_cons (s_tup (s_cons (v_lam (k := 11) (fr := fr_11) mk hlam (by kernel_rfl) (by kernel_rfl)) (s_cons (v_v 10 rfl rfl) s_nil))) s_nil)))
  (s_scons (s_ex (v_mt cx d_append (v_v 14 rfl rfl) (s_cons (s_tup (s_cons (v_lam (k := 12) (fr := fr_12) mk hlam (by kernel_rfl) (by kernel_rfl)) (s_cons (v_v 10 rfl rfl) s_nil))) s_nil)))
  (s_scons (s_ex (v_mt cx d_append (v_v 14 rfl rfl) (s_cons (s_tup (s_cons (v_lam (k := 13) (fr := fr_13) mk hlam (by kernel_rfl) (by kernel_rfl)) (s_cons (v_v 13 rfl rfl) s_nil))) s_nil)))
  (s_scons (s_ex (v_mt cx d_append (v_v 14 rfl rfl) (s_cons (s_tup (s_cons (v_lam (k := 14) (fr := fr_14) mk hlam (by kernel_rfl) (by kernel_rfl)) (s_cons (s_lst (s_cons (s_tup (s_cons s_str (s_cons (v_v 9 rfl rfl) (s_cons (v_kn cx hr k__law_is_int (by decide) rfl (s_cons (v_v 9 rfl rfl) (s_cons s_int (s_cons s_int s_nil)))) s_nil)))) s_nil)) s_nil))) s_nil)))
  (s_scons (s_ret (v_blt (f_all cx rfl) rfl b.all_ bo_all (s_cons (s_lcF (i := 14) cx fk rfl nd rfl rfl (own := [("look", 20), ("due", 21)]) (blkOk_by (by kernel_rfl)) (g_tp (g_scons g_nm (g_scons g_nm g_snil))) (fun s1 H1 C1 l1 f1 => (w_gtp rfl rfl (w_gscons (w_gnm (by decide) (pg_name (i := 20) nd rfl (loc_by rfl))) (w_gscons (w_gnm (by decide) (pg_name (i := 21) nd rfl (loc_by rfl))) w_gsnil)))) (fun s1 H1 C1 l1 f1 => s_tnil) (fun s1 H1 C1 l1 f1 => (v_kn (Cxg.blk cx) hr k__law_is_refused (by decide) rfl (s_cons (v_v 20 rfl rfl) (s_cons (v_kn (Cxg.blk cx) hr k__law_first (by decide) rfl (s_cons (v_v 21 rfl rfl) s_nil)) s_nil)))) (by kernel_rfl)) s_nil)))
  s_snil)))))))))))))))))))))))))))))))
theorem sc_law : FnScope N_law ["script"] (defScope (top 81)) := ⟨rfl, rfl, rfl, by decide +kernel, rfl, by decide +kernel, by decide +kernel⟩
theorem ok_law (F : FunD c.K "law" "law" (defArgs (top 81)) (defBody (top 81)) (defScope (top 81)) [] [] f fd) (b : Blt c) (k__law_cells : Kn P w c base 1 "_law_cells" 2 f__law_cells) (k__law_pot : Kn P w c base 1 "_law_pot" 2 f__law_pot) (k__law_right : Kn P w c base 19 "_law_right" 1 f__law_right) : FnG P w c base 20 f fd ["script"] f_law := by
  refine fun_okG F sc_law fun cdv A outer s H E hr hgu => ?_
  have nd := sc_law.nd
  have cx := cxg_of (P := P) (w := w) (c := c) (base := base) (N := N_law) (qual := "law") (scope := defScope (top 81)) (f := f) (cdv := cdv) (A := A) (outer := outer) (s := s) (H := H) (E := E) hgu
  exact (s_scons (s_for (passes_of rfl) rfl (s_iseq rfl (v_kn cx hr k__law_cells (by decide) rfl (s_cons (v_v 0 rfl rfl) (s_cons s_int s_nil)))) (s_gnm (pg_name (i := 1) nd rfl (loc_by rfl))) g_nm (s_scons (s_set (i := 2) nd rfl (loc_by rfl) (v_knM cx hr k__law_pot (by decide) rfl (s_cons (v_v 0 rfl rfl) (s_cons (v_v 1 rfl rfl) s_nil))))
  (s_scons (s_sif (s_tnot (s_tval (v_blt (f_all cx rfl) rfl b.all_ bo_all (s_cons (s_lc rfl nd (s_ir1 rfl b.range_ s_int) (own := [("lap", 3)]) (blkOk_by (by kernel_rfl)) g_nm (fun s1 H1 C1 l1 f1 => (w_gnm (by decide) (pg_name (i := 3) nd rfl (loc_by rfl)))) (fun s1 H1 C1 l1 f1 => s_tnil) (fun s1 H1 C1 l1 f1 => (v_kn (Cxg.blk cx) hr k__law_right (by decide) rfl (s_cons (v_v 2 rfl rfl) s_nil)))) s_nil)))) (s_scons (s_ret s_bool)
  s_snil) s_snil)
  s_snil)))
  (s_scons (s_ret s_bool)
  s_snil))
end
/-! ## the head -/
def d__law_cells : He.DefD := ⟨("_law_cells", none), "_law_cells", "_law_cells", defArgs (top 71), defBody (top 71), defScope (top 71), [], []⟩
def d__law_pot : He.DefD := ⟨("_law_pot", none), "_law_pot", "_law_pot", defArgs (top 68), defBody (top 68), defScope (top 68), [], []⟩
def d__law_take : He.DefD := ⟨("_law_take", none), "_law_take", "_law_take", defArgs (top 69), defBody (top 69), defScope (top 69), [], []⟩
def d__law_of : He.DefD := ⟨("_law_of", none), "_law_of", "_law_of", defArgs (top 70), defBody (top 70), defScope (top 70), [], []⟩
def d__law_any_plain : He.DefD := ⟨("_law_any_plain", none), "_law_any_plain", "_law_any_plain", defArgs (top 78), defBody (top 78), defScope (top 78), [], []⟩
def d__law_is_plain : He.DefD := ⟨("_law_is_plain", none), "_law_is_plain", "_law_is_plain", defArgs (top 73), defBody (top 73), defScope (top 73), [], []⟩
def d__law_are_places : He.DefD := ⟨("_law_are_places", none), "_law_are_places", "_law_are_places", defArgs (top 74), defBody (top 74), defScope (top 74), [], []⟩
def d__law_is_int : He.DefD := ⟨("_law_is_int", none), "_law_is_int", "_law_is_int", defArgs (top 77), defBody (top 77), defScope (top 77), [], []⟩
def d_is_integer : He.DefD := ⟨("is_integer", none), "is_integer", "is_integer", defArgs (top 11), defBody (top 11), defScope (top 11), [], []⟩
def d_is_between : He.DefD := ⟨("is_between", none), "is_between", "is_between", defArgs (top 12), defBody (top 12), defScope (top 12), [], []⟩
def d_are_between : He.DefD := ⟨("are_between", none), "are_between", "are_between", defArgs (top 13), defBody (top 13), defScope (top 13), [], []⟩
def d_is_plain : He.DefD := ⟨("is_plain", none), "is_plain", "is_plain", defArgs (top 16), defBody (top 16), defScope (top 16), [], []⟩
def d_check_plain : He.DefD := ⟨("check_plain", none), "check_plain", "check_plain", defArgs (top 17), defBody (top 17), defScope (top 17), [], []⟩
def d_stretches_of : He.DefD := ⟨("stretches_of", none), "stretches_of", "stretches_of", defArgs (top 25), defBody (top 25), defScope (top 25), [], []⟩
def d_stretches : He.DefD := ⟨("stretches", none), "stretches", "stretches", defArgs (top 26), defBody (top 26), defScope (top 26), [], []⟩
def d_how_many : He.DefD := ⟨("how_many", none), "how_many", "how_many", defArgs (top 27), defBody (top 27), defScope (top 27), [], []⟩
def d_least_of : He.DefD := ⟨("least_of", none), "least_of", "least_of", defArgs (top 29), defBody (top 29), defScope (top 29), [], []⟩
def d_seeds : He.DefD := ⟨("seeds", none), "seeds", "seeds", defArgs (top 31), defBody (top 31), defScope (top 31), [], []⟩
def d_least_around : He.DefD := ⟨("least_around", none), "least_around", "least_around", defArgs (top 30), defBody (top 30), defScope (top 30), [], []⟩
def d_check_rows : He.DefD := ⟨("check_rows", none), "check_rows", "check_rows", defArgs (top 32), defBody (top 32), defScope (top 32), [], []⟩
def d_side_by_side : He.DefD := ⟨("side_by_side", none), "side_by_side", "side_by_side", defArgs (top 33), defBody (top 33), defScope (top 33), [], []⟩
def d_shared_of : He.DefD := ⟨("shared_of", none), "shared_of", "shared_of", defArgs (top 34), defBody (top 34), defScope (top 34), [], []⟩
def d_shared : He.DefD := ⟨("shared", none), "shared", "shared", defArgs (top 35), defBody (top 35), defScope (top 35), [], []⟩
def d_do_clash : He.DefD := ⟨("do_clash", none), "do_clash", "do_clash", defArgs (top 36), defBody (top 36), defScope (top 36), [], []⟩
def d_shared_knots : He.DefD := ⟨("shared_knots", none), "shared_knots", "shared_knots", defArgs (top 37), defBody (top 37), defScope (top 37), [], []⟩
def d_do_cross : He.DefD := ⟨("do_cross", none), "do_cross", "do_cross", defArgs (top 28), defBody (top 28), defScope (top 28), [], []⟩
def d_knots_of : He.DefD := ⟨("knots_of", none), "knots_of", "knots_of", defArgs (top 50), defBody (top 50), defScope (top 50), [], []⟩
def d_pattern_of : He.DefD := ⟨("pattern_of", none), "pattern_of", "pattern_of", defArgs (top 53), defBody (top 53), defScope (top 53), [], []⟩
def d_is_within : He.DefD := ⟨("is_within", none), "is_within", "is_within", defArgs (top 51), defBody (top 51), defScope (top 51), [], []⟩
def d_parts_of : He.DefD := ⟨("parts_of", none), "parts_of", "parts_of", defArgs (top 52), defBody (top 52), defScope (top 52), [], []⟩
def d_home_of : He.DefD := ⟨("home_of", none), "home_of", "home_of", defArgs (top 18), defBody (top 18), defScope (top 18), [], []⟩
def d_kind_of : He.DefD := ⟨("kind_of", none), "kind_of", "kind_of", defArgs (top 54), defBody (top 54), defScope (top 54), [], []⟩
def d_knots : He.DefD := ⟨("knots", none), "knots", "knots", defArgs (top 55), defBody (top 55), defScope (top 55), [], []⟩
def d_check_knot : He.DefD := ⟨("check_knot", none), "check_knot", "check_knot", defArgs (top 56), defBody (top 56), defScope (top 56), [], []⟩
def d_parts : He.DefD := ⟨("parts", none), "parts", "parts", defArgs (top 58), defBody (top 58), defScope (top 58), [], []⟩
def d_pattern : He.DefD := ⟨("pattern", none), "pattern", "pattern", defArgs (top 57), defBody (top 57), defScope (top 57), [], []⟩
def d_tree_at : He.DefD := ⟨("tree_at", none), "tree_at", "tree_at", defArgs (top 59), defBody (top 59), defScope (top 59), [], []⟩
def d_tree_of : He.DefD := ⟨("tree_of", none), "tree_of", "tree_of", defArgs (top 60), defBody (top 60), defScope (top 60), [], []⟩
def d_tree : He.DefD := ⟨("tree", none), "tree", "tree", defArgs (top 61), defBody (top 61), defScope (top 61), [], []⟩
def d_wagons_of : He.DefD := ⟨("wagons_of", none), "wagons_of", "wagons_of", defArgs (top 62), defBody (top 62), defScope (top 62), [], []⟩
def d_is_tree : He.DefD := ⟨("is_tree", none), "is_tree", "is_tree", defArgs (top 63), defBody (top 63), defScope (top 63), [], []⟩
def d_row_by : He.DefD := ⟨("row_by", none), "row_by", "row_by", defArgs (top 64), defBody (top 64), defScope (top 64), [], []⟩
def d_simple_count : He.DefD := ⟨("simple_count", none), "simple_count", "simple_count", defArgs (top 42), defBody (top 42), defScope (top 42), [], []⟩
def d_ways_of : He.DefD := ⟨("ways_of", none), "ways_of", "ways_of", defArgs (top 65), defBody (top 65), defScope (top 65), [], []⟩
def d_like_rows : He.DefD := ⟨("like_rows", none), "like_rows", "like_rows", defArgs (top 66), defBody (top 66), defScope (top 66), [], []⟩
def d_is_simple_row : He.DefD := ⟨("is_simple_row", none), "is_simple_row", "is_simple_row", defArgs (top 40), defBody (top 40), defScope (top 40), [], []⟩
def d_is_simple : He.DefD := ⟨("is_simple", none), "is_simple", "is_simple", defArgs (top 41), defBody (top 41), defScope (top 41), [], []⟩
def d_put_in : He.DefD := ⟨("put_in", none), "put_in", "put_in", defArgs (top 44), defBody (top 44), defScope (top 44), [], []⟩
def d_check_counted : He.DefD := ⟨("check_counted", none), "check_counted", "check_counted", defArgs (top 22), defBody (top 22), defScope (top 22), [], []⟩
def d_all_plains : He.DefD := ⟨("all_plains", none), "all_plains", "all_plains", defArgs (top 21), defBody (top 21), defScope (top 21), [], []⟩
def d_counts_simple : He.DefD := ⟨("counts_simple", none), "counts_simple", "counts_simple", defArgs (top 43), defBody (top 43), defScope (top 43), [], []⟩
def d__law_heard : He.DefD := ⟨("_law_heard", none), "_law_heard", "_law_heard", defArgs (top 72), defBody (top 72), defScope (top 72), [], []⟩
def d__law_word : He.DefD := ⟨("_law_word", none), "_law_word", "_law_word", defArgs (top 79), defBody (top 79), defScope (top 79), [], []⟩
def d__law_is_refused : He.DefD := ⟨("_law_is_refused", none), "_law_is_refused", "_law_is_refused", defArgs (top 75), defBody (top 75), defScope (top 75), [], []⟩
def d__law_first : He.DefD := ⟨("_law_first", none), "_law_first", "_law_first", defArgs (top 76), defBody (top 76), defScope (top 76), [], []⟩
def d__law_right : He.DefD := ⟨("_law_right", none), "_law_right", "_law_right", defArgs (top 80), defBody (top 80), defScope (top 80), [], []⟩
def d_law : He.DefD := ⟨("law", none), "law", "law", defArgs (top 81), defBody (top 81), defScope (top 81), [], []⟩
def fns : List He.DefD := [d__law_cells, d__law_pot, d__law_take, d__law_of, d__law_any_plain, d__law_is_plain, d__law_are_places, d__law_is_int, d_is_integer, d_is_between, d_are_between, d_is_plain, d_check_plain, d_stretches_of, d_stretches, d_how_many, d_least_of, d_seeds, d_least_around, d_check_rows, d_side_by_side, d_shared_of, d_shared, d_do_clash, d_shared_knots, d_do_cross, d_knots_of, d_pattern_of, d_is_within, d_parts_of, d_home_of, d_kind_of, d_knots, d_check_knot, d_parts, d_pattern, d_tree_at, d_tree_of, d_tree, d_wagons_of, d_is_tree, d_row_by, d_simple_count, d_ways_of, d_like_rows, d_is_simple_row, d_is_simple, d_put_in, d_check_counted, d_all_plains, d_counts_simple, d__law_heard, d__law_word, d__law_is_refused, d__law_first, d__law_right, d_law]
def fas : List He.Fa := [.glo "_law_cells", .glo "_law_pot", .glo "_law_take", .glo "_law_of", .glo "_law_any_plain", .glo "_law_is_plain", .glo "_law_are_places", .glo "_law_is_int", .glo "is_integer", .glo "is_between", .glo "are_between", .glo "is_plain", .glo "check_plain", .glo "stretches_of", .glo "stretches", .glo "how_many", .glo "least_of", .glo "seeds", .glo "least_around", .glo "check_rows", .glo "side_by_side", .glo "shared_of", .glo "shared", .glo "do_clash", .glo "shared_knots", .glo "do_cross", .glo "knots_of", .glo "pattern_of", .glo "is_within", .glo "parts_of", .glo "home_of", .glo "kind_of", .glo "knots", .glo "check_knot", .glo "parts", .glo "pattern", .glo "tree_at", .glo "tree_of", .glo "tree", .glo "wagons_of", .glo "is_tree", .glo "row_by", .glo "simple_count", .glo "ways_of", .glo "like_rows", .glo "is_simple_row", .glo "is_simple", .glo "put_in", .glo "check_counted", .glo "all_plains", .glo "counts_simple", .glo "_law_heard", .glo "_law_word", .glo "_law_is_refused", .glo "_law_first", .glo "_law_right", .glo "law", .free "abs", .free "all", .free "any", .free "bool", .free "int", .free "isinstance", .free "len", .free "list", .free "max", .free "min", .free "range", .free "repr", .free "set", .free "sorted", .free "str", .free "tuple", .str "DOWN" "down", .int "MOST_COUNTED" 6, .int "MOST_ROWS" 6, .int "MOST_WAGONS" 12, .str "ONE" "one", .str "PRIME" "prime", .str "UP" "up", .glo "FEW", .glo "TurnError", .glo "BadKnot", .glo "BadMany", .glo "BadPlace", .glo "BadPlain", .glo "BadRows", .glo "BadTree", .glo "Single", .glo "TooMany", .free "super"]
def im : Stmt := (C8.clsBody (top 1)).getD 0 (.Pass ⟨0, 0, 0, 0⟩)
abbrev aD (K : PySem.W.Frag) : Addr := He.ga K "TurnError"
abbrev aI (K : PySem.W.Frag) : Addr := He.fAd K ("TurnError", some "__init__")
def prog : Program := PySem.Challenge.pw_endforend_k22_what_stretches_and_knots_r

/-- all that is asked of the written part by one Bool -/
def exK (K : PySem.W.Frag) : Bool := iniB prog.main.file K (aD K) (aI K) && ((excs.all fun n => exB K (aD K) (aI K) (He.ga K n)) && ((excs.all fun n => excs.all fun y => decide (PySem.W.kitOne K (.ref (He.ga K n)) (.ref (He.ga K y)) = some (decide (n = y)))) && (true && decide ((He.cT K ("least_of", none)).2 ≠ (He.cT K ("_law_right", none)).2) && (He.tupB K "FEW" (tupD [1, 2, 0, 2, 6, 46, 338, 2926, 28146, 298526, 3454434, 43286528]) && kndB K (He.ga K "FEW")))))
def zI : FnZ := some ("__init__", "TurnError.__init__", defArgs im, .stmts (defBody im), defScope im, mainGlobals, ["__class__"], builtinsNs)
abbrev tfs : List He.Defn := [("least_of", none), ("_law_right", none)]
end K22
set_option maxRecDepth 100000
set_option maxHeartbeats 0
namespace K22
open PySem PySem.Spec PyProof.Rows L2 MI LamX
abbrev R : PySem.W.OpenRow := PySem.W.OpenLaw.row PySem.Challenge.rw_endforend_k22_what_stretches_and_knots_r
abbrev loose : List PySem.Str := ("TurnError" : PySem.Str) :: ("BadKnot" : PySem.Str) :: ("BadMany" : PySem.Str) :: ("BadPlace" : PySem.Str) :: ("BadPlain" : PySem.Str) :: ("BadRows" : PySem.Str) :: ("BadTree" : PySem.Str) :: ("Single" : PySem.Str) :: ("TooMany" : PySem.Str) :: ("is_integer" : PySem.Str) :: ("is_between" : PySem.Str) :: ("are_between" : PySem.Str) :: ("MOST_WAGONS" : PySem.Str) :: ("is_plain" : PySem.Str) :: ("check_plain" : PySem.Str) :: ("home_of" : PySem.Str) :: ("MOST_COUNTED" : PySem.Str) :: ("all_plains" : PySem.Str) :: ("check_counted" : PySem.Str) :: ("MOST_ROWS" : PySem.Str) :: ("stretches_of" : PySem.Str) :: ("stretches" : PySem.Str) :: ("how_many" : PySem.Str) :: ("do_cross" : PySem.Str) :: ("least_of" : PySem.Str) :: ("least_around" : PySem.Str) :: ("seeds" : PySem.Str) :: ("check_rows" : PySem.Str) :: ("side_by_side" : PySem.Str) :: ("shared_of" : PySem.Str) :: ("shared" : PySem.Str) :: ("do_clash" : PySem.Str) :: ("shared_knots" : PySem.Str) :: ("FEW" : PySem.Str) :: ("is_simple_row" : PySem.Str) :: ("is_simple" : PySem.Str) :: ("simple_count" : PySem.Str) :: ("counts_simple" : PySem.Str) :: ("put_in" : PySem.Str) :: ("ONE" : PySem.Str) :: ("UP" : PySem.Str) :: ("DOWN" : PySem.Str) :: ("PRIME" : PySem.Str) :: ("knots_of" : PySem.Str) :: ("is_within" : PySem.Str) :: ("parts_of" : PySem.Str) :: ("pattern_of" : PySem.Str) :: ("kind_of" : PySem.Str) :: ("knots" : PySem.Str) :: ("check_knot" : PySem.Str) :: ("pattern" : PySem.Str) :: ("parts" : PySem.Str) :: ("tree_at" : PySem.Str) :: ("tree_of" : PySem.Str) :: ("tree" : PySem.Str) :: ("wagons_of" : PySem.Str) :: ("is_tree" : PySem.Str) :: ("row_by" : PySem.Str) :: ("ways_of" : PySem.Str) :: ("like_rows" : PySem.Str) :: ("_law_pot" : PySem.Str) :: ("_law_take" : PySem.Str) :: ("_law_of" : PySem.Str) :: ("_law_cells" : PySem.Str) :: ("_law_heard" : PySem.Str) :: ("_law_is_plain" : PySem.Str) :: ("_law_are_places" : PySem.Str) :: ("_law_is_refused" : PySem.Str) :: ("_law_first" : PySem.Str) :: ("_law_is_int" : PySem.Str) :: ("_law_any_plain" : PySem.Str) :: ("_law_word" : PySem.Str) :: ("_law_right" : PySem.Str) :: []
abbrev hk : PySem.W.Hook := He.hookI 8 fas fns tfs exK aI zI
def ob (s : PySem.W.SharedT) : He.AlX × FnZ := He.obsI 8 fas fns tfs exK aI (HandSHeadRun.getT s)
theorem ob_eq (s : PySem.W.SharedT) : ob s = hk.obs s.abs := He.obsI_eq (z := zI) (HandSHeadRun.getT_eq s)
theorem run (w : World) : HandSHeadRun.RunEq R (PySem.W.view R.prog [81]) hk ob 4000 loose w := by
  intro os
  kernel_rfl
end K22
set_option maxRecDepth 100000
set_option maxHeartbeats 0
namespace K22
open PySem PySem.Spec PyProof.Rows L2 MI LamX
/-- what the head tells -/
theorem facts (w : World) (mg : Str → Option Value) (fa : Addr) (h : Heap) (Y : hk.says w h) (G : h.Ns mainGlobals mg) (hfa : mg ("law" : Str) = some (.ref fa)) : LawT PySem.Challenge.rw_endforend_k22_what_stretches_and_knots_r w 20 "script" f_law mg fa h := by
  obtain ⟨K, X, sx, hz⟩ := Y
  have c : He.SaysD fas fns K := sx.t.d
  have hex : exK K = true := sx.more
  unfold exK at hex
  simp only [Bool.and_eq_true, List.all_eq_true, decide_eq_true_eq] at hex
  obtain ⟨x1, x2, x3, x4⟩ := hex
  obtain ⟨fdI, hI⟩ := ini_ok (P := prog) hz x1
  refine ⟨K, ?_⟩
  obtain ⟨fd, F⟩ := c.def_ 56 (d := d_law) rfl
  have e := hfa.symm.trans (He.glo_ok X G (c.fact 56 (f := .glo "law") rfl))
  cases e
  have bs := FunD.bindsA (ps := ["script"]) F fun _ _ _ _ _ _ us hl => match us, hl with | [_], _ => rfl
  refine ⟨fd, tfs.map (He.cT K), (fun a => if a = (He.cT K ("least_of", none)).2 then ("least_of.<locals>.<lambda>" : Str) else ("_law_right.<locals>.<lambda>" : Str)), lamI, X, ?_, ?_, ?_, fun s v => bs s [v] rfl, fun base XB GB TB => ?_⟩
  · intro p hp
    obtain ⟨q, hq, rfl⟩ := List.mem_map.mp hp
    exact sx.empty q hq
  · intro p hp
    obtain ⟨q, hq, rfl⟩ := List.mem_map.mp hp
    exact sx.out q hq
  · intro p hp
    obtain ⟨q, hq, rfl⟩ := List.mem_map.mp hp
    exact PySem.W.codeHd_of_K X (sx.hd q hq)
  generalize hT : ((tfs.map (He.cT K)).map fun p => (p.2, (fun a => if a = (He.cT K ("least_of", none)).2 then ("least_of.<locals>.<lambda>" : Str) else ("_law_right.<locals>.<lambda>" : Str)) p.2)) = T
  have inT : ∀ q ∈ tfs, ((He.cT K q).2, (fun a => if a = (He.cT K ("least_of", none)).2 then ("least_of.<locals>.<lambda>" : Str) else ("_law_right.<locals>.<lambda>" : Str)) (He.cT K q).2) ∈ T := fun q hq => by rw [← hT]; exact List.mem_map.mpr ⟨_, List.mem_map.mpr ⟨q, hq, rfl⟩, rfl⟩
  have unT : ∀ p ∈ T, p.2 = (fun a => if a = (He.cT K ("least_of", none)).2 then ("least_of.<locals>.<lambda>" : Str) else ("_law_right.<locals>.<lambda>" : Str)) p.1 := fun p hp => by rw [← hT] at hp; obtain ⟨x, _, rfl⟩ := List.mem_map.mp hp; rfl
  have b : ∀ own, Blt ⟨K, mg, T, lamI, own⟩ := fun own => ⟨He.free_ok X G (c.fact 57 (f := .free "abs") rfl), He.free_ok X G (c.fact 58 (f := .free "all") rfl), He.free_ok X G (c.fact 59 (f := .free "any") rfl), He.free_ok X G (c.fact 60 (f := .free "bool") rfl), He.free_ok X G (c.fact 61 (f := .free "int") rfl), He.free_ok X G (c.fact 62 (f := .free "isinstance") rfl), He.free_ok X G (c.fact 63 (f := .free "len") rfl), He.free_ok X G (c.fact 64 (f := .free "list") rfl), He.free_ok X G (c.fact 65 (f := .free "max") rfl), He.free_ok X G (c.fact 66 (f := .free "min") rfl), He.free_ok X G (c.fact 67 (f := .free "range") rfl), He.free_ok X G (c.fact 68 (f := .free "repr") rfl), He.free_ok X G (c.fact 69 (f := .free "set") rfl), He.free_ok X G (c.fact 70 (f := .free "sorted") rfl), He.free_ok X G (c.fact 71 (f := .free "str") rfl), He.free_ok X G (c.fact 72 (f := .free "tuple") rfl), He.str_ok X G (c.fact 73 (f := .str "DOWN" "down") rfl), He.int_ok X G (c.fact 74 (f := .int "MOST_COUNTED" 6) rfl), He.int_ok X G (c.fact 75 (f := .int "MOST_ROWS" 6) rfl), He.int_ok X G (c.fact 76 (f := .int "MOST_WAGONS" 12) rfl), He.str_ok X G (c.fact 77 (f := .str "ONE" "one") rfl), He.str_ok X G (c.fact 78 (f := .str "PRIME" "prime") rfl), He.str_ok X G (c.fact 79 (f := .str "UP" "up") rfl), ⟨_, He.glo_ok X G (c.fact 80 (f := .glo "FEW") rfl), ktup_of x4.2⟩⟩
  have gD := He.glo_ok X G (c.fact 81 (f := .glo "TurnError") rfl)
  have gE : ∀ n, n ∈ excs → mg n = some (.ref (He.ga K n)) := fun n hn => He.glo_ok X G (c.facts (f := .glo n) (by
    simp only [excs, List.mem_cons, List.not_mem_nil, or_false] at hn
    rcases hn with rfl | rfl | rfl | rfl | rfl | rfl | rfl | rfl <;> simp [fas]))
  have exf : ∀ n, n ∈ excs → ExF K (aD K) (aI K) (He.ga K n) := fun n hn => exB_ok (x2 n hn)
  have kx : ∀ own, KxF ⟨K, mg, T, lamI, own⟩ excs := fun own => ⟨⟨aD K, aI K, fun n hn => ⟨_, gE n hn, exf n hn⟩⟩, fun n y C E hn hy hC hE => by
    have e1 := (gE n hn).symm.trans hC
    have e2 := (gE y hy).symm.trans hE
    cases e1
    cases e2
    exact x3 n hn y hy⟩
  have rt : ∀ own, RtF ⟨K, mg, T, lamI, own⟩ excs "TurnError" := fun own => ⟨⟨aD K, aI K, gD, fun n hn => ⟨_, gE n hn, exf n hn⟩⟩⟩
  have tyI := ini_ty x1
  have bI : Binds K fdI ["self", "value"] [] := ini_binds hI fun _ _ _ _ _ us hl => match us, hl with | [_, _], _ => rfl
  have fI : FnOk prog w K mg base (L2.CX prog w) 1 (aI K) fdI ["self", "value"] (spI K (aD K)) := init_fn hI rfl (NdefX.nscope_by (by kernel_rfl)) rfl (He.free_ok X G (c.fact 90 (f := .free "super") rfl)) rfl (by decide +kernel) (fun env => ⟨_, rfl⟩)
  have ke : ∀ n, n ∈ excs → ∀ own, KnE prog w ⟨K, mg, T, lamI, own⟩ base 1 n := fun n hn own => kne_of (D := aD K) (fI := aI K) ⟨_, gE n hn, exf n hn⟩ tyI fI bI
  have ke_BadKnot := ke "BadKnot" (by decide)
  have ke_BadMany := ke "BadMany" (by decide)
  have ke_BadPlace := ke "BadPlace" (by decide)
  have ke_BadPlain := ke "BadPlain" (by decide)
  have ke_BadRows := ke "BadRows" (by decide)
  have ke_BadTree := ke "BadTree" (by decide)
  have ke_Single := ke "Single" (by decide)
  have ke_TooMany := ke "TooMany" (by decide)
  obtain ⟨fd__law_cells, F__law_cells⟩ := c.def_ 0 (d := d__law_cells) rfl
  have k__law_cells : ∀ own, Kn prog w ⟨K, mg, T, lamI, own⟩ base 1 "_law_cells" 2 f__law_cells := fun own => ⟨_, fd__law_cells, ["script", "limit"], ok__law_cells F__law_cells (b own), (He.glo_ok X G (c.fact 0 (f := .glo "_law_cells") rfl)), F__law_cells.kp, (FunD.bindsN (ps := ["script", "limit"]) F__law_cells fun _ _ _ _ _ _ us hl => match us, hl with | [_, _], _ => rfl), rfl⟩
  obtain ⟨fd__law_pot, F__law_pot⟩ := c.def_ 1 (d := d__law_pot) rfl
  have k__law_pot : ∀ own, Kn prog w ⟨K, mg, T, lamI, own⟩ base 1 "_law_pot" 2 f__law_pot := fun own => ⟨_, fd__law_pot, ["script", "place"], ok__law_pot F__law_pot (b own), (He.glo_ok X G (c.fact 1 (f := .glo "_law_pot") rfl)), F__law_pot.kp, (FunD.bindsN (ps := ["script", "place"]) F__law_pot fun _ _ _ _ _ _ us hl => match us, hl with | [_, _], _ => rfl), rfl⟩
  obtain ⟨fd__law_take, F__law_take⟩ := c.def_ 2 (d := d__law_take) rfl
  have k__law_take : ∀ own, Kn prog w ⟨K, mg, T, lamI, own⟩ base 1 "_law_take" 2 f__law_take := fun own => ⟨_, fd__law_take, ["pot", "upto"], ok__law_take F__law_take (b own), (He.glo_ok X G (c.fact 2 (f := .glo "_law_take") rfl)), F__law_take.kp, (FunD.bindsN (ps := ["pot", "upto"]) F__law_take fun _ _ _ _ _ _ us hl => match us, hl with | [_, _], _ => rfl), rfl⟩
  obtain ⟨fd__law_of, F__law_of⟩ := c.def_ 3 (d := d__law_of) rfl
  have k__law_of : ∀ own, Kn prog w ⟨K, mg, T, lamI, own⟩ base 2 "_law_of" 2 f__law_of := fun own => ⟨_, fd__law_of, ["pot", "some"], ok__law_of F__law_of (b own) (k__law_take own), (He.glo_ok X G (c.fact 3 (f := .glo "_law_of") rfl)), F__law_of.kp, (FunD.bindsN (ps := ["pot", "some"]) F__law_of fun _ _ _ _ _ _ us hl => match us, hl with | [_, _], _ => rfl), rfl⟩
  obtain ⟨fd__law_any_plain, F__law_any_plain⟩ := c.def_ 4 (d := d__law_any_plain) rfl
  have k__law_any_plain : ∀ own, Kn prog w ⟨K, mg, T, lamI, own⟩ base 3 "_law_any_plain" 1 f__law_any_plain := fun own => ⟨_, fd__law_any_plain, ["pot"], ok__law_any_plain F__law_any_plain (b own) (k__law_take own) (k__law_of own), (He.glo_ok X G (c.fact 4 (f := .glo "_law_any_plain") rfl)), F__law_any_plain.kp, (FunD.bindsN (ps := ["pot"]) F__law_any_plain fun _ _ _ _ _ _ us hl => match us, hl with | [_], _ => rfl), rfl⟩
  obtain ⟨fd__law_is_plain, F__law_is_plain⟩ := c.def_ 5 (d := d__law_is_plain) rfl
  have k__law_is_plain : ∀ own, Kn prog w ⟨K, mg, T, lamI, own⟩ base 1 "_law_is_plain" 1 f__law_is_plain := fun own => ⟨_, fd__law_is_plain, ["value"], ok__law_is_plain F__law_is_plain (b own), (He.glo_ok X G (c.fact 5 (f := .glo "_law_is_plain") rfl)), F__law_is_plain.kp, (FunD.bindsN (ps := ["value"]) F__law_is_plain fun _ _ _ _ _ _ us hl => match us, hl with | [_], _ => rfl), rfl⟩
  obtain ⟨fd__law_are_places, F__law_are_places⟩ := c.def_ 6 (d := d__law_are_places) rfl
  have k__law_are_places : ∀ own, Kn prog w ⟨K, mg, T, lamI, own⟩ base 1 "_law_are_places" 3 f__law_are_places := fun own => ⟨_, fd__law_are_places, ["many", "value", "size"], ok__law_are_places F__law_are_places (b own), (He.glo_ok X G (c.fact 6 (f := .glo "_law_are_places") rfl)), F__law_are_places.kp, (FunD.bindsN (ps := ["many", "value", "size"]) F__law_are_places fun _ _ _ _ _ _ us hl => match us, hl with | [_, _, _], _ => rfl), rfl⟩
  obtain ⟨fd__law_is_int, F__law_is_int⟩ := c.def_ 7 (d := d__law_is_int) rfl
  have k__law_is_int : ∀ own, Kn prog w ⟨K, mg, T, lamI, own⟩ base 1 "_law_is_int" 3 f__law_is_int := fun own => ⟨_, fd__law_is_int, ["value", "low", "high"], ok__law_is_int F__law_is_int (b own), (He.glo_ok X G (c.fact 7 (f := .glo "_law_is_int") rfl)), F__law_is_int.kp, (FunD.bindsN (ps := ["value", "low", "high"]) F__law_is_int fun _ _ _ _ _ _ us hl => match us, hl with | [_, _, _], _ => rfl), rfl⟩
  obtain ⟨fd_is_integer, F_is_integer⟩ := c.def_ 8 (d := d_is_integer) rfl
  have k_is_integer : ∀ own, Kn prog w ⟨K, mg, T, lamI, own⟩ base 1 "is_integer" 1 f_is_integer := fun own => ⟨_, fd_is_integer, ["value"], ok_is_integer F_is_integer (b own), (He.glo_ok X G (c.fact 8 (f := .glo "is_integer") rfl)), F_is_integer.kp, (FunD.bindsN (ps := ["value"]) F_is_integer fun _ _ _ _ _ _ us hl => match us, hl with | [_], _ => rfl), rfl⟩
  obtain ⟨fd_is_between, F_is_between⟩ := c.def_ 9 (d := d_is_between) rfl
  have k_is_between : ∀ own, Kn prog w ⟨K, mg, T, lamI, own⟩ base 2 "is_between" 3 f_is_between := fun own => ⟨_, fd_is_between, ["value", "low", "high"], ok_is_between F_is_between (b own) (k_is_integer own), (He.glo_ok X G (c.fact 9 (f := .glo "is_between") rfl)), F_is_between.kp, (FunD.bindsN (ps := ["value", "low", "high"]) F_is_between fun _ _ _ _ _ _ us hl => match us, hl with | [_, _, _], _ => rfl), rfl⟩
  obtain ⟨fd_are_between, F_are_between⟩ := c.def_ 10 (d := d_are_between) rfl
  have k_are_between : ∀ own, Kn prog w ⟨K, mg, T, lamI, own⟩ base 3 "are_between" 3 f_are_between := fun own => ⟨_, fd_are_between, ["value", "low", "high"], ok_are_between F_are_between (b own) (k_is_between own), (He.glo_ok X G (c.fact 10 (f := .glo "are_between") rfl)), F_are_between.kp, (FunD.bindsN (ps := ["value", "low", "high"]) F_are_between fun _ _ _ _ _ _ us hl => match us, hl with | [_, _, _], _ => rfl), rfl⟩
  obtain ⟨fd_is_plain, F_is_plain⟩ := c.def_ 11 (d := d_is_plain) rfl
  have k_is_plain : ∀ own, Kn prog w ⟨K, mg, T, lamI, own⟩ base 4 "is_plain" 1 f_is_plain := fun own => ⟨_, fd_is_plain, ["value"], ok_is_plain F_is_plain (b own) (k_are_between own), (He.glo_ok X G (c.fact 11 (f := .glo "is_plain") rfl)), F_is_plain.kp, (FunD.bindsN (ps := ["value"]) F_is_plain fun _ _ _ _ _ _ us hl => match us, hl with | [_], _ => rfl), rfl⟩
  obtain ⟨fd_check_plain, F_check_plain⟩ := c.def_ 12 (d := d_check_plain) rfl
  have k_check_plain : ∀ own, Kn prog w ⟨K, mg, T, lamI, own⟩ base 5 "check_plain" 1 f_check_plain := fun own => ⟨_, fd_check_plain, ["value"], ok_check_plain F_check_plain (b own) (k_is_plain own) (ke_BadPlain own), (He.glo_ok X G (c.fact 12 (f := .glo "check_plain") rfl)), F_check_plain.kp, (FunD.bindsN (ps := ["value"]) F_check_plain fun _ _ _ _ _ _ us hl => match us, hl with | [_], _ => rfl), rfl⟩
  obtain ⟨fd_stretches_of, F_stretches_of⟩ := c.def_ 13 (d := d_stretches_of) rfl
  have k_stretches_of : ∀ own, Kn prog w ⟨K, mg, T, lamI, own⟩ base 1 "stretches_of" 1 f_stretches_of := fun own => ⟨_, fd_stretches_of, ["row"], ok_stretches_of F_stretches_of (b own), (He.glo_ok X G (c.fact 13 (f := .glo "stretches_of") rfl)), F_stretches_of.kp, (FunD.bindsN (ps := ["row"]) F_stretches_of fun _ _ _ _ _ _ us hl => match us, hl with | [_], _ => rfl), rfl⟩
  obtain ⟨fd_stretches, F_stretches⟩ := c.def_ 14 (d := d_stretches) rfl
  have k_stretches : ∀ own, Kn prog w ⟨K, mg, T, lamI, own⟩ base 6 "stretches" 1 f_stretches := fun own => ⟨_, fd_stretches, ["row"], ok_stretches F_stretches (b own) (k_check_plain own) (k_stretches_of own), (He.glo_ok X G (c.fact 14 (f := .glo "stretches") rfl)), F_stretches.kp, (FunD.bindsN (ps := ["row"]) F_stretches fun _ _ _ _ _ _ us hl => match us, hl with | [_], _ => rfl), rfl⟩
  obtain ⟨fd_how_many, F_how_many⟩ := c.def_ 15 (d := d_how_many) rfl
  have k_how_many : ∀ own, Kn prog w ⟨K, mg, T, lamI, own⟩ base 6 "how_many" 1 f_how_many := fun own => ⟨_, fd_how_many, ["row"], ok_how_many F_how_many (b own) (k_check_plain own) (k_stretches_of own), (He.glo_ok X G (c.fact 15 (f := .glo "how_many") rfl)), F_how_many.kp, (FunD.bindsN (ps := ["row"]) F_how_many fun _ _ _ _ _ _ us hl => match us, hl with | [_], _ => rfl), rfl⟩
  obtain ⟨fd_least_of, F_least_of⟩ := c.def_ 16 (d := d_least_of) rfl
  have k_least_of : ∀ own, Kn prog w ⟨K, mg, T, lamI, own⟩ base 2 "least_of" 2 f_least_of := fun own => ⟨_, fd_least_of, ["row", "place"], ok_least_of F_least_of (b own) (k_stretches_of own) (P0 := (He.cT K ("least_of", none)).2) (TB (He.cT K ("least_of", none)) (List.mem_map.mpr ⟨("least_of", none), by simp [tfs], rfl⟩)) (Eq.mp (congrArg (fun q : Str => ((He.cT K ("least_of", none)).2, q) ∈ T) (show (fun a => if a = (He.cT K ("least_of", none)).2 then ("least_of.<locals>.<lambda>" : Str) else ("_law_right.<locals>.<lambda>" : Str)) (He.cT K ("least_of", none)).2 = "least_of.<locals>.<lambda>" from (if_pos rfl))) (inT ("least_of", none) (by simp [tfs]))) (fun p hp e => (unT p hp).trans ((congrArg (fun a => if a = (He.cT K ("least_of", none)).2 then ("least_of.<locals>.<lambda>" : Str) else ("_law_right.<locals>.<lambda>" : Str)) e).trans (show (fun a => if a = (He.cT K ("least_of", none)).2 then ("least_of.<locals>.<lambda>" : Str) else ("_law_right.<locals>.<lambda>" : Str)) (He.cT K ("least_of", none)).2 = "least_of.<locals>.<lambda>" from (if_pos rfl)))), (He.glo_ok X G (c.fact 16 (f := .glo "least_of") rfl)), F_least_of.kp, (FunD.bindsN (ps := ["row", "place"]) F_least_of fun _ _ _ _ _ _ us hl => match us, hl with | [_, _], _ => rfl), rfl⟩
  obtain ⟨fd_seeds, F_seeds⟩ := c.def_ 17 (d := d_seeds) rfl
  have k_seeds : ∀ own, Kn prog w ⟨K, mg, T, lamI, own⟩ base 6 "seeds" 1 f_seeds := fun own => ⟨_, fd_seeds, ["row"], ok_seeds F_seeds (b own) (k_check_plain own) (k_least_of own), (He.glo_ok X G (c.fact 17 (f := .glo "seeds") rfl)), F_seeds.kp, (FunD.bindsN (ps := ["row"]) F_seeds fun _ _ _ _ _ _ us hl => match us, hl with | [_], _ => rfl), rfl⟩
  obtain ⟨fd_least_around, F_least_around⟩ := c.def_ 18 (d := d_least_around) rfl
  have k_least_around : ∀ own, Kn prog w ⟨K, mg, T, lamI, own⟩ base 6 "least_around" 2 f_least_around := fun own => ⟨_, fd_least_around, ["row", "place"], ok_least_around F_least_around (b own) (k_check_plain own) (k_is_between own) (k_least_of own) (ke_BadPlace own), (He.glo_ok X G (c.fact 18 (f := .glo "least_around") rfl)), F_least_around.kp, (FunD.bindsN (ps := ["row", "place"]) F_least_around fun _ _ _ _ _ _ us hl => match us, hl with | [_, _], _ => rfl), rfl⟩
  obtain ⟨fd_check_rows, F_check_rows⟩ := c.def_ 19 (d := d_check_rows) rfl
  have k_check_rows : ∀ own, Kn prog w ⟨K, mg, T, lamI, own⟩ base 5 "check_rows" 1 f_check_rows := fun own => ⟨_, fd_check_rows, ["rows"], ok_check_rows F_check_rows (b own) (k_is_plain own) (ke_BadRows own), (He.glo_ok X G (c.fact 19 (f := .glo "check_rows") rfl)), F_check_rows.kp, (FunD.bindsN (ps := ["rows"]) F_check_rows fun _ _ _ _ _ _ us hl => match us, hl with | [_], _ => rfl), rfl⟩
  obtain ⟨fd_side_by_side, F_side_by_side⟩ := c.def_ 20 (d := d_side_by_side) rfl
  have k_side_by_side : ∀ own, Kn prog w ⟨K, mg, T, lamI, own⟩ base 1 "side_by_side" 2 f_side_by_side := fun own => ⟨_, fd_side_by_side, ["row", "lot"], ok_side_by_side F_side_by_side (b own), (He.glo_ok X G (c.fact 20 (f := .glo "side_by_side") rfl)), F_side_by_side.kp, (FunD.bindsN (ps := ["row", "lot"]) F_side_by_side fun _ _ _ _ _ _ us hl => match us, hl with | [_, _], _ => rfl), rfl⟩
  obtain ⟨fd_shared_of, F_shared_of⟩ := c.def_ 21 (d := d_shared_of) rfl
  have k_shared_of : ∀ own, Kn prog w ⟨K, mg, T, lamI, own⟩ base 2 "shared_of" 1 f_shared_of := fun own => ⟨_, fd_shared_of, ["rows"], ok_shared_of F_shared_of (b own) (k_side_by_side own), (He.glo_ok X G (c.fact 21 (f := .glo "shared_of") rfl)), F_shared_of.kp, (FunD.bindsN (ps := ["rows"]) F_shared_of fun _ _ _ _ _ _ us hl => match us, hl with | [_], _ => rfl), rfl⟩
  obtain ⟨fd_shared, F_shared⟩ := c.def_ 22 (d := d_shared) rfl
  have k_shared : ∀ own, Kn prog w ⟨K, mg, T, lamI, own⟩ base 6 "shared" 1 f_shared := fun own => ⟨_, fd_shared, ["rows"], ok_shared F_shared (b own) (k_check_rows own) (k_shared_of own), (He.glo_ok X G (c.fact 22 (f := .glo "shared") rfl)), F_shared.kp, (FunD.bindsN (ps := ["rows"]) F_shared fun _ _ _ _ _ _ us hl => match us, hl with | [_], _ => rfl), rfl⟩
  obtain ⟨fd_do_clash, F_do_clash⟩ := c.def_ 23 (d := d_do_clash) rfl
  have k_do_clash : ∀ own, Kn prog w ⟨K, mg, T, lamI, own⟩ base 1 "do_clash" 2 f_do_clash := fun own => ⟨_, fd_do_clash, ["one", "other"], ok_do_clash F_do_clash (b own), (He.glo_ok X G (c.fact 23 (f := .glo "do_clash") rfl)), F_do_clash.kp, (FunD.bindsN (ps := ["one", "other"]) F_do_clash fun _ _ _ _ _ _ us hl => match us, hl with | [_, _], _ => rfl), rfl⟩
  obtain ⟨fd_shared_knots, F_shared_knots⟩ := c.def_ 24 (d := d_shared_knots) rfl
  have k_shared_knots : ∀ own, Kn prog w ⟨K, mg, T, lamI, own⟩ base 6 "shared_knots" 1 f_shared_knots := fun own => ⟨_, fd_shared_knots, ["rows"], ok_shared_knots F_shared_knots (b own) (k_check_rows own) (k_shared_of own) (k_do_clash own), (He.glo_ok X G (c.fact 24 (f := .glo "shared_knots") rfl)), F_shared_knots.kp, (FunD.bindsN (ps := ["rows"]) F_shared_knots fun _ _ _ _ _ _ us hl => match us, hl with | [_], _ => rfl), rfl⟩
  obtain ⟨fd_do_cross, F_do_cross⟩ := c.def_ 25 (d := d_do_cross) rfl
  have k_do_cross : ∀ own, Kn prog w ⟨K, mg, T, lamI, own⟩ base 1 "do_cross" 2 f_do_cross := fun own => ⟨_, fd_do_cross, ["one", "other"], ok_do_cross F_do_cross (b own), (He.glo_ok X G (c.fact 25 (f := .glo "do_cross") rfl)), F_do_cross.kp, (FunD.bindsN (ps := ["one", "other"]) F_do_cross fun _ _ _ _ _ _ us hl => match us, hl with | [_, _], _ => rfl), rfl⟩
  obtain ⟨fd_knots_of, F_knots_of⟩ := c.def_ 26 (d := d_knots_of) rfl
  have k_knots_of : ∀ own, Kn prog w ⟨K, mg, T, lamI, own⟩ base 2 "knots_of" 1 f_knots_of := fun own => ⟨_, fd_knots_of, ["row"], ok_knots_of F_knots_of (b own) (k_stretches_of own) (k_do_cross own), (He.glo_ok X G (c.fact 26 (f := .glo "knots_of") rfl)), F_knots_of.kp, (FunD.bindsN (ps := ["row"]) F_knots_of fun _ _ _ _ _ _ us hl => match us, hl with | [_], _ => rfl), rfl⟩
  obtain ⟨fd_pattern_of, F_pattern_of⟩ := c.def_ 27 (d := d_pattern_of) rfl
  have k_pattern_of : ∀ own, Kn prog w ⟨K, mg, T, lamI, own⟩ base 1 "pattern_of" 2 f_pattern_of := fun own => ⟨_, fd_pattern_of, ["row", "spans"], ok_pattern_of F_pattern_of (b own), (He.glo_ok X G (c.fact 27 (f := .glo "pattern_of") rfl)), F_pattern_of.kp, (FunD.bindsN (ps := ["row", "spans"]) F_pattern_of fun _ _ _ _ _ _ us hl => match us, hl with | [_, _], _ => rfl), rfl⟩
  obtain ⟨fd_is_within, F_is_within⟩ := c.def_ 28 (d := d_is_within) rfl
  have k_is_within : ∀ own, Kn prog w ⟨K, mg, T, lamI, own⟩ base 1 "is_within" 2 f_is_within := fun own => ⟨_, fd_is_within, ["one", "other"], ok_is_within F_is_within (b own), (He.glo_ok X G (c.fact 28 (f := .glo "is_within") rfl)), F_is_within.kp, (FunD.bindsN (ps := ["one", "other"]) F_is_within fun _ _ _ _ _ _ us hl => match us, hl with | [_, _], _ => rfl), rfl⟩
  obtain ⟨fd_parts_of, F_parts_of⟩ := c.def_ 29 (d := d_parts_of) rfl
  have k_parts_of : ∀ own, Kn prog w ⟨K, mg, T, lamI, own⟩ base 2 "parts_of" 2 f_parts_of := fun own => ⟨_, fd_parts_of, ["some", "knot"], ok_parts_of F_parts_of (b own) (k_is_within own), (He.glo_ok X G (c.fact 29 (f := .glo "parts_of") rfl)), F_parts_of.kp, (FunD.bindsN (ps := ["some", "knot"]) F_parts_of fun _ _ _ _ _ _ us hl => match us, hl with | [_, _], _ => rfl), rfl⟩
  obtain ⟨fd_home_of, F_home_of⟩ := c.def_ 30 (d := d_home_of) rfl
  have k_home_of : ∀ own, Kn prog w ⟨K, mg, T, lamI, own⟩ base 1 "home_of" 1 f_home_of := fun own => ⟨_, fd_home_of, ["many"], ok_home_of F_home_of (b own), (He.glo_ok X G (c.fact 30 (f := .glo "home_of") rfl)), F_home_of.kp, (FunD.bindsN (ps := ["many"]) F_home_of fun _ _ _ _ _ _ us hl => match us, hl with | [_], _ => rfl), rfl⟩
  obtain ⟨fd_kind_of, F_kind_of⟩ := c.def_ 31 (d := d_kind_of) rfl
  have k_kind_of : ∀ own, Kn prog w ⟨K, mg, T, lamI, own⟩ base 3 "kind_of" 3 f_kind_of := fun own => ⟨_, fd_kind_of, ["row", "some", "knot"], ok_kind_of F_kind_of (b own) (k_pattern_of own) (k_parts_of own) (k_home_of own), (He.glo_ok X G (c.fact 31 (f := .glo "kind_of") rfl)), F_kind_of.kp, (FunD.bindsN (ps := ["row", "some", "knot"]) F_kind_of fun _ _ _ _ _ _ us hl => match us, hl with | [_, _, _], _ => rfl), rfl⟩
  obtain ⟨fd_knots, F_knots⟩ := c.def_ 32 (d := d_knots) rfl
  have k_knots : ∀ own, Kn prog w ⟨K, mg, T, lamI, own⟩ base 6 "knots" 1 f_knots := fun own => ⟨_, fd_knots, ["row"], ok_knots F_knots (b own) (k_check_plain own) (k_knots_of own) (k_kind_of own), (He.glo_ok X G (c.fact 32 (f := .glo "knots") rfl)), F_knots.kp, (FunD.bindsN (ps := ["row"]) F_knots fun _ _ _ _ _ _ us hl => match us, hl with | [_], _ => rfl), rfl⟩
  obtain ⟨fd_check_knot, F_check_knot⟩ := c.def_ 33 (d := d_check_knot) rfl
  have k_check_knot : ∀ own, Kn prog w ⟨K, mg, T, lamI, own⟩ base 6 "check_knot" 2 f_check_knot := fun own => ⟨_, fd_check_knot, ["row", "knot"], ok_check_knot F_check_knot (b own) (k_check_plain own) (k_is_integer own) (k_knots_of own) (ke_BadKnot own) (ke_Single own), (He.glo_ok X G (c.fact 33 (f := .glo "check_knot") rfl)), F_check_knot.kp, (FunD.bindsN (ps := ["row", "knot"]) F_check_knot fun _ _ _ _ _ _ us hl => match us, hl with | [_, _], _ => rfl), rfl⟩
  obtain ⟨fd_parts, F_parts⟩ := c.def_ 34 (d := d_parts) rfl
  have k_parts : ∀ own, Kn prog w ⟨K, mg, T, lamI, own⟩ base 7 "parts" 2 f_parts := fun own => ⟨_, fd_parts, ["row", "knot"], ok_parts F_parts (b own) (k_check_knot own) (k_parts_of own) (k_knots_of own), (He.glo_ok X G (c.fact 34 (f := .glo "parts") rfl)), F_parts.kp, (FunD.bindsN (ps := ["row", "knot"]) F_parts fun _ _ _ _ _ _ us hl => match us, hl with | [_, _], _ => rfl), rfl⟩
  obtain ⟨fd_pattern, F_pattern⟩ := c.def_ 35 (d := d_pattern) rfl
  have k_pattern : ∀ own, Kn prog w ⟨K, mg, T, lamI, own⟩ base 7 "pattern" 2 f_pattern := fun own => ⟨_, fd_pattern, ["row", "knot"], ok_pattern F_pattern (b own) (k_check_knot own) (k_pattern_of own) (k_parts_of own) (k_knots_of own), (He.glo_ok X G (c.fact 35 (f := .glo "pattern") rfl)), F_pattern.kp, (FunD.bindsN (ps := ["row", "knot"]) F_pattern fun _ _ _ _ _ _ us hl => match us, hl with | [_, _], _ => rfl), rfl⟩
  obtain ⟨fd_tree_at, F_tree_at⟩ := c.def_ 36 (d := d_tree_at) rfl
  have k_tree_at : ∀ own, Kn prog w ⟨K, mg, T, lamI, own⟩ base 12 "tree_at" 3 f_tree_at := fun own => ⟨_, fd_tree_at, ["row", "some", "knot"], ok_tree_at F_tree_at (b own) (k_kind_of own) (k_parts_of own) (He.glo_ok X G (c.fact 36 (f := .glo "tree_at") rfl)) (FunD.bindsN (ps := ["row", "some", "knot"]) F_tree_at fun _ _ _ _ _ _ us hl => match us, hl with | [_, _, _], _ => rfl) 8, (He.glo_ok X G (c.fact 36 (f := .glo "tree_at") rfl)), F_tree_at.kp, (FunD.bindsN (ps := ["row", "some", "knot"]) F_tree_at fun _ _ _ _ _ _ us hl => match us, hl with | [_, _, _], _ => rfl), rfl⟩
  obtain ⟨fd_tree_of, F_tree_of⟩ := c.def_ 37 (d := d_tree_of) rfl
  have k_tree_of : ∀ own, Kn prog w ⟨K, mg, T, lamI, own⟩ base 13 "tree_of" 1 f_tree_of := fun own => ⟨_, fd_tree_of, ["row"], ok_tree_of F_tree_of (b own) (k_tree_at own) (k_knots_of own), (He.glo_ok X G (c.fact 37 (f := .glo "tree_of") rfl)), F_tree_of.kp, (FunD.bindsN (ps := ["row"]) F_tree_of fun _ _ _ _ _ _ us hl => match us, hl with | [_], _ => rfl), rfl⟩
  obtain ⟨fd_tree, F_tree⟩ := c.def_ 38 (d := d_tree) rfl
  have k_tree : ∀ own, Kn prog w ⟨K, mg, T, lamI, own⟩ base 14 "tree" 1 f_tree := fun own => ⟨_, fd_tree, ["row"], ok_tree F_tree (b own) (k_check_plain own) (k_tree_of own), (He.glo_ok X G (c.fact 38 (f := .glo "tree") rfl)), F_tree.kp, (FunD.bindsN (ps := ["row"]) F_tree fun _ _ _ _ _ _ us hl => match us, hl with | [_], _ => rfl), rfl⟩
  obtain ⟨fd_wagons_of, F_wagons_of⟩ := c.def_ 39 (d := d_wagons_of) rfl
  have k_wagons_of : ∀ own, Kn prog w ⟨K, mg, T, lamI, own⟩ base 8 "wagons_of" 1 f_wagons_of := fun own => ⟨_, fd_wagons_of, ["value"], ok_wagons_of F_wagons_of (b own) (k_is_integer own) (He.glo_ok X G (c.fact 39 (f := .glo "wagons_of") rfl)) (FunD.bindsN (ps := ["value"]) F_wagons_of fun _ _ _ _ _ _ us hl => match us, hl with | [_], _ => rfl) 6, (He.glo_ok X G (c.fact 39 (f := .glo "wagons_of") rfl)), F_wagons_of.kp, (FunD.bindsN (ps := ["value"]) F_wagons_of fun _ _ _ _ _ _ us hl => match us, hl with | [_], _ => rfl), rfl⟩
  obtain ⟨fd_is_tree, F_is_tree⟩ := c.def_ 40 (d := d_is_tree) rfl
  have k_is_tree : ∀ own, Kn prog w ⟨K, mg, T, lamI, own⟩ base 14 "is_tree" 1 f_is_tree := fun own => ⟨_, fd_is_tree, ["value"], ok_is_tree F_is_tree (b own) (k_wagons_of own) (k_is_plain own) (k_tree_of own), (He.glo_ok X G (c.fact 40 (f := .glo "is_tree") rfl)), F_is_tree.kp, (FunD.bindsN (ps := ["value"]) F_is_tree fun _ _ _ _ _ _ us hl => match us, hl with | [_], _ => rfl), rfl⟩
  obtain ⟨fd_row_by, F_row_by⟩ := c.def_ 41 (d := d_row_by) rfl
  have k_row_by : ∀ own, Kn prog w ⟨K, mg, T, lamI, own⟩ base 15 "row_by" 1 f_row_by := fun own => ⟨_, fd_row_by, ["told"], ok_row_by F_row_by (b own) (k_is_tree own) (k_wagons_of own) (ke_BadTree own), (He.glo_ok X G (c.fact 41 (f := .glo "row_by") rfl)), F_row_by.kp, (FunD.bindsN (ps := ["told"]) F_row_by fun _ _ _ _ _ _ us hl => match us, hl with | [_], _ => rfl), rfl⟩
  obtain ⟨fd_simple_count, F_simple_count⟩ := c.def_ 42 (d := d_simple_count) rfl
  have k_simple_count : ∀ own, Kn prog w ⟨K, mg, T, lamI, own⟩ base 1 "simple_count" 1 f_simple_count := fun own => ⟨_, fd_simple_count, ["many"], ok_simple_count F_simple_count (b own), (He.glo_ok X G (c.fact 42 (f := .glo "simple_count") rfl)), F_simple_count.kp, (FunD.bindsN (ps := ["many"]) F_simple_count fun _ _ _ _ _ _ us hl => match us, hl with | [_], _ => rfl), rfl⟩
  obtain ⟨fd_ways_of, F_ways_of⟩ := c.def_ 43 (d := d_ways_of) rfl
  have k_ways_of : ∀ own, Kn prog w ⟨K, mg, T, lamI, own⟩ base 12 "ways_of" 4 f_ways_of := fun own => ⟨_, fd_ways_of, ["some", "row", "knot", "above"], ok_ways_of F_ways_of (b own) (k_kind_of own) (k_parts_of own) (k_simple_count own) (He.glo_ok X G (c.fact 43 (f := .glo "ways_of") rfl)) (FunD.bindsN (ps := ["some", "row", "knot", "above"]) F_ways_of fun _ _ _ _ _ _ us hl => match us, hl with | [_, _, _, _], _ => rfl) 8, (He.glo_ok X G (c.fact 43 (f := .glo "ways_of") rfl)), F_ways_of.kp, (FunD.bindsN (ps := ["some", "row", "knot", "above"]) F_ways_of fun _ _ _ _ _ _ us hl => match us, hl with | [_, _, _, _], _ => rfl), rfl⟩
  obtain ⟨fd_like_rows, F_like_rows⟩ := c.def_ 44 (d := d_like_rows) rfl
  have k_like_rows : ∀ own, Kn prog w ⟨K, mg, T, lamI, own⟩ base 13 "like_rows" 1 f_like_rows := fun own => ⟨_, fd_like_rows, ["row"], ok_like_rows F_like_rows (b own) (k_check_plain own) (k_ways_of own) (k_knots_of own), (He.glo_ok X G (c.fact 44 (f := .glo "like_rows") rfl)), F_like_rows.kp, (FunD.bindsN (ps := ["row"]) F_like_rows fun _ _ _ _ _ _ us hl => match us, hl with | [_], _ => rfl), rfl⟩
  obtain ⟨fd_is_simple_row, F_is_simple_row⟩ := c.def_ 45 (d := d_is_simple_row) rfl
  have k_is_simple_row : ∀ own, Kn prog w ⟨K, mg, T, lamI, own⟩ base 2 "is_simple_row" 1 f_is_simple_row := fun own => ⟨_, fd_is_simple_row, ["row"], ok_is_simple_row F_is_simple_row (b own) (k_stretches_of own), (He.glo_ok X G (c.fact 45 (f := .glo "is_simple_row") rfl)), F_is_simple_row.kp, (FunD.bindsN (ps := ["row"]) F_is_simple_row fun _ _ _ _ _ _ us hl => match us, hl with | [_], _ => rfl), rfl⟩
  obtain ⟨fd_is_simple, F_is_simple⟩ := c.def_ 46 (d := d_is_simple) rfl
  have k_is_simple : ∀ own, Kn prog w ⟨K, mg, T, lamI, own⟩ base 6 "is_simple" 1 f_is_simple := fun own => ⟨_, fd_is_simple, ["row"], ok_is_simple F_is_simple (b own) (k_check_plain own) (k_is_simple_row own), (He.glo_ok X G (c.fact 46 (f := .glo "is_simple") rfl)), F_is_simple.kp, (FunD.bindsN (ps := ["row"]) F_is_simple fun _ _ _ _ _ _ us hl => match us, hl with | [_], _ => rfl), rfl⟩
  obtain ⟨fd_put_in, F_put_in⟩ := c.def_ 47 (d := d_put_in) rfl
  have k_put_in : ∀ own, Kn prog w ⟨K, mg, T, lamI, own⟩ base 6 "put_in" 3 f_put_in := fun own => ⟨_, fd_put_in, ["row", "place", "other"], ok_put_in F_put_in (b own) (k_check_plain own) (k_is_between own) (ke_BadPlace own) (ke_TooMany own), (He.glo_ok X G (c.fact 47 (f := .glo "put_in") rfl)), F_put_in.kp, (FunD.bindsN (ps := ["row", "place", "other"]) F_put_in fun _ _ _ _ _ _ us hl => match us, hl with | [_, _, _], _ => rfl), rfl⟩
  obtain ⟨fd_check_counted, F_check_counted⟩ := c.def_ 48 (d := d_check_counted) rfl
  have k_check_counted : ∀ own, Kn prog w ⟨K, mg, T, lamI, own⟩ base 3 "check_counted" 1 f_check_counted := fun own => ⟨_, fd_check_counted, ["many"], ok_check_counted F_check_counted (b own) (k_is_between own) (ke_BadMany own), (He.glo_ok X G (c.fact 48 (f := .glo "check_counted") rfl)), F_check_counted.kp, (FunD.bindsN (ps := ["many"]) F_check_counted fun _ _ _ _ _ _ us hl => match us, hl with | [_], _ => rfl), rfl⟩
  obtain ⟨fd_all_plains, F_all_plains⟩ := c.def_ 49 (d := d_all_plains) rfl
  have k_all_plains : ∀ own, Kn prog w ⟨K, mg, T, lamI, own⟩ base 1 "all_plains" 1 f_all_plains := fun own => ⟨_, fd_all_plains, ["many"], ok_all_plains F_all_plains (b own), (He.glo_ok X G (c.fact 49 (f := .glo "all_plains") rfl)), F_all_plains.kp, (FunD.bindsN (ps := ["many"]) F_all_plains fun _ _ _ _ _ _ us hl => match us, hl with | [_], _ => rfl), rfl⟩
  obtain ⟨fd_counts_simple, F_counts_simple⟩ := c.def_ 50 (d := d_counts_simple) rfl
  have k_counts_simple : ∀ own, Kn prog w ⟨K, mg, T, lamI, own⟩ base 4 "counts_simple" 1 f_counts_simple := fun own => ⟨_, fd_counts_simple, ["many"], ok_counts_simple F_counts_simple (b own) (k_check_counted own) (k_all_plains own) (k_is_simple_row own), (He.glo_ok X G (c.fact 50 (f := .glo "counts_simple") rfl)), F_counts_simple.kp, (FunD.bindsN (ps := ["many"]) F_counts_simple fun _ _ _ _ _ _ us hl => match us, hl with | [_], _ => rfl), rfl⟩
  have lm : ∀ own, LamsOk prog w ⟨K, mg, T, lamI, own⟩ base 15 lamT := fun own => lams_ok rfl (b own) (k_stretches own) (k_how_many own) (k_seeds own) (k_least_around own) (k_shared own) (k_shared_knots own) (k_knots own) (k_parts own) (k_pattern own) (k_tree own) (k_row_by own) (k_like_rows own) (k_is_simple own) (k_put_in own) (k_counts_simple own)
  obtain ⟨fd__law_heard, F__law_heard⟩ := c.def_ 51 (d := d__law_heard) rfl
  have k__law_heard : ∀ own, Kn prog w ⟨K, mg, T, lamI, own⟩ base 17 "_law_heard" 1 f__law_heard := fun own => ⟨_, fd__law_heard, ["call"], ok__law_heard F__law_heard (b own) (rt own) (lm own), (He.glo_ok X G (c.fact 51 (f := .glo "_law_heard") rfl)), F__law_heard.kp, (FunD.bindsN (ps := ["call"]) F__law_heard fun _ _ _ _ _ _ us hl => match us, hl with | [_], _ => rfl), rfl⟩
  obtain ⟨fd__law_word, F__law_word⟩ := c.def_ 52 (d := d__law_word) rfl
  have k__law_word : ∀ own, Kn prog w ⟨K, mg, T, lamI, own⟩ base 1 "_law_word" 1 f__law_word := fun own => ⟨_, fd__law_word, ["error"], ok__law_word F__law_word (b own) (kx own), (He.glo_ok X G (c.fact 52 (f := .glo "_law_word") rfl)), F__law_word.kp, (FunD.bindsN (ps := ["error"]) F__law_word fun _ _ _ _ _ _ us hl => match us, hl with | [_], _ => rfl), rfl⟩
  obtain ⟨fd__law_is_refused, F__law_is_refused⟩ := c.def_ 53 (d := d__law_is_refused) rfl
  have k__law_is_refused : ∀ own, Kn prog w ⟨K, mg, T, lamI, own⟩ base 18 "_law_is_refused" 2 f__law_is_refused := fun own => ⟨_, fd__law_is_refused, ["call", "due"], ok__law_is_refused F__law_is_refused (b own) (k__law_heard own) (k__law_word own) (kx own), (He.glo_ok X G (c.fact 53 (f := .glo "_law_is_refused") rfl)), F__law_is_refused.kp, (FunD.bindsN (ps := ["call", "due"]) F__law_is_refused fun _ _ _ _ _ _ us hl => match us, hl with | [_, _], _ => rfl), rfl⟩
  obtain ⟨fd__law_first, F__law_first⟩ := c.def_ 54 (d := d__law_first) rfl
  have k__law_first : ∀ own, Kn prog w ⟨K, mg, T, lamI, own⟩ base 1 "_law_first" 1 f__law_first := fun own => ⟨_, fd__law_first, ["rows"], ok__law_first F__law_first (b own), (He.glo_ok X G (c.fact 54 (f := .glo "_law_first") rfl)), F__law_first.kp, (FunD.bindsN (ps := ["rows"]) F__law_first fun _ _ _ _ _ _ us hl => match us, hl with | [_], _ => rfl), rfl⟩
  obtain ⟨fd__law_right, F__law_right⟩ := c.def_ 55 (d := d__law_right) rfl
  have k__law_right : ∀ own, Kn prog w ⟨K, mg, T, lamI, own⟩ base 19 "_law_right" 1 f__law_right := fun own => ⟨_, fd__law_right, ["pot"], ok__law_right F__law_right b k__law_any_plain k__law_of k__law_is_plain k__law_are_places k__law_is_int k__law_is_refused k__law_first rfl (P0 := (He.cT K ("_law_right", none)).2) (TB (He.cT K ("_law_right", none)) (List.mem_map.mpr ⟨("_law_right", none), by simp [tfs], rfl⟩)) (Eq.mp (congrArg (fun q : Str => ((He.cT K ("_law_right", none)).2, q) ∈ T) (show (fun a => if a = (He.cT K ("least_of", none)).2 then ("least_of.<locals>.<lambda>" : Str) else ("_law_right.<locals>.<lambda>" : Str)) (He.cT K ("_law_right", none)).2 = "_law_right.<locals>.<lambda>" from (if_neg (fun z => x4.1.2 z.symm)))) (inT ("_law_right", none) (by simp [tfs]))) (fun p hp e => (unT p hp).trans ((congrArg (fun a => if a = (He.cT K ("least_of", none)).2 then ("least_of.<locals>.<lambda>" : Str) else ("_law_right.<locals>.<lambda>" : Str)) e).trans (show (fun a => if a = (He.cT K ("least_of", none)).2 then ("least_of.<locals>.<lambda>" : Str) else ("_law_right.<locals>.<lambda>" : Str)) (He.cT K ("_law_right", none)).2 = "_law_right.<locals>.<lambda>" from (if_neg (fun z => x4.1.2 z.symm))))), (He.glo_ok X G (c.fact 55 (f := .glo "_law_right") rfl)), F__law_right.kp, (FunD.bindsN (ps := ["pot"]) F__law_right fun _ _ _ _ _ _ us hl => match us, hl with | [_], _ => rfl), rfl⟩
  exact ok_law F (b []) (k__law_cells []) (k__law_pot []) (k__law_right [])
end K22

set_option maxRecDepth 100000
set_option maxHeartbeats 4000000
namespace K22
open PySem L2 MI
/-! ## the plain law: the draws -/
theorem px0 (a b c : PyData) : oIx (.ref 0) (.d (.int 0)) [.lst [a, b, c]] = .ok (.d a) [.lst [a, b, c]] := by simp [atI, ixN]
theorem px1 (a b c : PyData) : oIx (.ref 0) (.d (.int 1)) [.lst [a, b, c]] = .ok (.d b) [.lst [a, b, c]] := by simp [atI, ixN]
theorem px2 (a b c : PyData) : oIx (.ref 0) (.d (.int 2)) [.lst [a, b, c]] = .ok (.d c) [.lst [a, b, c]] := by simp [atI, ixN]
theorem pp0 (a b c x : PyData) : stPut (.ref 0) (.d (.int 0)) (.d x) [.lst [a, b, c]] = some [.lst [x, b, c]] := by simp [ixN]
theorem pp2 (a b c x : PyData) : stPut (.ref 0) (.d (.int 2)) (.d x) [.lst [a, b, c]] = some [.lst [a, b, x]] := by simp [ixN]
theorem small_lt {n k : Nat} (h : n < 2 ^ k) (hk : k ≤ 2000) : n < 2 ^ 2000 := Nat.lt_of_lt_of_le h (Nat.pow_le_pow_right (by omega) hk)
theorem gMul_ok {i j : Int} (h1 : i.natAbs < 2 ^ 200) (h2 : j.natAbs < 2 ^ 200) : gMul i j = some (i * j) := if_pos ⟨small_lt h1 (by omega), small_lt h2 (by omega)⟩
theorem gDiv_ok {i j : Int} (h0 : 0 < j) (h1 : j.natAbs < 2 ^ 200) : gDiv i j = some (i / j) := if_pos ⟨h0, small_lt h1 (by omega)⟩
theorem gMod_ok {i j : Int} (h0 : 0 < j) : gMod i j = some (i % j) := if_pos h0
theorem gPw_ok {i j : Int} (h0 : 0 ≤ j) (h1 : j ≤ 1000) (h2 : i.natAbs < 2 ^ 200) : gPw i j = some (i ^ j.toNat) := if_pos ⟨h0, h1, Nat.lt_of_lt_of_le h2 (Nat.pow_le_pow_right (by omega) (by omega))⟩
def Pot (n : Nat) (ds : List PyData) : Prop := ∃ a b c : Int, ds = [.int a, .int b, .int c] ∧ 0 ≤ a ∧ a < 10 ^ 300 ∧ 0 ≤ b ∧ b < 2 ^ 61 ∧ 0 ≤ c ∧ c ≤ n
theorem take_ok {n : Nat} {ds : List PyData} {u : Int} (hp : Pot n ds) (hn : n ≤ 1000000) (hu : 0 < u) (hu2 : u < 2 ^ 60) :
    ∃ v es, f__law_take [.ref 0, .d (.int u)] [.lst ds] = .ok (.d (.int v)) [.lst es] ∧ 0 ≤ v ∧ v < u ∧ Pot (n + 1) es := by
  obtain ⟨a, b, c, rfl, h1, h2, h3, h4, h5, h6⟩ := hp
  have m0 : gMod a u = some (a % u) := gMod_ok hu
  have d0 : gDiv a u = some (a / u) := gDiv_ok hu (by omega)
  by_cases ha : 0 < a
  · refine ⟨a % u, [.int (a / u), .int b, .int c], ?_, Int.emod_nonneg _ (by omega), Int.emod_lt_of_pos _ hu, ⟨a / u, b, c, rfl, Int.ediv_nonneg h1 (by omega), ?_, h3, h4, h5, by omega⟩⟩
    · simp [f__law_take, ha, px0, pp0, m0, d0, List.replicate, -oIx, -stPut, -gMod, -gDiv]
    · exact Int.lt_of_le_of_lt (Int.ediv_le_self _ h1) h2
  · have m1 : gMul 101081 (c + 1) = some (101081 * (c + 1)) := gMul_ok (by decide) (by omega)
    have m2 : gMul (101081 * (c + 1)) (c + 1) = some (101081 * (c + 1) * (c + 1)) := gMul_ok (by omega) (by omega)
    have q0 : 0 ≤ (c + 1) * (c + 1) := Int.mul_nonneg (by omega) (by omega)
    have q1 : (c + 1) * (c + 1) ≤ 1000001 * 1000001 := Int.mul_le_mul (by omega) (by omega) (by omega) (by omega)
    have e2 : 101081 * (c + 1) * (c + 1) = 101081 * ((c + 1) * (c + 1)) := Int.mul_assoc _ _ _
    have m3 : gPw (b + 101081 * (c + 1) * (c + 1) + 1409) 3 = some ((b + 101081 * (c + 1) * (c + 1) + 1409) ^ 3) := gPw_ok (by omega) (by omega) (by rw [e2]; omega)
    obtain ⟨p, hp1, hp2, hp⟩ : ∃ p : Int, 0 < p ∧ p < 2 ^ 40 ∧ ∀ S, oIx (.d (.list [.int 2147483647, .int 2147483629, .int 2147483587, .int 2147483579, .int 2147483563])) (.d (.int ((c + 1) % 5))) S = .ok (.d (.int p)) S := by
      have : (c + 1) % 5 = 0 ∨ (c + 1) % 5 = 1 ∨ (c + 1) % 5 = 2 ∨ (c + 1) % 5 = 3 ∨ (c + 1) % 5 = 4 := by omega
      rcases this with h | h | h | h | h <;> rw [h] <;> refine ⟨_, ?_, ?_, fun S => by simp [atI, ixN]; rfl⟩ <;> decide
    have m4 : gMod (c + 1) 5 = some ((c + 1) % 5) := gMod_ok (by omega)
    generalize hx : (b + 101081 * (c + 1) * (c + 1) + 1409) ^ 3 = x at m3
    have m5 : gMod x p = some (x % p) := gMod_ok hp1
    have y0 : 0 ≤ x % p := Int.emod_nonneg _ (by omega)
    have y1 : x % p < p := Int.emod_lt_of_pos _ hp1
    generalize hy : x % p = y at m5 y0 y1
    have m6 : gMod y 10335 = some (y % 10335) := gMod_ok (by omega)
    have m7 : gMul 165 (c + 1) = some (165 * (c + 1)) := gMul_ok (by decide) (by omega)
    have m8 : gMul y (y % 10335 + 165 * (c + 1)) = some (y * (y % 10335 + 165 * (c + 1))) := gMul_ok (by omega) (by omega)
    generalize hz : y * (y % 10335 + 165 * (c + 1)) = z at m8
    have m9 : gMod z 2305843009213693907 = some (z % 2305843009213693907) := gMod_ok (by omega)
    generalize hw : z % 2305843009213693907 = w at m9
    have m10 : gDiv w 155 = some (w / 155) := gDiv_ok (by omega) (by decide)
    have m11 : gMod (w / 155) u = some (w / 155 % u) := gMod_ok hu
    refine ⟨w / 155 % u, [.int a, .int b, .int (c + 1)], ?_, Int.emod_nonneg _ (by omega), Int.emod_lt_of_pos _ hu, ⟨a, b, c + 1, rfl, h1, h2, h3, h4, by omega, by omega⟩⟩
    simp [f__law_take, ha, px0, px1, px2, pp2, m1, m2, m3, m4, m5, m6, m7, m8, m9, m10, m11, hp, List.replicate, -oIx, -stPut, -gMod, -gDiv, -gMul, -gPw]
end K22
set_option maxRecDepth 100000
set_option maxHeartbeats 4000000
namespace K22
open PySem L2 MI
theorem ixN_ok {n : Nat} {i : Int} (h0 : 0 ≤ i) (h1 : i < n) : ixN n i = some i.toNat := by unfold ixN; rw [if_pos h0, if_pos h1]
theorem atI_ok {α : Type} {xs : List α} {i : Int} {x : α} (h0 : 0 ≤ i) (h : xs[i.toNat]? = some x) : atI xs i = some x := by
  have h1 : i < xs.length := by have := (List.getElem?_eq_some_iff.mp h).1; omega
  unfold atI
  rw [ixN_ok h0 h1]
  exact h
theorem of_ok {n : Nat} {ds : List PyData} {xs : List PyData} (hp : Pot n ds) (hn : n ≤ 1000000) (h0 : 0 < xs.length) (h1 : xs.length < 2 ^ 50) :
    ∃ d es, d ∈ xs ∧ f__law_of [.ref 0, .d (.list xs)] [.lst ds] = .ok (.d d) [.lst es] ∧ Pot (n + 1) es := by
  obtain ⟨v, es, e, v0, v1, p⟩ := take_ok hp hn (u := xs.length) (by omega) (by omega)
  have hc := call_pot (n := 0) (S := [.lst ds]) (is := [.d (.int xs.length)]) rfl rfl e rfl
  have hv : v.toNat < xs.length := by omega
  have ha : atI xs v = some xs[v.toNat] := atI_ok v0 (List.getElem?_eq_getElem hv)
  refine ⟨xs[v.toNat], es, List.getElem_mem hv, ?_, p⟩
  simp [f__law_of, hc, ha, List.replicate]
theorem call_of {n : Nat} {ds : List PyData} {xs : List PyData} {S : Sto} {k : Nat} (hp : Pot n ds) (hn : n ≤ 1000000) (h0 : 0 < xs.length) (h1 : xs.length < 2 ^ 50) (hS : S[k]? = some (.lst ds)) :
    ∃ d es, d ∈ xs ∧ callW backW f__law_of [.ref k, .d (.list xs)] S = .ok (.d d) (S.set k (.lst es)) ∧ Pot (n + 1) es := by
  obtain ⟨d, es, m, e, p⟩ := of_ok hp hn h0 h1
  exact ⟨d, es, m, call_pot rfl hS e rfl, p⟩
theorem call_take {n : Nat} {ds : List PyData} {u : Int} {S : Sto} {k : Nat} (hp : Pot n ds) (hn : n ≤ 1000000) (hu : 0 < u) (hu2 : u < 2 ^ 60) (hS : S[k]? = some (.lst ds)) :
    ∃ v es, callW backW f__law_take [.ref k, .d (.int u)] S = .ok (.d (.int v)) (S.set k (.lst es)) ∧ 0 ≤ v ∧ v < u ∧ Pot (n + 1) es := by
  obtain ⟨v, es, e, v0, v1, p⟩ := take_ok hp hn hu hu2
  exact ⟨v, es, call_pot rfl hS e rfl, v0, v1, p⟩
/-! ### the menus -/
def I (l : List Int) : PyData := .tuple (l.map .int)
def fineN : List (List Int) := [[1], [2,1], [3,1,2], [2,4,1,3], [1,2,3], [3,2,1,4]]
def strange : List PyData := [.tuple [], I [0], I [2], I [1,1], I [1,3], .list [.int 1, .int 2], .none, .tuple [.bool true], I [1,-2], .tuple [.str "1"], I [1,2,3,4,5,6,7,8,9,10,11,12,13], .int 1]
/-- a row, whether it is one -/
def plains : List (PyData × Bool) := (fineN.map fun l => (I l, true)) ++ strange.map fun p => (p, false)
theorem rg14 : eRgT (rg2 (eC (.int 1)) (eC (.int 14))) = fun _ S => .ok (.d (I [1,2,3,4,5,6,7,8,9,10,11,12,13])) S := by funext r S; kernel_rfl
theorem any_ok {n : Nat} {ds : List PyData} (hp : Pot n ds) (hn : n ≤ 100000) :
    ∃ p es, p ∈ plains ∧ f__law_any_plain [.ref 0] [.lst ds] = .ok (.d (.tuple [p.1, .bool p.2])) [.lst es] ∧ Pot (n + 2) es := by
  obtain ⟨v, es, e, v0, v1, p1⟩ := call_take (S := [.lst ds]) (k := 0) hp (by omega) (u := 4) (by omega) (by omega) rfl
  by_cases h : v = 0
  · obtain ⟨d, fs, m, e2, p2⟩ := call_of (S := [.lst es]) (k := 0) p1 (by omega) (xs := strange) (by decide) (by decide) rfl
    refine ⟨(d, false), fs, ?_, ?_, p2⟩
    · exact List.mem_append_right _ (List.mem_map.mpr ⟨d, m, rfl⟩)
    · simp only [strange, I, List.map] at e2
      simp [f__law_any_plain, rg14, e, e2, h, List.replicate, I, -eRgT, -rg2]
  · obtain ⟨d, fs, m, e2, p2⟩ := call_of (S := [.lst es]) (k := 0) p1 (by omega) (xs := fineN.map I) (by decide) (by decide) rfl
    refine ⟨(d, true), fs, ?_, ?_, p2⟩
    · obtain ⟨l, hl, rfl⟩ := List.mem_map.mp m
      exact List.mem_append_left _ (List.mem_map.mpr ⟨l, hl, rfl⟩)
    · simp only [fineN, I, List.map] at e2
      simp [f__law_any_plain, rg14, e, e2, h, List.replicate, I, -eRgT, -rg2]
end K22
set_option maxRecDepth 100000
set_option maxHeartbeats 4000000
namespace K22
open PySem PySem.Spec PyProof.Rows L2 MI LamX
def st1 : FS := (sAs (eTup (aCons (eApp (callN 1 f__law_any_plain) (aCons (eVar 0) aNil)) (aCons (eApp (callN 1 f__law_any_plain) (aCons (eVar 0) aNil)) aNil))) (gTp 2 (gsCons (gTp 2 (gsCons (gNm 15) (gsCons (gNm 16) gsNil))) (gsCons (gTp 2 (gsCons (gNm 17) (gsCons (gNm 18) gsNil))) gsNil))))
def st2 : FS := (sSet (eIf (tE (eVar 16)) (eApp bLen (aCons (eVar 15) aNil)) (eC (.int 2))) 1)
def l3 : FA := (aCons (eTup (aCons (eVar 15) aNil)) (aCons (eTup (aCons (eVar 15) (aCons (eVar 15) aNil))) (aCons (eTup (aCons (eVar 15) (aCons (eVar 17) aNil))) (aCons (eOp2 oMulA (eTup (aCons (eVar 15) aNil)) (eC (.int 7))) (aCons (eTup aNil) (aCons (eLst (aCons (eVar 15) aNil)) (aCons (eC .none) (aCons (eVar 15) aNil))))))))
def st3 : FS := sSet (eApp (callN 2 f__law_of) (aCons (eVar 0) (aCons (eLst l3) aNil))) 2
def st4 : FS := (sSet (eAn (eIsa "tuple" (eVar 2)) (eAn (eCh (cInt gLe) (cInt gLe) (eC (.int 1)) (eApp bLen (aCons (eVar 2) aNil)) (eC (.int 6))) (eApp bAll (aCons (eLc (iSeq (eVar 2)) (gNm 19) tYe (eApp (callN 1 f__law_is_plain) (aCons (eVar 19) aNil)) [19]) aNil)))) 3)
def st5 : FS := (sSet (eAn (eVar 3) (eOp2 cEq (eLenSet (eLc (iSeq (eVar 2)) (gNm 19) tYe (eApp bLen (aCons (eVar 19) aNil)) [19])) (eC (.int 1)))) 3)
def l6 : FA := (aCons (eC (.int 1)) (aCons (eVar 1) (aCons (eOp2 oAdd (eVar 1) (eC (.int 1))) (aCons (eC (.int 0)) (aCons (eC .none) (aCons (eC (.bool true)) (aCons (eC (.str "1")) aNil)))))))
def st6 : FS := sSet (eApp (callN 2 f__law_of) (aCons (eVar 0) (aCons (eLst l6) aNil))) 4
def l7 : FA := (aCons (eTup (aCons (eC (.int 1)) (aCons (eC (.int 1)) aNil))) (aCons (eTup (aCons (eC (.int 1)) (aCons (eVar 1) aNil))) (aCons (eTup (aCons (eVar 1) (aCons (eVar 1) aNil))) (aCons (eTup (aCons (eC (.int 0)) (aCons (eC (.int 1)) aNil))) (aCons (eTup (aCons (eC (.int 2)) (aCons (eC (.int 1)) aNil))) (aCons (eTup (aCons (eC (.int 1)) (aCons (eOp2 oAdd (eVar 1) (eC (.int 1))) aNil))) (aCons (eTup (aCons (eC (.int 1)) aNil)) (aCons (eLst (aCons (eC (.int 1)) (aCons (eC (.int 1)) aNil))) (aCons (eC .none) (aCons (eTup (aCons (eC (.bool true)) (aCons (eC (.bool true)) aNil))) aNil))))))))))
def st7 : FS := sSet (eApp (callN 2 f__law_of) (aCons (eVar 0) (aCons (eLst l7) aNil))) 5
def st8 : FS := (sSet (eAn (eApp (callN 3 f__law_are_places) (aCons (eVar 1) (aCons (eVar 5) (aCons (eC (.int 2)) aNil)))) (eOr (eOp2 cEq (eOp2 oIx (eVar 5) (eC (.int 0))) (eOp2 oIx (eVar 5) (eC (.int 1)))) (eOp2 cEq (eVar 5) (eTup (aCons (eC (.int 1)) (aCons (eVar 1) aNil)))))) 6)
def l9 : FA := (aCons (eC (.int 1)) (aCons (eTup (aCons (eC (.str "up")) (aCons (eTup (aCons (eC (.int 1)) (aCons (eC (.int 2)) aNil))) aNil))) (aCons (eTup (aCons (eC (.str "down")) (aCons (eTup (aCons (eC (.int 2)) (aCons (eC (.int 1)) aNil))) aNil))) (aCons (eTup (aCons (eC (.str "up")) (aCons (eTup (aCons (eC (.int 2)) (aCons (eC (.int 1)) aNil))) aNil))) (aCons (eC (.int 2)) (aCons (eC (.int 0)) (aCons (eC .none) (aCons (eC (.bool true)) (aCons (eTup aNil) (aCons (eTup (aCons (eC (.str "up")) (aCons (eTup aNil) aNil))) (aCons (eTup (aCons (eC (.str "up")) (aCons (eTup (aCons (eC (.int 1)) aNil)) aNil))) (aCons (eLst (aCons (eC (.int 1)) aNil)) aNil))))))))))))
def st9 : FS := sSet (eApp (callN 2 f__law_of) (aCons (eVar 0) (aCons (eLst l9) aNil))) 7
def st10 : FS := (sSet (eOp2 (cInN false) (eApp bRepr (aCons (eVar 7) aNil)) (eLst (aCons (eApp bRepr (aCons (eC (.int 1)) aNil)) (aCons (eApp bRepr (aCons (eTup (aCons (eC (.str "up")) (aCons (eTup (aCons (eC (.int 1)) (aCons (eC (.int 2)) aNil))) aNil))) aNil)) (aCons (eApp bRepr (aCons (eTup (aCons (eC (.str "down")) (aCons (eTup (aCons (eC (.int 2)) (aCons (eC (.int 1)) aNil))) aNil))) aNil)) aNil))))) 8)
def l11 : FA := (aCons (eC (.int 1)) (aCons (eC (.int 3)) (aCons (eC (.int 5)) (aCons (eC (.int 7)) (aCons (eC (.int 0)) (aCons (eOp1 oNeg (eC (.int 1))) (aCons (eC .none) (aCons (eC (.bool true)) (aCons (eC (.str "2")) aNil)))))))))
def st11 : FS := sSet (eApp (callN 2 f__law_of) (aCons (eVar 0) (aCons (eLst l11) aNil))) 9
def st12 : FS := (sSet (eLst (aCons (eTup (aCons (eC (.str "plain")) (aCons (eVar 15) (aCons (eVar 16) aNil)))) aNil)) 10)
def st13 : FS := (sSet (eTup (aCons (eC (.str "single")) (aCons (eVar 5) (aCons (eOr (eNt (eVar 6)) (eOp2 (cInt gLt) (eOp2 oIx (eVar 5) (eC (.int 0))) (eOp2 oIx (eVar 5) (eC (.int 1))))) aNil)))) 11)
def st14 : FS := (sSet (eOp2 oAdd (eVar 10) (eLst (aCons (eTup (aCons (eC (.str "knot")) (aCons (eVar 5) (aCons (eVar 6) aNil)))) (aCons (eVar 11) aNil)))) 12)
def st15 : FS := (sSet (eOp2 oAdd (eVar 10) (eLst (aCons (eTup (aCons (eC (.str "plain")) (aCons (eVar 17) (aCons (eVar 18) aNil)))) (aCons (eTup (aCons (eC (.str "place")) (aCons (eVar 4) (aCons (eApp (callN 3 f__law_is_int) (aCons (eVar 4) (aCons (eC (.int 1)) (aCons (eVar 1) aNil)))) aNil)))) aNil)))) 13)
def st16 : FS := (sSet (eLstX (aCons (eTup (aCons (eLam 0) (aCons (eVar 10) aNil))) aNil)) 14)
def st17 : FS := (sEx (eMt "list" mApp (eVar 14) (aCons (eTup (aCons (eLam 1) (aCons (eVar 10) aNil))) aNil)))
def st18 : FS := (sEx (eMt "list" mApp (eVar 14) (aCons (eTup (aCons (eLam 2) (aCons (eVar 10) aNil))) aNil)))
def st19 : FS := (sEx (eMt "list" mApp (eVar 14) (aCons (eTup (aCons (eLam 3) (aCons (eOp2 oAdd (eVar 10) (eLst (aCons (eTup (aCons (eC (.str "place")) (aCons (eVar 4) (aCons (eApp (callN 3 f__law_is_int) (aCons (eVar 4) (aCons (eC (.int 1)) (aCons (eOp2 (oInt gSub) (eVar 1) (eC (.int 1))) aNil)))) aNil)))) aNil))) aNil))) aNil)))
def st20 : FS := (sEx (eMt "list" mApp (eVar 14) (aCons (eTup (aCons (eLam 4) (aCons (eLst (aCons (eTup (aCons (eC (.str "rows")) (aCons (eVar 2) (aCons (eVar 3) aNil)))) aNil)) aNil))) aNil)))
def st21 : FS := (sEx (eMt "list" mApp (eVar 14) (aCons (eTup (aCons (eLam 5) (aCons (eLst (aCons (eTup (aCons (eC (.str "rows")) (aCons (eVar 2) (aCons (eVar 3) aNil)))) aNil)) aNil))) aNil)))
def st22 : FS := (sEx (eMt "list" mApp (eVar 14) (aCons (eTup (aCons (eLam 6) (aCons (eVar 10) aNil))) aNil)))
def st23 : FS := (sEx (eMt "list" mApp (eVar 14) (aCons (eTup (aCons (eLam 7) (aCons (eVar 12) aNil))) aNil)))
def st24 : FS := (sEx (eMt "list" mApp (eVar 14) (aCons (eTup (aCons (eLam 8) (aCons (eVar 12) aNil))) aNil)))
def st25 : FS := (sEx (eMt "list" mApp (eVar 14) (aCons (eTup (aCons (eLam 9) (aCons (eVar 10) aNil))) aNil)))
def st26 : FS := (sEx (eMt "list" mApp (eVar 14) (aCons (eTup (aCons (eLam 10) (aCons (eLst (aCons (eTup (aCons (eC (.str "tree")) (aCons (eVar 7) (aCons (eVar 8) aNil)))) aNil)) aNil))) aNil)))
def st27 : FS := (sEx (eMt "list" mApp (eVar 14) (aCons (eTup (aCons (eLam 11) (aCons (eVar 10) aNil))) aNil)))
def st28 : FS := (sEx (eMt "list" mApp (eVar 14) (aCons (eTup (aCons (eLam 12) (aCons (eVar 10) aNil))) aNil)))
def st29 : FS := (sEx (eMt "list" mApp (eVar 14) (aCons (eTup (aCons (eLam 13) (aCons (eVar 13) aNil))) aNil)))
def st30 : FS := (sEx (eMt "list" mApp (eVar 14) (aCons (eTup (aCons (eLam 14) (aCons (eLst (aCons (eTup (aCons (eC (.str "many")) (aCons (eVar 9) (aCons (eApp (callN 3 f__law_is_int) (aCons (eVar 9) (aCons (eC (.int 1)) (aCons (eC (.int 6)) aNil)))) aNil)))) aNil)) aNil))) aNil)))
def st31 : FS := (sRet (eApp bAll (aCons (eLcF fz__law_right 14 (gTp 2 (gsCons (gNm 20) (gsCons (gNm 21) gsNil))) tYe (eApp (callN 2 f__law_is_refused) (aCons (eVar 20) (aCons (eApp (callN 1 f__law_first) (aCons (eVar 21) aNil)) aNil))) [20, 21]) aNil)))
def gLook : FG := (gTp 2 (gsCons (gNm 20) (gsCons (gNm 21) gsNil)))
def eLook : FE := (eApp (callN 2 f__law_is_refused) (aCons (eVar 20) (aCons (eApp (callN 1 f__law_first) (aCons (eVar 21) aNil)) aNil)))
theorem st31_eq : st31 = sRet (eApp bAll (aCons (eLcF fz__law_right 14 gLook tYe eLook [20, 21]) aNil)) := rfl
theorem right_eq : f__law_right = fnL 22 ((sCons st1 (sCons st2 (sCons st3 (sCons st4 (sCons st5 (sCons st6 (sCons st7 (sCons st8 (sCons st9 (sCons st10 (sCons st11 (sCons st12 (sCons st13 (sCons st14 (sCons st15 (sCons st16 (sCons st17 (sCons st18 (sCons st19 (sCons st20 (sCons st21 (sCons st22 (sCons st23 (sCons st24 (sCons st25 (sCons st26 (sCons st27 (sCons st28 (sCons st29 (sCons st30 (sCons st31 sNil)))))))))))))))))))))))))))))))) := rfl
abbrev hd (p : PyData) (fp : Bool) : List PyData := [.tuple [.str "plain", p, .bool fp]]
abbrev snT (kn : PyData) (sg : Bool) : PyData := .tuple [.str "single", kn, .bool sg]
abbrev akL (p : PyData) (fp : Bool) (kn : PyData) (ik sg : Bool) : List PyData := hd p fp ++ [.tuple [.str "knot", kn, .bool ik], snT kn sg]
abbrev boL (p : PyData) (fp : Bool) (o : PyData) (fo : Bool) (pl : PyData) (i1 : Bool) : List PyData := hd p fp ++ [.tuple [.str "plain", o, .bool fo], .tuple [.str "place", pl, .bool i1]]
abbrev plL (p : PyData) (fp : Bool) (pl : PyData) (i2 : Bool) : List PyData := hd p fp ++ [.tuple [.str "place", pl, .bool i2]]
abbrev roL (rows : PyData) (ar : Bool) : List PyData := [.tuple [.str "rows", rows, .bool ar]]
abbrev trL (td : PyData) (it : Bool) : List PyData := [.tuple [.str "tree", td, .bool it]]
abbrev nuL (nu : PyData) (i3 : Bool) : List PyData := [.tuple [.str "many", nu, .bool i3]]
/-- the looks, their lambdas not yet called -/
abbrev lk (k : Nat) (ds : List PyData) : IV := .tup [.lam k, .d (.list ds)]
abbrev lc (k : Nat) (vs ds : List PyData) : IV := .tup [.clo k vs, .d (.list ds)]
def rowsM (p o : PyData) : List PyData := [.tuple [p], .tuple [p, p], .tuple [p, o], .tuple [p, p, p, p, p, p, p], .tuple [], .list [p], .none, p]
def placeM (m : Int) : List PyData := [.int 1, .int m, .int (m + 1), .int 0, .none, .bool true, .str "1"]
def knotM (m : Int) : List PyData := [I [1, 1], I [1, m], I [m, m], I [0, 1], I [2, 1], I [1, m + 1], I [1], .list [.int 1, .int 1], .none, .tuple [.bool true, .bool true]]
def toldM : List PyData := [.int 1, .tuple [.str "up", I [1, 2]], .tuple [.str "down", I [2, 1]], .tuple [.str "up", I [2, 1]], .int 2, .int 0, .none, .bool true, .tuple [], .tuple [.str "up", .tuple []], .tuple [.str "up", I [1]], .list [.int 1]]
def numM : List PyData := [.int 1, .int 3, .int 5, .int 7, .int 0, .int (-1), .none, .bool true, .str "2"]
theorem draw {A : FA} {i n : Nat} {r : Rho} {ds xs : List PyData} (hp : Pot n ds) (hn : n ≤ 1000000) (h0 : 0 < xs.length) (h1 : xs.length < 2 ^ 50) (hr : r[0]? = some (some (.ref 0))) (hL : eLst A r [.lst ds] = .ok (.d (.list xs)) [.lst ds]) :
    ∃ d es, d ∈ xs ∧ sSet (eApp (callN 2 f__law_of) (aCons (eVar 0) (aCons (eLst A) aNil))) i r [.lst ds] = .nx (r.set i (some (.d d))) [.lst es] ∧ Pot (n + 1) es := by
  obtain ⟨d, es, m, e, p⟩ := call_of (S := [.lst ds]) (k := 0) hp hn h0 h1 rfl
  refine ⟨d, es, m, ?_, p⟩
  simp [-eLst, hr, hL, e]
theorem d3 (p : PyData) (fp : Bool) (o : PyData) (fo : Bool) (m : Int) (S : Sto) : eLst l3 [some (.ref 0), some (.d (.int m)), none, none, none, none, none, none, none, none, none, none, none, none, none, some (.d p), some (.d (.bool fp)), some (.d o), some (.d (.bool fo)), none, none, none] S = .ok (.d (.list (rowsM p o))) S := by kernel_rfl
theorem d6 (p : PyData) (fp : Bool) (o : PyData) (fo : Bool) (m : Int) (rows : PyData) (ar : Bool) (S : Sto) : eLst l6 [some (.ref 0), some (.d (.int m)), some (.d rows), some (.d (.bool ar)), none, none, none, none, none, none, none, none, none, none, none, some (.d p), some (.d (.bool fp)), some (.d o), some (.d (.bool fo)), none, none, none] S = .ok (.d (.list (placeM m))) S := by kernel_rfl
theorem d7 (p : PyData) (fp : Bool) (o : PyData) (fo : Bool) (m : Int) (rows : PyData) (ar : Bool) (pl : PyData) (S : Sto) : eLst l7 [some (.ref 0), some (.d (.int m)), some (.d rows), some (.d (.bool ar)), some (.d pl), none, none, none, none, none, none, none, none, none, none, some (.d p), some (.d (.bool fp)), some (.d o), some (.d (.bool fo)), none, none, none] S = .ok (.d (.list (knotM m))) S := by kernel_rfl
theorem d9 (p : PyData) (fp : Bool) (o : PyData) (fo : Bool) (m : Int) (rows : PyData) (ar : Bool) (pl kn : PyData) (ik : Bool) (S : Sto) : eLst l9 [some (.ref 0), some (.d (.int m)), some (.d rows), some (.d (.bool ar)), some (.d pl), some (.d kn), some (.d (.bool ik)), none, none, none, none, none, none, none, none, some (.d p), some (.d (.bool fp)), some (.d o), some (.d (.bool fo)), none, none, none] S = .ok (.d (.list toldM)) S := by kernel_rfl
theorem d11 (p : PyData) (fp : Bool) (o : PyData) (fo : Bool) (m : Int) (rows : PyData) (ar : Bool) (pl kn : PyData) (ik : Bool) (td : PyData) (it : Bool) (S : Sto) : eLst l11 [some (.ref 0), some (.d (.int m)), some (.d rows), some (.d (.bool ar)), some (.d pl), some (.d kn), some (.d (.bool ik)), some (.d td), some (.d (.bool it)), none, none, none, none, none, none, some (.d p), some (.d (.bool fp)), some (.d o), some (.d (.bool fo)), none, none, none] S = .ok (.d (.list numM)) S := by kernel_rfl
theorem p12 (p : PyData) (fp : Bool) (o : PyData) (fo : Bool) (m : Int) (rows : PyData) (ar : Bool) (pl kn : PyData) (ik : Bool) (td : PyData) (it : Bool) (nu : PyData) (S : Sto) : st12 [some (.ref 0), some (.d (.int m)), some (.d rows), some (.d (.bool ar)), some (.d pl), some (.d kn), some (.d (.bool ik)), some (.d td), some (.d (.bool it)), some (.d nu), none, none, none, none, none, some (.d p), some (.d (.bool fp)), some (.d o), some (.d (.bool fo)), none, none, none] S = .nx [some (.ref 0), some (.d (.int m)), some (.d rows), some (.d (.bool ar)), some (.d pl), some (.d kn), some (.d (.bool ik)), some (.d td), some (.d (.bool it)), some (.d nu), some (.d (.list (hd p fp))), none, none, none, none, some (.d p), some (.d (.bool fp)), some (.d o), some (.d (.bool fo)), none, none, none] S := by kernel_rfl
theorem p14 (p : PyData) (fp : Bool) (o : PyData) (fo : Bool) (m : Int) (rows : PyData) (ar : Bool) (pl kn : PyData) (ik : Bool) (td : PyData) (it : Bool) (nu : PyData) (sg : Bool) (S : Sto) : st14 [some (.ref 0), some (.d (.int m)), some (.d rows), some (.d (.bool ar)), some (.d pl), some (.d kn), some (.d (.bool ik)), some (.d td), some (.d (.bool it)), some (.d nu), some (.d (.list (hd p fp))), some (.d (snT kn sg)), none, none, none, some (.d p), some (.d (.bool fp)), some (.d o), some (.d (.bool fo)), none, none, none] S = .nx [some (.ref 0), some (.d (.int m)), some (.d rows), some (.d (.bool ar)), some (.d pl), some (.d kn), some (.d (.bool ik)), some (.d td), some (.d (.bool it)), some (.d nu), some (.d (.list (hd p fp))), some (.d (snT kn sg)), some (.d (.list (akL p fp kn ik sg))), none, none, some (.d p), some (.d (.bool fp)), some (.d o), some (.d (.bool fo)), none, none, none] S := by kernel_rfl
theorem p16 (p : PyData) (fp : Bool) (o : PyData) (fo : Bool) (m : Int) (rows : PyData) (ar : Bool) (pl kn : PyData) (ik : Bool) (td : PyData) (it : Bool) (nu : PyData) (sg i1 i2 i3 : Bool) (x : IO) : st16 [some (.ref 0), some (.d (.int m)), some (.d rows), some (.d (.bool ar)), some (.d pl), some (.d kn), some (.d (.bool ik)), some (.d td), some (.d (.bool it)), some (.d nu), some (.d (.list (hd p fp))), some (.d (snT kn sg)), some (.d (.list (akL p fp kn ik sg))), some (.d (.list (boL p fp o fo pl i1))), none, some (.d p), some (.d (.bool fp)), some (.d o), some (.d (.bool fo)), none, none, none] [x] = .nx [some (.ref 0), some (.d (.int m)), some (.d rows), some (.d (.bool ar)), some (.d pl), some (.d kn), some (.d (.bool ik)), some (.d td), some (.d (.bool it)), some (.d nu), some (.d (.list (hd p fp))), some (.d (snT kn sg)), some (.d (.list (akL p fp kn ik sg))), some (.d (.list (boL p fp o fo pl i1))), some (.ref 1), some (.d p), some (.d (.bool fp)), some (.d o), some (.d (.bool fo)), none, none, none] [x, .lsx [lk 0 (hd p fp)]] := by kernel_rfl
theorem p17 (p : PyData) (fp : Bool) (o : PyData) (fo : Bool) (m : Int) (rows : PyData) (ar : Bool) (pl kn : PyData) (ik : Bool) (td : PyData) (it : Bool) (nu : PyData) (sg i1 i2 i3 : Bool) (x : IO) : st17 [some (.ref 0), some (.d (.int m)), some (.d rows), some (.d (.bool ar)), some (.d pl), some (.d kn), some (.d (.bool ik)), some (.d td), some (.d (.bool it)), some (.d nu), some (.d (.list (hd p fp))), some (.d (snT kn sg)), some (.d (.list (akL p fp kn ik sg))), some (.d (.list (boL p fp o fo pl i1))), some (.ref 1), some (.d p), some (.d (.bool fp)), some (.d o), some (.d (.bool fo)), none, none, none] [x, .lsx [lk 0 (hd p fp)]] = .nx [some (.ref 0), some (.d (.int m)), some (.d rows), some (.d (.bool ar)), some (.d pl), some (.d kn), some (.d (.bool ik)), some (.d td), some (.d (.bool it)), some (.d nu), some (.d (.list (hd p fp))), some (.d (snT kn sg)), some (.d (.list (akL p fp kn ik sg))), some (.d (.list (boL p fp o fo pl i1))), some (.ref 1), some (.d p), some (.d (.bool fp)), some (.d o), some (.d (.bool fo)), none, none, none] [x, .lsx [lk 0 (hd p fp), lk 1 (hd p fp)]] := by kernel_rfl
theorem p18 (p : PyData) (fp : Bool) (o : PyData) (fo : Bool) (m : Int) (rows : PyData) (ar : Bool) (pl kn : PyData) (ik : Bool) (td : PyData) (it : Bool) (nu : PyData) (sg i1 i2 i3 : Bool) (x : IO) : st18 [some (.ref 0), some (.d (.int m)), some (.d rows), some (.d (.bool ar)), some (.d pl), some (.d kn), some (.d (.bool ik)), some (.d td), some (.d (.bool it)), some (.d nu), some (.d (.list (hd p fp))), some (.d (snT kn sg)), some (.d (.list (akL p fp kn ik sg))), some (.d (.list (boL p fp o fo pl i1))), some (.ref 1), some (.d p), some (.d (.bool fp)), some (.d o), some (.d (.bool fo)), none, none, none] [x, .lsx [lk 0 (hd p fp), lk 1 (hd p fp)]] = .nx [some (.ref 0), some (.d (.int m)), some (.d rows), some (.d (.bool ar)), some (.d pl), some (.d kn), some (.d (.bool ik)), some (.d td), some (.d (.bool it)), some (.d nu), some (.d (.list (hd p fp))), some (.d (snT kn sg)), some (.d (.list (akL p fp kn ik sg))), some (.d (.list (boL p fp o fo pl i1))), some (.ref 1), some (.d p), some (.d (.bool fp)), some (.d o), some (.d (.bool fo)), none, none, none] [x, .lsx [lk 0 (hd p fp), lk 1 (hd p fp), lk 2 (hd p fp)]] := by kernel_rfl
theorem p20 (p : PyData) (fp : Bool) (o : PyData) (fo : Bool) (m : Int) (rows : PyData) (ar : Bool) (pl kn : PyData) (ik : Bool) (td : PyData) (it : Bool) (nu : PyData) (sg i1 i2 i3 : Bool) (x : IO) : st20 [some (.ref 0), some (.d (.int m)), some (.d rows), some (.d (.bool ar)), some (.d pl), some (.d kn), some (.d (.bool ik)), some (.d td), some (.d (.bool it)), some (.d nu), some (.d (.list (hd p fp))), some (.d (snT kn sg)), some (.d (.list (akL p fp kn ik sg))), some (.d (.list (boL p fp o fo pl i1))), some (.ref 1), some (.d p), some (.d (.bool fp)), some (.d o), some (.d (.bool fo)), none, none, none] [x, .lsx [lk 0 (hd p fp), lk 1 (hd p fp), lk 2 (hd p fp), lk 3 (plL p fp pl i2)]] = .nx [some (.ref 0), some (.d (.int m)), some (.d rows), some (.d (.bool ar)), some (.d pl), some (.d kn), some (.d (.bool ik)), some (.d td), some (.d (.bool it)), some (.d nu), some (.d (.list (hd p fp))), some (.d (snT kn sg)), some (.d (.list (akL p fp kn ik sg))), some (.d (.list (boL p fp o fo pl i1))), some (.ref 1), some (.d p), some (.d (.bool fp)), some (.d o), some (.d (.bool fo)), none, none, none] [x, .lsx [lk 0 (hd p fp), lk 1 (hd p fp), lk 2 (hd p fp), lk 3 (plL p fp pl i2), lk 4 (roL rows ar)]] := by kernel_rfl
theorem p21 (p : PyData) (fp : Bool) (o : PyData) (fo : Bool) (m : Int) (rows : PyData) (ar : Bool) (pl kn : PyData) (ik : Bool) (td : PyData) (it : Bool) (nu : PyData) (sg i1 i2 i3 : Bool) (x : IO) : st21 [some (.ref 0), some (.d (.int m)), some (.d rows), some (.d (.bool ar)), some (.d pl), some (.d kn), some (.d (.bool ik)), some (.d td), some (.d (.bool it)), some (.d nu), some (.d (.list (hd p fp))), some (.d (snT kn sg)), some (.d (.list (akL p fp kn ik sg))), some (.d (.list (boL p fp o fo pl i1))), some (.ref 1), some (.d p), some (.d (.bool fp)), some (.d o), some (.d (.bool fo)), none, none, none] [x, .lsx [lk 0 (hd p fp), lk 1 (hd p fp), lk 2 (hd p fp), lk 3 (plL p fp pl i2), lk 4 (roL rows ar)]] = .nx [some (.ref 0), some (.d (.int m)), some (.d rows), some (.d (.bool ar)), some (.d pl), some (.d kn), some (.d (.bool ik)), some (.d td), some (.d (.bool it)), some (.d nu), some (.d (.list (hd p fp))), some (.d (snT kn sg)), some (.d (.list (akL p fp kn ik sg))), some (.d (.list (boL p fp o fo pl i1))), some (.ref 1), some (.d p), some (.d (.bool fp)), some (.d o), some (.d (.bool fo)), none, none, none] [x, .lsx [lk 0 (hd p fp), lk 1 (hd p fp), lk 2 (hd p fp), lk 3 (plL p fp pl i2), lk 4 (roL rows ar), lk 5 (roL rows ar)]] := by kernel_rfl
theorem p22 (p : PyData) (fp : Bool) (o : PyData) (fo : Bool) (m : Int) (rows : PyData) (ar : Bool) (pl kn : PyData) (ik : Bool) (td : PyData) (it : Bool) (nu : PyData) (sg i1 i2 i3 : Bool) (x : IO) : st22 [some (.ref 0), some (.d (.int m)), some (.d rows), some (.d (.bool ar)), some (.d pl), some (.d kn), some (.d (.bool ik)), some (.d td), some (.d (.bool it)), some (.d nu), some (.d (.list (hd p fp))), some (.d (snT kn sg)), some (.d (.list (akL p fp kn ik sg))), some (.d (.list (boL p fp o fo pl i1))), some (.ref 1), some (.d p), some (.d (.bool fp)), some (.d o), some (.d (.bool fo)), none, none, none] [x, .lsx [lk 0 (hd p fp), lk 1 (hd p fp), lk 2 (hd p fp), lk 3 (plL p fp pl i2), lk 4 (roL rows ar), lk 5 (roL rows ar)]] = .nx [some (.ref 0), some (.d (.int m)), some (.d rows), some (.d (.bool ar)), some (.d pl), some (.d kn), some (.d (.bool ik)), some (.d td), some (.d (.bool it)), some (.d nu), some (.d (.list (hd p fp))), some (.d (snT kn sg)), some (.d (.list (akL p fp kn ik sg))), some (.d (.list (boL p fp o fo pl i1))), some (.ref 1), some (.d p), some (.d (.bool fp)), some (.d o), some (.d (.bool fo)), none, none, none] [x, .lsx [lk 0 (hd p fp), lk 1 (hd p fp), lk 2 (hd p fp), lk 3 (plL p fp pl i2), lk 4 (roL rows ar), lk 5 (roL rows ar), lk 6 (hd p fp)]] := by kernel_rfl
theorem p23 (p : PyData) (fp : Bool) (o : PyData) (fo : Bool) (m : Int) (rows : PyData) (ar : Bool) (pl kn : PyData) (ik : Bool) (td : PyData) (it : Bool) (nu : PyData) (sg i1 i2 i3 : Bool) (x : IO) : st23 [some (.ref 0), some (.d (.int m)), some (.d rows), some (.d (.bool ar)), some (.d pl), some (.d kn), some (.d (.bool ik)), some (.d td), some (.d (.bool it)), some (.d nu), some (.d (.list (hd p fp))), some (.d (snT kn sg)), some (.d (.list (akL p fp kn ik sg))), some (.d (.list (boL p fp o fo pl i1))), some (.ref 1), some (.d p), some (.d (.bool fp)), some (.d o), some (.d (.bool fo)), none, none, none] [x, .lsx [lk 0 (hd p fp), lk 1 (hd p fp), lk 2 (hd p fp), lk 3 (plL p fp pl i2), lk 4 (roL rows ar), lk 5 (roL rows ar), lk 6 (hd p fp)]] = .nx [some (.ref 0), some (.d (.int m)), some (.d rows), some (.d (.bool ar)), some (.d pl), some (.d kn), some (.d (.bool ik)), some (.d td), some (.d (.bool it)), some (.d nu), some (.d (.list (hd p fp))), some (.d (snT kn sg)), some (.d (.list (akL p fp kn ik sg))), some (.d (.list (boL p fp o fo pl i1))), some (.ref 1), some (.d p), some (.d (.bool fp)), some (.d o), some (.d (.bool fo)), none, none, none] [x, .lsx [lk 0 (hd p fp), lk 1 (hd p fp), lk 2 (hd p fp), lk 3 (plL p fp pl i2), lk 4 (roL rows ar), lk 5 (roL rows ar), lk 6 (hd p fp), lk 7 (akL p fp kn ik sg)]] := by kernel_rfl
theorem p24 (p : PyData) (fp : Bool) (o : PyData) (fo : Bool) (m : Int) (rows : PyData) (ar : Bool) (pl kn : PyData) (ik : Bool) (td : PyData) (it : Bool) (nu : PyData) (sg i1 i2 i3 : Bool) (x : IO) : st24 [some (.ref 0), some (.d (.int m)), some (.d rows), some (.d (.bool ar)), some (.d pl), some (.d kn), some (.d (.bool ik)), some (.d td), some (.d (.bool it)), some (.d nu), some (.d (.list (hd p fp))), some (.d (snT kn sg)), some (.d (.list (akL p fp kn ik sg))), some (.d (.list (boL p fp o fo pl i1))), some (.ref 1), some (.d p), some (.d (.bool fp)), some (.d o), some (.d (.bool fo)), none, none, none] [x, .lsx [lk 0 (hd p fp), lk 1 (hd p fp), lk 2 (hd p fp), lk 3 (plL p fp pl i2), lk 4 (roL rows ar), lk 5 (roL rows ar), lk 6 (hd p fp), lk 7 (akL p fp kn ik sg)]] = .nx [some (.ref 0), some (.d (.int m)), some (.d rows), some (.d (.bool ar)), some (.d pl), some (.d kn), some (.d (.bool ik)), some (.d td), some (.d (.bool it)), some (.d nu), some (.d (.list (hd p fp))), some (.d (snT kn sg)), some (.d (.list (akL p fp kn ik sg))), some (.d (.list (boL p fp o fo pl i1))), some (.ref 1), some (.d p), some (.d (.bool fp)), some (.d o), some (.d (.bool fo)), none, none, none] [x, .lsx [lk 0 (hd p fp), lk 1 (hd p fp), lk 2 (hd p fp), lk 3 (plL p fp pl i2), lk 4 (roL rows ar), lk 5 (roL rows ar), lk 6 (hd p fp), lk 7 (akL p fp kn ik sg), lk 8 (akL p fp kn ik sg)]] := by kernel_rfl
theorem p25 (p : PyData) (fp : Bool) (o : PyData) (fo : Bool) (m : Int) (rows : PyData) (ar : Bool) (pl kn : PyData) (ik : Bool) (td : PyData) (it : Bool) (nu : PyData) (sg i1 i2 i3 : Bool) (x : IO) : st25 [some (.ref 0), some (.d (.int m)), some (.d rows), some (.d (.bool ar)), some (.d pl), some (.d kn), some (.d (.bool ik)), some (.d td), some (.d (.bool it)), some (.d nu), some (.d (.list (hd p fp))), some (.d (snT kn sg)), some (.d (.list (akL p fp kn ik sg))), some (.d (.list (boL p fp o fo pl i1))), some (.ref 1), some (.d p), some (.d (.bool fp)), some (.d o), some (.d (.bool fo)), none, none, none] [x, .lsx [lk 0 (hd p fp), lk 1 (hd p fp), lk 2 (hd p fp), lk 3 (plL p fp pl i2), lk 4 (roL rows ar), lk 5 (roL rows ar), lk 6 (hd p fp), lk 7 (akL p fp kn ik sg), lk 8 (akL p fp kn ik sg)]] = .nx [some (.ref 0), some (.d (.int m)), some (.d rows), some (.d (.bool ar)), some (.d pl), some (.d kn), some (.d (.bool ik)), some (.d td), some (.d (.bool it)), some (.d nu), some (.d (.list (hd p fp))), some (.d (snT kn sg)), some (.d (.list (akL p fp kn ik sg))), some (.d (.list (boL p fp o fo pl i1))), some (.ref 1), some (.d p), some (.d (.bool fp)), some (.d o), some (.d (.bool fo)), none, none, none] [x, .lsx [lk 0 (hd p fp), lk 1 (hd p fp), lk 2 (hd p fp), lk 3 (plL p fp pl i2), lk 4 (roL rows ar), lk 5 (roL rows ar), lk 6 (hd p fp), lk 7 (akL p fp kn ik sg), lk 8 (akL p fp kn ik sg), lk 9 (hd p fp)]] := by kernel_rfl
theorem p26 (p : PyData) (fp : Bool) (o : PyData) (fo : Bool) (m : Int) (rows : PyData) (ar : Bool) (pl kn : PyData) (ik : Bool) (td : PyData) (it : Bool) (nu : PyData) (sg i1 i2 i3 : Bool) (x : IO) : st26 [some (.ref 0), some (.d (.int m)), some (.d rows), some (.d (.bool ar)), some (.d pl), some (.d kn), some (.d (.bool ik)), some (.d td), some (.d (.bool it)), some (.d nu), some (.d (.list (hd p fp))), some (.d (snT kn sg)), some (.d (.list (akL p fp kn ik sg))), some (.d (.list (boL p fp o fo pl i1))), some (.ref 1), some (.d p), some (.d (.bool fp)), some (.d o), some (.d (.bool fo)), none, none, none] [x, .lsx [lk 0 (hd p fp), lk 1 (hd p fp), lk 2 (hd p fp), lk 3 (plL p fp pl i2), lk 4 (roL rows ar), lk 5 (roL rows ar), lk 6 (hd p fp), lk 7 (akL p fp kn ik sg), lk 8 (akL p fp kn ik sg), lk 9 (hd p fp)]] = .nx [some (.ref 0), some (.d (.int m)), some (.d rows), some (.d (.bool ar)), some (.d pl), some (.d kn), some (.d (.bool ik)), some (.d td), some (.d (.bool it)), some (.d nu), some (.d (.list (hd p fp))), some (.d (snT kn sg)), some (.d (.list (akL p fp kn ik sg))), some (.d (.list (boL p fp o fo pl i1))), some (.ref 1), some (.d p), some (.d (.bool fp)), some (.d o), some (.d (.bool fo)), none, none, none] [x, .lsx [lk 0 (hd p fp), lk 1 (hd p fp), lk 2 (hd p fp), lk 3 (plL p fp pl i2), lk 4 (roL rows ar), lk 5 (roL rows ar), lk 6 (hd p fp), lk 7 (akL p fp kn ik sg), lk 8 (akL p fp kn ik sg), lk 9 (hd p fp), lk 10 (trL td it)]] := by kernel_rfl
theorem p27 (p : PyData) (fp : Bool) (o : PyData) (fo : Bool) (m : Int) (rows : PyData) (ar : Bool) (pl kn : PyData) (ik : Bool) (td : PyData) (it : Bool) (nu : PyData) (sg i1 i2 i3 : Bool) (x : IO) : st27 [some (.ref 0), some (.d (.int m)), some (.d rows), some (.d (.bool ar)), some (.d pl), some (.d kn), some (.d (.bool ik)), some (.d td), some (.d (.bool it)), some (.d nu), some (.d (.list (hd p fp))), some (.d (snT kn sg)), some (.d (.list (akL p fp kn ik sg))), some (.d (.list (boL p fp o fo pl i1))), some (.ref 1), some (.d p), some (.d (.bool fp)), some (.d o), some (.d (.bool fo)), none, none, none] [x, .lsx [lk 0 (hd p fp), lk 1 (hd p fp), lk 2 (hd p fp), lk 3 (plL p fp pl i2), lk 4 (roL rows ar), lk 5 (roL rows ar), lk 6 (hd p fp), lk 7 (akL p fp kn ik sg), lk 8 (akL p fp kn ik sg), lk 9 (hd p fp), lk 10 (trL td it)]] = .nx [some (.ref 0), some (.d (.int m)), some (.d rows), some (.d (.bool ar)), some (.d pl), some (.d kn), some (.d (.bool ik)), some (.d td), some (.d (.bool it)), some (.d nu), some (.d (.list (hd p fp))), some (.d (snT kn sg)), some (.d (.list (akL p fp kn ik sg))), some (.d (.list (boL p fp o fo pl i1))), some (.ref 1), some (.d p), some (.d (.bool fp)), some (.d o), some (.d (.bool fo)), none, none, none] [x, .lsx [lk 0 (hd p fp), lk 1 (hd p fp), lk 2 (hd p fp), lk 3 (plL p fp pl i2), lk 4 (roL rows ar), lk 5 (roL rows ar), lk 6 (hd p fp), lk 7 (akL p fp kn ik sg), lk 8 (akL p fp kn ik sg), lk 9 (hd p fp), lk 10 (trL td it), lk 11 (hd p fp)]] := by kernel_rfl
theorem p28 (p : PyData) (fp : Bool) (o : PyData) (fo : Bool) (m : Int) (rows : PyData) (ar : Bool) (pl kn : PyData) (ik : Bool) (td : PyData) (it : Bool) (nu : PyData) (sg i1 i2 i3 : Bool) (x : IO) : st28 [some (.ref 0), some (.d (.int m)), some (.d rows), some (.d (.bool ar)), some (.d pl), some (.d kn), some (.d (.bool ik)), some (.d td), some (.d (.bool it)), some (.d nu), some (.d (.list (hd p fp))), some (.d (snT kn sg)), some (.d (.list (akL p fp kn ik sg))), some (.d (.list (boL p fp o fo pl i1))), some (.ref 1), some (.d p), some (.d (.bool fp)), some (.d o), some (.d (.bool fo)), none, none, none] [x, .lsx [lk 0 (hd p fp), lk 1 (hd p fp), lk 2 (hd p fp), lk 3 (plL p fp pl i2), lk 4 (roL rows ar), lk 5 (roL rows ar), lk 6 (hd p fp), lk 7 (akL p fp kn ik sg), lk 8 (akL p fp kn ik sg), lk 9 (hd p fp), lk 10 (trL td it), lk 11 (hd p fp)]] = .nx [some (.ref 0), some (.d (.int m)), some (.d rows), some (.d (.bool ar)), some (.d pl), some (.d kn), some (.d (.bool ik)), some (.d td), some (.d (.bool it)), some (.d nu), some (.d (.list (hd p fp))), some (.d (snT kn sg)), some (.d (.list (akL p fp kn ik sg))), some (.d (.list (boL p fp o fo pl i1))), some (.ref 1), some (.d p), some (.d (.bool fp)), some (.d o), some (.d (.bool fo)), none, none, none] [x, .lsx [lk 0 (hd p fp), lk 1 (hd p fp), lk 2 (hd p fp), lk 3 (plL p fp pl i2), lk 4 (roL rows ar), lk 5 (roL rows ar), lk 6 (hd p fp), lk 7 (akL p fp kn ik sg), lk 8 (akL p fp kn ik sg), lk 9 (hd p fp), lk 10 (trL td it), lk 11 (hd p fp), lk 12 (hd p fp)]] := by kernel_rfl
theorem p29 (p : PyData) (fp : Bool) (o : PyData) (fo : Bool) (m : Int) (rows : PyData) (ar : Bool) (pl kn : PyData) (ik : Bool) (td : PyData) (it : Bool) (nu : PyData) (sg i1 i2 i3 : Bool) (x : IO) : st29 [some (.ref 0), some (.d (.int m)), some (.d rows), some (.d (.bool ar)), some (.d pl), some (.d kn), some (.d (.bool ik)), some (.d td), some (.d (.bool it)), some (.d nu), some (.d (.list (hd p fp))), some (.d (snT kn sg)), some (.d (.list (akL p fp kn ik sg))), some (.d (.list (boL p fp o fo pl i1))), some (.ref 1), some (.d p), some (.d (.bool fp)), some (.d o), some (.d (.bool fo)), none, none, none] [x, .lsx [lk 0 (hd p fp), lk 1 (hd p fp), lk 2 (hd p fp), lk 3 (plL p fp pl i2), lk 4 (roL rows ar), lk 5 (roL rows ar), lk 6 (hd p fp), lk 7 (akL p fp kn ik sg), lk 8 (akL p fp kn ik sg), lk 9 (hd p fp), lk 10 (trL td it), lk 11 (hd p fp), lk 12 (hd p fp)]] = .nx [some (.ref 0), some (.d (.int m)), some (.d rows), some (.d (.bool ar)), some (.d pl), some (.d kn), some (.d (.bool ik)), some (.d td), some (.d (.bool it)), some (.d nu), some (.d (.list (hd p fp))), some (.d (snT kn sg)), some (.d (.list (akL p fp kn ik sg))), some (.d (.list (boL p fp o fo pl i1))), some (.ref 1), some (.d p), some (.d (.bool fp)), some (.d o), some (.d (.bool fo)), none, none, none] [x, .lsx [lk 0 (hd p fp), lk 1 (hd p fp), lk 2 (hd p fp), lk 3 (plL p fp pl i2), lk 4 (roL rows ar), lk 5 (roL rows ar), lk 6 (hd p fp), lk 7 (akL p fp kn ik sg), lk 8 (akL p fp kn ik sg), lk 9 (hd p fp), lk 10 (trL td it), lk 11 (hd p fp), lk 12 (hd p fp), lk 13 (boL p fp o fo pl i1)]] := by kernel_rfl
theorem cap_ok (p : PyData) (fp : Bool) (o : PyData) (fo : Bool) (m : Int) (rows : PyData) (ar : Bool) (pl kn : PyData) (ik : Bool) (td : PyData) (it : Bool) (nu : PyData) (sg i1 i2 i3 : Bool) (x : IO) : capVs fz__law_right [some (.ref 0), some (.d (.int m)), some (.d rows), some (.d (.bool ar)), some (.d pl), some (.d kn), some (.d (.bool ik)), some (.d td), some (.d (.bool it)), some (.d nu), some (.d (.list (hd p fp))), some (.d (snT kn sg)), some (.d (.list (akL p fp kn ik sg))), some (.d (.list (boL p fp o fo pl i1))), some (.ref 1), some (.d p), some (.d (.bool fp)), some (.d o), some (.d (.bool fo)), none, none, none] [lk 0 (hd p fp), lk 1 (hd p fp), lk 2 (hd p fp), lk 3 (plL p fp pl i2), lk 4 (roL rows ar), lk 5 (roL rows ar), lk 6 (hd p fp), lk 7 (akL p fp kn ik sg), lk 8 (akL p fp kn ik sg), lk 9 (hd p fp), lk 10 (trL td it), lk 11 (hd p fp), lk 12 (hd p fp), lk 13 (boL p fp o fo pl i1), lk 14 (nuL nu i3)] = some [lc 0 [p] (hd p fp), lc 1 [p] (hd p fp), lc 2 [p] (hd p fp), lc 3 [p, pl] (plL p fp pl i2), lc 4 [rows] (roL rows ar), lc 5 [rows] (roL rows ar), lc 6 [p] (hd p fp), lc 7 [p, kn] (akL p fp kn ik sg), lc 8 [p, kn] (akL p fp kn ik sg), lc 9 [p] (hd p fp), lc 10 [td] (trL td it), lc 11 [p] (hd p fp), lc 12 [p] (hd p fp), lc 13 [p, pl, o] (boL p fp o fo pl i1), lc 14 [nu] (nuL nu i3)] := by kernel_rfl
end K22
set_option maxRecDepth 100000
set_option maxHeartbeats 4000000
namespace K22
open PySem PySem.Spec PyProof.Rows L2 MI LamX
def boolAt (i : Nat) (o : SOut) : Bool := match o with
  | .nx r _ => (match r[i]? with
    | some (some (.d (.bool b))) => b
    | _ => false)
  | _ => false
def boolOf (o : Out IV) : Bool := match o with
  | .ok (.d (.bool b)) _ => b
  | _ => false
/-- how many wagons: of a row that is one, else 2 -/
def mm (q : PyData × Bool) : Int := if q.2 then (match q.1 with
  | .tuple l => l.length
  | _ => 2) else 2
def manyM : List Int := [1, 2, 3, 4]
def knPs : List (Int × PyData) := manyM.flatMap fun m => (knotM m).map fun kn => (m, kn)
def plPs : List (Int × PyData) := manyM.flatMap fun m => (placeM m).map fun pl => (m, pl)
theorem of_map {α β : Type} {f g : α → β} {l : List α} (h : l.map f = l.map g) {a : α} (m : a ∈ l) : f a = g a := List.map_inj_left.mp h a m
def ikB (m : Int) (kn : PyData) : Bool := boolAt 6 (st8 [some (.ref 0), some (.d (.int m)), none, none, none, some (.d kn), none, none, none, none, none, none, none, none, none, none, none, none, none, none, none, none] [])
def itB (td : PyData) : Bool := boolAt 8 (st10 [some (.ref 0), none, none, none, none, none, none, some (.d td), none, none, none, none, none, none, none, none, none, none, none, none, none, none] [])
def snAt (o : SOut) : Bool := match o with
  | .nx r _ => (match (r[11]? : Option (Option IV)) with
    | some (some (.d (.tuple [_, _, .bool b]))) => b
    | _ => false)
  | _ => false
def sgB (m : Int) (kn : PyData) : Bool := snAt (st13 [some (.ref 0), none, none, none, none, some (.d kn), some (.d (.bool (ikB m kn))), none, none, none, none, none, none, none, none, none, none, none, none, none, none, none] [])
def isB (d : PyData) (lo hi : Int) : Bool := boolOf (f__law_is_int [.d d, .d (.int lo), .d (.int hi)] [])
theorem p2 : (plains).map (fun q => fun (o : PyData) (fo : Bool) (S : Sto) => let p := q.1; let fp := q.2; let m := mm q; st2 [some (.ref 0), none, none, none, none, none, none, none, none, none, none, none, none, none, none, some (.d p), some (.d (.bool fp)), some (.d o), some (.d (.bool fo)), none, none, none] S) = (plains).map (fun q => fun (o : PyData) (fo : Bool) (S : Sto) => let p := q.1; let fp := q.2; let m := mm q; SOut.nx [some (.ref 0), some (.d (.int m)), none, none, none, none, none, none, none, none, none, none, none, none, none, some (.d p), some (.d (.bool fp)), some (.d o), some (.d (.bool fo)), none, none, none] S) := by kernel_rfl
theorem p8 : (knPs).map (fun q => fun (p : PyData) (fp : Bool) (o : PyData) (fo : Bool) (rows : PyData) (ar : Bool) (pl : PyData) (S : Sto) => let m := q.1; let kn := q.2; st8 [some (.ref 0), some (.d (.int m)), some (.d rows), some (.d (.bool ar)), some (.d pl), some (.d kn), none, none, none, none, none, none, none, none, none, some (.d p), some (.d (.bool fp)), some (.d o), some (.d (.bool fo)), none, none, none] S) = (knPs).map (fun q => fun (p : PyData) (fp : Bool) (o : PyData) (fo : Bool) (rows : PyData) (ar : Bool) (pl : PyData) (S : Sto) => let m := q.1; let kn := q.2; SOut.nx [some (.ref 0), some (.d (.int m)), some (.d rows), some (.d (.bool ar)), some (.d pl), some (.d kn), some (.d (.bool (ikB m kn))), none, none, none, none, none, none, none, none, some (.d p), some (.d (.bool fp)), some (.d o), some (.d (.bool fo)), none, none, none] S) := by kernel_rfl
theorem p10 : (toldM).map (fun td => fun (p : PyData) (fp : Bool) (o : PyData) (fo : Bool) (m : Int) (rows : PyData) (ar : Bool) (pl : PyData) (kn : PyData) (ik : Bool) (S : Sto) => st10 [some (.ref 0), some (.d (.int m)), some (.d rows), some (.d (.bool ar)), some (.d pl), some (.d kn), some (.d (.bool ik)), some (.d td), none, none, none, none, none, none, none, some (.d p), some (.d (.bool fp)), some (.d o), some (.d (.bool fo)), none, none, none] S) = (toldM).map (fun td => fun (p : PyData) (fp : Bool) (o : PyData) (fo : Bool) (m : Int) (rows : PyData) (ar : Bool) (pl : PyData) (kn : PyData) (ik : Bool) (S : Sto) => SOut.nx [some (.ref 0), some (.d (.int m)), some (.d rows), some (.d (.bool ar)), some (.d pl), some (.d kn), some (.d (.bool ik)), some (.d td), some (.d (.bool (itB td))), none, none, none, none, none, none, some (.d p), some (.d (.bool fp)), some (.d o), some (.d (.bool fo)), none, none, none] S) := by kernel_rfl
theorem p13 : (knPs).map (fun q => fun (p : PyData) (fp : Bool) (o : PyData) (fo : Bool) (rows : PyData) (ar : Bool) (pl : PyData) (td : PyData) (it : Bool) (nu : PyData) (S : Sto) => let m := q.1; let kn := q.2; let ik := ikB m kn; st13 [some (.ref 0), some (.d (.int m)), some (.d rows), some (.d (.bool ar)), some (.d pl), some (.d kn), some (.d (.bool ik)), some (.d td), some (.d (.bool it)), some (.d nu), some (.d (.list (hd p fp))), none, none, none, none, some (.d p), some (.d (.bool fp)), some (.d o), some (.d (.bool fo)), none, none, none] S) = (knPs).map (fun q => fun (p : PyData) (fp : Bool) (o : PyData) (fo : Bool) (rows : PyData) (ar : Bool) (pl : PyData) (td : PyData) (it : Bool) (nu : PyData) (S : Sto) => let m := q.1; let kn := q.2; let ik := ikB m kn; SOut.nx [some (.ref 0), some (.d (.int m)), some (.d rows), some (.d (.bool ar)), some (.d pl), some (.d kn), some (.d (.bool ik)), some (.d td), some (.d (.bool it)), some (.d nu), some (.d (.list (hd p fp))), some (.d (snT kn (sgB m kn))), none, none, none, some (.d p), some (.d (.bool fp)), some (.d o), some (.d (.bool fo)), none, none, none] S) := by kernel_rfl
theorem p15 : (plPs).map (fun q => fun (p : PyData) (fp : Bool) (o : PyData) (fo : Bool) (rows : PyData) (ar : Bool) (kn : PyData) (ik : Bool) (td : PyData) (it : Bool) (nu : PyData) (sg : Bool) (S : Sto) => let m := q.1; let pl := q.2; let i1 := isB pl 1 m; st15 [some (.ref 0), some (.d (.int m)), some (.d rows), some (.d (.bool ar)), some (.d pl), some (.d kn), some (.d (.bool ik)), some (.d td), some (.d (.bool it)), some (.d nu), some (.d (.list (hd p fp))), some (.d (snT kn sg)), some (.d (.list (akL p fp kn ik sg))), none, none, some (.d p), some (.d (.bool fp)), some (.d o), some (.d (.bool fo)), none, none, none] S) = (plPs).map (fun q => fun (p : PyData) (fp : Bool) (o : PyData) (fo : Bool) (rows : PyData) (ar : Bool) (kn : PyData) (ik : Bool) (td : PyData) (it : Bool) (nu : PyData) (sg : Bool) (S : Sto) => let m := q.1; let pl := q.2; let i1 := isB pl 1 m; SOut.nx [some (.ref 0), some (.d (.int m)), some (.d rows), some (.d (.bool ar)), some (.d pl), some (.d kn), some (.d (.bool ik)), some (.d td), some (.d (.bool it)), some (.d nu), some (.d (.list (hd p fp))), some (.d (snT kn sg)), some (.d (.list (akL p fp kn ik sg))), some (.d (.list (boL p fp o fo pl i1))), none, some (.d p), some (.d (.bool fp)), some (.d o), some (.d (.bool fo)), none, none, none] S) := by kernel_rfl
theorem p19 : (plPs).map (fun q => fun (p : PyData) (fp : Bool) (o : PyData) (fo : Bool) (rows : PyData) (ar : Bool) (kn : PyData) (ik : Bool) (td : PyData) (it : Bool) (nu : PyData) (sg : Bool) (i1 : Bool) (x : IO) => let m := q.1; let pl := q.2; let i2 := isB pl 1 (m - 1); st19 [some (.ref 0), some (.d (.int m)), some (.d rows), some (.d (.bool ar)), some (.d pl), some (.d kn), some (.d (.bool ik)), some (.d td), some (.d (.bool it)), some (.d nu), some (.d (.list (hd p fp))), some (.d (snT kn sg)), some (.d (.list (akL p fp kn ik sg))), some (.d (.list (boL p fp o fo pl i1))), some (.ref 1), some (.d p), some (.d (.bool fp)), some (.d o), some (.d (.bool fo)), none, none, none] [x, .lsx [lk 0 (hd p fp), lk 1 (hd p fp), lk 2 (hd p fp)]]) = (plPs).map (fun q => fun (p : PyData) (fp : Bool) (o : PyData) (fo : Bool) (rows : PyData) (ar : Bool) (kn : PyData) (ik : Bool) (td : PyData) (it : Bool) (nu : PyData) (sg : Bool) (i1 : Bool) (x : IO) => let m := q.1; let pl := q.2; let i2 := isB pl 1 (m - 1); SOut.nx [some (.ref 0), some (.d (.int m)), some (.d rows), some (.d (.bool ar)), some (.d pl), some (.d kn), some (.d (.bool ik)), some (.d td), some (.d (.bool it)), some (.d nu), some (.d (.list (hd p fp))), some (.d (snT kn sg)), some (.d (.list (akL p fp kn ik sg))), some (.d (.list (boL p fp o fo pl i1))), some (.ref 1), some (.d p), some (.d (.bool fp)), some (.d o), some (.d (.bool fo)), none, none, none] [x, .lsx [lk 0 (hd p fp), lk 1 (hd p fp), lk 2 (hd p fp), lk 3 (plL p fp pl i2)]]) := by kernel_rfl
theorem p30 : (numM).map (fun nu => fun (p : PyData) (fp : Bool) (o : PyData) (fo : Bool) (m : Int) (rows : PyData) (ar : Bool) (pl : PyData) (kn : PyData) (ik : Bool) (td : PyData) (it : Bool) (sg : Bool) (i1 : Bool) (i2 : Bool) (x : IO) => let i3 := isB nu 1 6; st30 [some (.ref 0), some (.d (.int m)), some (.d rows), some (.d (.bool ar)), some (.d pl), some (.d kn), some (.d (.bool ik)), some (.d td), some (.d (.bool it)), some (.d nu), some (.d (.list (hd p fp))), some (.d (snT kn sg)), some (.d (.list (akL p fp kn ik sg))), some (.d (.list (boL p fp o fo pl i1))), some (.ref 1), some (.d p), some (.d (.bool fp)), some (.d o), some (.d (.bool fo)), none, none, none] [x, .lsx [lk 0 (hd p fp), lk 1 (hd p fp), lk 2 (hd p fp), lk 3 (plL p fp pl i2), lk 4 (roL rows ar), lk 5 (roL rows ar), lk 6 (hd p fp), lk 7 (akL p fp kn ik sg), lk 8 (akL p fp kn ik sg), lk 9 (hd p fp), lk 10 (trL td it), lk 11 (hd p fp), lk 12 (hd p fp), lk 13 (boL p fp o fo pl i1)]]) = (numM).map (fun nu => fun (p : PyData) (fp : Bool) (o : PyData) (fo : Bool) (m : Int) (rows : PyData) (ar : Bool) (pl : PyData) (kn : PyData) (ik : Bool) (td : PyData) (it : Bool) (sg : Bool) (i1 : Bool) (i2 : Bool) (x : IO) => let i3 := isB nu 1 6; SOut.nx [some (.ref 0), some (.d (.int m)), some (.d rows), some (.d (.bool ar)), some (.d pl), some (.d kn), some (.d (.bool ik)), some (.d td), some (.d (.bool it)), some (.d nu), some (.d (.list (hd p fp))), some (.d (snT kn sg)), some (.d (.list (akL p fp kn ik sg))), some (.d (.list (boL p fp o fo pl i1))), some (.ref 1), some (.d p), some (.d (.bool fp)), some (.d o), some (.d (.bool fo)), none, none, none] [x, .lsx [lk 0 (hd p fp), lk 1 (hd p fp), lk 2 (hd p fp), lk 3 (plL p fp pl i2), lk 4 (roL rows ar), lk 5 (roL rows ar), lk 6 (hd p fp), lk 7 (akL p fp kn ik sg), lk 8 (akL p fp kn ik sg), lk 9 (hd p fp), lk 10 (trL td it), lk 11 (hd p fp), lk 12 (hd p fp), lk 13 (boL p fp o fo pl i1), lk 14 (nuL nu i3)]]) := by kernel_rfl
def look (k : Nat) (vs ds : List PyData) : Out IV := eLook (List.replicate 20 none ++ [some (.clo k vs), some (.d (.list ds))]) []
abbrev yes : Out IV := .ok (.d (.bool true)) []
theorem c0 : plains.map (fun q => look 0 [q.1] (hd q.1 q.2)) = plains.map fun _ => yes := by kernel_rfl
theorem c1 : plains.map (fun q => look 1 [q.1] (hd q.1 q.2)) = plains.map fun _ => yes := by kernel_rfl
theorem c2 : plains.map (fun q => look 2 [q.1] (hd q.1 q.2)) = plains.map fun _ => yes := by kernel_rfl
theorem c6 : plains.map (fun q => look 6 [q.1] (hd q.1 q.2)) = plains.map fun _ => yes := by kernel_rfl
theorem c9 : plains.map (fun q => look 9 [q.1] (hd q.1 q.2)) = plains.map fun _ => yes := by kernel_rfl
theorem c11 : plains.map (fun q => look 11 [q.1] (hd q.1 q.2)) = plains.map fun _ => yes := by kernel_rfl
theorem c12 : plains.map (fun q => look 12 [q.1] (hd q.1 q.2)) = plains.map fun _ => yes := by kernel_rfl
theorem c10 : toldM.map (fun td => look 10 [td] (trL td (itB td))) = toldM.map fun _ => yes := by kernel_rfl
theorem c14 : numM.map (fun nu => look 14 [nu] (nuL nu (isB nu 1 6))) = numM.map fun _ => yes := by kernel_rfl
def plQs : List ((PyData × Bool) × PyData) := plains.flatMap fun q => (placeM (mm q)).map fun pl => (q, pl)
def knQs : List ((PyData × Bool) × PyData) := plains.flatMap fun q => (knotM (mm q)).map fun pl => (q, pl)
theorem c3 : plQs.map (fun q => look 3 [q.1.1, q.2] (plL q.1.1 q.1.2 q.2 (isB q.2 1 (mm q.1 - 1)))) = plQs.map fun _ => yes := by kernel_rfl
theorem c7 : knQs.map (fun q => look 7 [q.1.1, q.2] (akL q.1.1 q.1.2 q.2 (ikB (mm q.1) q.2) (sgB (mm q.1) q.2))) = knQs.map fun _ => yes := by kernel_rfl
theorem c8 : knQs.map (fun q => look 8 [q.1.1, q.2] (akL q.1.1 q.1.2 q.2 (ikB (mm q.1) q.2) (sgB (mm q.1) q.2))) = knQs.map fun _ => yes := by kernel_rfl
end K22
set_option maxRecDepth 100000
set_option maxHeartbeats 4000000
namespace K22
open PySem PySem.Spec PyProof.Rows L2 MI LamX
def arB (rows : PyData) : Bool := boolAt 3 ((sCons st4 st5) [some (.ref 0), none, some (.d rows), none, none, none, none, none, none, none, none, none, none, none, none, none, none, none, none, none, none, none] [])
def rowsQs : List PyData := .tuple [] :: .none :: (plains.flatMap fun q => [.tuple [q.1], .tuple [q.1, q.1], .tuple [q.1, q.1, q.1, q.1, q.1, q.1, q.1], .list [q.1], q.1]) ++ plains.flatMap fun q => plains.map fun u => .tuple [q.1, u.1]
theorem p45 : (rowsQs).map (fun rows => fun (p : PyData) (fp : Bool) (o : PyData) (fo : Bool) (m : Int) (S : Sto) => (sCons st4 st5) [some (.ref 0), some (.d (.int m)), some (.d rows), none, none, none, none, none, none, none, none, none, none, none, none, some (.d p), some (.d (.bool fp)), some (.d o), some (.d (.bool fo)), none, none, none] S) = (rowsQs).map (fun rows => fun (p : PyData) (fp : Bool) (o : PyData) (fo : Bool) (m : Int) (S : Sto) => SOut.nx [some (.ref 0), some (.d (.int m)), some (.d rows), some (.d (.bool (arB rows))), none, none, none, none, none, none, none, none, none, none, none, some (.d p), some (.d (.bool fp)), some (.d o), some (.d (.bool fo)), none, none, none] S) := by kernel_rfl
theorem step {a b : FS} {r r' : Rho} {S S' : Sto} (h : a r S = .nx r' S') : sCons a b r S = b r' S' := by
  unfold sCons
  rw [h]
  rfl
theorem word_rows (v : PyData) : callN 1 f__law_word [.exc "BadRows" v] [] = .ok (.d (.str "rows")) [] := by kernel_rfl
theorem eq_str (s : Str) (S : Sto) : cEq (.d (.str s)) (.d (.str s)) S = .ok (.d (.bool true)) S := by
  simp [cEq]
theorem xv_rows (v : PyData) (r : Rho) (S : Sto) (h : r[2]? = some (some (.exc "BadRows" v))) : eXv excs (eVar 2) r S = .ok (.d v) S := by
  simp [eXv, h, excs]
theorem refused_rows {k : Nat} {vs : List PyData} {v : PyData} (hh : callN 1 f__law_heard [.clo k vs] [] = .ok (.tup [.exc "BadRows" v, .d .none]) []) (hv : prOk v = true) :
    f__law_is_refused [.clo k vs, .d (.tuple [.str "rows", v])] [] = .ok (.d (.bool true)) [] := by
  have s1 : (sSet (eOp2 oIx (eApp (callN 1 f__law_heard) (aCons (eVar 0) aNil)) (eC (.int 0))) 2) [some (.clo k vs), some (.d (.tuple [.str "rows", v])), none] [] = .nx [some (.clo k vs), some (.d (.tuple [.str "rows", v])), some (.exc "BadRows" v)] [] := by
    have e : eOp2 oIx (eApp (callN 1 f__law_heard) (aCons (eVar 0) aNil)) (eC (.int 0)) [some (.clo k vs), some (.d (.tuple [.str "rows", v])), none] [] = .ok (.exc "BadRows" v) [] := by
      unfold eOp2 eApp aCons
      simp only [eVar, List.getElem?_cons_zero, aNil, Out.bind, hh, eC]
      rfl
    unfold sSet
    rw [e]
    rfl
  have s2 : (eAn (eOp2 cEq (eApp (callN 1 f__law_word) (aCons (eVar 2) aNil)) (eOp2 oIx (eVar 1) (eC (.int 0)))) (eOp2 cEq (eApp bRepr (aCons (eXv excs (eVar 2)) aNil)) (eApp bRepr (aCons (eOp2 oIx (eVar 1) (eC (.int 1))) aNil)))) [some (.clo k vs), some (.d (.tuple [.str "rows", v])), some (.exc "BadRows" v)] [] = .ok (.d (.bool true)) [] := by
    have hb : bRepr [.d v] [] = .ok (.d (.str v.shown)) [] := by
      show (if prOk v then _ else _) = _
      rw [if_pos hv]
    have x1 : oIx (.d (.tuple [.str "rows", v])) (.d (.int 0)) [] = .ok (.d (.str "rows")) [] := by kernel_rfl
    have x2 : oIx (.d (.tuple [.str "rows", v])) (.d (.int 1)) [] = .ok (.d v) [] := by kernel_rfl
    have xv := xv_rows v [some (.clo k vs), some (.d (.tuple [.str "rows", v])), some (.exc "BadRows" v)] [] rfl
    have w := word_rows v
    simp [-callN, -cEq, -oIx, -bRepr, w, x1, x2, xv, hb, eq_str]
  unfold f__law_is_refused
  have u : ∀ fs : FS, fnB 3 fs [.clo k vs, .d (.tuple [.str "rows", v])] [] = (fs [some (.clo k vs), some (.d (.tuple [.str "rows", v])), none] []).fin := fun _ => rfl
  rw [u]
  have s0 : sIf (tOr' (tE (eOp2 (cIsN false) (eVar 1) (eC .none))) (tE (eOp2 (cIsN false) (eVar 2) (eC .none)))) (sCons (sRet (eAn (eOp2 (cIsN false) (eVar 1) (eC .none)) (eOp2 (cIsN false) (eVar 2) (eC .none)))) sNil) sNil [some (.clo k vs), some (.d (.tuple [.str "rows", v])), some (.exc "BadRows" v)] [] = .nx [some (.clo k vs), some (.d (.tuple [.str "rows", v])), some (.exc "BadRows" v)] [] := rfl
  rw [step s1, step s0]
  show (SOut.seq (sRet _ _ _) _).fin = _
  unfold sRet
  rw [s2]
  rfl
theorem look_rows {k : Nat} {vs : List PyData} {v : PyData} (hh : callN 1 f__law_heard [.clo k vs] [] = .ok (.tup [.exc "BadRows" v, .d .none]) []) (hv : prOk v = true) (hf : callN 1 f__law_first [.d (.list (roL v false))] [] = .ok (.d (.tuple [.str "rows", v])) []) : look k vs (roL v false) = yes := by
  have h := refused_rows hh hv
  have c : callN 2 f__law_is_refused [.clo k vs, .d (.tuple [.str "rows", v])] [] = yes := by
    show backW [] [] (f__law_is_refused [.clo k vs, .d (.tuple [.str "rows", v])] []) = yes
    rw [h]
    rfl
  have e1 : eApp (callN 1 f__law_first) (aCons (eVar 21) aNil) (List.replicate 20 none ++ [some (.clo k vs), some (.d (.list (roL v false)))]) [] = .ok (.d (.tuple [.str "rows", v])) [] := by
    show callN 1 f__law_first [.d (.list (roL v false))] [] = _
    exact hf
  have e2 : aCons (eVar 20) (aCons (eApp (callN 1 f__law_first) (aCons (eVar 21) aNil)) aNil) (List.replicate 20 none ++ [some (.clo k vs), some (.d (.list (roL v false)))]) [] = .ok [.clo k vs, .d (.tuple [.str "rows", v])] [] := by
    show (Out.bind (eApp (callN 1 f__law_first) (aCons (eVar 21) aNil) _ _) _).bind _ = _
    rw [e1]
    rfl
  unfold look eLook
  show (Out.bind (aCons _ _ _ _) _) = _
  rw [e2]
  exact c
def rowsG : List PyData := rowsQs.filter arB
def rowsF : List PyData := rowsQs.filter fun v => !arB v
theorem g4 : rowsG.map (fun v => look 4 [v] (roL v true)) = rowsG.map fun _ => yes := by kernel_rfl
theorem g5 : rowsG.map (fun v => look 5 [v] (roL v true)) = rowsG.map fun _ => yes := by kernel_rfl
theorem h4 : rowsF.map (fun v => callN 1 f__law_heard [.clo 4 [v]] []) = rowsF.map fun v => .ok (.tup [.exc "BadRows" v, .d .none]) [] := by kernel_rfl
theorem h5 : rowsF.map (fun v => callN 1 f__law_heard [.clo 5 [v]] []) = rowsF.map fun v => .ok (.tup [.exc "BadRows" v, .d .none]) [] := by kernel_rfl
theorem fs : rowsF.map (fun v => callN 1 f__law_first [.d (.list (roL v false))] []) = rowsF.map fun v => .ok (.d (.tuple [.str "rows", v])) [] := by kernel_rfl
theorem ps : rowsF.map prOk = rowsF.map fun _ => true := by kernel_rfl
theorem c4 {rows : PyData} (hR : rows ∈ rowsQs) : look 4 [rows] (roL rows (arB rows)) = yes := by
  by_cases h : arB rows = true
  · rw [h]
    have z := of_map g4 (List.mem_filter.mpr ⟨hR, h⟩); exact z
  · have h : arB rows = false := by simpa using h
    have m : rows ∈ rowsF := List.mem_filter.mpr ⟨hR, by simp [h]⟩
    rw [h]
    exact look_rows (by have z := of_map h4 m; exact z) (by have z := of_map ps m; exact z) (by have z := of_map fs m; exact z)
theorem c5 {rows : PyData} (hR : rows ∈ rowsQs) : look 5 [rows] (roL rows (arB rows)) = yes := by
  by_cases h : arB rows = true
  · rw [h]
    have z := of_map g5 (List.mem_filter.mpr ⟨hR, h⟩); exact z
  · have h : arB rows = false := by simpa using h
    have m : rows ∈ rowsF := List.mem_filter.mpr ⟨hR, by simp [h]⟩
    rw [h]
    exact look_rows (by have z := of_map h5 m; exact z) (by have z := of_map ps m; exact z) (by have z := of_map fs m; exact z)
end K22
set_option maxRecDepth 100000
set_option maxHeartbeats 4000000
namespace K22
open PySem PySem.Spec PyProof.Rows L2 MI LamX
def fineQ : List (PyData × Bool) := fineN.map fun l => (I l, true)
def strangeQ : List (PyData × Bool) := strange.map fun p => (p, false)
def look13 (q u : PyData × Bool) (pl : PyData) : Out IV := look 13 [q.1, pl, u.1] (boL q.1 q.2 u.1 u.2 pl (isB pl 1 (mm q)))
def qIx (i : Nat) : PyData × Bool := (plains[i]?).getD (.none, false)
def upl (us : List (PyData × Bool)) (q : PyData × Bool) : List ((PyData × Bool) × PyData) := us.flatMap fun u => (placeM (mm q)).map fun pl => (u, pl)
theorem c13c_0 : (upl fineQ (qIx 0)).map (fun z => look13 (qIx 0) z.1 z.2) = (upl fineQ (qIx 0)).map fun _ => yes := by kernel_rfl
theorem c13b_0 : (upl strangeQ (qIx 0)).map (fun z => look13 (qIx 0) z.1 z.2) = (upl strangeQ (qIx 0)).map fun _ => yes := by kernel_rfl
theorem c13c_1 : (upl fineQ (qIx 1)).map (fun z => look13 (qIx 1) z.1 z.2) = (upl fineQ (qIx 1)).map fun _ => yes := by kernel_rfl
theorem c13b_1 : (upl strangeQ (qIx 1)).map (fun z => look13 (qIx 1) z.1 z.2) = (upl strangeQ (qIx 1)).map fun _ => yes := by kernel_rfl
theorem c13c_2 : (upl fineQ (qIx 2)).map (fun z => look13 (qIx 2) z.1 z.2) = (upl fineQ (qIx 2)).map fun _ => yes := by kernel_rfl
theorem c13b_2 : (upl strangeQ (qIx 2)).map (fun z => look13 (qIx 2) z.1 z.2) = (upl strangeQ (qIx 2)).map fun _ => yes := by kernel_rfl
theorem c13c_3 : (upl fineQ (qIx 3)).map (fun z => look13 (qIx 3) z.1 z.2) = (upl fineQ (qIx 3)).map fun _ => yes := by kernel_rfl
theorem c13b_3 : (upl strangeQ (qIx 3)).map (fun z => look13 (qIx 3) z.1 z.2) = (upl strangeQ (qIx 3)).map fun _ => yes := by kernel_rfl
theorem c13c_4 : (upl fineQ (qIx 4)).map (fun z => look13 (qIx 4) z.1 z.2) = (upl fineQ (qIx 4)).map fun _ => yes := by kernel_rfl
theorem c13b_4 : (upl strangeQ (qIx 4)).map (fun z => look13 (qIx 4) z.1 z.2) = (upl strangeQ (qIx 4)).map fun _ => yes := by kernel_rfl
theorem c13c_5 : (upl fineQ (qIx 5)).map (fun z => look13 (qIx 5) z.1 z.2) = (upl fineQ (qIx 5)).map fun _ => yes := by kernel_rfl
theorem c13b_5 : (upl strangeQ (qIx 5)).map (fun z => look13 (qIx 5) z.1 z.2) = (upl strangeQ (qIx 5)).map fun _ => yes := by kernel_rfl
theorem c13c_6 : (upl fineQ (qIx 6)).map (fun z => look13 (qIx 6) z.1 z.2) = (upl fineQ (qIx 6)).map fun _ => yes := by kernel_rfl
theorem c13b_6 : (upl strangeQ (qIx 6)).map (fun z => look13 (qIx 6) z.1 z.2) = (upl strangeQ (qIx 6)).map fun _ => yes := by kernel_rfl
theorem c13c_7 : (upl fineQ (qIx 7)).map (fun z => look13 (qIx 7) z.1 z.2) = (upl fineQ (qIx 7)).map fun _ => yes := by kernel_rfl
theorem c13b_7 : (upl strangeQ (qIx 7)).map (fun z => look13 (qIx 7) z.1 z.2) = (upl strangeQ (qIx 7)).map fun _ => yes := by kernel_rfl
theorem c13c_8 : (upl fineQ (qIx 8)).map (fun z => look13 (qIx 8) z.1 z.2) = (upl fineQ (qIx 8)).map fun _ => yes := by kernel_rfl
theorem c13b_8 : (upl strangeQ (qIx 8)).map (fun z => look13 (qIx 8) z.1 z.2) = (upl strangeQ (qIx 8)).map fun _ => yes := by kernel_rfl
theorem c13c_9 : (upl fineQ (qIx 9)).map (fun z => look13 (qIx 9) z.1 z.2) = (upl fineQ (qIx 9)).map fun _ => yes := by kernel_rfl
theorem c13b_9 : (upl strangeQ (qIx 9)).map (fun z => look13 (qIx 9) z.1 z.2) = (upl strangeQ (qIx 9)).map fun _ => yes := by kernel_rfl
theorem c13c_10 : (upl fineQ (qIx 10)).map (fun z => look13 (qIx 10) z.1 z.2) = (upl fineQ (qIx 10)).map fun _ => yes := by kernel_rfl
theorem c13b_10 : (upl strangeQ (qIx 10)).map (fun z => look13 (qIx 10) z.1 z.2) = (upl strangeQ (qIx 10)).map fun _ => yes := by kernel_rfl
theorem c13c_11 : (upl fineQ (qIx 11)).map (fun z => look13 (qIx 11) z.1 z.2) = (upl fineQ (qIx 11)).map fun _ => yes := by kernel_rfl
theorem c13b_11 : (upl strangeQ (qIx 11)).map (fun z => look13 (qIx 11) z.1 z.2) = (upl strangeQ (qIx 11)).map fun _ => yes := by kernel_rfl
theorem c13c_12 : (upl fineQ (qIx 12)).map (fun z => look13 (qIx 12) z.1 z.2) = (upl fineQ (qIx 12)).map fun _ => yes := by kernel_rfl
theorem c13b_12 : (upl strangeQ (qIx 12)).map (fun z => look13 (qIx 12) z.1 z.2) = (upl strangeQ (qIx 12)).map fun _ => yes := by kernel_rfl
theorem c13c_13 : (upl fineQ (qIx 13)).map (fun z => look13 (qIx 13) z.1 z.2) = (upl fineQ (qIx 13)).map fun _ => yes := by kernel_rfl
theorem c13b_13 : (upl strangeQ (qIx 13)).map (fun z => look13 (qIx 13) z.1 z.2) = (upl strangeQ (qIx 13)).map fun _ => yes := by kernel_rfl
theorem c13c_14 : (upl fineQ (qIx 14)).map (fun z => look13 (qIx 14) z.1 z.2) = (upl fineQ (qIx 14)).map fun _ => yes := by kernel_rfl
theorem c13b_14 : (upl strangeQ (qIx 14)).map (fun z => look13 (qIx 14) z.1 z.2) = (upl strangeQ (qIx 14)).map fun _ => yes := by kernel_rfl
theorem c13c_15 : (upl fineQ (qIx 15)).map (fun z => look13 (qIx 15) z.1 z.2) = (upl fineQ (qIx 15)).map fun _ => yes := by kernel_rfl
theorem c13b_15 : (upl strangeQ (qIx 15)).map (fun z => look13 (qIx 15) z.1 z.2) = (upl strangeQ (qIx 15)).map fun _ => yes := by kernel_rfl
theorem c13c_16 : (upl fineQ (qIx 16)).map (fun z => look13 (qIx 16) z.1 z.2) = (upl fineQ (qIx 16)).map fun _ => yes := by kernel_rfl
theorem c13b_16 : (upl strangeQ (qIx 16)).map (fun z => look13 (qIx 16) z.1 z.2) = (upl strangeQ (qIx 16)).map fun _ => yes := by kernel_rfl
theorem c13c_17 : (upl fineQ (qIx 17)).map (fun z => look13 (qIx 17) z.1 z.2) = (upl fineQ (qIx 17)).map fun _ => yes := by kernel_rfl
theorem c13b_17 : (upl strangeQ (qIx 17)).map (fun z => look13 (qIx 17) z.1 z.2) = (upl strangeQ (qIx 17)).map fun _ => yes := by kernel_rfl
theorem c13 {q u : PyData × Bool} {pl : PyData} (hq : q ∈ plains) (hu : u ∈ plains) (hpl : pl ∈ placeM (mm q)) : look 13 [q.1, pl, u.1] (boL q.1 q.2 u.1 u.2 pl (isB pl 1 (mm q))) = yes := by
  show look13 q u pl = yes
  obtain ⟨i, hi, e⟩ := List.mem_iff_getElem.mp hq
  have hq' : q = qIx i := by unfold qIx; rw [List.getElem?_eq_getElem hi, e]; rfl
  have hi : i < 18 := hi
  subst hq'
  have up : ∀ {us : List (PyData × Bool)}, u ∈ us → (u, pl) ∈ upl us (qIx i) := fun h => List.mem_flatMap.mpr ⟨u, h, List.mem_map.mpr ⟨pl, hpl, rfl⟩⟩
  have sp : u ∈ fineQ ∨ u ∈ strangeQ := List.mem_append.mp hu
  have : i = 0 ∨ i = 1 ∨ i = 2 ∨ i = 3 ∨ i = 4 ∨ i = 5 ∨ i = 6 ∨ i = 7 ∨ i = 8 ∨ i = 9 ∨ i = 10 ∨ i = 11 ∨ i = 12 ∨ i = 13 ∨ i = 14 ∨ i = 15 ∨ i = 16 ∨ i = 17 := by omega
  rcases this with rfl | rfl | rfl | rfl | rfl | rfl | rfl | rfl | rfl | rfl | rfl | rfl | rfl | rfl | rfl | rfl | rfl | rfl
  · rcases sp with h | h
    · exact of_map (a := (u, pl)) c13c_0 (up h)
    · exact of_map (a := (u, pl)) c13b_0 (up h)
  · rcases sp with h | h
    · exact of_map (a := (u, pl)) c13c_1 (up h)
    · exact of_map (a := (u, pl)) c13b_1 (up h)
  · rcases sp with h | h
    · exact of_map (a := (u, pl)) c13c_2 (up h)
    · exact of_map (a := (u, pl)) c13b_2 (up h)
  · rcases sp with h | h
    · exact of_map (a := (u, pl)) c13c_3 (up h)
    · exact of_map (a := (u, pl)) c13b_3 (up h)
  · rcases sp with h | h
    · exact of_map (a := (u, pl)) c13c_4 (up h)
    · exact of_map (a := (u, pl)) c13b_4 (up h)
  · rcases sp with h | h
    · exact of_map (a := (u, pl)) c13c_5 (up h)
    · exact of_map (a := (u, pl)) c13b_5 (up h)
  · rcases sp with h | h
    · exact of_map (a := (u, pl)) c13c_6 (up h)
    · exact of_map (a := (u, pl)) c13b_6 (up h)
  · rcases sp with h | h
    · exact of_map (a := (u, pl)) c13c_7 (up h)
    · exact of_map (a := (u, pl)) c13b_7 (up h)
  · rcases sp with h | h
    · exact of_map (a := (u, pl)) c13c_8 (up h)
    · exact of_map (a := (u, pl)) c13b_8 (up h)
  · rcases sp with h | h
    · exact of_map (a := (u, pl)) c13c_9 (up h)
    · exact of_map (a := (u, pl)) c13b_9 (up h)
  · rcases sp with h | h
    · exact of_map (a := (u, pl)) c13c_10 (up h)
    · exact of_map (a := (u, pl)) c13b_10 (up h)
  · rcases sp with h | h
    · exact of_map (a := (u, pl)) c13c_11 (up h)
    · exact of_map (a := (u, pl)) c13b_11 (up h)
  · rcases sp with h | h
    · exact of_map (a := (u, pl)) c13c_12 (up h)
    · exact of_map (a := (u, pl)) c13b_12 (up h)
  · rcases sp with h | h
    · exact of_map (a := (u, pl)) c13c_13 (up h)
    · exact of_map (a := (u, pl)) c13b_13 (up h)
  · rcases sp with h | h
    · exact of_map (a := (u, pl)) c13c_14 (up h)
    · exact of_map (a := (u, pl)) c13b_14 (up h)
  · rcases sp with h | h
    · exact of_map (a := (u, pl)) c13c_15 (up h)
    · exact of_map (a := (u, pl)) c13b_15 (up h)
  · rcases sp with h | h
    · exact of_map (a := (u, pl)) c13c_16 (up h)
    · exact of_map (a := (u, pl)) c13b_16 (up h)
  · rcases sp with h | h
    · exact of_map (a := (u, pl)) c13c_17 (up h)
    · exact of_map (a := (u, pl)) c13b_17 (up h)

end K22
set_option maxRecDepth 100000
set_option maxHeartbeats 4000000
namespace K22
open PySem PySem.Spec PyProof.Rows L2 MI LamX
theorem step2 {a b k : FS} {r r' : Rho} {S S' : Sto} (h : sCons a b r S = .nx r' S') : sCons a (sCons b k) r S = k r' S' := by
  unfold sCons at h ⊢
  cases q : a r S with
  | nx r1 S1 =>
    rw [q] at h
    have h : b r1 S1 = .nx r' S' := h
    show (b r1 S1).seq k = _
    rw [h]
    rfl
  | ret v S1 => rw [q] at h; cases h
  | brk r1 S1 => rw [q] at h; cases h
  | ct r1 S1 => rw [q] at h; cases h
  | exn n v r1 S1 => rw [q] at h; cases h
  | bad => rw [q] at h; cases h
theorem mm_in : ∀ q ∈ plains, mm q ∈ manyM := by decide
theorem eLook_at {r : Rho} {k : Nat} {vs ds : List PyData} (h20 : r[20]? = some (some (.clo k vs))) (h21 : r[21]? = some (some (.d (.list ds)))) : eLook r [] = look k vs ds := by
  unfold look eLook
  simp only [eApp, aCons, eVar, h20, h21]
  rfl
theorem lcl (r0 : Rho) (hl : r0.length = 22) : ∀ ws : List IV, (∀ w ∈ ws, ∃ k vs ds, w = lc k vs ds ∧ look k vs ds = yes) → lcLX gLook tYe eLook r0 ws [] = .ok (ws.map fun _ => .bool true) []
  | [], _ => rfl
  | w :: ws, h => by
    obtain ⟨k, vs, ds, rfl, e⟩ := h w List.mem_cons_self
    have g : gLook (lc k vs ds) r0 [] = .nx ((r0.set 20 (some (.clo k vs))).set 21 (some (.d (.list ds)))) [] := rfl
    have e2 : eLook ((r0.set 20 (some (.clo k vs))).set 21 (some (.d (.list ds)))) [] = yes := by
      rw [eLook_at (k := k) (vs := vs) (ds := ds) (by simp [hl]) (by simp [hl])]
      exact e
    have e3 := lcl r0 hl ws fun w hw => h w (List.mem_cons_of_mem _ hw)
    unfold lcLX
    rw [g]
    show ((tYe _ []).bind _) = _
    simp only [tYe, Out.bind, if_true]
    rw [e2]
    simp only [Out.bind]
    rw [e3]
    rfl
theorem rows_in {q u : PyData × Bool} {rows : PyData} (hq : q ∈ plains) (hu : u ∈ plains) (h : rows ∈ rowsM q.1 u.1) : rows ∈ rowsQs := by
  have a : ∀ {r}, r ∈ [PyData.tuple [q.1], .tuple [q.1, q.1], .tuple [q.1, q.1, q.1, q.1, q.1, q.1, q.1], .list [q.1], q.1] → r ∈ rowsQs := fun h => List.mem_append_left _ (List.mem_cons_of_mem _ (List.mem_cons_of_mem _ (List.mem_flatMap.mpr ⟨q, hq, h⟩)))
  simp only [rowsM, List.mem_cons, List.not_mem_nil, or_false] at h
  rcases h with h | h | h | h | h | h | h | h <;> subst h
  · exact a (by simp)
  · exact a (by simp)
  · exact List.mem_append_right _ (List.mem_flatMap.mpr ⟨q, hq, List.mem_map.mpr ⟨u, hu, rfl⟩⟩)
  · exact a (by simp)
  · exact List.mem_append_left _ List.mem_cons_self
  · exact a (by simp)
  · exact List.mem_append_left _ (List.mem_cons_of_mem _ List.mem_cons_self)
  · exact a (by simp)
theorem looks_ok {q u : PyData × Bool} {rows pl kn td nu : PyData} (hq : q ∈ plains) (hu : u ∈ plains) (hrows : rows ∈ rowsM q.1 u.1) (hR : rows ∈ rowsQs) (hpl : pl ∈ placeM (mm q)) (hkn : kn ∈ knotM (mm q)) (htd : td ∈ toldM) (hnu : nu ∈ numM) :
    ∀ w ∈ ([lc 0 [q.1] (hd q.1 q.2), lc 1 [q.1] (hd q.1 q.2), lc 2 [q.1] (hd q.1 q.2), lc 3 [q.1, pl] (plL q.1 q.2 pl (isB pl 1 (mm q - 1))), lc 4 [rows] (roL rows (arB rows)), lc 5 [rows] (roL rows (arB rows)), lc 6 [q.1] (hd q.1 q.2), lc 7 [q.1, kn] (akL q.1 q.2 kn (ikB (mm q) kn) (sgB (mm q) kn)), lc 8 [q.1, kn] (akL q.1 q.2 kn (ikB (mm q) kn) (sgB (mm q) kn)), lc 9 [q.1] (hd q.1 q.2), lc 10 [td] (trL td (itB td)), lc 11 [q.1] (hd q.1 q.2), lc 12 [q.1] (hd q.1 q.2), lc 13 [q.1, pl, u.1] (boL q.1 q.2 u.1 u.2 pl (isB pl 1 (mm q))), lc 14 [nu] (nuL nu (isB nu 1 6))] : List IV), ∃ k vs ds, w = lc k vs ds ∧ look k vs ds = yes := by
  have hQ : (q, pl) ∈ plQs := List.mem_flatMap.mpr ⟨q, hq, List.mem_map.mpr ⟨pl, hpl, rfl⟩⟩
  have hN : (q, kn) ∈ knQs := List.mem_flatMap.mpr ⟨q, hq, List.mem_map.mpr ⟨kn, hkn, rfl⟩⟩
  intro w hw
  simp only [List.mem_cons, List.not_mem_nil, or_false] at hw
  rcases hw with rfl | rfl | rfl | rfl | rfl | rfl | rfl | rfl | rfl | rfl | rfl | rfl | rfl | rfl | rfl
  · exact ⟨_, _, _, rfl, by have h := of_map c0 hq; exact h⟩
  · exact ⟨_, _, _, rfl, by have h := of_map c1 hq; exact h⟩
  · exact ⟨_, _, _, rfl, by have h := of_map c2 hq; exact h⟩
  · exact ⟨_, _, _, rfl, by have h := of_map c3 hQ; exact h⟩
  · exact ⟨_, _, _, rfl, by have h := c4 hR; exact h⟩
  · exact ⟨_, _, _, rfl, by have h := c5 hR; exact h⟩
  · exact ⟨_, _, _, rfl, by have h := of_map c6 hq; exact h⟩
  · exact ⟨_, _, _, rfl, by have h := of_map c7 hN; exact h⟩
  · exact ⟨_, _, _, rfl, by have h := of_map c8 hN; exact h⟩
  · exact ⟨_, _, _, rfl, by have h := of_map c9 hq; exact h⟩
  · exact ⟨_, _, _, rfl, by have h := of_map c10 htd; exact h⟩
  · exact ⟨_, _, _, rfl, by have h := of_map c11 hq; exact h⟩
  · exact ⟨_, _, _, rfl, by have h := of_map c12 hq; exact h⟩
  · exact ⟨_, _, _, rfl, by have h := c13 hq hu hpl; exact h⟩
  · exact ⟨_, _, _, rfl, by have h := of_map c14 hnu; exact h⟩
theorem right_ok {n : Nat} {ds : List PyData} (hp : Pot n ds) (hn : n ≤ 50000) : ∃ es T, f__law_right [.ref 0] [.lst ds] = .ok (.d (.bool true)) (.lst es :: T) ∧ Pot (n + 9) es := by
  obtain ⟨q, es1, hq, e1, p1⟩ := any_ok hp (by omega)
  obtain ⟨u, es4, hu, e4, p4⟩ := any_ok p1 (by omega)
  have k1 := call_pot (n := 0) (S := [.lst ds]) (is := []) rfl rfl e1 rfl
  have k4 := call_pot (n := 0) (S := [.lst es1]) (is := []) rfl rfl e4 rfl
  have s1 : st1 [some (.ref 0), none, none, none, none, none, none, none, none, none, none, none, none, none, none, none, none, none, none, none, none, none] [.lst ds] = .nx [some (.ref 0), none, none, none, none, none, none, none, none, none, none, none, none, none, none, some (.d q.1), some (.d (.bool q.2)), some (.d u.1), some (.d (.bool u.2)), none, none, none] [.lst es4] := by
    simp [st1, k1, k4]
  have hm := mm_in q hq
  have s2 : st2 [some (.ref 0), none, none, none, none, none, none, none, none, none, none, none, none, none, none, some (.d q.1), some (.d (.bool q.2)), some (.d u.1), some (.d (.bool u.2)), none, none, none] [.lst es4] = .nx [some (.ref 0), some (.d (.int (mm q))), none, none, none, none, none, none, none, none, none, none, none, none, none, some (.d q.1), some (.d (.bool q.2)), some (.d u.1), some (.d (.bool u.2)), none, none, none] [.lst es4] := by have h := (congrFun (congrFun (congrFun (of_map p2 hq) u.1) u.2) [.lst es4]); exact h
  obtain ⟨rows, es5, hrows, s3, p5⟩ := draw (A := l3) (i := 2) p4 (by omega) (by simp [rowsM]) (by simp [rowsM]) rfl (d3 q.1 q.2 u.1 u.2 (mm q) [.lst es4])
  have s3 : st3 [some (.ref 0), some (.d (.int (mm q))), none, none, none, none, none, none, none, none, none, none, none, none, none, some (.d q.1), some (.d (.bool q.2)), some (.d u.1), some (.d (.bool u.2)), none, none, none] [.lst es4] = .nx [some (.ref 0), some (.d (.int (mm q))), some (.d rows), none, none, none, none, none, none, none, none, none, none, none, none, some (.d q.1), some (.d (.bool q.2)), some (.d u.1), some (.d (.bool u.2)), none, none, none] [.lst es5] := s3
  have hR := rows_in hq hu hrows
  have s45 : (sCons st4 st5) [some (.ref 0), some (.d (.int (mm q))), some (.d rows), none, none, none, none, none, none, none, none, none, none, none, none, some (.d q.1), some (.d (.bool q.2)), some (.d u.1), some (.d (.bool u.2)), none, none, none] [.lst es5] = .nx [some (.ref 0), some (.d (.int (mm q))), some (.d rows), some (.d (.bool (arB rows))), none, none, none, none, none, none, none, none, none, none, none, some (.d q.1), some (.d (.bool q.2)), some (.d u.1), some (.d (.bool u.2)), none, none, none] [.lst es5] := by have h := (congrFun (congrFun (congrFun (congrFun (congrFun (congrFun (of_map p45 hR) q.1) q.2) u.1) u.2) (mm q)) [.lst es5]); exact h
  obtain ⟨pl, es6, hpl, s6, p6⟩ := draw (A := l6) (i := 4) p5 (by omega) (by simp [placeM]) (by simp [placeM]) rfl (d6 q.1 q.2 u.1 u.2 (mm q) rows (arB rows) [.lst es5])
  have s6 : st6 [some (.ref 0), some (.d (.int (mm q))), some (.d rows), some (.d (.bool (arB rows))), none, none, none, none, none, none, none, none, none, none, none, some (.d q.1), some (.d (.bool q.2)), some (.d u.1), some (.d (.bool u.2)), none, none, none] [.lst es5] = .nx [some (.ref 0), some (.d (.int (mm q))), some (.d rows), some (.d (.bool (arB rows))), some (.d pl), none, none, none, none, none, none, none, none, none, none, some (.d q.1), some (.d (.bool q.2)), some (.d u.1), some (.d (.bool u.2)), none, none, none] [.lst es6] := s6
  obtain ⟨kn, es7, hkn, s7, p7⟩ := draw (A := l7) (i := 5) p6 (by omega) (by simp [knotM]) (by simp [knotM]) rfl (d7 q.1 q.2 u.1 u.2 (mm q) rows (arB rows) pl [.lst es6])
  have s7 : st7 [some (.ref 0), some (.d (.int (mm q))), some (.d rows), some (.d (.bool (arB rows))), some (.d pl), none, none, none, none, none, none, none, none, none, none, some (.d q.1), some (.d (.bool q.2)), some (.d u.1), some (.d (.bool u.2)), none, none, none] [.lst es6] = .nx [some (.ref 0), some (.d (.int (mm q))), some (.d rows), some (.d (.bool (arB rows))), some (.d pl), some (.d kn), none, none, none, none, none, none, none, none, none, some (.d q.1), some (.d (.bool q.2)), some (.d u.1), some (.d (.bool u.2)), none, none, none] [.lst es7] := s7
  have hK : (mm q, kn) ∈ knPs := List.mem_flatMap.mpr ⟨mm q, hm, List.mem_map.mpr ⟨kn, hkn, rfl⟩⟩
  have hP : (mm q, pl) ∈ plPs := List.mem_flatMap.mpr ⟨mm q, hm, List.mem_map.mpr ⟨pl, hpl, rfl⟩⟩
  have s8 : st8 [some (.ref 0), some (.d (.int (mm q))), some (.d rows), some (.d (.bool (arB rows))), some (.d pl), some (.d kn), none, none, none, none, none, none, none, none, none, some (.d q.1), some (.d (.bool q.2)), some (.d u.1), some (.d (.bool u.2)), none, none, none] [.lst es7] = .nx [some (.ref 0), some (.d (.int (mm q))), some (.d rows), some (.d (.bool (arB rows))), some (.d pl), some (.d kn), some (.d (.bool (ikB (mm q) kn))), none, none, none, none, none, none, none, none, some (.d q.1), some (.d (.bool q.2)), some (.d u.1), some (.d (.bool u.2)), none, none, none] [.lst es7] := by have h := (congrFun (congrFun (congrFun (congrFun (congrFun (congrFun (congrFun (congrFun (of_map p8 hK) q.1) q.2) u.1) u.2) rows) (arB rows)) pl) [.lst es7]); exact h
  obtain ⟨td, es8, htd, s9, p8⟩ := draw (A := l9) (i := 7) p7 (by omega) (by decide) (by decide) rfl (d9 q.1 q.2 u.1 u.2 (mm q) rows (arB rows) pl kn (ikB (mm q) kn) [.lst es7])
  have s9 : st9 [some (.ref 0), some (.d (.int (mm q))), some (.d rows), some (.d (.bool (arB rows))), some (.d pl), some (.d kn), some (.d (.bool (ikB (mm q) kn))), none, none, none, none, none, none, none, none, some (.d q.1), some (.d (.bool q.2)), some (.d u.1), some (.d (.bool u.2)), none, none, none] [.lst es7] = .nx [some (.ref 0), some (.d (.int (mm q))), some (.d rows), some (.d (.bool (arB rows))), some (.d pl), some (.d kn), some (.d (.bool (ikB (mm q) kn))), some (.d td), none, none, none, none, none, none, none, some (.d q.1), some (.d (.bool q.2)), some (.d u.1), some (.d (.bool u.2)), none, none, none] [.lst es8] := s9
  have s10 : st10 [some (.ref 0), some (.d (.int (mm q))), some (.d rows), some (.d (.bool (arB rows))), some (.d pl), some (.d kn), some (.d (.bool (ikB (mm q) kn))), some (.d td), none, none, none, none, none, none, none, some (.d q.1), some (.d (.bool q.2)), some (.d u.1), some (.d (.bool u.2)), none, none, none] [.lst es8] = .nx [some (.ref 0), some (.d (.int (mm q))), some (.d rows), some (.d (.bool (arB rows))), some (.d pl), some (.d kn), some (.d (.bool (ikB (mm q) kn))), some (.d td), some (.d (.bool (itB td))), none, none, none, none, none, none, some (.d q.1), some (.d (.bool q.2)), some (.d u.1), some (.d (.bool u.2)), none, none, none] [.lst es8] := by have h := (congrFun (congrFun (congrFun (congrFun (congrFun (congrFun (congrFun (congrFun (congrFun (congrFun (congrFun (of_map p10 htd) q.1) q.2) u.1) u.2) (mm q)) rows) (arB rows)) pl) kn) (ikB (mm q) kn)) [.lst es8]); exact h
  obtain ⟨nu, es9, hnu, s11, p9⟩ := draw (A := l11) (i := 9) p8 (by omega) (by decide) (by decide) rfl (d11 q.1 q.2 u.1 u.2 (mm q) rows (arB rows) pl kn (ikB (mm q) kn) td (itB td) [.lst es8])
  have s11 : st11 [some (.ref 0), some (.d (.int (mm q))), some (.d rows), some (.d (.bool (arB rows))), some (.d pl), some (.d kn), some (.d (.bool (ikB (mm q) kn))), some (.d td), some (.d (.bool (itB td))), none, none, none, none, none, none, some (.d q.1), some (.d (.bool q.2)), some (.d u.1), some (.d (.bool u.2)), none, none, none] [.lst es8] = .nx [some (.ref 0), some (.d (.int (mm q))), some (.d rows), some (.d (.bool (arB rows))), some (.d pl), some (.d kn), some (.d (.bool (ikB (mm q) kn))), some (.d td), some (.d (.bool (itB td))), some (.d nu), none, none, none, none, none, some (.d q.1), some (.d (.bool q.2)), some (.d u.1), some (.d (.bool u.2)), none, none, none] [.lst es9] := s11
  have s12 : st12 [some (.ref 0), some (.d (.int (mm q))), some (.d rows), some (.d (.bool (arB rows))), some (.d pl), some (.d kn), some (.d (.bool (ikB (mm q) kn))), some (.d td), some (.d (.bool (itB td))), some (.d nu), none, none, none, none, none, some (.d q.1), some (.d (.bool q.2)), some (.d u.1), some (.d (.bool u.2)), none, none, none] [.lst es9] = .nx [some (.ref 0), some (.d (.int (mm q))), some (.d rows), some (.d (.bool (arB rows))), some (.d pl), some (.d kn), some (.d (.bool (ikB (mm q) kn))), some (.d td), some (.d (.bool (itB td))), some (.d nu), some (.d (.list (hd q.1 q.2))), none, none, none, none, some (.d q.1), some (.d (.bool q.2)), some (.d u.1), some (.d (.bool u.2)), none, none, none] [.lst es9] := by have h := p12 q.1 q.2 u.1 u.2 (mm q) rows (arB rows) pl kn (ikB (mm q) kn) td (itB td) nu [.lst es9]; exact h
  have s13 : st13 [some (.ref 0), some (.d (.int (mm q))), some (.d rows), some (.d (.bool (arB rows))), some (.d pl), some (.d kn), some (.d (.bool (ikB (mm q) kn))), some (.d td), some (.d (.bool (itB td))), some (.d nu), some (.d (.list (hd q.1 q.2))), none, none, none, none, some (.d q.1), some (.d (.bool q.2)), some (.d u.1), some (.d (.bool u.2)), none, none, none] [.lst es9] = .nx [some (.ref 0), some (.d (.int (mm q))), some (.d rows), some (.d (.bool (arB rows))), some (.d pl), some (.d kn), some (.d (.bool (ikB (mm q) kn))), some (.d td), some (.d (.bool (itB td))), some (.d nu), some (.d (.list (hd q.1 q.2))), some (.d (snT kn (sgB (mm q) kn))), none, none, none, some (.d q.1), some (.d (.bool q.2)), some (.d u.1), some (.d (.bool u.2)), none, none, none] [.lst es9] := by have h := (congrFun (congrFun (congrFun (congrFun (congrFun (congrFun (congrFun (congrFun (congrFun (congrFun (congrFun (of_map p13 hK) q.1) q.2) u.1) u.2) rows) (arB rows)) pl) td) (itB td)) nu) [.lst es9]); exact h
  have s14 : st14 [some (.ref 0), some (.d (.int (mm q))), some (.d rows), some (.d (.bool (arB rows))), some (.d pl), some (.d kn), some (.d (.bool (ikB (mm q) kn))), some (.d td), some (.d (.bool (itB td))), some (.d nu), some (.d (.list (hd q.1 q.2))), some (.d (snT kn (sgB (mm q) kn))), none, none, none, some (.d q.1), some (.d (.bool q.2)), some (.d u.1), some (.d (.bool u.2)), none, none, none] [.lst es9] = .nx [some (.ref 0), some (.d (.int (mm q))), some (.d rows), some (.d (.bool (arB rows))), some (.d pl), some (.d kn), some (.d (.bool (ikB (mm q) kn))), some (.d td), some (.d (.bool (itB td))), some (.d nu), some (.d (.list (hd q.1 q.2))), some (.d (snT kn (sgB (mm q) kn))), some (.d (.list (akL q.1 q.2 kn (ikB (mm q) kn) (sgB (mm q) kn)))), none, none, some (.d q.1), some (.d (.bool q.2)), some (.d u.1), some (.d (.bool u.2)), none, none, none] [.lst es9] := by have h := p14 q.1 q.2 u.1 u.2 (mm q) rows (arB rows) pl kn (ikB (mm q) kn) td (itB td) nu (sgB (mm q) kn) [.lst es9]; exact h
  have s15 : st15 [some (.ref 0), some (.d (.int (mm q))), some (.d rows), some (.d (.bool (arB rows))), some (.d pl), some (.d kn), some (.d (.bool (ikB (mm q) kn))), some (.d td), some (.d (.bool (itB td))), some (.d nu), some (.d (.list (hd q.1 q.2))), some (.d (snT kn (sgB (mm q) kn))), some (.d (.list (akL q.1 q.2 kn (ikB (mm q) kn) (sgB (mm q) kn)))), none, none, some (.d q.1), some (.d (.bool q.2)), some (.d u.1), some (.d (.bool u.2)), none, none, none] [.lst es9] = .nx [some (.ref 0), some (.d (.int (mm q))), some (.d rows), some (.d (.bool (arB rows))), some (.d pl), some (.d kn), some (.d (.bool (ikB (mm q) kn))), some (.d td), some (.d (.bool (itB td))), some (.d nu), some (.d (.list (hd q.1 q.2))), some (.d (snT kn (sgB (mm q) kn))), some (.d (.list (akL q.1 q.2 kn (ikB (mm q) kn) (sgB (mm q) kn)))), some (.d (.list (boL q.1 q.2 u.1 u.2 pl (isB pl 1 (mm q))))), none, some (.d q.1), some (.d (.bool q.2)), some (.d u.1), some (.d (.bool u.2)), none, none, none] [.lst es9] := by have h := (congrFun (congrFun (congrFun (congrFun (congrFun (congrFun (congrFun (congrFun (congrFun (congrFun (congrFun (congrFun (congrFun (of_map p15 hP) q.1) q.2) u.1) u.2) rows) (arB rows)) kn) (ikB (mm q) kn)) td) (itB td)) nu) (sgB (mm q) kn)) [.lst es9]); exact h
  have s16 : st16 [some (.ref 0), some (.d (.int (mm q))), some (.d rows), some (.d (.bool (arB rows))), some (.d pl), some (.d kn), some (.d (.bool (ikB (mm q) kn))), some (.d td), some (.d (.bool (itB td))), some (.d nu), some (.d (.list (hd q.1 q.2))), some (.d (snT kn (sgB (mm q) kn))), some (.d (.list (akL q.1 q.2 kn (ikB (mm q) kn) (sgB (mm q) kn)))), some (.d (.list (boL q.1 q.2 u.1 u.2 pl (isB pl 1 (mm q))))), none, some (.d q.1), some (.d (.bool q.2)), some (.d u.1), some (.d (.bool u.2)), none, none, none] [.lst es9] = .nx [some (.ref 0), some (.d (.int (mm q))), some (.d rows), some (.d (.bool (arB rows))), some (.d pl), some (.d kn), some (.d (.bool (ikB (mm q) kn))), some (.d td), some (.d (.bool (itB td))), some (.d nu), some (.d (.list (hd q.1 q.2))), some (.d (snT kn (sgB (mm q) kn))), some (.d (.list (akL q.1 q.2 kn (ikB (mm q) kn) (sgB (mm q) kn)))), some (.d (.list (boL q.1 q.2 u.1 u.2 pl (isB pl 1 (mm q))))), some (.ref 1), some (.d q.1), some (.d (.bool q.2)), some (.d u.1), some (.d (.bool u.2)), none, none, none] [.lst es9, .lsx [lk 0 (hd q.1 q.2)]] := by have h := p16 q.1 q.2 u.1 u.2 (mm q) rows (arB rows) pl kn (ikB (mm q) kn) td (itB td) nu (sgB (mm q) kn) (isB pl 1 (mm q)) (isB pl 1 (mm q - 1)) (isB nu 1 6) (.lst es9); exact h
  have s17 : st17 [some (.ref 0), some (.d (.int (mm q))), some (.d rows), some (.d (.bool (arB rows))), some (.d pl), some (.d kn), some (.d (.bool (ikB (mm q) kn))), some (.d td), some (.d (.bool (itB td))), some (.d nu), some (.d (.list (hd q.1 q.2))), some (.d (snT kn (sgB (mm q) kn))), some (.d (.list (akL q.1 q.2 kn (ikB (mm q) kn) (sgB (mm q) kn)))), some (.d (.list (boL q.1 q.2 u.1 u.2 pl (isB pl 1 (mm q))))), some (.ref 1), some (.d q.1), some (.d (.bool q.2)), some (.d u.1), some (.d (.bool u.2)), none, none, none] [.lst es9, .lsx [lk 0 (hd q.1 q.2)]] = .nx [some (.ref 0), some (.d (.int (mm q))), some (.d rows), some (.d (.bool (arB rows))), some (.d pl), some (.d kn), some (.d (.bool (ikB (mm q) kn))), some (.d td), some (.d (.bool (itB td))), some (.d nu), some (.d (.list (hd q.1 q.2))), some (.d (snT kn (sgB (mm q) kn))), some (.d (.list (akL q.1 q.2 kn (ikB (mm q) kn) (sgB (mm q) kn)))), some (.d (.list (boL q.1 q.2 u.1 u.2 pl (isB pl 1 (mm q))))), some (.ref 1), some (.d q.1), some (.d (.bool q.2)), some (.d u.1), some (.d (.bool u.2)), none, none, none] [.lst es9, .lsx [lk 0 (hd q.1 q.2), lk 1 (hd q.1 q.2)]] := by have h := p17 q.1 q.2 u.1 u.2 (mm q) rows (arB rows) pl kn (ikB (mm q) kn) td (itB td) nu (sgB (mm q) kn) (isB pl 1 (mm q)) (isB pl 1 (mm q - 1)) (isB nu 1 6) (.lst es9); exact h
  have s18 : st18 [some (.ref 0), some (.d (.int (mm q))), some (.d rows), some (.d (.bool (arB rows))), some (.d pl), some (.d kn), some (.d (.bool (ikB (mm q) kn))), some (.d td), some (.d (.bool (itB td))), some (.d nu), some (.d (.list (hd q.1 q.2))), some (.d (snT kn (sgB (mm q) kn))), some (.d (.list (akL q.1 q.2 kn (ikB (mm q) kn) (sgB (mm q) kn)))), some (.d (.list (boL q.1 q.2 u.1 u.2 pl (isB pl 1 (mm q))))), some (.ref 1), some (.d q.1), some (.d (.bool q.2)), some (.d u.1), some (.d (.bool u.2)), none, none, none] [.lst es9, .lsx [lk 0 (hd q.1 q.2), lk 1 (hd q.1 q.2)]] = .nx [some (.ref 0), some (.d (.int (mm q))), some (.d rows), some (.d (.bool (arB rows))), some (.d pl), some (.d kn), some (.d (.bool (ikB (mm q) kn))), some (.d td), some (.d (.bool (itB td))), some (.d nu), some (.d (.list (hd q.1 q.2))), some (.d (snT kn (sgB (mm q) kn))), some (.d (.list (akL q.1 q.2 kn (ikB (mm q) kn) (sgB (mm q) kn)))), some (.d (.list (boL q.1 q.2 u.1 u.2 pl (isB pl 1 (mm q))))), some (.ref 1), some (.d q.1), some (.d (.bool q.2)), some (.d u.1), some (.d (.bool u.2)), none, none, none] [.lst es9, .lsx [lk 0 (hd q.1 q.2), lk 1 (hd q.1 q.2), lk 2 (hd q.1 q.2)]] := by have h := p18 q.1 q.2 u.1 u.2 (mm q) rows (arB rows) pl kn (ikB (mm q) kn) td (itB td) nu (sgB (mm q) kn) (isB pl 1 (mm q)) (isB pl 1 (mm q - 1)) (isB nu 1 6) (.lst es9); exact h
  have s19 : st19 [some (.ref 0), some (.d (.int (mm q))), some (.d rows), some (.d (.bool (arB rows))), some (.d pl), some (.d kn), some (.d (.bool (ikB (mm q) kn))), some (.d td), some (.d (.bool (itB td))), some (.d nu), some (.d (.list (hd q.1 q.2))), some (.d (snT kn (sgB (mm q) kn))), some (.d (.list (akL q.1 q.2 kn (ikB (mm q) kn) (sgB (mm q) kn)))), some (.d (.list (boL q.1 q.2 u.1 u.2 pl (isB pl 1 (mm q))))), some (.ref 1), some (.d q.1), some (.d (.bool q.2)), some (.d u.1), some (.d (.bool u.2)), none, none, none] [.lst es9, .lsx [lk 0 (hd q.1 q.2), lk 1 (hd q.1 q.2), lk 2 (hd q.1 q.2)]] = .nx [some (.ref 0), some (.d (.int (mm q))), some (.d rows), some (.d (.bool (arB rows))), some (.d pl), some (.d kn), some (.d (.bool (ikB (mm q) kn))), some (.d td), some (.d (.bool (itB td))), some (.d nu), some (.d (.list (hd q.1 q.2))), some (.d (snT kn (sgB (mm q) kn))), some (.d (.list (akL q.1 q.2 kn (ikB (mm q) kn) (sgB (mm q) kn)))), some (.d (.list (boL q.1 q.2 u.1 u.2 pl (isB pl 1 (mm q))))), some (.ref 1), some (.d q.1), some (.d (.bool q.2)), some (.d u.1), some (.d (.bool u.2)), none, none, none] [.lst es9, .lsx [lk 0 (hd q.1 q.2), lk 1 (hd q.1 q.2), lk 2 (hd q.1 q.2), lk 3 (plL q.1 q.2 pl (isB pl 1 (mm q - 1)))]] := by have h := (congrFun (congrFun (congrFun (congrFun (congrFun (congrFun (congrFun (congrFun (congrFun (congrFun (congrFun (congrFun (congrFun (congrFun (of_map p19 hP) q.1) q.2) u.1) u.2) rows) (arB rows)) kn) (ikB (mm q) kn)) td) (itB td)) nu) (sgB (mm q) kn)) (isB pl 1 (mm q))) (.lst es9)); exact h
  have s20 : st20 [some (.ref 0), some (.d (.int (mm q))), some (.d rows), some (.d (.bool (arB rows))), some (.d pl), some (.d kn), some (.d (.bool (ikB (mm q) kn))), some (.d td), some (.d (.bool (itB td))), some (.d nu), some (.d (.list (hd q.1 q.2))), some (.d (snT kn (sgB (mm q) kn))), some (.d (.list (akL q.1 q.2 kn (ikB (mm q) kn) (sgB (mm q) kn)))), some (.d (.list (boL q.1 q.2 u.1 u.2 pl (isB pl 1 (mm q))))), some (.ref 1), some (.d q.1), some (.d (.bool q.2)), some (.d u.1), some (.d (.bool u.2)), none, none, none] [.lst es9, .lsx [lk 0 (hd q.1 q.2), lk 1 (hd q.1 q.2), lk 2 (hd q.1 q.2), lk 3 (plL q.1 q.2 pl (isB pl 1 (mm q - 1)))]] = .nx [some (.ref 0), some (.d (.int (mm q))), some (.d rows), some (.d (.bool (arB rows))), some (.d pl), some (.d kn), some (.d (.bool (ikB (mm q) kn))), some (.d td), some (.d (.bool (itB td))), some (.d nu), some (.d (.list (hd q.1 q.2))), some (.d (snT kn (sgB (mm q) kn))), some (.d (.list (akL q.1 q.2 kn (ikB (mm q) kn) (sgB (mm q) kn)))), some (.d (.list (boL q.1 q.2 u.1 u.2 pl (isB pl 1 (mm q))))), some (.ref 1), some (.d q.1), some (.d (.bool q.2)), some (.d u.1), some (.d (.bool u.2)), none, none, none] [.lst es9, .lsx [lk 0 (hd q.1 q.2), lk 1 (hd q.1 q.2), lk 2 (hd q.1 q.2), lk 3 (plL q.1 q.2 pl (isB pl 1 (mm q - 1))), lk 4 (roL rows (arB rows))]] := by have h := p20 q.1 q.2 u.1 u.2 (mm q) rows (arB rows) pl kn (ikB (mm q) kn) td (itB td) nu (sgB (mm q) kn) (isB pl 1 (mm q)) (isB pl 1 (mm q - 1)) (isB nu 1 6) (.lst es9); exact h
  have s21 : st21 [some (.ref 0), some (.d (.int (mm q))), some (.d rows), some (.d (.bool (arB rows))), some (.d pl), some (.d kn), some (.d (.bool (ikB (mm q) kn))), some (.d td), some (.d (.bool (itB td))), some (.d nu), some (.d (.list (hd q.1 q.2))), some (.d (snT kn (sgB (mm q) kn))), some (.d (.list (akL q.1 q.2 kn (ikB (mm q) kn) (sgB (mm q) kn)))), some (.d (.list (boL q.1 q.2 u.1 u.2 pl (isB pl 1 (mm q))))), some (.ref 1), some (.d q.1), some (.d (.bool q.2)), some (.d u.1), some (.d (.bool u.2)), none, none, none] [.lst es9, .lsx [lk 0 (hd q.1 q.2), lk 1 (hd q.1 q.2), lk 2 (hd q.1 q.2), lk 3 (plL q.1 q.2 pl (isB pl 1 (mm q - 1))), lk 4 (roL rows (arB rows))]] = .nx [some (.ref 0), some (.d (.int (mm q))), some (.d rows), some (.d (.bool (arB rows))), some (.d pl), some (.d kn), some (.d (.bool (ikB (mm q) kn))), some (.d td), some (.d (.bool (itB td))), some (.d nu), some (.d (.list (hd q.1 q.2))), some (.d (snT kn (sgB (mm q) kn))), some (.d (.list (akL q.1 q.2 kn (ikB (mm q) kn) (sgB (mm q) kn)))), some (.d (.list (boL q.1 q.2 u.1 u.2 pl (isB pl 1 (mm q))))), some (.ref 1), some (.d q.1), some (.d (.bool q.2)), some (.d u.1), some (.d (.bool u.2)), none, none, none] [.lst es9, .lsx [lk 0 (hd q.1 q.2), lk 1 (hd q.1 q.2), lk 2 (hd q.1 q.2), lk 3 (plL q.1 q.2 pl (isB pl 1 (mm q - 1))), lk 4 (roL rows (arB rows)), lk 5 (roL rows (arB rows))]] := by have h := p21 q.1 q.2 u.1 u.2 (mm q) rows (arB rows) pl kn (ikB (mm q) kn) td (itB td) nu (sgB (mm q) kn) (isB pl 1 (mm q)) (isB pl 1 (mm q - 1)) (isB nu 1 6) (.lst es9); exact h
  have s22 : st22 [some (.ref 0), some (.d (.int (mm q))), some (.d rows), some (.d (.bool (arB rows))), some (.d pl), some (.d kn), some (.d (.bool (ikB (mm q) kn))), some (.d td), some (.d (.bool (itB td))), some (.d nu), some (.d (.list (hd q.1 q.2))), some (.d (snT kn (sgB (mm q) kn))), some (.d (.list (akL q.1 q.2 kn (ikB (mm q) kn) (sgB (mm q) kn)))), some (.d (.list (boL q.1 q.2 u.1 u.2 pl (isB pl 1 (mm q))))), some (.ref 1), some (.d q.1), some (.d (.bool q.2)), some (.d u.1), some (.d (.bool u.2)), none, none, none] [.lst es9, .lsx [lk 0 (hd q.1 q.2), lk 1 (hd q.1 q.2), lk 2 (hd q.1 q.2), lk 3 (plL q.1 q.2 pl (isB pl 1 (mm q - 1))), lk 4 (roL rows (arB rows)), lk 5 (roL rows (arB rows))]] = .nx [some (.ref 0), some (.d (.int (mm q))), some (.d rows), some (.d (.bool (arB rows))), some (.d pl), some (.d kn), some (.d (.bool (ikB (mm q) kn))), some (.d td), some (.d (.bool (itB td))), some (.d nu), some (.d (.list (hd q.1 q.2))), some (.d (snT kn (sgB (mm q) kn))), some (.d (.list (akL q.1 q.2 kn (ikB (mm q) kn) (sgB (mm q) kn)))), some (.d (.list (boL q.1 q.2 u.1 u.2 pl (isB pl 1 (mm q))))), some (.ref 1), some (.d q.1), some (.d (.bool q.2)), some (.d u.1), some (.d (.bool u.2)), none, none, none] [.lst es9, .lsx [lk 0 (hd q.1 q.2), lk 1 (hd q.1 q.2), lk 2 (hd q.1 q.2), lk 3 (plL q.1 q.2 pl (isB pl 1 (mm q - 1))), lk 4 (roL rows (arB rows)), lk 5 (roL rows (arB rows)), lk 6 (hd q.1 q.2)]] := by have h := p22 q.1 q.2 u.1 u.2 (mm q) rows (arB rows) pl kn (ikB (mm q) kn) td (itB td) nu (sgB (mm q) kn) (isB pl 1 (mm q)) (isB pl 1 (mm q - 1)) (isB nu 1 6) (.lst es9); exact h
  have s23 : st23 [some (.ref 0), some (.d (.int (mm q))), some (.d rows), some (.d (.bool (arB rows))), some (.d pl), some (.d kn), some (.d (.bool (ikB (mm q) kn))), some (.d td), some (.d (.bool (itB td))), some (.d nu), some (.d (.list (hd q.1 q.2))), some (.d (snT kn (sgB (mm q) kn))), some (.d (.list (akL q.1 q.2 kn (ikB (mm q) kn) (sgB (mm q) kn)))), some (.d (.list (boL q.1 q.2 u.1 u.2 pl (isB pl 1 (mm q))))), some (.ref 1), some (.d q.1), some (.d (.bool q.2)), some (.d u.1), some (.d (.bool u.2)), none, none, none] [.lst es9, .lsx [lk 0 (hd q.1 q.2), lk 1 (hd q.1 q.2), lk 2 (hd q.1 q.2), lk 3 (plL q.1 q.2 pl (isB pl 1 (mm q - 1))), lk 4 (roL rows (arB rows)), lk 5 (roL rows (arB rows)), lk 6 (hd q.1 q.2)]] = .nx [some (.ref 0), some (.d (.int (mm q))), some (.d rows), some (.d (.bool (arB rows))), some (.d pl), some (.d kn), some (.d (.bool (ikB (mm q) kn))), some (.d td), some (.d (.bool (itB td))), some (.d nu), some (.d (.list (hd q.1 q.2))), some (.d (snT kn (sgB (mm q) kn))), some (.d (.list (akL q.1 q.2 kn (ikB (mm q) kn) (sgB (mm q) kn)))), some (.d (.list (boL q.1 q.2 u.1 u.2 pl (isB pl 1 (mm q))))), some (.ref 1), some (.d q.1), some (.d (.bool q.2)), some (.d u.1), some (.d (.bool u.2)), none, none, none] [.lst es9, .lsx [lk 0 (hd q.1 q.2), lk 1 (hd q.1 q.2), lk 2 (hd q.1 q.2), lk 3 (plL q.1 q.2 pl (isB pl 1 (mm q - 1))), lk 4 (roL rows (arB rows)), lk 5 (roL rows (arB rows)), lk 6 (hd q.1 q.2), lk 7 (akL q.1 q.2 kn (ikB (mm q) kn) (sgB (mm q) kn))]] := by have h := p23 q.1 q.2 u.1 u.2 (mm q) rows (arB rows) pl kn (ikB (mm q) kn) td (itB td) nu (sgB (mm q) kn) (isB pl 1 (mm q)) (isB pl 1 (mm q - 1)) (isB nu 1 6) (.lst es9); exact h
  have s24 : st24 [some (.ref 0), some (.d (.int (mm q))), some (.d rows), some (.d (.bool (arB rows))), some (.d pl), some (.d kn), some (.d (.bool (ikB (mm q) kn))), some (.d td), some (.d (.bool (itB td))), some (.d nu), some (.d (.list (hd q.1 q.2))), some (.d (snT kn (sgB (mm q) kn))), some (.d (.list (akL q.1 q.2 kn (ikB (mm q) kn) (sgB (mm q) kn)))), some (.d (.list (boL q.1 q.2 u.1 u.2 pl (isB pl 1 (mm q))))), some (.ref 1), some (.d q.1), some (.d (.bool q.2)), some (.d u.1), some (.d (.bool u.2)), none, none, none] [.lst es9, .lsx [lk 0 (hd q.1 q.2), lk 1 (hd q.1 q.2), lk 2 (hd q.1 q.2), lk 3 (plL q.1 q.2 pl (isB pl 1 (mm q - 1))), lk 4 (roL rows (arB rows)), lk 5 (roL rows (arB rows)), lk 6 (hd q.1 q.2), lk 7 (akL q.1 q.2 kn (ikB (mm q) kn) (sgB (mm q) kn))]] = .nx [some (.ref 0), some (.d (.int (mm q))), some (.d rows), some (.d (.bool (arB rows))), some (.d pl), some (.d kn), some (.d (.bool (ikB (mm q) kn))), some (.d td), some (.d (.bool (itB td))), some (.d nu), some (.d (.list (hd q.1 q.2))), some (.d (snT kn (sgB (mm q) kn))), some (.d (.list (akL q.1 q.2 kn (ikB (mm q) kn) (sgB (mm q) kn)))), some (.d (.list (boL q.1 q.2 u.1 u.2 pl (isB pl 1 (mm q))))), some (.ref 1), some (.d q.1), some (.d (.bool q.2)), some (.d u.1), some (.d (.bool u.2)), none, none, none] [.lst es9, .lsx [lk 0 (hd q.1 q.2), lk 1 (hd q.1 q.2), lk 2 (hd q.1 q.2), lk 3 (plL q.1 q.2 pl (isB pl 1 (mm q - 1))), lk 4 (roL rows (arB rows)), lk 5 (roL rows (arB rows)), lk 6 (hd q.1 q.2), lk 7 (akL q.1 q.2 kn (ikB (mm q) kn) (sgB (mm q) kn)), lk 8 (akL q.1 q.2 kn (ikB (mm q) kn) (sgB (mm q) kn))]] := by have h := p24 q.1 q.2 u.1 u.2 (mm q) rows (arB rows) pl kn (ikB (mm q) kn) td (itB td) nu (sgB (mm q) kn) (isB pl 1 (mm q)) (isB pl 1 (mm q - 1)) (isB nu 1 6) (.lst es9); exact h
  have s25 : st25 [some (.ref 0), some (.d (.int (mm q))), some (.d rows), some (.d (.bool (arB rows))), some (.d pl), some (.d kn), some (.d (.bool (ikB (mm q) kn))), some (.d td), some (.d (.bool (itB td))), some (.d nu), some (.d (.list (hd q.1 q.2))), some (.d (snT kn (sgB (mm q) kn))), some (.d (.list (akL q.1 q.2 kn (ikB (mm q) kn) (sgB (mm q) kn)))), some (.d (.list (boL q.1 q.2 u.1 u.2 pl (isB pl 1 (mm q))))), some (.ref 1), some (.d q.1), some (.d (.bool q.2)), some (.d u.1), some (.d (.bool u.2)), none, none, none] [.lst es9, .lsx [lk 0 (hd q.1 q.2), lk 1 (hd q.1 q.2), lk 2 (hd q.1 q.2), lk 3 (plL q.1 q.2 pl (isB pl 1 (mm q - 1))), lk 4 (roL rows (arB rows)), lk 5 (roL rows (arB rows)), lk 6 (hd q.1 q.2), lk 7 (akL q.1 q.2 kn (ikB (mm q) kn) (sgB (mm q) kn)), lk 8 (akL q.1 q.2 kn (ikB (mm q) kn) (sgB (mm q) kn))]] = .nx [some (.ref 0), some (.d (.int (mm q))), some (.d rows), some (.d (.bool (arB rows))), some (.d pl), some (.d kn), some (.d (.bool (ikB (mm q) kn))), some (.d td), some (.d (.bool (itB td))), some (.d nu), some (.d (.list (hd q.1 q.2))), some (.d (snT kn (sgB (mm q) kn))), some (.d (.list (akL q.1 q.2 kn (ikB (mm q) kn) (sgB (mm q) kn)))), some (.d (.list (boL q.1 q.2 u.1 u.2 pl (isB pl 1 (mm q))))), some (.ref 1), some (.d q.1), some (.d (.bool q.2)), some (.d u.1), some (.d (.bool u.2)), none, none, none] [.lst es9, .lsx [lk 0 (hd q.1 q.2), lk 1 (hd q.1 q.2), lk 2 (hd q.1 q.2), lk 3 (plL q.1 q.2 pl (isB pl 1 (mm q - 1))), lk 4 (roL rows (arB rows)), lk 5 (roL rows (arB rows)), lk 6 (hd q.1 q.2), lk 7 (akL q.1 q.2 kn (ikB (mm q) kn) (sgB (mm q) kn)), lk 8 (akL q.1 q.2 kn (ikB (mm q) kn) (sgB (mm q) kn)), lk 9 (hd q.1 q.2)]] := by have h := p25 q.1 q.2 u.1 u.2 (mm q) rows (arB rows) pl kn (ikB (mm q) kn) td (itB td) nu (sgB (mm q) kn) (isB pl 1 (mm q)) (isB pl 1 (mm q - 1)) (isB nu 1 6) (.lst es9); exact h
  have s26 : st26 [some (.ref 0), some (.d (.int (mm q))), some (.d rows), some (.d (.bool (arB rows))), some (.d pl), some (.d kn), some (.d (.bool (ikB (mm q) kn))), some (.d td), some (.d (.bool (itB td))), some (.d nu), some (.d (.list (hd q.1 q.2))), some (.d (snT kn (sgB (mm q) kn))), some (.d (.list (akL q.1 q.2 kn (ikB (mm q) kn) (sgB (mm q) kn)))), some (.d (.list (boL q.1 q.2 u.1 u.2 pl (isB pl 1 (mm q))))), some (.ref 1), some (.d q.1), some (.d (.bool q.2)), some (.d u.1), some (.d (.bool u.2)), none, none, none] [.lst es9, .lsx [lk 0 (hd q.1 q.2), lk 1 (hd q.1 q.2), lk 2 (hd q.1 q.2), lk 3 (plL q.1 q.2 pl (isB pl 1 (mm q - 1))), lk 4 (roL rows (arB rows)), lk 5 (roL rows (arB rows)), lk 6 (hd q.1 q.2), lk 7 (akL q.1 q.2 kn (ikB (mm q) kn) (sgB (mm q) kn)), lk 8 (akL q.1 q.2 kn (ikB (mm q) kn) (sgB (mm q) kn)), lk 9 (hd q.1 q.2)]] = .nx [some (.ref 0), some (.d (.int (mm q))), some (.d rows), some (.d (.bool (arB rows))), some (.d pl), some (.d kn), some (.d (.bool (ikB (mm q) kn))), some (.d td), some (.d (.bool (itB td))), some (.d nu), some (.d (.list (hd q.1 q.2))), some (.d (snT kn (sgB (mm q) kn))), some (.d (.list (akL q.1 q.2 kn (ikB (mm q) kn) (sgB (mm q) kn)))), some (.d (.list (boL q.1 q.2 u.1 u.2 pl (isB pl 1 (mm q))))), some (.ref 1), some (.d q.1), some (.d (.bool q.2)), some (.d u.1), some (.d (.bool u.2)), none, none, none] [.lst es9, .lsx [lk 0 (hd q.1 q.2), lk 1 (hd q.1 q.2), lk 2 (hd q.1 q.2), lk 3 (plL q.1 q.2 pl (isB pl 1 (mm q - 1))), lk 4 (roL rows (arB rows)), lk 5 (roL rows (arB rows)), lk 6 (hd q.1 q.2), lk 7 (akL q.1 q.2 kn (ikB (mm q) kn) (sgB (mm q) kn)), lk 8 (akL q.1 q.2 kn (ikB (mm q) kn) (sgB (mm q) kn)), lk 9 (hd q.1 q.2), lk 10 (trL td (itB td))]] := by have h := p26 q.1 q.2 u.1 u.2 (mm q) rows (arB rows) pl kn (ikB (mm q) kn) td (itB td) nu (sgB (mm q) kn) (isB pl 1 (mm q)) (isB pl 1 (mm q - 1)) (isB nu 1 6) (.lst es9); exact h
  have s27 : st27 [some (.ref 0), some (.d (.int (mm q))), some (.d rows), some (.d (.bool (arB rows))), some (.d pl), some (.d kn), some (.d (.bool (ikB (mm q) kn))), some (.d td), some (.d (.bool (itB td))), some (.d nu), some (.d (.list (hd q.1 q.2))), some (.d (snT kn (sgB (mm q) kn))), some (.d (.list (akL q.1 q.2 kn (ikB (mm q) kn) (sgB (mm q) kn)))), some (.d (.list (boL q.1 q.2 u.1 u.2 pl (isB pl 1 (mm q))))), some (.ref 1), some (.d q.1), some (.d (.bool q.2)), some (.d u.1), some (.d (.bool u.2)), none, none, none] [.lst es9, .lsx [lk 0 (hd q.1 q.2), lk 1 (hd q.1 q.2), lk 2 (hd q.1 q.2), lk 3 (plL q.1 q.2 pl (isB pl 1 (mm q - 1))), lk 4 (roL rows (arB rows)), lk 5 (roL rows (arB rows)), lk 6 (hd q.1 q.2), lk 7 (akL q.1 q.2 kn (ikB (mm q) kn) (sgB (mm q) kn)), lk 8 (akL q.1 q.2 kn (ikB (mm q) kn) (sgB (mm q) kn)), lk 9 (hd q.1 q.2), lk 10 (trL td (itB td))]] = .nx [some (.ref 0), some (.d (.int (mm q))), some (.d rows), some (.d (.bool (arB rows))), some (.d pl), some (.d kn), some (.d (.bool (ikB (mm q) kn))), some (.d td), some (.d (.bool (itB td))), some (.d nu), some (.d (.list (hd q.1 q.2))), some (.d (snT kn (sgB (mm q) kn))), some (.d (.list (akL q.1 q.2 kn (ikB (mm q) kn) (sgB (mm q) kn)))), some (.d (.list (boL q.1 q.2 u.1 u.2 pl (isB pl 1 (mm q))))), some (.ref 1), some (.d q.1), some (.d (.bool q.2)), some (.d u.1), some (.d (.bool u.2)), none, none, none] [.lst es9, .lsx [lk 0 (hd q.1 q.2), lk 1 (hd q.1 q.2), lk 2 (hd q.1 q.2), lk 3 (plL q.1 q.2 pl (isB pl 1 (mm q - 1))), lk 4 (roL rows (arB rows)), lk 5 (roL rows (arB rows)), lk 6 (hd q.1 q.2), lk 7 (akL q.1 q.2 kn (ikB (mm q) kn) (sgB (mm q) kn)), lk 8 (akL q.1 q.2 kn (ikB (mm q) kn) (sgB (mm q) kn)), lk 9 (hd q.1 q.2), lk 10 (trL td (itB td)), lk 11 (hd q.1 q.2)]] := by have h := p27 q.1 q.2 u.1 u.2 (mm q) rows (arB rows) pl kn (ikB (mm q) kn) td (itB td) nu (sgB (mm q) kn) (isB pl 1 (mm q)) (isB pl 1 (mm q - 1)) (isB nu 1 6) (.lst es9); exact h
  have s28 : st28 [some (.ref 0), some (.d (.int (mm q))), some (.d rows), some (.d (.bool (arB rows))), some (.d pl), some (.d kn), some (.d (.bool (ikB (mm q) kn))), some (.d td), some (.d (.bool (itB td))), some (.d nu), some (.d (.list (hd q.1 q.2))), some (.d (snT kn (sgB (mm q) kn))), some (.d (.list (akL q.1 q.2 kn (ikB (mm q) kn) (sgB (mm q) kn)))), some (.d (.list (boL q.1 q.2 u.1 u.2 pl (isB pl 1 (mm q))))), some (.ref 1), some (.d q.1), some (.d (.bool q.2)), some (.d u.1), some (.d (.bool u.2)), none, none, none] [.lst es9, .lsx [lk 0 (hd q.1 q.2), lk 1 (hd q.1 q.2), lk 2 (hd q.1 q.2), lk 3 (plL q.1 q.2 pl (isB pl 1 (mm q - 1))), lk 4 (roL rows (arB rows)), lk 5 (roL rows (arB rows)), lk 6 (hd q.1 q.2), lk 7 (akL q.1 q.2 kn (ikB (mm q) kn) (sgB (mm q) kn)), lk 8 (akL q.1 q.2 kn (ikB (mm q) kn) (sgB (mm q) kn)), lk 9 (hd q.1 q.2), lk 10 (trL td (itB td)), lk 11 (hd q.1 q.2)]] = .nx [some (.ref 0), some (.d (.int (mm q))), some (.d rows), some (.d (.bool (arB rows))), some (.d pl), some (.d kn), some (.d (.bool (ikB (mm q) kn))), some (.d td), some (.d (.bool (itB td))), some (.d nu), some (.d (.list (hd q.1 q.2))), some (.d (snT kn (sgB (mm q) kn))), some (.d (.list (akL q.1 q.2 kn (ikB (mm q) kn) (sgB (mm q) kn)))), some (.d (.list (boL q.1 q.2 u.1 u.2 pl (isB pl 1 (mm q))))), some (.ref 1), some (.d q.1), some (.d (.bool q.2)), some (.d u.1), some (.d (.bool u.2)), none, none, none] [.lst es9, .lsx [lk 0 (hd q.1 q.2), lk 1 (hd q.1 q.2), lk 2 (hd q.1 q.2), lk 3 (plL q.1 q.2 pl (isB pl 1 (mm q - 1))), lk 4 (roL rows (arB rows)), lk 5 (roL rows (arB rows)), lk 6 (hd q.1 q.2), lk 7 (akL q.1 q.2 kn (ikB (mm q) kn) (sgB (mm q) kn)), lk 8 (akL q.1 q.2 kn (ikB (mm q) kn) (sgB (mm q) kn)), lk 9 (hd q.1 q.2), lk 10 (trL td (itB td)), lk 11 (hd q.1 q.2), lk 12 (hd q.1 q.2)]] := by have h := p28 q.1 q.2 u.1 u.2 (mm q) rows (arB rows) pl kn (ikB (mm q) kn) td (itB td) nu (sgB (mm q) kn) (isB pl 1 (mm q)) (isB pl 1 (mm q - 1)) (isB nu 1 6) (.lst es9); exact h
  have s29 : st29 [some (.ref 0), some (.d (.int (mm q))), some (.d rows), some (.d (.bool (arB rows))), some (.d pl), some (.d kn), some (.d (.bool (ikB (mm q) kn))), some (.d td), some (.d (.bool (itB td))), some (.d nu), some (.d (.list (hd q.1 q.2))), some (.d (snT kn (sgB (mm q) kn))), some (.d (.list (akL q.1 q.2 kn (ikB (mm q) kn) (sgB (mm q) kn)))), some (.d (.list (boL q.1 q.2 u.1 u.2 pl (isB pl 1 (mm q))))), some (.ref 1), some (.d q.1), some (.d (.bool q.2)), some (.d u.1), some (.d (.bool u.2)), none, none, none] [.lst es9, .lsx [lk 0 (hd q.1 q.2), lk 1 (hd q.1 q.2), lk 2 (hd q.1 q.2), lk 3 (plL q.1 q.2 pl (isB pl 1 (mm q - 1))), lk 4 (roL rows (arB rows)), lk 5 (roL rows (arB rows)), lk 6 (hd q.1 q.2), lk 7 (akL q.1 q.2 kn (ikB (mm q) kn) (sgB (mm q) kn)), lk 8 (akL q.1 q.2 kn (ikB (mm q) kn) (sgB (mm q) kn)), lk 9 (hd q.1 q.2), lk 10 (trL td (itB td)), lk 11 (hd q.1 q.2), lk 12 (hd q.1 q.2)]] = .nx [some (.ref 0), some (.d (.int (mm q))), some (.d rows), some (.d (.bool (arB rows))), some (.d pl), some (.d kn), some (.d (.bool (ikB (mm q) kn))), some (.d td), some (.d (.bool (itB td))), some (.d nu), some (.d (.list (hd q.1 q.2))), some (.d (snT kn (sgB (mm q) kn))), some (.d (.list (akL q.1 q.2 kn (ikB (mm q) kn) (sgB (mm q) kn)))), some (.d (.list (boL q.1 q.2 u.1 u.2 pl (isB pl 1 (mm q))))), some (.ref 1), some (.d q.1), some (.d (.bool q.2)), some (.d u.1), some (.d (.bool u.2)), none, none, none] [.lst es9, .lsx [lk 0 (hd q.1 q.2), lk 1 (hd q.1 q.2), lk 2 (hd q.1 q.2), lk 3 (plL q.1 q.2 pl (isB pl 1 (mm q - 1))), lk 4 (roL rows (arB rows)), lk 5 (roL rows (arB rows)), lk 6 (hd q.1 q.2), lk 7 (akL q.1 q.2 kn (ikB (mm q) kn) (sgB (mm q) kn)), lk 8 (akL q.1 q.2 kn (ikB (mm q) kn) (sgB (mm q) kn)), lk 9 (hd q.1 q.2), lk 10 (trL td (itB td)), lk 11 (hd q.1 q.2), lk 12 (hd q.1 q.2), lk 13 (boL q.1 q.2 u.1 u.2 pl (isB pl 1 (mm q)))]] := by have h := p29 q.1 q.2 u.1 u.2 (mm q) rows (arB rows) pl kn (ikB (mm q) kn) td (itB td) nu (sgB (mm q) kn) (isB pl 1 (mm q)) (isB pl 1 (mm q - 1)) (isB nu 1 6) (.lst es9); exact h
  have s30 : st30 [some (.ref 0), some (.d (.int (mm q))), some (.d rows), some (.d (.bool (arB rows))), some (.d pl), some (.d kn), some (.d (.bool (ikB (mm q) kn))), some (.d td), some (.d (.bool (itB td))), some (.d nu), some (.d (.list (hd q.1 q.2))), some (.d (snT kn (sgB (mm q) kn))), some (.d (.list (akL q.1 q.2 kn (ikB (mm q) kn) (sgB (mm q) kn)))), some (.d (.list (boL q.1 q.2 u.1 u.2 pl (isB pl 1 (mm q))))), some (.ref 1), some (.d q.1), some (.d (.bool q.2)), some (.d u.1), some (.d (.bool u.2)), none, none, none] [.lst es9, .lsx [lk 0 (hd q.1 q.2), lk 1 (hd q.1 q.2), lk 2 (hd q.1 q.2), lk 3 (plL q.1 q.2 pl (isB pl 1 (mm q - 1))), lk 4 (roL rows (arB rows)), lk 5 (roL rows (arB rows)), lk 6 (hd q.1 q.2), lk 7 (akL q.1 q.2 kn (ikB (mm q) kn) (sgB (mm q) kn)), lk 8 (akL q.1 q.2 kn (ikB (mm q) kn) (sgB (mm q) kn)), lk 9 (hd q.1 q.2), lk 10 (trL td (itB td)), lk 11 (hd q.1 q.2), lk 12 (hd q.1 q.2), lk 13 (boL q.1 q.2 u.1 u.2 pl (isB pl 1 (mm q)))]] = .nx [some (.ref 0), some (.d (.int (mm q))), some (.d rows), some (.d (.bool (arB rows))), some (.d pl), some (.d kn), some (.d (.bool (ikB (mm q) kn))), some (.d td), some (.d (.bool (itB td))), some (.d nu), some (.d (.list (hd q.1 q.2))), some (.d (snT kn (sgB (mm q) kn))), some (.d (.list (akL q.1 q.2 kn (ikB (mm q) kn) (sgB (mm q) kn)))), some (.d (.list (boL q.1 q.2 u.1 u.2 pl (isB pl 1 (mm q))))), some (.ref 1), some (.d q.1), some (.d (.bool q.2)), some (.d u.1), some (.d (.bool u.2)), none, none, none] [.lst es9, .lsx [lk 0 (hd q.1 q.2), lk 1 (hd q.1 q.2), lk 2 (hd q.1 q.2), lk 3 (plL q.1 q.2 pl (isB pl 1 (mm q - 1))), lk 4 (roL rows (arB rows)), lk 5 (roL rows (arB rows)), lk 6 (hd q.1 q.2), lk 7 (akL q.1 q.2 kn (ikB (mm q) kn) (sgB (mm q) kn)), lk 8 (akL q.1 q.2 kn (ikB (mm q) kn) (sgB (mm q) kn)), lk 9 (hd q.1 q.2), lk 10 (trL td (itB td)), lk 11 (hd q.1 q.2), lk 12 (hd q.1 q.2), lk 13 (boL q.1 q.2 u.1 u.2 pl (isB pl 1 (mm q))), lk 14 (nuL nu (isB nu 1 6))]] := by have h := (congrFun (congrFun (congrFun (congrFun (congrFun (congrFun (congrFun (congrFun (congrFun (congrFun (congrFun (congrFun (congrFun (congrFun (congrFun (congrFun (of_map p30 hnu) q.1) q.2) u.1) u.2) (mm q)) rows) (arB rows)) pl) kn) (ikB (mm q) kn)) td) (itB td)) (sgB (mm q) kn)) (isB pl 1 (mm q))) (isB pl 1 (mm q - 1))) (.lst es9)); exact h
  have hc := cap_ok q.1 q.2 u.1 u.2 (mm q) rows (arB rows) pl kn (ikB (mm q) kn) td (itB td) nu (sgB (mm q) kn) (isB pl 1 (mm q)) (isB pl 1 (mm q - 1)) (isB nu 1 6) (.lst es9)
  have hall := lcl (wipeR (capR [some (.ref 0), some (.d (.int (mm q))), some (.d rows), some (.d (.bool (arB rows))), some (.d pl), some (.d kn), some (.d (.bool (ikB (mm q) kn))), some (.d td), some (.d (.bool (itB td))), some (.d nu), some (.d (.list (hd q.1 q.2))), some (.d (snT kn (sgB (mm q) kn))), some (.d (.list (akL q.1 q.2 kn (ikB (mm q) kn) (sgB (mm q) kn)))), some (.d (.list (boL q.1 q.2 u.1 u.2 pl (isB pl 1 (mm q))))), some (.ref 1), some (.d q.1), some (.d (.bool q.2)), some (.d u.1), some (.d (.bool u.2)), none, none, none]) [20, 21]) rfl _ (looks_ok hq hu hrows hR hpl hkn htd hnu)
  have s31 : st31 [some (.ref 0), some (.d (.int (mm q))), some (.d rows), some (.d (.bool (arB rows))), some (.d pl), some (.d kn), some (.d (.bool (ikB (mm q) kn))), some (.d td), some (.d (.bool (itB td))), some (.d nu), some (.d (.list (hd q.1 q.2))), some (.d (snT kn (sgB (mm q) kn))), some (.d (.list (akL q.1 q.2 kn (ikB (mm q) kn) (sgB (mm q) kn)))), some (.d (.list (boL q.1 q.2 u.1 u.2 pl (isB pl 1 (mm q))))), some (.ref 1), some (.d q.1), some (.d (.bool q.2)), some (.d u.1), some (.d (.bool u.2)), none, none, none] [.lst es9, .lsx [lk 0 (hd q.1 q.2), lk 1 (hd q.1 q.2), lk 2 (hd q.1 q.2), lk 3 (plL q.1 q.2 pl (isB pl 1 (mm q - 1))), lk 4 (roL rows (arB rows)), lk 5 (roL rows (arB rows)), lk 6 (hd q.1 q.2), lk 7 (akL q.1 q.2 kn (ikB (mm q) kn) (sgB (mm q) kn)), lk 8 (akL q.1 q.2 kn (ikB (mm q) kn) (sgB (mm q) kn)), lk 9 (hd q.1 q.2), lk 10 (trL td (itB td)), lk 11 (hd q.1 q.2), lk 12 (hd q.1 q.2), lk 13 (boL q.1 q.2 u.1 u.2 pl (isB pl 1 (mm q))), lk 14 (nuL nu (isB nu 1 6))]] = .ret (.d (.bool true)) [.lst es9, .lsx [lk 0 (hd q.1 q.2), lk 1 (hd q.1 q.2), lk 2 (hd q.1 q.2), lk 3 (plL q.1 q.2 pl (isB pl 1 (mm q - 1))), lk 4 (roL rows (arB rows)), lk 5 (roL rows (arB rows)), lk 6 (hd q.1 q.2), lk 7 (akL q.1 q.2 kn (ikB (mm q) kn) (sgB (mm q) kn)), lk 8 (akL q.1 q.2 kn (ikB (mm q) kn) (sgB (mm q) kn)), lk 9 (hd q.1 q.2), lk 10 (trL td (itB td)), lk 11 (hd q.1 q.2), lk 12 (hd q.1 q.2), lk 13 (boL q.1 q.2 u.1 u.2 pl (isB pl 1 (mm q))), lk 14 (nuL nu (isB nu 1 6))]] := by
    rw [st31_eq]
    have e : eLcF fz__law_right 14 gLook tYe eLook [20, 21] [some (.ref 0), some (.d (.int (mm q))), some (.d rows), some (.d (.bool (arB rows))), some (.d pl), some (.d kn), some (.d (.bool (ikB (mm q) kn))), some (.d td), some (.d (.bool (itB td))), some (.d nu), some (.d (.list (hd q.1 q.2))), some (.d (snT kn (sgB (mm q) kn))), some (.d (.list (akL q.1 q.2 kn (ikB (mm q) kn) (sgB (mm q) kn)))), some (.d (.list (boL q.1 q.2 u.1 u.2 pl (isB pl 1 (mm q))))), some (.ref 1), some (.d q.1), some (.d (.bool q.2)), some (.d u.1), some (.d (.bool u.2)), none, none, none] [.lst es9, .lsx [lk 0 (hd q.1 q.2), lk 1 (hd q.1 q.2), lk 2 (hd q.1 q.2), lk 3 (plL q.1 q.2 pl (isB pl 1 (mm q - 1))), lk 4 (roL rows (arB rows)), lk 5 (roL rows (arB rows)), lk 6 (hd q.1 q.2), lk 7 (akL q.1 q.2 kn (ikB (mm q) kn) (sgB (mm q) kn)), lk 8 (akL q.1 q.2 kn (ikB (mm q) kn) (sgB (mm q) kn)), lk 9 (hd q.1 q.2), lk 10 (trL td (itB td)), lk 11 (hd q.1 q.2), lk 12 (hd q.1 q.2), lk 13 (boL q.1 q.2 u.1 u.2 pl (isB pl 1 (mm q))), lk 14 (nuL nu (isB nu 1 6))]] = .ok (.d (.list (List.replicate 15 (.bool true)))) [.lst es9, .lsx [lk 0 (hd q.1 q.2), lk 1 (hd q.1 q.2), lk 2 (hd q.1 q.2), lk 3 (plL q.1 q.2 pl (isB pl 1 (mm q - 1))), lk 4 (roL rows (arB rows)), lk 5 (roL rows (arB rows)), lk 6 (hd q.1 q.2), lk 7 (akL q.1 q.2 kn (ikB (mm q) kn) (sgB (mm q) kn)), lk 8 (akL q.1 q.2 kn (ikB (mm q) kn) (sgB (mm q) kn)), lk 9 (hd q.1 q.2), lk 10 (trL td (itB td)), lk 11 (hd q.1 q.2), lk 12 (hd q.1 q.2), lk 13 (boL q.1 q.2 u.1 u.2 pl (isB pl 1 (mm q))), lk 14 (nuL nu (isB nu 1 6))]] := by
      unfold eLcF
      simp only [List.getElem?_cons_succ, List.getElem?_cons_zero]
      rw [hc]
      simp only []
      rw [hall]
      rfl
    have e2 : eApp bAll (aCons (eLcF fz__law_right 14 gLook tYe eLook [20, 21]) aNil) [some (.ref 0), some (.d (.int (mm q))), some (.d rows), some (.d (.bool (arB rows))), some (.d pl), some (.d kn), some (.d (.bool (ikB (mm q) kn))), some (.d td), some (.d (.bool (itB td))), some (.d nu), some (.d (.list (hd q.1 q.2))), some (.d (snT kn (sgB (mm q) kn))), some (.d (.list (akL q.1 q.2 kn (ikB (mm q) kn) (sgB (mm q) kn)))), some (.d (.list (boL q.1 q.2 u.1 u.2 pl (isB pl 1 (mm q))))), some (.ref 1), some (.d q.1), some (.d (.bool q.2)), some (.d u.1), some (.d (.bool u.2)), none, none, none] [.lst es9, .lsx [lk 0 (hd q.1 q.2), lk 1 (hd q.1 q.2), lk 2 (hd q.1 q.2), lk 3 (plL q.1 q.2 pl (isB pl 1 (mm q - 1))), lk 4 (roL rows (arB rows)), lk 5 (roL rows (arB rows)), lk 6 (hd q.1 q.2), lk 7 (akL q.1 q.2 kn (ikB (mm q) kn) (sgB (mm q) kn)), lk 8 (akL q.1 q.2 kn (ikB (mm q) kn) (sgB (mm q) kn)), lk 9 (hd q.1 q.2), lk 10 (trL td (itB td)), lk 11 (hd q.1 q.2), lk 12 (hd q.1 q.2), lk 13 (boL q.1 q.2 u.1 u.2 pl (isB pl 1 (mm q))), lk 14 (nuL nu (isB nu 1 6))]] = .ok (.d (.bool true)) [.lst es9, .lsx [lk 0 (hd q.1 q.2), lk 1 (hd q.1 q.2), lk 2 (hd q.1 q.2), lk 3 (plL q.1 q.2 pl (isB pl 1 (mm q - 1))), lk 4 (roL rows (arB rows)), lk 5 (roL rows (arB rows)), lk 6 (hd q.1 q.2), lk 7 (akL q.1 q.2 kn (ikB (mm q) kn) (sgB (mm q) kn)), lk 8 (akL q.1 q.2 kn (ikB (mm q) kn) (sgB (mm q) kn)), lk 9 (hd q.1 q.2), lk 10 (trL td (itB td)), lk 11 (hd q.1 q.2), lk 12 (hd q.1 q.2), lk 13 (boL q.1 q.2 u.1 u.2 pl (isB pl 1 (mm q))), lk 14 (nuL nu (isB nu 1 6))]] := by
      unfold eApp aCons
      rw [e]
      rfl
    unfold sRet
    rw [e2]
    rfl
  refine ⟨es9, [.dead], ?_, p9⟩
  have o : ∀ fs : FS, fnL 22 fs [.ref 0] [.lst ds] = killW (fs [some (.ref 0), none, none, none, none, none, none, none, none, none, none, none, none, none, none, none, none, none, none, none, none, none] [.lst ds]).fin := fun _ => rfl
  rw [right_eq, o, step s1, step s2, step s3, step2 s45, step s6, step s7, step s8, step s9, step s10, step s11, step s12, step s13, step s14, step s15, step s16, step s17, step s18, step s19, step s20, step s21, step s22, step s23, step s24, step s25, step s26, step s27, step s28, step s29, step s30]
  show killW (SOut.fin (SOut.seq (st31 _ _) _)) = _
  rw [s31]
  rfl
end K22
set_option maxRecDepth 100000
set_option maxHeartbeats 4000000
namespace K22
open PySem L2 MI
section
variable {S : Sto}
def iabs (i : Int) : Int := if i < 0 then -i else i
theorem size_line : sizeLine = 16777216 := by decide
/-! ### the pot, the places -/
theorem pot_ok (ns : List Int) {p : Int} (p0 : 0 ≤ p) (p1 : p ≤ 10) (hl : ns.length ≤ 63) : ∃ ds, f__law_pot [.scr ns, .d (.int p)] [] = .ok (.ref 0) [.lst ds] ∧ Pot 0 ds := by
  -- the cell
  obtain ⟨cell, hc⟩ : ∃ cell : Int, eIf (tE (eOp2 (cInt gLt) (eVar 1) (eApp bLen (aCons (eVar 0) aNil)))) (eOp2 oIx (eVar 0) (eVar 1)) (eOp2 oAdd (eOp2 (oInt MI.gMul) (eC (.int 1427)) (eVar 1)) (eC (.int 1229))) [some (.scr ns), some (.d (.int p)), none, none, none] [] = .ok (.d (.int cell)) [] := by
    obtain ⟨L, hL⟩ : ∃ L : Int, L = (ns.length : Nat) := ⟨_, rfl⟩
    have hlen : bLen [.scr ns] [] = .ok (.d (.int L)) [] := by subst hL; simp
    by_cases h : p < L
    · have hp : p.toNat < ns.length := by omega
      have ha : atI ns p = some ns[p.toNat] := atI_ok p0 (List.getElem?_eq_getElem hp)
      have hx : oIx (.scr ns) (.d (.int p)) [] = .ok (.d (.int ns[p.toNat])) [] := by
        show (match atI ns p with
          | some k => Out.ok (IV.d (.int k)) []
          | none => Out.bad) = _
        rw [ha]
      exact ⟨ns[p.toNat], by simp [hlen, h, hx, -bLen, -oIx]⟩
    · have m2 : MI.gMul 1427 p = some (1427 * p) := gMul_ok (by decide) (by omega)
      exact ⟨1427 * p + 1229, by simp [hlen, h, m2, -bLen, -MI.gMul]⟩
  obtain ⟨T, hT⟩ : ∃ T : Int, T = 10 ^ 60 := ⟨_, rfl⟩
  have hq : MI.gPw 10 60 = some T := by rw [hT]; rfl
  obtain ⟨U, hU⟩ : ∃ U : Int, U = 10 ^ 18 := ⟨_, rfl⟩
  have bI : ∀ (i : Int) (S : Sto), bInt [.d (.int i)] S = .ok (.d (.int i)) S := fun _ _ => rfl
  obtain ⟨P, hP⟩ : ∃ P : Int, P = (10 ^ 60) ^ 5 := ⟨_, rfl⟩
  have hP0 : 0 < P := by rw [hP]; decide
  have hP1 : P = 10 ^ 300 := by rw [hP]; decide
  have hq2 : MI.gPw T 5 = some P := by rw [hP, hT]; rfl
  have hq3 : MI.gPw 10 18 = some U := by rw [hU]; rfl
  have b1 : bAbs [.d (.int cell)] [] = .ok (.d (.int (iabs cell))) [] := rfl
  have m1 : MI.gMod (iabs cell) P = some (iabs cell % P) := gMod_ok hP0
  obtain ⟨y, hy⟩ : ∃ y, y = iabs cell % P := ⟨_, rfl⟩
  have y0 : 0 ≤ y := by rw [hy]; exact Int.emod_nonneg _ (by omega)
  have y1 : y < 10 ^ 300 := by rw [hy, ← hP1]; exact Int.emod_lt_of_pos _ hP0
  rw [← hy] at m1
  obtain ⟨k, hk⟩ : ∃ k : Int, k = if decide (U ≤ iabs cell) = true then 1 else 0 := ⟨_, rfl⟩
  have k01 : k = 0 ∨ k = 1 := by rw [hk]; split <;> simp
  have yb : y.natAbs < 2 ^ 2000 := by
    have : y.natAbs < 10 ^ 300 := by omega
    exact Nat.lt_of_lt_of_le this (by decide)
  have m2 : MI.gMul y k = some (y * k) := if_pos ⟨yb, by rcases k01 with e | e <;> rw [e] <;> decide⟩
  have bi : bInt [.d (.bool (decide (U ≤ iabs cell)))] [] = .ok (.d (.int k)) [] := by rw [hk]; rfl
  have m3 : MI.gMod cell 2305843009213693951 = some (cell % 2305843009213693951) := gMod_ok (by omega)
  obtain ⟨s, hs⟩ : ∃ s, s = cell % 2305843009213693951 := ⟨_, rfl⟩
  rw [← hs] at m3
  have s0 : 0 ≤ s ∧ s < 2305843009213693951 := by omega
  have m4 : MI.gMul s 88379 = some (s * 88379) := gMul_ok (by omega) (by decide)
  have m5 : MI.gMul 8191 p = some (8191 * p) := gMul_ok (by decide) (by omega)
  have m6 : MI.gMul (8191 * p) p = some (8191 * p * p) := gMul_ok (by omega) (by omega)
  obtain ⟨z, hz⟩ : ∃ z, z = s * 88379 + 8191 * p * p + 1321 := ⟨_, rfl⟩
  have m7 : MI.gMod z 2305843009213693921 = some (z % 2305843009213693921) := gMod_ok (by omega)
  refine ⟨[.int (y * k), .int (z % 2305843009213693921), .int 0], ?_, ⟨y * k, z % 2305843009213693921, 0, rfl, ?_, ?_, by omega, by omega, by omega, by omega⟩⟩
  · have u : ∀ fs : FS, fnB 5 fs [.scr ns, .d (.int p)] [] = (fs [some (.scr ns), some (.d (.int p)), none, none, none] []).fin := fun _ => rfl
    rw [f__law_pot, u]
    unfold sCons
    have s1 : ∀ f : FE, f [some (.scr ns), some (.d (.int p)), none, none, none] [] = .ok (.d (.int cell)) [] → sSet f 2 [some (.scr ns), some (.d (.int p)), none, none, none] [] = .nx [some (.scr ns), some (.d (.int p)), some (.d (.int cell)), none, none] [] := fun f h => by
      unfold sSet
      rw [h]
      rfl
    rw [s1 _ hc, seq_nx_]
    rw [hz] at m7 ⊢
    simp [hq, hq2, hq3, bI, b1, m1, m2, bi, m3, m4, m5, m6, m7, -bAbs, -bInt, -MI.gMod, -MI.gMul, -MI.gPw]
  · rcases k01 with e | e <;> rw [e] <;> simp <;> omega
  · rcases k01 with e | e <;> rw [e] <;> simp <;> omega
theorem cells_ok (ns : List Int) (hl : ns.length ≤ 63) : ∃ c : Int, 1 ≤ c ∧ c ≤ 4 ∧ f__law_cells [.scr ns, .d (.int 4)] [] = .ok (li (rgI 0 c)) [] := by
  obtain ⟨L, hL⟩ : ∃ L : Int, L = (ns.length : Nat) := ⟨_, rfl⟩
  have hlen : bLen [.scr ns] [] = .ok (.d (.int L)) [] := by subst hL; simp
  obtain ⟨a, ha⟩ : ∃ a : Int, a = if L < 4 then L else 4 := ⟨_, rfl⟩
  obtain ⟨c, hc⟩ : ∃ c : Int, c = if a > 1 then a else 1 := ⟨_, rfl⟩
  have h1 : bMin2 [.d (.int 4), .d (.int L)] [] = .ok (.d (.int a)) [] := by rw [ha]; rfl
  have h2 : bMax2 [.d (.int 1), .d (.int a)] [] = .ok (.d (.int c)) [] := by rw [hc]; rfl
  have c1 : 1 ≤ c := by rw [hc]; split <;> omega
  have c3 : c ≤ 4 := by rw [hc, ha]; split <;> (try split) <;> omega
  refine ⟨c, c1, c3, ?_⟩
  have hg : eRgL (rg1 (eApp bMax2 (aCons (eC (.int 1)) (aCons (eApp bMin2 (aCons (eVar 1) (aCons (eApp bLen (aCons (eVar 0) aNil)) aNil))) aNil)))) [some (.scr ns), some (.d (.int 4))] [] = .ok (li (rgI 0 c)) [] :=
    rgL_ok (by simp [hlen, h1, h2, -bLen, -bMin2, -bMax2]) (rgOk_s (by omega) (by omega) (by omega) (by omega))
  simp [f__law_cells, hg, -eRgL]
theorem put_at {S : Sto} {k : Nat} {o o' : IO} (h : S[k]? = some o) : (S.set k o')[k]? = some o' := List.getElem?_set_self (List.getElem?_eq_some_iff.mp h).1
abbrev lapE : FE := eApp (callN 1 f__law_right) (aCons (eVar 2) aNil)
theorem laps {a b w : Option IV} {k : Nat} : ∀ (ds : List PyData) (n : Nat) (S : Sto) (es : List PyData), S[k]? = some (.lst es) → Pot n es → n + 9 * ds.length ≤ 50000 →
    ∃ S' fs, lcL (gNm 3) tYe lapE [a, b, some (.ref k), w] ds S = .ok (ds.map fun _ => .bool true) S' ∧ S'[k]? = some (.lst fs) ∧ Pot (n + 9 * ds.length) fs
  | [], n, S, es, hS, hp, hn => ⟨S, es, rfl, hS, hp⟩
  | d :: ds, n, S, es, hS, hp, hn => by
    rw [List.length_cons] at hn
    obtain ⟨fs, T, c, p⟩ := right_ok hp (by omega)
    have k1 := call_pot (n := k) (S := S) (is := []) rfl hS c rfl
    obtain ⟨S', gs, e, h1, h2⟩ := laps ds (n + 9) (S.set k (.lst fs)) fs (put_at hS) p (by omega)
    have e1 : lapE [a, b, some (.ref k), some (.d d)] S = .ok (.d (.bool true)) (S.set k (.lst fs)) := by
      simp [k1]
    refine ⟨S', gs, ?_, h1, by rw [List.length_cons, show n + 9 * (ds.length + 1) = n + 9 + 9 * ds.length by omega]; exact h2⟩
    unfold lcL
    have g : gNm 3 (.d d) [a, b, some (.ref k), w] S = .nx [a, b, some (.ref k), some (.d d)] S := rfl
    rw [g]
    show (Out.bind (Out.ok true S) _) = _
    simp only [Out.bind, if_true]
    rw [e1]
    simp only [Out.bind]
    rw [e]
    rfl
abbrev allE : FE := eApp bAll (aCons (eLc (iR1 (eC (.int 5))) (gNm 3) tYe lapE [3]) aNil)
abbrev plB : FS := sCons (sSet (eApp (callNM 2 f__law_pot) (aCons (eVar 0) (aCons (eVar 1) aNil))) 2) (sCons (sIf (tNt (tE allE)) (sCons (sRet (eC (.bool false))) sNil) sNil) sNil)
theorem place_ok {ns : List Int} (hl : ns.length ≤ 63) {p : Int} (p0 : 0 ≤ p) (p1 : p ≤ 10) {w2 w3 : Option IV} :
    ∃ S' r', plB [some (.scr ns), some (.d (.int p)), w2, w3] S = .nx r' S' ∧ ∃ w2 w3, r' = [some (.scr ns), some (.d (.int p)), w2, w3] := by
  obtain ⟨ds, c0, hp⟩ := pot_ok ns p0 p1 hl
  have k0 := call_newM (S := S) (is := [.scr ns, .d (.int p)]) rfl c0 rfl
  have hS : (S ++ [IO.lst ds])[S.length]? = some (.lst ds) := by simp
  obtain ⟨S', es, e, h1, h2⟩ := laps (a := some (.scr ns)) (b := some (.d (.int p))) (w := none) (k := S.length) (rngD 0 5) 0 (S ++ [.lst ds]) ds hS hp (by decide)
  have it : iR1 (eC (.int 5)) [some (.scr ns), some (.d (.int p)), some (.ref S.length), w3] (S ++ [.lst ds]) = .ok (rngD 0 5) (S ++ [.lst ds]) := iR1_ok rfl (by decide)
  have e1 : eLc (iR1 (eC (.int 5))) (gNm 3) tYe lapE [3] [some (.scr ns), some (.d (.int p)), some (.ref S.length), w3] (S ++ [.lst ds]) = .ok (.d (.list ((rngD 0 5).map fun _ => .bool true))) S' := by
    unfold eLc lcR
    rw [it]
    show ((if (rngD 0 5).length ≤ 1000000 then (lcL (gNm 3) tYe lapE [some (.scr ns), some (.d (.int p)), some (.ref S.length), none] (rngD 0 5) (S ++ [.lst ds])).nox else .bad : Out (List PyData)).bind _) = _
    rw [if_pos (by decide), e]
    rfl
  have e2 : allE [some (.scr ns), some (.d (.int p)), some (.ref S.length), w3] (S ++ [.lst ds]) = .ok (.d (.bool true)) S' := by
    unfold allE eApp aCons
    rw [e1]
    rfl
  have s1 : sSet (eApp (callNM 2 f__law_pot) (aCons (eVar 0) (aCons (eVar 1) aNil))) 2 [some (.scr ns), some (.d (.int p)), w2, w3] S = .nx [some (.scr ns), some (.d (.int p)), some (.ref S.length), w3] (S ++ [.lst ds]) := by
    have k0' : callNM 2 f__law_pot [.scr ns, .d (.int p)] S = .ok (.ref S.length) (S ++ [.lst ds]) := by
      unfold callNM
      rw [if_pos (show [IV.scr ns, IV.d (.int p)].length = 2 from rfl)]
      exact k0
    simp [k0', -callNM]
  refine ⟨S', [some (.scr ns), some (.d (.int p)), some (.ref S.length), w3], ?_, _, _, rfl⟩
  unfold plB
  rw [step s1]
  have s2 : sIf (tNt (tE allE)) (sCons (sRet (eC (.bool false))) sNil) sNil [some (.scr ns), some (.d (.int p)), some (.ref S.length), w3] (S ++ [.lst ds]) = .nx [some (.scr ns), some (.d (.int p)), some (.ref S.length), w3] S' := by
    have t : tNt (tE allE) [some (.scr ns), some (.d (.int p)), some (.ref S.length), w3] (S ++ [.lst ds]) = .ok false S' := by
      unfold tNt tE
      rw [e2]
      rfl
    unfold sIf
    rw [t]
    rfl
  rw [step s2]
  rfl
theorem plain (ns : List Int) (hl : ns.length ≤ 63) : ∃ S, f_law [.scr ns] [] = .ok (.d (.bool true)) S := by
  obtain ⟨c, c0, c1, hc⟩ := cells_ok ns hl
  have kc := call_pure (S := []) (is := [.scr ns, .d (.int 4)]) rfl hc rfl
  have it : iSeq (eApp (callN 2 f__law_cells) (aCons (eVar 0) (aCons (eC (.int 4)) aNil))) [some (.scr ns), none, none, none] [] = .ok ((rgI 0 c).map .int) [] :=
    iSeq_ok (v := li (rgI 0 c)) (by simp [kc]) rfl (by rw [size_line, List.length_map, len_rgI]; omega)
  obtain ⟨r', S', e, w1, w2, w3, z1⟩ := forL_inv (g := gNm 1) (b := plB) (ds := (rgI 0 c).map .int)
    (fun i r S1 => ∃ (w1 w2 w3 : Option IV), r = [some (.scr ns), w1, w2, w3])
    (fun i r S1 d hd ⟨w1, w2, w3, z1⟩ => by
      rw [List.getElem?_map] at hd
      cases hx : (rgI 0 c)[i]? with
      | none => rw [hx] at hd; cases hd
      | some p =>
        rw [hx] at hd
        cases hd
        have hp := mem_rgI.mp (List.mem_of_getElem? hx)
        subst z1
        obtain ⟨S3, r3, c3, w2', w3', e3⟩ := place_ok (S := S1) hl (p := p) (by omega) (by omega) (w2 := w2) (w3 := w3)
        exact ⟨r3, S3, c3, _, _, _, e3⟩)
    (r := [some (.scr ns), none, none, none]) (S := []) ⟨none, none, none, rfl⟩
  subst z1
  refine ⟨S', ?_⟩
  have u : ∀ fs : FS, fnB 4 fs [.scr ns] [] = (fs [some (.scr ns), none, none, none] []).fin := fun _ => rfl
  have hfor : sFor (iSeq (eApp (callN 2 f__law_cells) (aCons (eVar 0) (aCons (eC (.int 4)) aNil)))) (gNm 1) plB [some (.scr ns), none, none, none] [] = .nx [some (.scr ns), w1, w2, w3] S' := by
    unfold sFor
    rw [it]
    exact e
  rw [f_law, u, step hfor]
  rfl
end
end K22
open PySem PySem.W PySem.Calls PyProof.Rows
theorem PySem.Challenge.cw_endforend_k22_what_stretches_and_knots_r_holds : PySem.Challenge.rw_endforend_k22_what_stretches_and_knots_r.Holds := by
  w_on; o_law
  refine HandSHeadRun.head_any (r := OpenLaw.row PySem.Challenge.rw_endforend_k22_what_stretches_and_knots_r) (q := view (OpenLaw.row PySem.Challenge.rw_endforend_k22_what_stretches_and_knots_r).prog [81]) (H := K22.hk) (ob := K22.ob) (M := 4000) (loose := K22.loose) (d := HandSHeadRun.topDef (OpenLaw.row PySem.Challenge.rw_endforend_k22_what_stretches_and_knots_r).prog 81) (kwd := []) K22.ob_eq
    (by kernel_rfl) (fun s => by kernel_rfl) K22.run (by kernel_rfl) (by kernel_rfl) (by kernel_rfl) (by rfl) (by first | assumption | decide +kernel) (by decide +kernel) ⟨rfl, rfl, rfl, rfl, rfl, by decide +kernel⟩ ?hw ?hc
  case hw => w_witness2
  case hc =>
    refine MI.walk_G (l := PySem.Challenge.rw_endforend_k22_what_stretches_and_knots_r) (n := 63) (k := 20) (x := "script") (g := K22.f_law) rfl (by decide) (by kernel_rfl) ⟨rfl, by decide, by decide⟩ ?F K22.plain
    intro w mg fa h Y G hmg0
    have hmg : mg ("law" : PySem.Str) = some (.ref fa) := by
      have e : (HandSHeadRun.topDef (OpenLaw.row PySem.Challenge.rw_endforend_k22_what_stretches_and_knots_r).prog 81).name = ("law" : PySem.Str) := by kernel_rfl
      rw [← e]
      exact hmg0
    exact K22.facts w mg fa h Y G hmg
