import PyProof.Rows.All
import Wide.All
import OpenK.AllK
import Wide.FinOn
import HandS.TupAny
import HandS.TupMul
import HandS.Zip
import HandS.Conv
import HandS.ForMost
import HandS.ForExc
import HandS.Walk
import HandS.CallSlots
import HandS.Lambda
import HandS.Nested
import KE.KDictKeyed
import KE.KDictDisplayH
import KE.KDictWalk
import HandS.Star
import HandS.Wide
import HandS.Style
import HandS.Deep
import HandS.IsInst
import HandS.RaiseMore
import HandS.SortInts
import HandS.SetFor
import HandS.Strs
import HandS.Ends
import HandS.HeadEnd
import HandS.Defaults
import HandS.Head2
import HandS.HeadHook2
import HandS.EndTab
import PyProof.Rows.RegStrFacts
import HandS.ExcInit
import KE.KExcSuper
import HandS.ExcIs
import HandS.ExcField
import HandS.HeadHook4
import HandS.SortRule
import HandS.TupSets
import HandS.SortKw
import KE.KMinKey
import HandS.Small
import KE.GoesEnum
import KE.DataMinMax
import HandS.DictComp
import KE.GoesZip
import HandS.WordsDict
import PyProof.Rows.SeqRoads
import KE.DataCmp
import HandS.CallLocal
import HandS.TryOnly
import HandS.TupLe
import PyProof.RowDictHeap
import HandS.Text
import PyProof.NeKinds
import PyProof.SumAny
import PyProof.Rows.SeqMore
import PySem.Challenge.RW_endforend_k44_whole_ends_ties_and_rings
import HandS.Head0
import HandS.Head1
import HandS.HeadHook1
import HandS.Codes
set_option Elab.async false
set_option linter.all false
set_option maxRecDepth 100000
set_option maxHeartbeats 4000000
/-! the rules that make tuples (the library's, turned): the new tuple's very object is known -/
namespace MI
open PySem L2
/-- a tuple's object, without a dict -/
structure TupO (o : Obj) : Prop where
  cls : o.cls = .type "tuple"
  dict : o.dict = none
end MI
namespace L2
open PySem PySem.Spec PyProof.Rows
section
variable {X : Cx} {e : Expr} {es : List Expr} {te : TE} {t : TA} {pos : Pos}
def tTupF (t : TA) : TE := fun σ H Q => t σ H fun xs H1 => xs.length ≤ sizeLine ∧ ∀ (p : Addr) (o : Obj), H1 p = none → MI.TupO o → Q (.ref p) (upd H1 p (.frz o (.tup xs)))
theorem pe_tupF {x1} (h : PA X es t) : PE X (.Tuple es x1 pos) (tTupF t) := by
  refine ⟨fun pins s σ H Q I hq8 => ?_⟩
  refine wpAny_Tuple_spliced (thn (h.run pos pins s σ H _ I hq8) fun us s18 ⟨xs, H1, I18, r, z, q⟩ => ⟨by rw [← r.length]; exact z, ?_⟩)
  have hf8 : H1 s18.heap.objs.size = none := I18.hok.fresh (Nat.le_refl _)
  refine ⟨.ref s18.heap.objs.size, upd H1 s18.heap.objs.size (.frz { cls := .type "tuple", data := .seq us.toArray } (.tup xs)), I18.laid (t' := s18.toks) (fun b u e => Heap.get?_push_of_some _ e) (Nat.le_refl _) ?_, rfl, q _ { cls := .type "tuple", data := .seq us.toArray } hf8 ?_⟩
  exact ⟨Heap.get?_push_size _ rfl, z, us, r, ⟨_, Heap.get?_push_size _ rfl, rfl, _, rfl⟩⟩
  exact ⟨rfl, rfl⟩
def rCatTF (K : PySem.W.Frag) : R2 := fun x y H Q => ∃ a b xs ys, x = .ref a ∧ y = .ref b ∧ SqT K H a xs ∧ SqT K H b ys ∧ xs ≠ [] ∧ xs.length + ys.length ≤ sizeLine ∧
  (ys = [] → Q (.ref a) H) ∧ (ys ≠ [] → ∀ (p : Addr) (o : Obj), H p = none → MI.TupO o → Q (.ref p) (upd H p (.frz o (.tup (xs ++ ys)))))
theorem op_catTF : OpR X (binaryOp .Add) (rCatTF X.K) := by
  intro pins s σ H x y v u Q I rx ry h
  obtain ⟨a, b, xs, ys, rfl, rfl, ha, hb, hx, hz8, q1, q2⟩ := h
  cases rx
  cases ry
  obtain ⟨its8, r18, p18, _⟩ := I.tuple ha
  obtain ⟨its28, r28, p28, _⟩ := I.tuple hb
  refine HT.cat_tup p18 p28 (fun z => hx (r18.nil_iff.mp z)) (fun z => ⟨.ref a, H, I, rfl, q1 (r28.nil_iff.mp z)⟩) (fun z => ?_) (by rw [← r18.length, ← r28.length]; exact hz8)
  refine ⟨.ref s.heap.objs.size, _, I.laid (t' := s.toks) (o := .frz { cls := .type "tuple", data := .seq (its8 ++ its28).toArray } (.tup (xs ++ ys))) (fun b ob q => Heap.get?_push_of_some _ q) (Nat.le_refl _) ?_, rfl, q2 (fun w => z (r28.nil_iff.mpr w)) _ { cls := .type "tuple", data := .seq (its8 ++ its28).toArray } (I.hok.fresh (Nat.le_refl _)) ?_⟩
  exact ⟨Heap.get?_push_size _ rfl, by rw [List.length_append]; exact hz8, _, r18.append r28, IsTup.new _ _⟩
  exact ⟨rfl, rfl⟩
def rCatAF (K : PySem.W.Frag) : R2 := fun x y H Q => ∃ a b xs ys, x = .ref a ∧ y = .ref b ∧ SqT K H a xs ∧ SqT K H b ys ∧ xs.length + ys.length ≤ sizeLine ∧
  (xs = [] → Q (.ref b) H) ∧ (xs ≠ [] → ys = [] → Q (.ref a) H) ∧ (xs ≠ [] → ys ≠ [] → ∀ (p : Addr) (o : Obj), H p = none → MI.TupO o → Q (.ref p) (upd H p (.frz o (.tup (xs ++ ys)))))
theorem op_catAF : OpR X (binaryOp .Add) (rCatAF X.K) := by
  intro pins s σ H x y v u Q I rx ry h
  obtain ⟨a, b, xs, ys, rfl, rfl, ha, hb, hz8, q08, q18, q28⟩ := h
  by_cases hx : xs = []
  · subst hx
    cases rx
    cases ry
    obtain ⟨its8, r18, p18, _⟩ := I.tuple ha
    obtain ⟨its28, r28, p28, _⟩ := I.tuple hb
    cases r18
    exact cat_tup0 p18 p28 ⟨.ref b, H, I, rfl, q08 rfl⟩
  · exact op_catTF pins s σ H _ _ v u Q I rx ry ⟨a, b, xs, ys, rfl, rfl, ha, hb, hx, hz8, q18 hx, q28 hx⟩
def rSlTF (K : PySem.W.Frag) : V → Option Int → Option Int → Hp → VK → Prop := fun x lo hi H Q => ∃ a xs, x = .ref a ∧ SqT K H a xs ∧
  ¬ (HT.sIx xs.length 0 lo = 0 ∧ HT.sIx xs.length xs.length hi = xs.length) ∧ ∀ (p : Addr) (o : Obj), H p = none → MI.TupO o → Q (.ref p) (upd H p (.frz o (.tup (cutV xs lo hi))))
theorem sl_tupF : SlR X (rSlTF X.K) := by
  intro pins s σ H x v vl vu lo hi sl Q I rx hs pl pu h
  obtain ⟨a, xs, rfl, hx8, hw8, q⟩ := h
  cases rx
  obtain ⟨its8, r, ht8, hz8⟩ := I.tuple hx8
  have hlen8 : its8.toArray.size = xs.length := by rw [List.size_toArray]; exact r.length.symm
  refine ⟨"tuple", _, PyProof.Rows.slot_tuple_getitem.lookup, ht8.typeIs, ?_⟩
  refine HT.getItem_tuple_cut ht8 hs pl pu (by rw [hlen8]; exact hw8) ?_ (by rw [hlen8]; exact hz8)
  rw [hlen8]
  refine ⟨.ref s.heap.objs.size, _, I.laid (t' := s.toks) (o := .frz { cls := .type "tuple", data := .seq ((its8.toArray.toList.drop (HT.sIx xs.length 0 lo)).take (HT.sIx xs.length xs.length hi - HT.sIx xs.length 0 lo)).toArray } (.tup (cutV xs lo hi))) (fun b ob q => Heap.get?_push_of_some _ q) (Nat.le_refl _) ?_, rfl, q _ { cls := .type "tuple", data := .seq ((its8.toArray.toList.drop (HT.sIx xs.length 0 lo)).take (HT.sIx xs.length xs.length hi - HT.sIx xs.length 0 lo)).toArray } (I.hok.fresh (Nat.le_refl _)) ?_⟩
  exact ⟨Heap.get?_push_size _ rfl, Nat.le_trans (cutV_length xs lo hi) hz8, _, (r.drop (HT.sIx xs.length 0 lo)).take (HT.sIx xs.length xs.length hi - HT.sIx xs.length 0 lo), IsTup.new _ _⟩
  exact ⟨rfl, rfl⟩
def rSlAF (K : PySem.W.Frag) : V → Option Int → Option Int → Hp → VK → Prop := fun x lo hi H Q => ∃ a xs, x = .ref a ∧ SqT K H a xs ∧
  (HT.sIx xs.length 0 lo = 0 ∧ HT.sIx xs.length xs.length hi = xs.length → Q (.ref a) H) ∧ (¬ (HT.sIx xs.length 0 lo = 0 ∧ HT.sIx xs.length xs.length hi = xs.length) → ∀ (p : Addr) (o : Obj), H p = none → MI.TupO o → Q (.ref p) (upd H p (.frz o (.tup (cutV xs lo hi)))))
theorem sl_tupAF : SlR X (rSlAF X.K) := by
  intro pins s σ H x v vl vu lo hi sl Q I rx hs pl pu h
  obtain ⟨a, xs, rfl, hx8, q18, q28⟩ := h
  by_cases hw8 : HT.sIx xs.length 0 lo = 0 ∧ HT.sIx xs.length xs.length hi = xs.length
  · cases rx
    obtain ⟨its8, r, ht8, hz8⟩ := I.tuple hx8
    have hlen8 : its8.toArray.size = xs.length := by rw [List.size_toArray]; exact r.length.symm
    refine ⟨"tuple", _, PyProof.Rows.slot_tuple_getitem.lookup, ht8.typeIs, ?_⟩
    exact getItem_tuple_whole ht8 hs pl pu (by rw [hlen8]; exact hw8) ⟨.ref a, H, I, rfl, q18 hw8⟩
  · exact sl_tupF pins s σ H _ v vl vu lo hi sl Q I rx hs pl pu ⟨a, xs, rfl, hx8, hw8, q28 hw8⟩
theorem call_tuple_ofF : CallR X (.type "tuple") (fun xs H Q => ∃ p ys, xs = [.ref p] ∧ ((SqL X.K H p ys ∧ ∀ (l : Addr) (o : Obj), H l = none → MI.TupO o → Q (.ref l) (upd H l (.frz o (.tup ys)))) ∨ (SqT X.K H p ys ∧ Q (.ref p) H))) := by
  intro pins s σ H xs us Q I r h
  obtain ⟨p, ys, rfl, h⟩ := h
  obtain ⟨u, rfl, rx⟩ := vals1 r
  cases rx
  rcases h with ⟨hq, q⟩ | ⟨hq, q⟩
  · obtain ⟨its8, r', pl, hz⟩ := I.list hq
    have hlen8 := r'.length
    refine call_tuple_list pl.isList (fun h' kp8 => ?_) (by simp only [List.size_toArray] <;> omega)
    have I18 : Inv X pins σ H { s with heap := h' } := I.kept (t' := s.toks) kp8
    have I28 : Inv X pins σ (upd H h'.objs.size (.frz { cls := .type "tuple", data := .seq its8.toArray } (.tup ys))) { s with heap := h'.push { cls := .type "tuple", data := .seq its8.toArray } } :=
      I18.laid (t' := s.toks) (fun b o e => Heap.get?_push_of_some _ e) (Nat.le_refl _) (show ObjOk X.prog X.w _ _ _ (.frz { cls := .type "tuple", data := .seq its8.toArray } (.tup ys)) from ⟨Heap.get?_push_size _ rfl, hz, its8, r', IsTup.new _ _⟩)
    exact ⟨.ref h'.objs.size, _, I28, rfl, q _ _ (I18.hok.fresh (Nat.le_refl _)) ⟨rfl, rfl⟩⟩
  · obtain ⟨its8, r', pl, hz⟩ := I.tuple hq
    exact call_tuple_same pl ⟨.ref p, H, I, rfl, q⟩
section
variable {te : St → Hp → (Int → Int → Hp → Prop) → Prop}
def tTupRgF (te : St → Hp → (Int → Int → Hp → Prop) → Prop) : TE := fun σ H Q => te σ H fun a b H1 => RgOk a b ∧ ∀ (q : Addr) (o : Obj), H1 q = none → MI.TupO o → Q (.ref q) (upd H1 q (.frz o (.tup (rgV a b))))
theorem pe_tupRgF {p pos : Pos} (hc : X.calm = true) (hg : Gl X "tuple") (hm : X.mg "tuple" = none) (he : PRg X e te) (na : starEach [e] X.env = (false, eval e X.env) :: starEach [] X.env := by rfl) : PE X (.Call (.Name "tuple" p) [e] [] pos) (tTupRgF te) := by
  refine ⟨fun pins s σ H Q I h => ?_⟩
  refine Call_ (ld_blt I hg hm boot_tuple (PyProof.Rows.callWith_type1 (args_cons (thn (he pins s σ H _ I h) fun x s1 ⟨r, a, b, t, u, v, H1, ex, hr, I1, ok, q⟩ => args_nil ?_) na) na))
  subst ex
  obtain ⟨b1, b2, b3, b4, b5⟩ := ok
  refine call_tuple_range (n := (b - a).toNat) (I1.ok.hd hc) hr (small_one b1 b2 b3 b4) (rangeSize_nat a b) b5 fun h' tk acc hk hi => ?_
  have I2 : Inv X pins σ H1 { s1 with heap := h', toks := tk } := I1.kept hk
  refine ⟨.ref h'.objs.size, upd H1 h'.objs.size (.frz _ (.tup (rgV a b))), I2.laid (t' := tk) (fun c o e => Heap.get?_push_of_some _ e) (Nat.le_refl _) (show ObjOk X.prog X.w _ _ _ (.frz { cls := .type "tuple", data := .seq acc } (.tup (rgV a b))) from ⟨Heap.get?_push_size _ rfl, ?_, acc.toList, vals_rg hi, ?_⟩), rfl, q _ _ (I2.hok.fresh (Nat.le_refl _)) ⟨rfl, rfl⟩⟩
  · rw [rgV_length, sizeLine_eq]; omega
  · rw [Array.toArray_toList]; exact IsTup.new _ _
end
def rRepTF (K : PySem.W.Frag) : R2 := fun x y H Q => ∃ l k xs, x = .ref l ∧ y = .int k ∧ SqT K H l xs ∧ xs ≠ [] ∧ 2 ≤ k ∧ k ≤ 1000 ∧ xs.length ≤ 1000 ∧ ∀ (p : Addr) (o : Obj), H p = none → MI.TupO o → Q (.ref p) (upd H p (.frz o (.tup (List.replicate k.toNat xs).flatten)))
theorem op_repTF : OpR X (binaryOp .Mult) (rRepTF X.K) := by
  intro pins s σ H x y v u Q I rx ry h
  obtain ⟨l, k, xs, rfl, rfl, hT, hne8, h1, h2, hz, q⟩ := h
  cases rx
  obtain ⟨t, rfl⟩ := ry
  obtain ⟨its8, r, ⟨⟨cls, dd, data, sl⟩, ho, hc, n, hd⟩, hs⟩ := I.tuple hT
  simp only at hc hd
  subst hc hd
  have hle8 : its8.length = xs.length := r.length.symm
  have hn8 : its8 ≠ [] := fun e => hne8 (by
    rw [e] at hle8
    exact List.eq_nil_of_length_eq_zero hle8.symm)
  have hi8 : its8.toArray.isEmpty = false := by
    cases its8 with
    | nil => exact absurd rfl hn8
    | cons a b => rfl
  have hsz08 : its8.toArray.size = xs.length := by rw [List.size_toArray, hle8]
  have hm8 : ((its8.toArray.size : Nat) : Int) * k ≤ 1000000 := by
    rw [hsz08]
    have a1 : ((xs.length : Nat) : Int) * k ≤ 1000 * k := Int.mul_le_mul_of_nonneg_right (by omega) (by omega)
    omega
  have flen8 : (List.replicate k.toNat its8).flatten.length ≤ sizeLine := by
    rw [PyProof.Rows.lm_len_rep_flat, hle8, sizeLine_eq]
    have a1 : k.toNat * xs.length ≤ 1000 * 1000 := Nat.mul_le_mul (by omega) hz
    omega
  have c08 : (decide (k < -(2 ^ 63)) || decide (k ≥ 2 ^ 63)) = false := by
    rw [decide_eq_false (by omega), decide_eq_false (by omega)] <;> rfl
  have c18 : (its8.toArray.isEmpty || k == 1) = false := by
    rw [hi8, Bool.false_or]
    exact beq_eq_false_iff_ne.mpr (by omega)
  have c28 : (decide (k ≤ 0) || its8.toArray.isEmpty) = false := by
    rw [hi8, Bool.or_false]
    exact decide_eq_false (by omega)
  have c48 : Builtin.Tuple.tupleTooMany (((its8.toArray.size : Nat) : Int) * k) = false := by
    unfold Builtin.Tuple.tupleTooMany
    rw [sizeLine_eq]
    exact decide_eq_false (by omega)
  refine wpAny_binaryOp_repeat_ref (T := "tuple") (U := "int") (by decide) ⟨_, ho, rfl⟩ (fun s' => typeIs_int s' k t) noFill_tuple_mul F.fills_int_mul F.slot_int_rmul repeat_tuple F.slot_int_index.lookup
    (call_meets F.slot_int_rmul (typeIs_int s k t) F.entry_int_rmul (F.args_int_rmul_2 _ _) (int_rmul_tuple k t l its8.toArray n dd sl)
      ⟨ho, rfl, ⟨_, ho, rfl⟩, call_meets F.slot_tuple_mul ⟨_, ho, rfl⟩ F.entry_tuple_mul (F.args_tuple_mul_2 _ _) (tuple_mulW l its8.toArray n dd sl k t c08 c18 c28 (by omega) c48 (by rw [size_rep, List.size_toArray]; exact flen8)) ⟨ho, ?_⟩⟩)
  rw [size_rep]
  refine ⟨.ref s.heap.objs.size, _, I.laid (t' := s.toks) (o := .frz { cls := .type "tuple", data := .seq (List.replicate k.toNat its8).flatten.toArray } (.tup (List.replicate k.toNat xs).flatten)) (fun b ob q => Heap.get?_push_of_some _ q) (Nat.le_refl _) ?_, rfl, q _ { cls := .type "tuple", data := .seq (List.replicate k.toNat its8).flatten.toArray } (I.hok.fresh (Nat.le_refl _)) ?_⟩
  exact ⟨Heap.get?_push_size _ rfl, by rw [PyProof.Rows.lm_len_rep_flat, sizeLine_eq]; have a1 : k.toNat * xs.length ≤ 1000 * 1000 := Nat.mul_le_mul (by omega) hz; omega, _, r.rep k.toNat, IsTup.new _ _⟩
  exact ⟨rfl, rfl⟩
end
end L2
set_option maxRecDepth 100000
set_option maxHeartbeats 4000000
namespace MI
open PySem L2 LamX
/-! ## values, stores, outcomes -/
inductive IV where
  | d (x : PyData)
  | ref (n : Nat)
  | gl (x : Str)
  | tup (xs : List IV)
  | lam (k : Nat)
  | clo (k : Nat) (vs : List PyData)
  | exc (c : Str) (v : PyData)
  | scr (ns : List Int)
inductive IO where
  | lst (xs : List PyData)
  | lsx (xs : List IV)
  | dct (kvs : List (PyData × PyData))
  | dcn (kvs : List (PyData × PyData))
  | dead
abbrev Sto := List IO
abbrev Rho := List (Option IV)
inductive Out (α : Type) where
  | ok (a : α) (S : Sto)
  | exn (c : Str) (v : PyData) (S : Sto)
  | bad
def Out.bind {α β : Type} (o : Out α) (f : α → Sto → Out β) : Out β := match o with
  | .ok a S => f a S
  | .exn c v S => .exn c v S
  | .bad => .bad
abbrev FE := Rho → Sto → Out IV
abbrev FT := Rho → Sto → Out Bool
abbrev FA := Rho → Sto → Out (List IV)
/-! ## the relation -/
/-- a lambda of the text: where it stands among its def's names -/
structure LI where
  params : Arguments
  body : Expr
  scope : Scope
  qual : Str
  fr : List Str
structure Ct where
  K : PySem.W.Frag
  mg : Str → Option Value
  T : List (Addr × Str) := []
  lam : Nat → Option LI := fun _ => none
  own : List (Str × Addr) := []
/-- what is no table of code objects -/
abbrev NT (o : HO) : Prop := ∀ ps, o ≠ .tbl ps
theorem ntL {xs : List V} : NT (.lst xs) := fun _ z => by cases z
theorem ntD {xs : List (Key × V)} : NT (.dK xs) := fun _ z => by cases z
theorem ntX {xs : List (Str × V)} : NT (.xd xs) := fun _ z => by cases z
theorem ntF {o : Obj} {u : HO} : NT (.frz o u) := fun _ z => by cases z
/-- one object, as it stands -/
def KpO (a : Addr) (o : Obj) : HO := .ext fun h => h.get? a = some o
/-- the lambda's object -/
def LamO (f : Addr) (L : LI) (cl : List (Str × Addr)) (cc : Addr) : HO := .ext fun h => ∃ pm ctv : Value, h.get? f = some (PySem.W.kla_obj "<lambda>" L.qual L.params L.body L.scope cl pm cc ctv)
/-- an exception of the class at C, caught -/
def ExcO (a C dx : Addr) : HO := .ext fun h => ∃ (oe : Obj) (vs : Array Value), h.get? a = some oe ∧ Zc (.ref C) (some dx) oe ∧ oe.data = .fields vs
theorem ntK {a : Addr} {o : Obj} : NT (KpO a o) := fun _ z => by unfold KpO at z; cases z
theorem ntM {f cc : Addr} {L : LI} {cl : List (Str × Addr)} : NT (LamO f L cl cc) := fun _ z => by unfold LamO at z; cases z
theorem ntE {a C dx : Addr} : NT (ExcO a C dx) := fun _ z => by unfold ExcO at z; cases z
theorem ntC {c : Addr} {q : Str} : NT (CodeO c q) := fun _ z => codeO_ne _ z
/-- the captured cells, held -/
structure CellsT (H : Hp) (bd : List Addr) (cl : List (Str × Addr)) (fr : List Str) (ws : List V) : Prop where
  len : ws.length = fr.length
  inj : ∀ x y a, cl.lookup x = some a → cl.lookup y = some a → x = y
  all : ∀ y a, cl.lookup y = some a → y ∈ fr
  at_ : ∀ (i : Nat) (y : Str), fr[i]? = some y → ∃ (a : Addr) (o : Obj) (w : V) (u : Value), cl.lookup y = some a ∧ H a = some (KpO a o) ∧ a ∉ bd ∧ o.data = .cell (some u) ∧ ws[i]? = some w ∧ RelV w u
def KTup (K : PySem.W.Frag) (a : Addr) (xs : List V) : Prop :=
  ∃ (o : Obj) (its : Array Value) (n : Nat), K.lookup a = some o ∧ o.cls = .type "tuple" ∧ o.data = .seq its n ∧ its.size ≤ sizeLine ∧ Vals xs its.toList
/-- it has no dict -/
def KNd (K : PySem.W.Frag) (a : Addr) : Prop := ∀ o, K.lookup a = some o → o.dict = none
def KLst (K : PySem.W.Frag) (a : Addr) (xs : List V) : Prop :=
  ∃ (o : Obj) (its : Array Value) (n : Nat), K.lookup a = some o ∧ o.cls = .type "list" ∧ o.dict = none ∧ o.data = .seq its n ∧ its.size ≤ sizeLine ∧ Vals xs its.toList
@[simp] def kD : Key → PyData
  | .inl i => .int i
  | .inr x => .str x
theorem sqF {K : PySem.W.Frag} {H : Hp} {a : Addr} {o : Obj} {xs : List V} (h : H a = some (.frz o (.tup xs))) : SqT K H a xs := .inl (.inr ⟨o, h⟩)
mutual
inductive RD (K : PySem.W.Frag) (H : Hp) (bd : List Addr) : PyData → V → Prop
  | non : RD K H bd .none .non
  | bl (b : Bool) : RD K H bd (.bool b) (.bl b)
  | int (i : Int) : RD K H bd (.int i) (.int i)
  | str (x : Str) : RD K H bd (.str x) (.str x)
  | lst {a : Addr} {xs : List V} {ds : List PyData} (h : H a = some (.lst xs)) (hb : a ∉ bd) (r : RDs K H bd ds xs) : RD K H bd (.list ds) (.ref a)
  | tup {a : Addr} {xs : List V} {ds : List PyData} {o : Obj} (h : H a = some (.frz o (.tup xs))) (to : TupO o) (hb : a ∉ bd) (r : RDs K H bd ds xs) : RD K H bd (.tuple ds) (.ref a)
  | tupK {a : Addr} {xs : List V} {ds : List PyData} (h : KTup K a xs) (nd : KNd K a) (r : RDs K H bd ds xs) : RD K H bd (.tuple ds) (.ref a)
  | dct {a : Addr} {ks : List (Key × V)} {ds : List (PyData × PyData)} (h : H a = some (.dK ks)) (hb : a ∉ bd) (hk : ds.map (·.1) = ks.map fun p => kD p.1) (r : RDs K H bd (ds.map (·.2)) (ks.map (·.2))) : RD K H bd (.dict ds) (.ref a)
inductive RDs (K : PySem.W.Frag) (H : Hp) (bd : List Addr) : List PyData → List V → Prop
  | nil : RDs K H bd [] []
  | cons {d : PyData} {ds : List PyData} {v : V} {vs : List V} (h : RD K H bd d v) (t : RDs K H bd ds vs) : RDs K H bd (d :: ds) (v :: vs)
end
mutual
inductive RI (c : Ct) (H : Hp) (B Z : List Addr) : IV → V → Prop
  | d {x : PyData} {v : V} (h : RD c.K H (B ++ Z) x v) : RI c H B Z (.d x) v
  | ref {n : Nat} {b : Addr} (h : B[n]? = some b) : RI c H B Z (.ref n) (.ref b)
  | gl {x : Str} {a : Addr} (h : c.mg x = some (.ref a)) : RI c H B Z (.gl x) (.ref a)
  | tup {a : Addr} {xs : List V} {vs : List IV} {o : Obj} (h : H a = some (.frz o (.tup xs))) (to : TupO o) (hb : a ∉ B ++ Z) (r : RIs c H B Z vs xs) : RI c H B Z (.tup vs) (.ref a)
  | scr {a : Addr} {ns : List Int} (h : Rd H a (.lst (ns.map V.int))) (hb : a ∉ B ++ Z) : RI c H B Z (.scr ns) (.ref a)
  | scrK {a : Addr} {ns : List Int} (h : KLst c.K a (ns.map V.int)) : RI c H B Z (.scr ns) (.ref a)
  | lam {k : Nat} {f cc : Addr} {L : LI} (hk : c.lam k = some L) (h : H f = some (LamO f L (cloFrom c.own L.scope.names []) cc)) (hb : f ∉ B ++ Z) (hc : H cc = some (CodeO cc L.qual)) (hcb : cc ∉ B ++ Z) : RI c H B Z (.lam k) (.ref f)
  | clo {k : Nat} {f cc : Addr} {L : LI} {cl : List (Str × Addr)} {vs : List PyData} {ws : List V} (hk : c.lam k = some L) (h : H f = some (LamO f L cl cc)) (hb : f ∉ B ++ Z) (hc : H cc = some (CodeO cc L.qual)) (hcb : cc ∉ B ++ Z)
      (cs : CellsT H (B ++ Z) cl L.fr ws) (r : RDs c.K H (B ++ Z) vs ws) : RI c H B Z (.clo k vs) (.ref f)
  | exc {n : Str} {v : PyData} {a C dx : Addr} {y : V} (hC : c.mg n = some (.ref C)) (h : H a = some (ExcO a C dx)) (hb : a ∉ B ++ Z) (hd : H dx = some (.xd [("value", y)])) (hdb : dx ∉ B ++ Z) (r : RD c.K H (B ++ Z) v y) : RI c H B Z (.exc n v) (.ref a)
inductive RIs (c : Ct) (H : Hp) (B Z : List Addr) : List IV → List V → Prop
  | nil : RIs c H B Z [] []
  | cons {i : IV} {is : List IV} {v : V} {vs : List V} (h : RI c H B Z i v) (t : RIs c H B Z is vs) : RIs c H B Z (i :: is) (v :: vs)
end
/-! ### dicts whose keys are tuples of ints and such tuples -/
mutual
/-- the key that data are -/
def nk : PyData → Option NestedKey
  | .int i => some (.num i)
  | .tuple ds => (nks ds).map .tup
  | _ => none
def nks : List PyData → Option (List NestedKey)
  | [] => some []
  | d :: t => match nk d, nks t with
    | some k, some l => some (k :: l)
    | _, _ => none
end
/-- a key by itself: a tuple, not too deep -/
def nkT (d : PyData) : Option NestedKey := match d with
  | .tuple ds => (match nk (.tuple ds) with
    | some k => if k.depth ≤ 8 then some k else none
    | none => none)
  | _ => none
inductive KR (K : PySem.W.Frag) (H : Hp) (bd : List Addr) : List (PyData × PyData) → List (NestedKey × Addr × Value) → Prop
  | nil : KR K H bd [] []
  | cons {kd vd : PyData} {k : NestedKey} {a : Addr} {v : Value} {x : V} {ds : List (PyData × PyData)} {xs : List (NestedKey × Addr × Value)} (hk : nkT kd = some k) (rk : RD K H bd kd (.ref a)) (rv : RelV x v) (rd : RD K H bd vd x) (t : KR K H bd ds xs) : KR K H bd ((kd, vd) :: ds) ((k, a, v) :: xs)
/-- its entries, as they stand -/
def DcE (ob : Obj) (xs : List (NestedKey × Addr × Value)) : Prop := ∃ (es : Array DictEntry) (ep : Nat), ob.data = .dict es ep ∧ ob.ExactDict ∧ (∀ (P : Program) (w : World), es.toList = xs.map (entryOfKey (nestedKind P w))) ∧ (xs.map (·.1)).Nodup ∧ ep = xs.length
def RO (c : Ct) (H : Hp) (B Z : List Addr) (b : Addr) : IO → Prop
  | .lst ds => ∃ xs, H b = some (.lst xs) ∧ RDs c.K H (B ++ Z) ds xs
  | .lsx vs => ∃ xs, H b = some (.lst xs) ∧ RIs c H B Z vs xs
  | .dct kvs => ∃ ks : List (Key × V), H b = some (.dK ks) ∧ (kvs.map (·.1) = ks.map fun p => kD p.1) ∧ RDs c.K H (B ++ Z) (kvs.map (·.2)) (ks.map (·.2))
  | .dcn kvs => ∃ (ob : Obj) (xs : List (NestedKey × Addr × Value)), H b = some (KpO b ob) ∧ b ≠ sysModules ∧ DcE ob xs ∧ KR c.K H (B ++ Z) kvs xs
  | .dead => ∃ xs, H b = some (.lst xs)
/-- a list, a dict -/
abbrev Kd (H : Hp) (z : Addr) : Prop := (∃ xs, H z = some (.lst xs)) ∨ (∃ ks, H z = some (.dK ks)) ∨ ∃ (ob : Obj) (xs : List (NestedKey × Addr × Value)), H z = some (KpO z ob) ∧ DcE ob xs
theorem kdNe {H : Hp} {z : Addr} (h : Kd H z) : H z ≠ none := by
  rcases h with ⟨xs, h⟩ | ⟨xs, h⟩ | ⟨ob, xs, h, _⟩ <;> (rw [h]; simp)
theorem kdKeep {H H' : Hp} {z : Addr} (h : Kd H z) (k : ∀ o, H z = some o → NT o → H' z = some o) : Kd H' z := by
  rcases h with ⟨xs, h⟩ | ⟨xs, h⟩ | ⟨ob, xs, h, hd⟩
  · exact .inl ⟨_, k _ h ntL⟩
  · exact .inr (.inl ⟨_, k _ h ntD⟩)
  · exact .inr (.inr ⟨ob, xs, k _ h ntK, hd⟩)
theorem heap_at (a : Addr) (o : Obj) (h : o.data ≠ .freed) : ∃ h : Heap, h.get? a = some o := by
  refine ⟨⟨Array.replicate (a + 1) o, {}⟩, ?_⟩
  obtain ⟨oc, od, dt, os⟩ := o
  unfold Heap.get?
  have e : (Array.replicate (a + 1) (⟨oc, od, dt, os⟩ : Obj))[a]? = some ⟨oc, od, dt, os⟩ := by simp
  simp only [e]
  cases dt <;> first | rfl | exact absurd rfl h
theorem DcE.nf {ob : Obj} {xs : List (NestedKey × Addr × Value)} (h : DcE ob xs) : ob.data ≠ .freed := by
  obtain ⟨es, ep, e, _⟩ := h
  rw [e]; exact fun z => by cases z
theorem DcE.noCode {ob : Obj} {xs : List (NestedKey × Addr × Value)} {a : Addr} {q : Str} (h : DcE ob xs) : KpO a ob ≠ CodeO a q := fun z => by
  obtain ⟨hp, e⟩ := heap_at a ob h.nf
  unfold KpO CodeO at z
  injection z with z
  have := congrFun z hp
  obtain ⟨oc, vs, t, e2, e3, _⟩ : ∃ (oc : Obj) (vs : Array Value) (t : Tok), hp.get? a = some oc ∧ oc.data = .fields vs ∧ vs[1]? = some (.str q t) := this ▸ e
  rw [e] at e2
  cases e2
  obtain ⟨es, ep, e4, _⟩ := h
  rw [e4] at e3
  cases e3
theorem Kd.noCode {H : Hp} {z : Addr} {q : Str} (h : Kd H z) : H z ≠ some (CodeO z q) := fun e => by
  rcases h with ⟨xs, h⟩ | ⟨xs, h⟩ | ⟨ob, xs, h, hd⟩
  · rw [e] at h; unfold CodeO at h; cases h
  · rw [e] at h; unfold CodeO at h; cases h
  · rw [e] at h; exact hd.noCode (Option.some.inj h).symm
theorem Kd.noTbl {H : Hp} {z : Addr} {ps : Array Value} (h : Kd H z) : H z ≠ some (.tbl ps) := fun e => by
  rcases h with ⟨xs, h⟩ | ⟨xs, h⟩ | ⟨ob, xs, h, hd⟩ <;> (rw [e] at h; cases h)
/-- the store S stands at the addresses B; Z: what others may change -/
structure SR (c : Ct) (H : Hp) (B Z : List Addr) (S : Sto) : Prop where
  len : B.length = S.length
  nd : B.Nodup
  zt : ∀ z, z ∈ Z → Kd H z
  zb : ∀ z, z ∈ Z → z ∉ B
  ob : ∀ (n : Nat) (b : Addr) (o : IO), B[n]? = some b → S[n]? = some o → RO c H B Z b o
  tb : Tabs c.T H
/-- how heaps go on -/
structure Ev (B : List Addr) (H : Hp) (B' : List Addr) (H' : Hp) : Prop where
  pre : ∃ N, B' = B ++ N ∧ ∀ b, b ∈ N → H b = none
  keep : ∀ a o, H a = some o → a ∉ B → NT o → H' a = some o
  trk : ∀ b, b ∈ B' → H' b ≠ none
  there : ∀ a, H a ≠ none → H' a ≠ none
theorem RO.there {c : Ct} {H : Hp} {B Z : List Addr} {b : Addr} {o : IO} (h : RO c H B Z b o) : H b ≠ none := by
  cases o with
  | lst ds => obtain ⟨xs, e, _⟩ := h; rw [e]; simp
  | lsx ds => obtain ⟨xs, e, _⟩ := h; rw [e]; simp
  | dct _ => obtain ⟨xs, e, _⟩ := h; rw [e]; simp
  | dcn _ => obtain ⟨ob, xs, e, _⟩ := h; rw [e]; simp
  | dead => obtain ⟨xs, e⟩ := h; rw [e]; simp
theorem RO.kind {c : Ct} {H : Hp} {B Z : List Addr} {b : Addr} {o : IO} (h : RO c H B Z b o) : Kd H b := by
  cases o with
  | lst ds => obtain ⟨xs, e, _⟩ := h; exact .inl ⟨_, e⟩
  | lsx ds => obtain ⟨xs, e, _⟩ := h; exact .inl ⟨_, e⟩
  | dct _ => obtain ⟨xs, e, _⟩ := h; exact .inr (.inl ⟨_, e⟩)
  | dcn _ => obtain ⟨ob, xs, e, _, d, _⟩ := h; exact .inr (.inr ⟨_, _, e, d⟩)
  | dead => obtain ⟨xs, e⟩ := h; exact .inl ⟨_, e⟩
theorem tabS_upd {H : Hp} {P b : Addr} {q : Str} {o : HO} (t : TabS H P q) (h1 : ∀ ps, H b ≠ some (.tbl ps)) (h2 : ∀ q, H b ≠ some (CodeO b q)) : TabS (upd H b o) P q := by
  obtain ⟨ps, a1, a2, a3⟩ := t
  refine ⟨ps, by rw [upd_ne fun e => h1 ps (by rw [← e]; exact a1)]; exact a1, a2, fun pos cv hc => ?_⟩
  obtain ⟨c, e1, e2⟩ := a3 pos cv hc
  refine ⟨c, e1, ?_⟩
  by_cases e : c = b
  · subst e; exact absurd e2 (h2 _)
  · rw [upd_ne e]; exact e2
theorem SR.kind {c : Ct} {H : Hp} {B Z : List Addr} {S : Sto} (s : SR c H B Z S) {b : Addr} (hb : b ∈ B) : Kd H b := by
  obtain ⟨n, hn⟩ := List.getElem?_of_mem hb
  have hl : n < S.length := by rw [← s.len]; exact (List.getElem?_eq_some_iff.mp hn).1
  exact (s.ob n b _ hn (List.getElem?_eq_getElem hl)).kind
theorem kind_tab {H : Hp} {P b : Addr} {q : Str} {o : HO} (h : Kd H b) (t : TabS H P q) : TabS (L2.upd H b o) P q := tabS_upd t (fun _ => h.noTbl) fun _ => h.noCode
theorem SR.trk {c : Ct} {H : Hp} {B Z : List Addr} {S : Sto} (s : SR c H B Z S) : ∀ b, b ∈ B → H b ≠ none := fun b hb => by
  obtain ⟨n, hn⟩ := List.getElem?_of_mem hb
  have hl : n < S.length := by rw [← s.len]; exact (List.getElem?_eq_some_iff.mp hn).1
  exact (s.ob n b _ hn (List.getElem?_eq_getElem hl)).there
theorem Ev.refl {c : Ct} {H : Hp} {B Z : List Addr} {S : Sto} (s : SR c H B Z S) : Ev B H B H := ⟨⟨[], by simp, fun _ h => by cases h⟩, fun _ _ h _ _ => h, s.trk, fun _ h => h⟩
theorem Ev.trans {H H1 H2 : Hp} {B B1 B2 : List Addr} (e : Ev B H B1 H1) (f : Ev B1 H1 B2 H2) : Ev B H B2 H2 := by
  obtain ⟨N, rfl, n1⟩ := e.pre
  obtain ⟨N2, rfl, n2⟩ := f.pre
  have key : ∀ b, H1 b = none → H b = none := fun b hb => by
    cases q : H b with
    | none => rfl
    | some o => exact absurd hb (e.there b (by rw [q]; simp))
  refine ⟨⟨N ++ N2, by rw [List.append_assoc], fun b hb => ?_⟩, fun a o h hB nt => ?_, f.trk, fun a h => f.there a (e.there a h)⟩
  · rcases List.mem_append.mp hb with h | h
    · exact n1 b h
    · exact key b (n2 b h)
  · refine f.keep a o (e.keep a o h hB nt) (fun hm => ?_) nt
    rcases List.mem_append.mp hm with z | z
    · exact hB z
    · rw [n1 a z] at h; cases h
theorem rd_mono {H H' : Hp} {a : Addr} {u : HO} (r : Rd H a u) (nu : NT u) (k : ∀ o, H a = some o → NT o → H' a = some o) : Rd H' a u := by
  rcases r with r | ⟨o, r⟩
  · exact .inl (k _ r nu)
  · exact .inr ⟨o, k _ r ntF⟩
theorem rd_there {H : Hp} {a : Addr} {u : HO} (r : Rd H a u) : H a ≠ none := by
  rcases r with r | ⟨o, r⟩ <;> (rw [r]; simp)
section
variable {K : PySem.W.Frag} {H H' : Hp} {bd bd' : List Addr}
mutual
theorem RD.mono (k : ∀ a o, H a = some o → a ∉ bd → NT o → H' a = some o) (g : ∀ a, a ∈ bd' → a ∈ bd ∨ H a = none) : ∀ {d : PyData} {v : V}, RD K H bd d v → RD K H' bd' d v
  | _, _, .non => .non
  | _, _, .bl b => .bl b
  | _, _, .int i => .int i
  | _, _, .str x => .str x
  | _, _, .lst h hb r => .lst (k _ _ h hb ntL) (fun m => (g _ m).elim hb fun z => by rw [h] at z; cases z) (RDs.mono k g r)
  | _, _, .tup h to hb r => .tup (k _ _ h hb ntF) to (fun m => (g _ m).elim hb fun z => by rw [h] at z; cases z) (RDs.mono k g r)
  | _, _, .tupK h nd r => .tupK h nd (RDs.mono k g r)
  | _, _, .dct h hb hk r => .dct (k _ _ h hb ntD) (fun m => (g _ m).elim hb fun z => by rw [h] at z; cases z) hk (RDs.mono k g r)
theorem RDs.mono (k : ∀ a o, H a = some o → a ∉ bd → NT o → H' a = some o) (g : ∀ a, a ∈ bd' → a ∈ bd ∨ H a = none) : ∀ {d : List PyData} {v : List V}, RDs K H bd d v → RDs K H' bd' d v
  | _, _, .nil => .nil
  | _, _, .cons h t => .cons (RD.mono k g h) (RDs.mono k g t)
end
end
theorem Ev.far {H H' : Hp} {B B' Z : List Addr} (e : Ev B H B' H') : ∀ a, a ∈ B' ++ Z → a ∈ B ++ Z ∨ H a = none := fun a h => by
  obtain ⟨N, rfl, n⟩ := e.pre
  rcases List.mem_append.mp h with h | h
  · rcases List.mem_append.mp h with h | h
    · exact .inl (List.mem_append_left _ h)
    · exact .inr (n a h)
  · exact .inl (List.mem_append_right _ h)
theorem Ev.kp {H H' : Hp} {B B' Z : List Addr} (e : Ev B H B' H') : ∀ a o, H a = some o → a ∉ B ++ Z → NT o → H' a = some o := fun a o h hb nt => e.keep a o h (fun m => hb (List.mem_append_left _ m)) nt
theorem CellsT.mono {H H' : Hp} {bd bd' : List Addr} {cl : List (Str × Addr)} {fr : List Str} {ws : List V} (t : CellsT H bd cl fr ws) (k : ∀ a o, H a = some o → a ∉ bd → NT o → H' a = some o) (g : ∀ a, a ∈ bd' → a ∈ bd ∨ H a = none) : CellsT H' bd' cl fr ws :=
  ⟨t.len, t.inj, t.all, fun i y h => by
    obtain ⟨a, o, w, u, h1, h2, h3, h4, h5, h6⟩ := t.at_ i y h
    exact ⟨a, o, w, u, h1, k _ _ h2 h3 ntK, (fun m => (g _ m).elim h3 fun z => by (rw [h2] at z; cases z)), h4, h5, h6⟩⟩
theorem far_out {H : Hp} {bd bd' : List Addr} {a : Addr} {o : HO} (h : H a = some o) (hb : a ∉ bd) (g : ∀ a, a ∈ bd' → a ∈ bd ∨ H a = none) : a ∉ bd' := fun m => (g _ m).elim hb fun z => by rw [h] at z; cases z
theorem KR.mono {K : PySem.W.Frag} {H H' : Hp} {bd bd' : List Addr} (k : ∀ a o, H a = some o → a ∉ bd → NT o → H' a = some o) (g : ∀ a, a ∈ bd' → a ∈ bd ∨ H a = none) : ∀ {ds : List (PyData × PyData)} {xs : List (NestedKey × Addr × Value)}, KR K H bd ds xs → KR K H' bd' ds xs
  | _, _, .nil => .nil
  | _, _, .cons hk rk rv rd t => .cons hk (rk.mono k g) rv (rd.mono k g) (KR.mono k g t)
theorem KR.ev {K : PySem.W.Frag} {H H' : Hp} {B B' Z : List Addr} (e : Ev B H B' H') {ds : List (PyData × PyData)} {xs : List (NestedKey × Addr × Value)} (r : KR K H (B ++ Z) ds xs) : KR K H' (B' ++ Z) ds xs := r.mono e.kp e.far
theorem RD.ev {K : PySem.W.Frag} {H H' : Hp} {B B' Z : List Addr} (e : Ev B H B' H') {d : PyData} {v : V} (r : RD K H (B ++ Z) d v) : RD K H' (B' ++ Z) d v := r.mono e.kp e.far
theorem RDs.ev {K : PySem.W.Frag} {H H' : Hp} {B B' Z : List Addr} (e : Ev B H B' H') {d : List PyData} {v : List V} (r : RDs K H (B ++ Z) d v) : RDs K H' (B' ++ Z) d v := r.mono e.kp e.far
section
variable {c : Ct} {H H' : Hp} {B B' Z : List Addr}
mutual
theorem RI.ev (e : Ev B H B' H') : ∀ {i : IV} {v : V}, RI c H B Z i v → RI c H' B' Z i v
  | _, _, .d h => .d (h.ev e)
  | _, _, .ref h => .ref (by
      obtain ⟨N, rfl, _⟩ := e.pre
      rw [List.getElem?_append_left (List.getElem?_eq_some_iff.mp h).1]; exact h)
  | _, _, .gl h => .gl h
  | _, _, .tup h to hb r => .tup (e.kp _ _ h hb ntF) to (fun m => (e.far _ m).elim hb fun z => by rw [h] at z; cases z) (RIs.ev e r)
  | _, _, .scr h hb => .scr (rd_mono h ntL fun o q => e.kp _ o q hb) (fun m => (e.far _ m).elim hb (rd_there h))
  | _, _, .scrK h => .scrK h
  | _, _, .lam hk h hb hc hcb => .lam hk (e.kp _ _ h hb ntM) (far_out h hb e.far) (e.kp _ _ hc hcb ntC) (far_out hc hcb e.far)
  | _, _, .clo hk h hb hc hcb cs r => .clo hk (e.kp _ _ h hb ntM) (far_out h hb e.far) (e.kp _ _ hc hcb ntC) (far_out hc hcb e.far) (cs.mono e.kp e.far) (r.ev e)
  | _, _, .exc hC h hb hd hdb r => .exc hC (e.kp _ _ h hb ntE) (far_out h hb e.far) (e.kp _ _ hd hdb ntX) (far_out hd hdb e.far) (r.ev e)
theorem RIs.ev (e : Ev B H B' H') : ∀ {i : List IV} {v : List V}, RIs c H B Z i v → RIs c H' B' Z i v
  | _, _, .nil => .nil
  | _, _, .cons h t => .cons (RI.ev e h) (RIs.ev e t)
end
end
theorem RO.evs {c : Ct} {H H' : Hp} {B B' Z : List Addr} {b : Addr} {o : IO} (r : RO c H B Z b o) (e : Ev B H B' H') (kb : H' b = H b) : RO c H' B' Z b o := by
  cases o with
  | lst ds => obtain ⟨xs, h1, h2⟩ := r; exact ⟨xs, by rw [kb]; exact h1, h2.ev e⟩
  | lsx ds => obtain ⟨xs, h1, h2⟩ := r; exact ⟨xs, by rw [kb]; exact h1, h2.ev e⟩
  | dct _ => obtain ⟨xs, h1, h2, h3⟩ := r; exact ⟨xs, by rw [kb]; exact h1, h2, h3.ev e⟩
  | dcn _ => obtain ⟨ob, xs, h1, hs, h2, h3⟩ := r; exact ⟨ob, xs, by rw [kb]; exact h1, hs, h2, h3.ev e⟩
  | dead => obtain ⟨xs, h1⟩ := r; exact ⟨xs, by rw [kb]; exact h1⟩
/-- slots -/
structure RR (c : Ct) (H : Hp) (B Z : List Addr) (r : Rho) (σ : L2.St) : Prop where
  len : r.length = σ.length
  at_ : ∀ (i : Nat) (v : IV), r[i]? = some (some v) → ∃ x, σ[i]? = some (some x) ∧ RI c H B Z v x
theorem RR.ev {c : Ct} {H H' : Hp} {B B' Z : List Addr} {r : Rho} {σ : L2.St} (e : Ev B H B' H') (h : RR c H B Z r σ) : RR c H' B' Z r σ := ⟨h.len, fun i v q => by
  obtain ⟨x, h1, h2⟩ := h.at_ i v q
  exact ⟨x, h1, h2.ev e⟩⟩
theorem RR.set {c : Ct} {H : Hp} {B Z : List Addr} {r : Rho} {σ : L2.St} (h : RR c H B Z r σ) {v : IV} {x : V} (hv : RI c H B Z v x) (i : Nat) : RR c H B Z (r.set i (some v)) (σ.set i (some x)) := by
  refine ⟨by rw [List.length_set, List.length_set]; exact h.len, fun j w q => ?_⟩
  by_cases hj : i = j
  · subst hj
    by_cases hl : i < r.length
    · rw [List.getElem?_set_self hl] at q
      cases q
      exact ⟨x, List.getElem?_set_self (by rw [← h.len]; exact hl), hv⟩
    · rw [List.getElem?_eq_none (by simpa using hl)] at q; cases q
  · rw [List.getElem?_set_ne hj] at q
    obtain ⟨y, h1, h2⟩ := h.at_ j w q
    exact ⟨y, by rw [List.getElem?_set_ne hj]; exact h1, h2⟩
/-- exceptions of the program's own classes -/
def RX (c : Ct) (H : Hp) (bd : List Addr) (n : Str) (v : PyData) (cls : Value) (dd : Option Addr) : Prop :=
  ∃ C dx y, c.mg n = some (.ref C) ∧ cls = .ref C ∧ dd = some dx ∧ H dx = some (.xd [("value", y)]) ∧ dx ∉ bd ∧ RD c.K H bd v y
/-- behind an outcome -/
def Post (c : Ct) (W : WX) (B Z : List Addr) (H : Hp) (σ : L2.St) {α : Type} (o : Out α) (Q : α → Sto → List Addr → Hp → Prop) : Prop := match o with
  | .ok v S' => ∀ B' H', Ev B H B' H' → SR c H' B' Z S' → Q v S' B' H'
  | .exn n v S' => ∀ cls dd B' H', Ev B H B' H' → SR c H' B' Z S' → RX c H' (B' ++ Z) n v cls dd → W cls dd σ H'
  | .bad => False
section
variable {c : Ct} {W : WX} {B Z B1 : List Addr} {H H1 : Hp} {σ : L2.St} {α β : Type}
theorem Post.far {o : Out α} {Q : α → Sto → List Addr → Hp → Prop} (e : Ev B H B1 H1) (h : Post c W B Z H σ o Q) : Post c W B1 Z H1 σ o Q := by
  cases o with
  | ok v S => exact fun B' H' f s => h B' H' (e.trans f) s
  | exn n v S => exact fun cls dd B' H' f s r => h cls dd B' H' (e.trans f) s r
  | bad => exact h
theorem Post.imp {o : Out α} {Q R : α → Sto → List Addr → Hp → Prop} (h : Post c W B Z H σ o Q) (k : ∀ v S' B' H', Ev B H B' H' → SR c H' B' Z S' → Q v S' B' H' → R v S' B' H') : Post c W B Z H σ o R := by
  cases o with
  | ok v S => exact fun B' H' f s => k v S B' H' f s (h B' H' f s)
  | exn n v S => exact h
  | bad => exact h
/-- one after the other -/
theorem Post.bind {o : Out α} {f : α → Sto → Out β} {Q : β → Sto → List Addr → Hp → Prop} (h : Post c W B Z H σ (o.bind f) Q) : Post c W B Z H σ o fun v S' B' H' => Post c W B' Z H' σ (f v S') Q := by
  cases o with
  | ok v S =>
    have h : Post c W B Z H σ (f v S) Q := h
    exact fun B' H' e s => h.far e
  | exn n v S => exact h
  | bad => exact h
theorem Post.ret {v : α} {S : Sto} {Q : α → Sto → List Addr → Hp → Prop} (s : SR c H B Z S) (h : Post c W B Z H σ (.ok v S) Q) : Q v S B H := h B H (Ev.refl s) s
end
/-! ## new objects -/
section
variable {c : Ct} {W : WX} {B Z : List Addr} {H : Hp} {S : Sto}
theorem SR.out {p : Addr} (s : SR c H B Z S) (hp : H p = none) : p ∉ B ++ Z := fun m => by
  rcases List.mem_append.mp m with m | m
  · exact s.trk p m hp
  · exact kdNe (s.zt p m) hp
theorem Ev.new {p : Addr} {o : HO} (s : SR c H B Z S) (hp : H p = none) : Ev B H B (upd H p o) := by
  refine ⟨⟨[], by simp, fun _ h => by cases h⟩, fun a u h _ _ => ?_, fun b hb => ?_, fun a h => ?_⟩
  rotate_left
  rotate_left
  · by_cases q : a = p
    · rw [q, upd_same]; simp
    · rw [upd_ne q]; exact h
  · rw [upd_ne (ne_of_none h hp)]; exact h
  · have nb : b ≠ p := fun e => s.trk b hb (by rw [e]; exact hp)
    rw [upd_ne nb]; exact s.trk b hb
/-- a step that leaves the store's own objects -/
theorem SR.same {H' : Hp} (s : SR c H B Z S) (e : Ev B H B H') (tb : Tabs c.T H') (k : ∀ b, b ∈ B → H' b = H b) : SR c H' B Z S := by
  refine ⟨s.len, s.nd, fun z hz => kdKeep (s.zt z hz) fun o h nt => e.keep z o h (s.zb z hz) nt, s.zb, fun n b o hb ho => ?_, tb⟩
  · have r := s.ob n b o hb ho
    have kb := k b (List.mem_of_getElem? hb)
    exact r.evs e kb
theorem SR.new {p : Addr} {o : HO} (s : SR c H B Z S) (hp : H p = none) : SR c (upd H p o) B Z S :=
  s.same (Ev.new s hp) (Tabs.ext s.tb fun b u h => by rw [upd_ne (ne_of_none h hp)]; exact h) fun b hb => upd_ne fun e => s.trk b hb (by rw [e]; exact hp)
theorem RD.newList {p : Addr} {ds : List PyData} {xs : List V} (s : SR c H B Z S) (hp : H p = none) (r : RDs c.K H (B ++ Z) ds xs) : RD c.K (upd H p (.lst xs)) (B ++ Z) (.list ds) (.ref p) :=
  .lst upd_same (s.out hp) (r.ev (Ev.new s hp))
theorem RD.newTup {p : Addr} {o : Obj} {ds : List PyData} {xs : List V} (s : SR c H B Z S) (hp : H p = none) (to : TupO o) (r : RDs c.K H (B ++ Z) ds xs) : RD c.K (upd H p (.frz o (.tup xs))) (B ++ Z) (.tuple ds) (.ref p) :=
  .tup upd_same to (s.out hp) (r.ev (Ev.new s hp))
/-- a new object of the store -/
theorem Ev.push {p : Addr} {o : HO} (s : SR c H B Z S) (hp : H p = none) : Ev B H (B ++ [p]) (upd H p o) := by
  have e := Ev.new (o := o) s hp
  refine ⟨⟨[p], rfl, fun b hb => by rw [List.mem_singleton.mp hb]; exact hp⟩, e.keep, fun b hb => ?_, e.there⟩
  rcases List.mem_append.mp hb with h | h
  · exact e.trk b h
  · rw [List.mem_singleton.mp h, upd_same]; simp
theorem SR.push {p : Addr} {o : HO} {io : IO} (s : SR c H B Z S) (hp : H p = none) (r : RO c (upd H p o) (B ++ [p]) Z p io) : SR c (upd H p o) (B ++ [p]) Z (S ++ [io]) := by
  have e := Ev.push (o := o) s hp
  have np : p ∉ B := fun m => s.trk p m hp
  refine ⟨by rw [List.length_append, List.length_append, s.len] <;> rfl, List.nodup_append.mpr ⟨s.nd, by simp, fun a ha b hb q => by rw [List.mem_singleton.mp hb] at q; exact np (q ▸ ha)⟩, fun z hz => kdKeep (s.zt z hz) fun o h nt => e.keep z o h (s.zb z hz) nt, fun z hz m => ?_, fun n b o' hb ho => ?_, Tabs.ext s.tb fun b u h => by rw [upd_ne (ne_of_none h hp)]; exact h⟩
  · rcases List.mem_append.mp m with m | m
    · exact s.zb z hz m
    · rw [List.mem_singleton.mp m] at hz; exact kdNe (s.zt p hz) hp
  · by_cases hn : n < S.length
    · rw [List.getElem?_append_left (by rw [s.len]; exact hn)] at hb
      rw [List.getElem?_append_left hn] at ho
      have r' := s.ob n b o' hb ho
      have nb : b ≠ p := fun q => np (q ▸ List.mem_of_getElem? hb)
      exact r'.evs e (upd_ne nb)
    · have hl := (List.getElem?_eq_some_iff.mp ho).1
      rw [List.length_append] at hl
      have en : n = S.length := by simp at hl; omega
      subst en
      rw [List.getElem?_append_right (Nat.le_refl _)] at ho
      rw [← s.len, List.getElem?_append_right (Nat.le_refl _)] at hb
      simp at ho hb
      subst ho hb
      exact r
/-- an object of the store written -/
theorem Ev.put {n : Nat} {b : Addr} {o : HO} (s : SR c H B Z S) (hb : B[n]? = some b) : Ev B H B (upd H b o) := by
  have th : ∀ a, H a ≠ none → upd H b o a ≠ none := fun a ha => by
    by_cases q : a = b
    · rw [q, upd_same]; simp
    · rw [upd_ne q]; exact ha
  refine ⟨⟨[], by simp, fun _ h => by cases h⟩, fun a u h ha _ => ?_, fun a ha => th a (s.trk a ha), th⟩
  have nb : a ≠ b := fun q => ha (by rw [q]; exact List.mem_of_getElem? hb)
  rw [upd_ne nb]; exact h
theorem SR.put {n : Nat} {b : Addr} {o : HO} {io : IO} (s : SR c H B Z S) (hb : B[n]? = some b) (r : RO c (upd H b o) B Z b io) : SR c (upd H b o) B Z (S.set n io) := by
  have e := Ev.put (o := o) s hb
  refine ⟨by rw [List.length_set]; exact s.len, s.nd, fun z hz => kdKeep (s.zt z hz) fun o h nt => e.keep z o h (s.zb z hz) nt, s.zb, fun m b' o' hb' ho => ?_, fun p hp => kind_tab (s.kind (List.mem_of_getElem? hb)) (s.tb p hp)⟩
  · by_cases hm : n = m
    · subst hm
      rw [hb] at hb'
      cases hb'
      have hl : n < S.length := by
        have := (List.getElem?_eq_some_iff.mp ho).1
        rw [List.length_set] at this; exact this
      rw [List.getElem?_set_self hl] at ho
      cases ho
      exact r
    · rw [List.getElem?_set_ne hm] at ho
      have r' := s.ob m b' o' hb' ho
      have nb : b' ≠ b := fun q => by
        obtain ⟨h1, e1⟩ := List.getElem?_eq_some_iff.mp hb
        obtain ⟨h2, e2⟩ := List.getElem?_eq_some_iff.mp hb'
        exact hm ((List.getElem_inj s.nd).mp (e1.trans (q.symm.trans e2.symm)))
      exact r'.evs e (upd_ne nb)
end
/-! data, for the library's rules -/
section
variable {K : PySem.W.Frag} {H : Hp} {bd : List Addr}
mutual
theorem RD.dp0 : ∀ {d : PyData} {v : V}, RD K H bd d v → d.hasDict = false → Dp K H v d
  | _, _, .non, _ => .non
  | _, _, .bl b, _ => .bl b
  | _, _, .int i, _ => .int i
  | _, _, .str x, _ => .str x
  | _, _, .lst h _ r, n => .lst (.of h) (RDs.dp0 r n)
  | _, _, .tup h _ _ r, n => .tup (sqF h) (RDs.dp0 r n)
  | _, _, .tupK h _ r, n => .tup (.inr h) (RDs.dp0 r n)
  | _, _, .dct _ _ _ _, n => by cases n
theorem RDs.dp0 : ∀ {d : List PyData} {v : List V}, RDs K H bd d v → PyData.hasDictAll d = false → DpAll K H v d
  | _, _, .nil, _ => .nil
  | d :: ds, _, .cons h t, n => by
    have n : (d.hasDict || PyData.hasDictAll ds) = false := n
    rw [Bool.or_eq_false_iff] at n
    exact .cons (RD.dp0 h n.1) (RDs.dp0 t n.2)
end
mutual
theorem noDict : ∀ d : PyData, d.canLay0 = true → d.hasDict = false
  | .none, _ => rfl
  | .bool _, _ => rfl
  | .int _, _ => rfl
  | .str _, _ => rfl
  | .list xs, h => noDicts xs h
  | .tuple xs, h => noDicts xs h
  | .dict _, h => by cases h
theorem noDicts : ∀ d : List PyData, PyData.canLayAll0 d = true → PyData.hasDictAll d = false
  | [], _ => rfl
  | x :: t, h => by
    have h : (x.canLay0 && PyData.canLayAll0 t) = true := h
    rw [Bool.and_eq_true] at h
    show (x.hasDict || PyData.hasDictAll t) = false
    rw [noDict x h.1, noDicts t h.2]
    rfl
end
theorem RD.dp {d : PyData} {v : V} (r : RD K H bd d v) (h : SeqAt.shaped d = true) : Dp K H v d := r.dp0 (noDict d (SeqAt.canLay_of_shaped h))
theorem RDs.dp {d : List PyData} {v : List V} (r : RDs K H bd d v) (h : SeqAt.shaped (.list d) = true) : DpAll K H v d := r.dp0 (noDicts d (SeqAt.canLay_of_shaped h))
theorem RD.tupS {ds : List PyData} {v : V} (r : RD K H bd (.tuple ds) v) : ∃ a xs, v = .ref a ∧ SqT K H a xs ∧ RDs K H bd ds xs := by
  cases r with
  | tup h to hb t => exact ⟨_, _, rfl, sqF h, t⟩
  | tupK h nd t => exact ⟨_, _, rfl, .inr h, t⟩
theorem RD.lstS {ds : List PyData} {v : V} (r : RD K H bd (.list ds) v) : ∃ a xs, v = .ref a ∧ H a = some (.lst xs) ∧ RDs K H bd ds xs := by
  cases r with
  | lst h hb t => exact ⟨_, _, rfl, h, t⟩
theorem RDs.length : ∀ {ds : List PyData} {xs : List V}, RDs K H bd ds xs → ds.length = xs.length
  | _, _, .nil => rfl
  | _, _, .cons _ t => congrArg (· + 1) (RDs.length t)
theorem RDs.app : ∀ {ds es : List PyData} {xs ys : List V}, RDs K H bd ds xs → RDs K H bd es ys → RDs K H bd (ds ++ es) (xs ++ ys)
  | _, _, _, _, .nil, s => s
  | _, _, _, _, .cons h t, s => .cons h (RDs.app t s)
theorem RDs.get : ∀ {ds : List PyData} {xs : List V} {i : Nat} {d : PyData}, RDs K H bd ds xs → ds[i]? = some d → ∃ x, xs[i]? = some x ∧ RD K H bd d x
  | _, _, _, _, .nil, e => by simp at e
  | _, _, 0, _, .cons h _, e => by simp at e; subst e; exact ⟨_, rfl, h⟩
  | _, _, i + 1, _, .cons _ t, e => by
    obtain ⟨x, h1, h2⟩ := RDs.get (i := i) t (by simpa using e)
    exact ⟨x, by simpa using h1, h2⟩
theorem RDs.take : ∀ {ds : List PyData} {xs : List V} (n : Nat), RDs K H bd ds xs → RDs K H bd (ds.take n) (xs.take n)
  | _, _, 0, _ => by simp; exact .nil
  | _, _, n + 1, .nil => by simp; exact .nil
  | _, _, n + 1, .cons h t => .cons h (RDs.take n t)
theorem RDs.drop : ∀ {ds : List PyData} {xs : List V} (n : Nat), RDs K H bd ds xs → RDs K H bd (ds.drop n) (xs.drop n)
  | _, _, 0, r => r
  | _, _, n + 1, .nil => .nil
  | _, _, n + 1, .cons h t => RDs.drop n t
theorem RDs.set : ∀ {ds : List PyData} {xs : List V} {d : PyData} {x : V} (i : Nat), RDs K H bd ds xs → RD K H bd d x → RDs K H bd (ds.set i d) (xs.set i x)
  | _, _, _, _, _, .nil, _ => .nil
  | _, _, _, _, 0, .cons _ t, h => .cons h t
  | _, _, _, _, i + 1, .cons g t, h => .cons g (RDs.set i t h)
theorem RDs.erase : ∀ {ds : List PyData} {xs : List V} (i : Nat), RDs K H bd ds xs → RDs K H bd (ds.eraseIdx i) (xs.eraseIdx i)
  | _, _, _, .nil => .nil
  | _, _, 0, .cons _ t => t
  | _, _, i + 1, .cons g t => .cons g (RDs.erase i t)
/-- ints -/
theorem RDs.ints : ∀ {ns : List Int} {xs : List V}, RDs K H bd (ns.map PyData.int) xs → xs = ns.map V.int
  | [], _, .nil => rfl
  | n :: ns, _, .cons h t => by
    cases h
    rw [RDs.ints t] <;> rfl
theorem rds_ints : ∀ ns : List Int, RDs K H bd (ns.map PyData.int) (ns.map V.int)
  | [] => .nil
  | n :: ns => .cons (.int n) (rds_ints ns)
theorem RDs.bools : ∀ {ns : List Bool} {xs : List V}, RDs K H bd (ns.map PyData.bool) xs → xs = ns.map V.bl
  | [], _, .nil => rfl
  | n :: ns, _, .cons h t => by
    cases h
    rw [RDs.bools t] <;> rfl
end
/-! ## readings -/
def TEx (c : Ct) (W : WX) (f : FE) : TE := fun σ H Q => ∃ B Z r S, SR c H B Z S ∧ RR c H B Z r σ ∧ Post c W B Z H σ (f r S) fun v _ B' H' => ∀ x, RI c H' B' Z v x → Q x H'
def TTx (c : Ct) (W : WX) (f : FT) : TT := fun σ H Q => ∃ B Z r S, SR c H B Z S ∧ RR c H B Z r σ ∧ Post c W B Z H σ (f r S) fun v _ _ H' => Q v H'
def TAx (c : Ct) (W : WX) (f : FA) : TA := fun σ H Q => ∃ B Z r S, SR c H B Z S ∧ RR c H B Z r σ ∧ Post c W B Z H σ (f r S) fun vs _ B' H' => ∀ xs, RIs c H' B' Z vs xs → Q xs H'
theorem pe_imp {X : Cx} {e : Expr} {t t' : TE} (h : PE X e t) (k : ∀ σ H Q, t' σ H Q → t σ H Q) : PE X e t' := ⟨fun pins s σ H Q I q => h.run pins s σ H Q I (k σ H Q q)⟩
theorem pt_imp {X : Cx} {e : Expr} {t t' : TT} (h : PT X e t) (k : ∀ σ H Q, t' σ H Q → t σ H Q) : PT X e t' := ⟨fun pins s σ H Q I q => h.run pins s σ H Q I (k σ H Q q)⟩
theorem pw_imp {X : Cx} {e : Expr} {t t' : TT} (h : PW X e t) (k : ∀ σ H Q, t' σ H Q → t σ H Q) : PW X e t' := ⟨fun wh pins s σ H Q I q => h.run wh pins s σ H Q I (k σ H Q q)⟩
theorem pa_imp {X : Cx} {e : List Expr} {t t' : TA} (h : PA X e t) (k : ∀ σ H Q, t' σ H Q → t σ H Q) : PA X e t' := ⟨fun pos pins s σ H Q I q => h.run pos pins s σ H Q I (k σ H Q q)⟩
theorem ps_imp {X : Cx} {e : Stmt} {t t' : TS} (h : PS X e t) (k : ∀ D σ H, t' D σ H → t D σ H) : PS X e t' := ⟨fun pins s σ H D I q => h.run pins s σ H D I (k D σ H q)⟩
theorem pss_imp {X : Cx} {e : List Stmt} {t t' : TS} (h : PSs X e t) (k : ∀ D σ H, t' D σ H → t D σ H) : PSs X e t' := ⟨fun pins s σ H D I q => h.run pins s σ H D I (k D σ H q)⟩
end MI
set_option maxRecDepth 100000
set_option maxHeartbeats 4000000
namespace MI
open PySem L2
section
variable {c : Ct} {W : WX} {X : Cx}
/-! ## names and constants -/
@[simp] def eVar (i : Nat) : FE := fun r S => match r[i]? with
  | some (some v) => .ok v S
  | _ => .bad
@[simp] def eC (d : PyData) : FE := fun _ S => .ok (.d d) S
theorem s_var {i : Nat} {e : Expr} (h : PE X e (tVar i)) : PE X e (TEx c W (eVar i)) := pe_imp h fun σ H Q ⟨B, Z, r, S, s, rr, p⟩ => by
  unfold eVar at p
  split at p
  · rename_i v q
    obtain ⟨x, h1, h2⟩ := rr.at_ i v q
    exact ⟨x, h1, p.ret s x h2⟩
  · exact p.elim
theorem s_c {d : PyData} {v : V} {e : Expr} (h : PE X e (tC v)) (k : ∀ H bd, RD c.K H bd d v) : PE X e (TEx c W (eC d)) := pe_imp h fun σ H Q ⟨B, Z, r, S, s, rr, p⟩ =>
  Post.ret (W := W) (σ := σ) s p v (.d (k _ _))
theorem s_int {i j pos} : PE X (.Constant (.int i) j pos) (TEx c W (eC (.int i))) := s_c pe_int fun _ _ => .int i
theorem s_bool {i j pos} : PE X (.Constant (.bool i) j pos) (TEx c W (eC (.bool i))) := s_c pe_bl fun _ _ => .bl i
/-- a module's name that holds an int, a text -/
theorem s_gint {x : Str} {pos : Pos} {i : Int} (hg : Gl X x) (hm : ∃ t, X.mg x = some (.int i t)) (hd : (x == ("__debug__" : Str)) = false := by decide) : PE X (.Name x pos) (TEx c W (eC (.int i))) := by
  obtain ⟨t, hm⟩ := hm
  exact s_c (pe_glob (v := V.int i) hg hm ⟨t, rfl⟩ hd) fun _ _ => .int i
/-! ## one, two operands -/
abbrev O1 := IV → Sto → Out IV
abbrev O2 := IV → IV → Sto → Out IV
@[simp] def eOp1 (op : O1) (f : FE) : FE := fun r S => (f r S).bind op
@[simp] def eOp2 (op : O2) (f g : FE) : FE := fun r S => (f r S).bind fun v S1 => (g r S1).bind fun w S2 => op v w S2
/-- an operator's rule r takes op's answers -/
def Ok1 (c : Ct) (W : WX) (r : V → Hp → VK → Prop) (op : O1) : Prop := ∀ σ B Z H S v x Q, SR c H B Z S → RI c H B Z v x →
  Post c W B Z H σ (op v S) (fun z _ B' H' => ∀ y, RI c H' B' Z z y → Q y H') → r x H Q
def Ok2 (c : Ct) (W : WX) (r : R2) (op : O2) : Prop := ∀ σ B Z H S v w x y Q, SR c H B Z S → RI c H B Z v x → RI c H B Z w y →
  Post c W B Z H σ (op v w S) (fun z _ B' H' => ∀ y, RI c H' B' Z z y → Q y H') → r x y H Q
theorem one_of {f : FE} {op : O1} {r : V → Hp → VK → Prop} (k : Ok1 c W r op) {σ : L2.St} {H : Hp} {Q : VK} (h : TEx c W (eOp1 op f) σ H Q) : TEx c W f σ H fun x H1 => r x H1 Q := by
  obtain ⟨B, Z, r', S, s, rr, p⟩ := h
  exact ⟨B, Z, r', S, s, rr, (Post.bind p).imp fun v S' B' H' e s' q x hx => k σ B' Z H' S' v x Q s' hx q⟩
theorem two_of {f g : FE} {op : O2} {r : R2} (k : Ok2 c W r op) {σ : L2.St} {H : Hp} {Q : VK} (h : TEx c W (eOp2 op f g) σ H Q) : tOp r (TEx c W f) (TEx c W g) σ H Q := by
  obtain ⟨B, Z, r', S, s, rr, p⟩ := h
  refine ⟨B, Z, r', S, s, rr, (Post.bind p).imp fun v S' B' H' e s' q x hx => ?_⟩
  exact ⟨B', Z, r', S', s', rr.ev e, (Post.bind q).imp fun w S2 B2 H2 e2 s2 q2 y hy => k σ B2 Z H2 S2 v w x y Q s2 (hx.ev e2) hy q2⟩
theorem s_op {a b : Expr} {op : Operator} {f g : FE} {o : O2} {r : R2} {pos : Pos} (ho : OpR X (binaryOp op) r) (k : Ok2 c W r o) (ha : PE X a (TEx c W f)) (hb : PE X b (TEx c W g)) : PE X (.BinOp a op b pos) (TEx c W (eOp2 o f g)) :=
  pe_imp (pe_op ho ha hb) fun _ _ _ => two_of k
theorem s_un {a : Expr} {op : UnaryOp} {f : FE} {o : O1} {r : V → Hp → VK → Prop} {pos : Pos} (ho : UnR X (unaryOp op) r) (k : Ok1 c W r o) (ha : PE X a (TEx c W f)) : PE X (.UnaryOp op a pos) (TEx c W (eOp1 o f)) :=
  pe_imp (pe_un ho ha) fun _ _ _ => one_of k
theorem Ok2.or {r r' : R2} {o : O2} (h : ∀ σ B Z H S v w x y Q, SR c H B Z S → RI c H B Z v x → RI c H B Z w y → Post c W B Z H σ (o v w S) (fun z _ B' H' => ∀ y, RI c H' B' Z z y → Q y H') → r x y H Q ∨ r' x y H Q) :
    Ok2 c W (fun x y H Q => r x y H Q ∨ r' x y H Q) o := h
/-! ### + -/
@[simp] def oAdd : O2 := fun v w S => match v, w with
  | .d (.int i), .d (.int j) => .ok (.d (.int (i + j))) S
  | .d (.str x), .d (.str y) => if x.length + y.length ≤ sizeLine then .ok (.d (.str (x ++ y))) S else .bad
  | .d (.tuple xs), .d (.tuple ys) => if xs.length + ys.length ≤ sizeLine then .ok (.d (.tuple (xs ++ ys))) S else .bad
  | .d (.list xs), .d (.list ys) => if xs.length + ys.length ≤ sizeLine then .ok (.d (.list (xs ++ ys))) S else .bad
  | _, _ => .bad
/-- the same where the new list is to be changed later -/
@[simp] def oAddM : O2 := fun v w S => match v, w with
  | .d (.list xs), .d (.list ys) => if xs.length + ys.length ≤ sizeLine then .ok (.ref S.length) (S ++ [.lst (xs ++ ys)]) else .bad
  | _, _ => .bad
def rAddA (K : PySem.W.Frag) : R2 := fun x y H Q => rI0 (fun i j => .int (i + j)) x y H Q ∨ (∃ i j, x = .str i ∧ y = .str j ∧ i.length + j.length ≤ sizeLine ∧ Q (.str (i ++ j)) H) ∨ rCatAF K x y H Q ∨ rCat x y H Q
theorem op_addA : OpR X (binaryOp .Add) (rAddA X.K) := op_add.or (op_add_str.or (op_catAF.or op_cat))
theorem k_add : Ok2 c W (rAddA c.K) oAdd := by
  intro σ B Z H S v w x y Q s rv rw_ p
  unfold oAdd at p
  split at p
  · rename_i i j
    cases rv with | d rv => cases rv; cases rw_ with | d rw_ => cases rw_; exact .inl ⟨_, _, rfl, rfl, p.ret s _ (.d (.int _))⟩
  · rename_i i j
    cases rv with | d rv => cases rv; cases rw_ with | d rw_ => cases rw_; split at p; exact .inr (.inl ⟨_, _, rfl, rfl, by assumption, p.ret s _ (.d (.str _))⟩); exact p.elim
  · rename_i xs ys
    cases rv with
    | d rv =>
      cases rw_ with
      | d rw_ =>
        split at p
        · rename_i hl
          have rv0 := rv
          have rw0 := rw_
          obtain ⟨a, us, rfl, ha, ru⟩ := rv.tupS
          obtain ⟨b, ws, rfl, hb, rw2⟩ := rw_.tupS
          refine .inr (.inr (.inl ⟨a, b, us, ws, rfl, rfl, ha, hb, by rw [← ru.length, ← rw2.length]; exact hl, fun e => ?_, fun _ e => ?_, fun _ _ q oq hq toq => ?_⟩))
          · subst e
            cases ru
            exact p.ret s _ (.d rw0)
          · subst e
            cases rw2
            rw [List.append_nil] at p
            exact p.ret s _ (.d rv0)
          · exact p B _ (Ev.new s hq) (s.new hq) _ (.d (RD.newTup s hq toq (ru.app rw2)))
        · exact p.elim
  · rename_i xs ys
    cases rv with
    | d rv =>
      cases rw_ with
      | d rw_ =>
        split at p
        · rename_i hl
          obtain ⟨a, us, rfl, ha, ru⟩ := rv.lstS
          obtain ⟨b, ws, rfl, hb, rw2⟩ := rw_.lstS
          exact .inr (.inr (.inr ⟨a, b, us, ws, rfl, rfl, ha, hb, by rw [← ru.length, ← rw2.length]; exact hl, fun q hq => p B _ (Ev.new s hq) (s.new hq) _ (.d (RD.newList s hq (ru.app rw2)))⟩))
        · exact p.elim
  · exact p.elim
/-- a frozen list made anew, as an object of the store -/
theorem push_list {B Z : List Addr} {H : Hp} {S : Sto} {σ : L2.St} {ds : List PyData} {xs : List V} {Q : VK} {p : Addr} (s : SR c H B Z S) (r : RDs c.K H (B ++ Z) ds xs)
    (h : Post c W B Z H σ (.ok (IV.ref S.length) (S ++ [IO.lst ds])) (fun z _ B' H' => ∀ y, RI c H' B' Z z y → Q y H')) (hp : H p = none) : Q (.ref p) (upd H p (.lst xs)) := by
  have e := Ev.push (o := HO.lst xs) s hp
  exact h (B ++ [p]) _ e (s.push hp ⟨xs, upd_same, r.ev e⟩) _ (.ref (by rw [← s.len]; simp))
/-! ### -, *, //, %, ** -/
@[simp] def oInt (g : Int → Int → Option Int) : O2 := fun v w S => match v, w with
  | .d (.int i), .d (.int j) => (match g i j with
    | some k => .ok (.d (.int k)) S
    | none => .bad)
  | _, _ => .bad
theorem k_int {C : Int → Int → Prop} {f : Int → Int → Int} {g : Int → Int → Option Int} (h : ∀ i j k, g i j = some k → C i j ∧ k = f i j) : Ok2 c W (rI C fun i j => .int (f i j)) (oInt g) := by
  intro σ B Z H S v w x y Q s rv rw_ p
  unfold oInt at p
  split at p
  · rename_i i j
    cases rv with
    | d rv =>
      cases rv
      cases rw_ with
      | d rw_ =>
        cases rw_
        split at p
        · rename_i k e
          obtain ⟨h1, h2⟩ := h i j k e
          subst h2
          exact ⟨_, _, rfl, rfl, h1, p.ret s _ (.d (.int _))⟩
        · exact p.elim
  · exact p.elim
@[simp] def gSub : Int → Int → Option Int := fun i j => some (i - j)
/-- both factors' bits together below some 4,000 -/
@[simp] def gMul : Int → Int → Option Int := fun i j => if i.natAbs < 2 ^ 2000 ∧ j.natAbs < 2 ^ 2000 then some (i * j) else none
@[simp] def gDiv : Int → Int → Option Int := fun i j => if 0 < j ∧ j.natAbs < 2 ^ 2000 then some (i / j) else none
@[simp] def gMod : Int → Int → Option Int := fun i j => if 0 < j then some (i % j) else none
theorem op_subC : OpR X (binaryOp .Sub) (rI (fun _ _ => True) fun i j => .int (i - j)) := by
  intro pins s σ H x y v u Q I rx ry h
  obtain ⟨i, j, e1, e2, _, q⟩ := h
  exact op_sub pins s σ H x y v u Q I rx ry ⟨i, j, e1, e2, q⟩
theorem k_sub : Ok2 c W (rI (fun _ _ => True) fun i j => .int (i - j)) (oInt gSub) := k_int fun i j k e => ⟨trivial, (Option.some.inj e).symm⟩
theorem k_mul : Ok2 c W (rI CMulW fun i j => .int (i * j)) (oInt gMul) := k_int fun i j k e => by
  unfold gMul at e
  split at e
  · rename_i h
    exact ⟨wide_mul h.1 h.2 (by decide) (by decide) (by decide), (Option.some.inj e).symm⟩
  · cases e
theorem k_div : Ok2 c W (rI CDivW fun i j => .int (i / j)) (oInt gDiv) := k_int fun i j k e => by
  unfold gDiv at e
  split at e
  · rename_i h
    exact ⟨wide_div h.1 h.2 (by decide) (by decide), (Option.some.inj e).symm⟩
  · cases e
theorem k_mod : Ok2 c W (rI (fun _ j => 0 < j) fun i j => .int (i % j)) (oInt gMod) := k_int fun i j k e => by
  unfold gMod at e
  split at e
  · exact ⟨by assumption, (Option.some.inj e).symm⟩
  · cases e
@[simp] def oNeg : O1 := fun v S => match v with
  | .d (.int i) => .ok (.d (.int (-i))) S
  | _ => .bad
theorem k_neg : Ok1 c W (rU fun i => .int (-i)) oNeg := by
  intro σ B Z H S v x Q s rv p
  unfold oNeg at p
  split at p
  · cases rv with | d rv => cases rv; exact ⟨_, rfl, p.ret s _ (.d (.int _))⟩
  · exact p.elim
end
end MI
set_option maxRecDepth 100000
set_option maxHeartbeats 4000000
namespace MI
open PySem L2
section
variable {c : Ct} {W : WX} {X : Cx}
/-! ## comparisons -/
def shp (d : PyData) : Bool := SeqAt.shaped d
/-- == of data -/
@[simp] def cEq : O2 := fun v w S => match v, w with
  | .d (.int i), .d (.int j) => .ok (.d (.bool (decide (i = j)))) S
  | .d (.str i), .d (.str j) => .ok (.d (.bool (decide (i = j)))) S
  | .d x, .d y => if shp x = true ∧ shp y = true then .ok (.d (.bool (PyData.eqv x y))) S else .bad
  | _, _ => .bad
@[simp] def cNe : O2 := fun v w S => match v, w with
  | .d (.int i), .d (.int j) => .ok (.d (.bool (!decide (i = j)))) S
  | .d (.str i), .d (.str j) => .ok (.d (.bool (!decide (i = j)))) S
  | .d x, .d y => if shp x = true ∧ shp y = true then .ok (.d (.bool (!PyData.eqv x y))) S else .bad
  | _, _ => .bad
def rEqA (K : PySem.W.Frag) : R2 := fun x y H Q => rEq x y H Q ∨ rEqD K x y H Q
def rNeA (K : PySem.W.Frag) : R2 := fun x y H Q => rNe x y H Q ∨ rNeD K x y H Q
theorem op_eqA (hu : X.A.units + 64 < cLine) : OpR X (compareOp .Eq) (rEqA X.K) := op_eq.or (op_eqD hu)
theorem op_neA (hu : X.A.units + 64 < cLine) : OpR X (compareOp .NotEq) (rNeA X.K) := op_ne.or (op_neD hu)
theorem k_eq : Ok2 c W (rEqA c.K) cEq := by
  intro σ B Z H S v w x y Q s rv rw_ p
  unfold cEq at p
  split at p
  · rename_i i j
    cases rv with
    | d rv =>
      cases rw_ with
      | d rw_ =>
        cases rv
        cases rw_
        refine .inl ⟨rfl, ?_⟩
        have q := p.ret s _ (.d (.bl _))
        by_cases e : i = j
        · subst e; simpa using q
        · have e2 : ¬ (V.int i = V.int j) := fun z => e (V.int.inj z)
          rw [decide_eq_false e2]
          rw [decide_eq_false e] at q; exact q
  · rename_i i j
    cases rv with
    | d rv =>
      cases rw_ with
      | d rw_ =>
        cases rv
        cases rw_
        refine .inl ⟨rfl, ?_⟩
        have q := p.ret s _ (.d (.bl _))
        by_cases e : i = j
        · subst e; simpa using q
        · have e2 : ¬ (V.str i = V.str j) := fun z => e (V.str.inj z)
          rw [decide_eq_false e2]
          rw [decide_eq_false e] at q; exact q
  · cases rv with
    | d rv =>
      cases rw_ with
      | d rw_ =>
        split at p
        · rename_i h
          exact .inr ⟨_, _, rv.dp h.1, rw_.dp h.2, h.1, h.2, p.ret s _ (.d (.bl _))⟩
        · exact p.elim
  · exact p.elim
theorem k_ne : Ok2 c W (rNeA c.K) cNe := by
  intro σ B Z H S v w x y Q s rv rw_ p
  unfold cNe at p
  split at p
  · rename_i i j
    cases rv with
    | d rv =>
      cases rw_ with
      | d rw_ =>
        cases rv
        cases rw_
        refine .inl ⟨rfl, ?_⟩
        have q := p.ret s _ (.d (.bl _))
        by_cases e : i = j
        · subst e; simpa using q
        · have e2 : ¬ (V.int i = V.int j) := fun z => e (V.int.inj z)
          rw [decide_eq_false e2]
          rw [decide_eq_false e] at q; exact q
  · rename_i i j
    cases rv with
    | d rv =>
      cases rw_ with
      | d rw_ =>
        cases rv
        cases rw_
        refine .inl ⟨rfl, ?_⟩
        have q := p.ret s _ (.d (.bl _))
        by_cases e : i = j
        · subst e; simpa using q
        · have e2 : ¬ (V.str i = V.str j) := fun z => e (V.str.inj z)
          rw [decide_eq_false e2]
          rw [decide_eq_false e] at q; exact q
  · cases rv with
    | d rv =>
      cases rw_ with
      | d rw_ =>
        split at p
        · rename_i h
          exact .inr ⟨_, _, rv.dp h.1, rw_.dp h.2, h.1, h.2, p.ret s _ (.d (.bl _))⟩
        · exact p.elim
  · exact p.elim
/-- <, <=, >, >= of ints -/
@[simp] def cInt (g : Int → Int → Bool) : O2 := fun v w S => match v, w with
  | .d (.int i), .d (.int j) => .ok (.d (.bool (g i j))) S
  | _, _ => .bad
theorem k_cint {g : Int → Int → Bool} : Ok2 c W (rI0 fun i j => .bl (g i j)) (cInt g) := by
  intro σ B Z H S v w x y Q s rv rw_ p
  unfold cInt at p
  split at p
  · cases rv with | d rv => cases rv; cases rw_ with | d rw_ => cases rw_; exact ⟨_, _, rfl, rfl, p.ret s _ (.d (.bl _))⟩
  · exact p.elim
@[simp] abbrev gLt : Int → Int → Bool := fun i j => decide (i < j)
@[simp] abbrev gLe : Int → Int → Bool := fun i j => decide (i ≤ j)
@[simp] abbrev gGt : Int → Int → Bool := fun i j => decide (j < i)
@[simp] abbrev gGe : Int → Int → Bool := fun i j => decide (j ≤ i)
/-- in, not in -/
def rInTD (K : PySem.W.Frag) (neg : Bool) : R2 := fun x y H Q => ∃ d ds, Dp K H x d ∧ Dp K H y (.tuple ds) ∧ SeqAt.shaped d = true ∧ SeqAt.shaped (.list ds) = true ∧ Q (.bl (if neg then !ds.any fun z => PyData.eqv z d else ds.any fun z => PyData.eqv z d)) H
theorem op_inTD (hu : X.A.units + 65 < cLine) : OpR X (compareOp .In) (rInTD X.K false) := by
  intro pins s σ H x y v u Q I rx ry ⟨d, ds, hd, he, sd, se, q⟩
  obtain ⟨as, r1⟩ := Dp.reads I d x v hd rx
  obtain ⟨bs, r2⟩ := Dp.reads I (.tuple ds) y u he ry
  refine SeqAt.in_tuple_reads r2 r1 ?_ (SeqAt.canLay_of_shaped sd) (PyProof.Rows.room_in_shaped sd hu) ⟨.bl _, H, I, rfl, q⟩
  exact SeqAt.canLay_of_shaped se
theorem op_notInTD (hu : X.A.units + 65 < cLine) : OpR X (compareOp .NotIn) (rInTD X.K true) := by
  intro pins s σ H x y v u Q I rx ry ⟨d, ds, hd, he, sd, se, q⟩
  obtain ⟨as, r1⟩ := Dp.reads I d x v hd rx
  obtain ⟨bs, r2⟩ := Dp.reads I (.tuple ds) y u he ry
  refine SeqAt.notIn_tuple_reads r2 r1 ?_ (SeqAt.canLay_of_shaped sd) (PyProof.Rows.room_in_shaped sd hu) ⟨.bl _, H, I, rfl, q⟩
  exact SeqAt.canLay_of_shaped se
def isIn (d : PyData) (ds : List PyData) : Bool := ds.any fun z => PyData.eqv z d
@[simp] def cInN (neg : Bool) : O2 := fun v w S => match v, w with
  | .d x, .d (.list ys) => if shp x = true ∧ shp (.list ys) = true then .ok (.d (.bool (if neg then !isIn x ys else isIn x ys))) S else .bad
  | .d x, .d (.tuple ys) => if shp x = true ∧ shp (.list ys) = true then .ok (.d (.bool (if neg then !isIn x ys else isIn x ys))) S else .bad
  | .d x, .ref n => (match S[n]? with
    | some (.lst ys) => if shp x = true ∧ shp (.list ys) = true then .ok (.d (.bool (if neg then !isIn x ys else isIn x ys))) S else .bad
    | _ => .bad)
  | .d (.str x), .d (.str y) => (match x.cps.toList with
    | [k] => .ok (.d (.bool (if neg then !decide (k ∈ y.cps.toList) else decide (k ∈ y.cps.toList)))) S
    | _ => .bad)
  | _, _ => .bad
def rSg (neg : Bool) : R2 := fun x y H Q => ∃ (c : Nat) (z : Str), x = .str ⟨#[c]⟩ ∧ y = .str z ∧ Q (.bl (if neg then !decide (c ∈ z.cps.toList) else decide (c ∈ z.cps.toList))) H
theorem op_sgF : OpR X (compareOp .In) (rSg false) := op_in_sign
theorem op_sgT : OpR X (compareOp .NotIn) (rSg true) := op_notIn_sign
def rInA (K : PySem.W.Frag) : R2 := fun x y H Q => rInD K x y H Q ∨ rInTD K false x y H Q ∨ rSg false x y H Q
def rNotInA (K : PySem.W.Frag) : R2 := fun x y H Q => rNotInD K x y H Q ∨ rInTD K true x y H Q ∨ rSg true x y H Q
theorem op_inA (hu : X.A.units + 65 < cLine) : OpR X (compareOp .In) (rInA X.K) := (op_inD hu).or ((op_inTD hu).or op_sgF)
theorem op_notInA (hu : X.A.units + 65 < cLine) : OpR X (compareOp .NotIn) (rNotInA X.K) := (op_notInD hu).or ((op_notInTD hu).or op_sgT)
theorem SR.lst {B Z : List Addr} {H : Hp} {S : Sto} {n : Nat} {ds : List PyData} {x : V} (s : SR c H B Z S) (h : S[n]? = some (.lst ds)) (r : RI c H B Z (.ref n) x) : ∃ b xs, x = .ref b ∧ B[n]? = some b ∧ H b = some (.lst xs) ∧ RDs c.K H (B ++ Z) ds xs := by
  cases r with
  | ref hb =>
    obtain ⟨xs, h1, h2⟩ := s.ob n _ _ hb h
    exact ⟨_, xs, rfl, hb, h1, h2⟩
theorem shapedT {ds : List PyData} (h : SeqAt.shaped (.list ds) = true) : SeqAt.shaped (.tuple ds) = true := h
theorem in_all {neg : Bool} {B Z : List Addr} {H : Hp} {S : Sto} {σ : L2.St} {v w : IV} {x y : V} {Q : VK} (s : SR c H B Z S) (rv : RI c H B Z v x) (rw_ : RI c H B Z w y)
    (p : Post c W B Z H σ (cInN neg v w S) (fun z _ B' H' => ∀ y, RI c H' B' Z z y → Q y H')) :
    (∃ d ds, Dp c.K H x d ∧ Dp c.K H y (.list ds) ∧ SeqAt.shaped d = true ∧ SeqAt.shaped (.list ds) = true ∧ Q (.bl (if neg then !isIn d ds else isIn d ds)) H) ∨ rInTD c.K neg x y H Q ∨ rSg neg x y H Q := by
  unfold cInN at p
  split at p
  · cases rv with
    | d rv =>
      cases rw_ with
      | d rw_ =>
        split at p
        · rename_i h
          exact .inl ⟨_, _, rv.dp h.1, rw_.dp h.2, h.1, h.2, p.ret s _ (.d (.bl _))⟩
        · exact p.elim
  · cases rv with
    | d rv =>
      cases rw_ with
      | d rw_ =>
        split at p
        · rename_i h
          exact .inr (.inl ⟨_, _, rv.dp h.1, rw_.dp (shapedT h.2), h.1, h.2, p.ret s _ (.d (.bl _))⟩)
        · exact p.elim
  · split at p
    · rename_i e
      cases rv with
      | d rv =>
        split at p
        · rename_i h
          obtain ⟨b, xs, rfl, hb, h1, h2⟩ := s.lst e rw_
          exact .inl ⟨_, _, rv.dp h.1, .lst (.of h1) (h2.dp h.2), h.1, h.2, p.ret s _ (.d (.bl _))⟩
        · exact p.elim
    · exact p.elim
  · rename_i x' y'
    cases rv with
    | d rv =>
      cases rw_ with
      | d rw_ =>
        cases rv
        cases rw_
        split at p
        · rename_i k e
          refine .inr (.inr ⟨k, y', ?_, rfl, p.ret s _ (.d (.bl _))⟩)
          have e2 : x' = ⟨#[k]⟩ := by
            obtain ⟨⟨l⟩⟩ := x'
            have : l = [k] := e
            rw [this]
          rw [e2]
        · exact p.elim
  · exact p.elim
theorem k_in : Ok2 c W (rInA c.K) (cInN false) := fun σ B Z H S v w x y Q s rv rw_ p => in_all s rv rw_ p
theorem k_notIn : Ok2 c W (rNotInA c.K) (cInN true) := fun σ B Z H S v w x y Q s rv rw_ p => in_all s rv rw_ p
/-- is None, is not None -/
@[simp] def cIsN (neg : Bool) : O2 := fun v w S => match v, w with
  | .d x, .d .none => .ok (.d (.bool (if neg then !(match x with | .none => true | _ => false) else (match x with | .none => true | _ => false)))) S
  | _, .d .none => .ok (.d (.bool neg)) S
  | _, _ => .bad
theorem s_cmp {a b : Expr} {op : CmpOp} {f g : FE} {o : O2} {r : R2} {pos : Pos} (ho : OpR X (compareOp op) r) (k : Ok2 c W r o) (ha : PE X a (TEx c W f)) (hb : PE X b (TEx c W g)) (hm : behindInMarks op b = false) : PE X (.Compare a [op] [b] pos) (TEx c W (eOp2 o f g)) :=
  pe_imp (pe_cmpR ho ha hb hm) fun _ _ _ => two_of k
/-! ## tests -/
@[simp] def asB : IV → Sto → Out Bool := fun v S => match v with
  | .d (.bool b) => .ok b S
  | _ => .bad
@[simp] def tE (f : FE) : FT := fun r S => (f r S).bind asB
theorem test_of {t : TE} {f : FE} {σ : L2.St} {H : Hp} {Q : Bool → Hp → Prop} (k : ∀ Q', TEx c W f σ H Q' → t σ H Q') (h : TTx c W (tE f) σ H Q) : t σ H fun x H1 => ∃ b, x = .bl b ∧ Q b H1 := by
  obtain ⟨B, Z, r, S, s, rr, p⟩ := h
  refine k _ ⟨B, Z, r, S, s, rr, (Post.bind p).imp fun v S' B' H' e s' q x hx => ?_⟩
  unfold asB at q
  split at q
  · cases hx with | d hx => cases hx; exact ⟨_, rfl, q.ret s'⟩
  · exact q.elim
theorem s_tcmp {a b : Expr} {op : CmpOp} {f g : FE} {o : O2} {r : R2} {pos : Pos} (ho : OpR X (compareOp op) r) (k : Ok2 c W r o) (ha : PE X a (TEx c W f)) (hb : PE X b (TEx c W g)) (hm : behindInMarks op b = false) : PT X (.Compare a [op] [b] pos) (TTx c W (tE (eOp2 o f g))) :=
  pt_imp (pt_cmpR ho ha hb hm) fun σ H Q h => test_of (fun _ => two_of k) h
theorem s_tval {e : Expr} {f : FE} (h : PE X e (TEx c W f)) (he : ∀ whole, isTrue e X.env whole = (do let v ← whole; standAt e.pos; holding [v] (truthy v)) := by intro _; rfl) : PT X e (TTx c W (tE f)) :=
  pt_imp (pt_val h he) fun σ H Q q => test_of (fun _ z => z) q
@[simp] def tNt (f : FT) : FT := fun r S => (f r S).bind fun b S' => .ok (!b) S'
theorem s_tnot {a : Expr} {f : FT} {pos : Pos} (h : PT X a (TTx c W f)) : PT X (.UnaryOp .Not a pos) (TTx c W (tNt f)) :=
  pt_imp (pt_not h) fun σ H Q ⟨B, Z, r, S, s, rr, p⟩ => ⟨B, Z, r, S, s, rr, (Post.bind p).imp fun v S' B' H' e s' q => q.ret s'⟩
@[simp] def tAn (f g : FT) : FT := fun r S => (f r S).bind fun b S' => if b = true then g r S' else .ok false S'
@[simp] def tOr' (f g : FT) : FT := fun r S => (f r S).bind fun b S' => if b = true then .ok true S' else g r S'
theorem s_tor1 {a : Expr} {f : FT} {pos : Pos} (h : PT X a (TTx c W f)) : PW X (.BoolOp .Or [a] pos) (TTx c W f) := pw_or1 h
theorem s_tor {a b : Expr} {rest : List Expr} {f g : FT} {pos : Pos} (ha : PT X a (TTx c W f)) (hb : PW X (.BoolOp .Or (b :: rest) pos) (TTx c W g)) : PW X (.BoolOp .Or (a :: b :: rest) pos) (TTx c W (tOr' f g)) :=
  pw_imp (pw_or ha hb) fun σ H Q ⟨B, Z, r, S, s, rr, p⟩ => ⟨B, Z, r, S, s, rr, (Post.bind p).imp fun v S' B' H' e s' q => by
    cases v with
    | false => exact ⟨B', Z, r, S', s', rr.ev e, q⟩
    | true => exact q.ret s'⟩
/-! as values -/
@[simp] def eAn (f g : FE) : FE := fun r S => (f r S).bind fun v S' => match v with
  | .d (.bool true) => g r S'
  | .d (.bool false) => .ok (.d (.bool false)) S'
  | _ => .bad
@[simp] def eOr (f g : FE) : FE := fun r S => (f r S).bind fun v S' => match v with
  | .d (.bool false) => g r S'
  | .d (.bool true) => .ok (.d (.bool true)) S'
  | _ => .bad
@[simp] def eNt (f : FE) : FE := fun r S => (f r S).bind fun v S' => match v with
  | .d (.bool b) => .ok (.d (.bool (!b))) S'
  | _ => .bad
theorem s_one {a : Expr} {f : FE} {op : BoolOp} {pos : Pos} (h : PE X a (TEx c W f)) : PE X (.BoolOp op [a] pos) (TEx c W f) := pe_one h
theorem s_and {a b : Expr} {rest : List Expr} {f g : FE} {pos : Pos} (ha : PE X a (TEx c W f)) (hb : PE X (.BoolOp .And (b :: rest) pos) (TEx c W g)) : PE X (.BoolOp .And (a :: b :: rest) pos) (TEx c W (eAn f g)) :=
  pe_imp (pe_and ha hb) fun σ H Q ⟨B, Z, r, S, s, rr, p⟩ => ⟨B, Z, r, S, s, rr, (Post.bind p).imp fun v S' B' H' e s' q x hx => by
    split at q
    · cases hx with | d hx => cases hx; exact ⟨_, rfl, ⟨B', Z, r, S', s', rr.ev e, q⟩⟩
    · cases hx with | d hx => cases hx; exact ⟨_, rfl, q.ret s' _ (.d (.bl _))⟩
    · exact q.elim⟩
theorem s_not {a : Expr} {f : FE} {pos : Pos} (ha : PE X a (TEx c W f)) : PE X (.UnaryOp .Not a pos) (TEx c W (eNt f)) :=
  pe_imp (pe_not ha) fun σ H Q ⟨B, Z, r, S, s, rr, p⟩ => ⟨B, Z, r, S, s, rr, (Post.bind p).imp fun v S' B' H' e s' q x hx => by
    split at q
    · cases hx with | d hx => cases hx; exact ⟨_, rfl, q.ret s' _ (.d (.bl _))⟩
    · exact q.elim⟩
@[simp] def eIf (t : FT) (f g : FE) : FE := fun r S => (t r S).bind fun b S' => if b = true then f r S' else g r S'
theorem s_if {t a b : Expr} {ft : FT} {f g : FE} {pos : Pos} (ht : PT X t (TTx c W ft)) (ha : PE X a (TEx c W f)) (hb : PE X b (TEx c W g)) : PE X (.IfExp t a b pos) (TEx c W (eIf ft f g)) :=
  pe_imp (pe_ifExp ht ha hb) fun σ H Q ⟨B, Z, r, S, s, rr, p⟩ => ⟨B, Z, r, S, s, rr, (Post.bind p).imp fun v S' B' H' e s' q => by
    cases v with
    | true => exact ⟨B', Z, r, S', s', rr.ev e, q⟩
    | false => exact ⟨B', Z, r, S', s', rr.ev e, q⟩⟩
/-! chains of two -/
@[simp] def eCh (o o' : O2) (f g h : FE) : FE := fun r S => (f r S).bind fun v S1 => (g r S1).bind fun w S2 => (o v w S2).bind fun z S3 => match z with
  | .d (.bool true) => (h r S3).bind fun u S4 => o' w u S4
  | .d (.bool false) => .ok (.d (.bool false)) S3
  | _ => .bad
theorem chain_of {f g h : FE} {o o' : O2} {r r' : R2} (k : Ok2 c W r o) (k' : Ok2 c W r' o') {σ : L2.St} {H : Hp} {Q : VK} (q : TEx c W (eCh o o' f g h) σ H Q) : tChain r r' (TEx c W f) (TEx c W g) (TEx c W h) σ H Q := by
  obtain ⟨B, Z, r0, S, s, rr, p⟩ := q
  refine ⟨B, Z, r0, S, s, rr, (Post.bind p).imp fun v S1 B1 H1 e1 s1 q1 x hx => ?_⟩
  refine ⟨B1, Z, r0, S1, s1, rr.ev e1, (Post.bind q1).imp fun w S2 B2 H2 e2 s2 q2 y hy => ?_⟩
  refine k σ B2 Z H2 S2 v w x y _ s2 (hx.ev e2) hy ((Post.bind q2).imp fun z S3 B3 H3 e3 s3 q3 t ht => ?_)
  split at q3
  · cases ht with
    | d ht =>
      cases ht
      refine ⟨true, rfl, ?_⟩
      rw [if_pos rfl]
      refine ⟨B3, Z, r0, S3, s3, (rr.ev (e1.trans e2)).ev e3, (Post.bind q3).imp fun u S4 B4 H4 e4 s4 q4 x4 h4 => ?_⟩
      exact k' σ B4 Z H4 S4 w u y x4 Q s4 ((hy.ev e3).ev e4) h4 q4
  · cases ht with
    | d ht =>
      cases ht
      refine ⟨false, rfl, ?_⟩
      rw [if_neg (by decide)]
      exact q3.ret s3 _ (.d (.bl _))
  · exact q3.elim
end
end MI
set_option maxRecDepth 100000
set_option maxHeartbeats 4000000
namespace MI
open PySem L2
section
variable {c : Ct} {W : WX} {X : Cx}
theorem s_chain {a b d : Expr} {op op' : CmpOp} {f g h : FE} {o o' : O2} {r r' : R2} {pos : Pos} (ho : OpR X (compareOp op) r) (ho' : OpR X (compareOp op') r') (k : Ok2 c W r o) (k' : Ok2 c W r' o')
    (ha : PE X a (TEx c W f)) (hb : PE X b (TEx c W g)) (hd : PE X d (TEx c W h)) (hm : lastMarks [op, op'] [b, d] = false := by with_unfolding_all rfl) : PE X (.Compare a [op, op'] [b, d] pos) (TEx c W (eCh o o' f g h)) :=
  pe_imp (pe_chain ho ho' ha hb hd hm) fun _ _ _ => chain_of k k'
theorem s_tchain {a b d : Expr} {op op' : CmpOp} {f g h : FE} {o o' : O2} {r r' : R2} {pos : Pos} (ho : OpR X (compareOp op) r) (ho' : OpR X (compareOp op') r') (k : Ok2 c W r o) (k' : Ok2 c W r' o')
    (ha : PE X a (TEx c W f)) (hb : PE X b (TEx c W g)) (hd : PE X d (TEx c W h)) (hm : lastMarks [op, op'] [b, d] = false := by with_unfolding_all rfl) : PT X (.Compare a [op, op'] [b, d] pos) (TTx c W (tE (eCh o o' f g h))) :=
  pt_imp (pt_chain ho ho' ha hb hd hm) fun σ H Q q => test_of (fun _ => chain_of k k') q
/-! ## arguments, displays -/
@[simp] def aNil : FA := fun _ S => .ok [] S
@[simp] def aCons (f : FE) (g : FA) : FA := fun r S => (f r S).bind fun v S1 => (g r S1).bind fun vs S2 => .ok (v :: vs) S2
theorem RI.evs {H H' : Hp} {B B' Z : List Addr} {v : IV} {x : V} (h : RI c H B Z v x) (e : Ev B H B' H') : RI c H' B' Z v x := h.ev e
theorem s_nil : PA X [] (TAx c W aNil) := pa_imp pa_nil fun σ H Q ⟨B, Z, r, S, s, rr, p⟩ => p.ret s [] .nil
theorem s_cons {e : Expr} {es : List Expr} {f : FE} {g : FA} (h : PE X e (TEx c W f)) (t : PA X es (TAx c W g)) (hs : starEach (e :: es) X.env = (false, eval e X.env) :: starEach es X.env := by rfl) : PA X (e :: es) (TAx c W (aCons f g)) :=
  pa_imp (pa_cons h t hs) fun σ H Q ⟨B, Z, r, S, s, rr, p⟩ => ⟨B, Z, r, S, s, rr, (Post.bind p).imp fun v S1 B1 H1 e1 s1 q x hx =>
    ⟨B1, Z, r, S1, s1, rr.ev e1, (Post.bind q).imp fun vs S2 B2 H2 e2 s2 q2 xs hxs => q2.ret s2 (x :: xs) (.cons (hx.ev e2) hxs)⟩⟩
/-- *e -/
@[simp] def itemsOf (v : IV) (S : Sto) : Option (List PyData) := match v with
  | .d (.list ds) => some ds
  | .d (.tuple ds) => some ds
  | .ref n => (match S[n]? with
    | some (.lst ds) => some ds
    | _ => none)
  | _ => none
theorem items_of {B Z : List Addr} {H : Hp} {S : Sto} {v : IV} {x : V} {ds : List PyData} (s : SR c H B Z S) (h : RI c H B Z v x) (e : itemsOf v S = some ds) : ∃ a xs, x = .ref a ∧ (SqT c.K H a xs ∨ SqL c.K H a xs) ∧ RDs c.K H (B ++ Z) ds xs := by
  unfold itemsOf at e
  split at e
  · cases e
    cases h with
    | d h => obtain ⟨a, xs, h1, h2, h3⟩ := h.lstS; exact ⟨a, xs, h1, .inr (.of h2), h3⟩
  · cases e
    cases h with
    | d h => obtain ⟨a, xs, h1, h2, h3⟩ := h.tupS; exact ⟨a, xs, h1, .inl h2, h3⟩
  · split at e
    · rename_i q
      cases e
      obtain ⟨b, xs, h1, _, h2, h3⟩ := s.lst q h
      exact ⟨b, xs, h1, .inr (.of h2), h3⟩
    · cases e
  · cases e
@[simp] def aStar (f : FE) (g : FA) : FA := fun r S => (f r S).bind fun v S1 => match itemsOf v S1 with
  | some ds => (g r S1).bind fun vs S2 => .ok (ds.map IV.d ++ vs) S2
  | none => .bad
theorem RIs.ofDs {H : Hp} {B Z : List Addr} : ∀ {ds : List PyData} {xs : List V}, RDs c.K H (B ++ Z) ds xs → RIs c H B Z (ds.map IV.d) xs
  | _, _, .nil => .nil
  | _, _, .cons h t => .cons (.d h) (RIs.ofDs t)
theorem RIs.app {H : Hp} {B Z : List Addr} : ∀ {is js : List IV} {xs ys : List V}, RIs c H B Z is xs → RIs c H B Z js ys → RIs c H B Z (is ++ js) (xs ++ ys)
  | _, _, _, _, .nil, s => s
  | _, _, _, _, .cons h t, s => .cons h (RIs.app t s)
theorem s_star {e : Expr} {es : List Expr} {f : FE} {g : FA} {p : Pos} (hc : X.calm = true) (hK : c.K = X.K) (h : PE X e (TEx c W f)) (t : PA X es (TAx c W g)) (hs : starEach (.Starred e p :: es) X.env = (true, eval e X.env) :: starEach es X.env := by rfl) : PA X (.Starred e p :: es) (TAx c W (aStar f g)) :=
  pa_imp (StX.pa_star h t hs) fun σ H Q ⟨B, Z, r, S, s, rr, p⟩ => ⟨B, Z, r, S, s, rr, (Post.bind p).imp fun v S1 B1 H1 e1 s1 q x hx => by
    split at q
    · rename_i ds q1
      obtain ⟨a, xs, h1, h2, h3⟩ := items_of s1 hx q1
      refine ⟨a, xs, h1, by rw [← hK]; exact h2, ⟨B1, Z, r, S1, s1, rr.ev e1, (Post.bind q).imp fun vs S2 B2 H2 e2 s2 q2 ys hys => q2.ret s2 _ (.app (.ofDs (h3.ev e2)) hys)⟩⟩
    · exact q.elim⟩
/-- all data -/
@[simp] def datas : List IV → Option (List PyData)
  | [] => some []
  | .d x :: r => (match datas r with
    | some ds => some (x :: ds)
    | none => none)
  | _ :: _ => none
theorem RIs.datas {H : Hp} {B Z : List Addr} : ∀ {is : List IV} {xs : List V} {ds : List PyData}, RIs c H B Z is xs → MI.datas is = some ds → RDs c.K H (B ++ Z) ds xs
  | [], _, _, .nil, e => by cases e; exact .nil
  | .d x :: r, _, ds, .cons h t, e => by
    unfold MI.datas at e
    split at e
    · rename_i ds' q
      cases e
      cases h with
      | d h => exact .cons h (RIs.datas t q)
    · cases e
theorem RIs.length {H : Hp} {B Z : List Addr} : ∀ {is : List IV} {xs : List V}, RIs c H B Z is xs → is.length = xs.length
  | _, _, .nil => rfl
  | _, _, .cons _ t => congrArg (· + 1) (RIs.length t)
@[simp] def mkTup : List IV → Sto → Out IV := fun vs S => if vs.length ≤ 1000 then (match datas vs with
  | some ds => .ok (.d (.tuple ds)) S
  | none => .ok (.tup vs) S) else .bad
@[simp] def eTup (f : FA) : FE := fun r S => (f r S).bind mkTup
/-- a list display: frozen, or an object of the store -/
@[simp] def mkLst : List IV → Sto → Out IV := fun vs S => if vs.length ≤ 1000 then (match datas vs with
  | some ds => .ok (.d (.list ds)) S
  | none => .bad) else .bad
@[simp] def mkLstM : List IV → Sto → Out IV := fun vs S => if vs.length ≤ 1000 then (match datas vs with
  | some ds => .ok (.ref S.length) (S ++ [.lst ds])
  | none => .bad) else .bad
@[simp] def eLst (f : FA) : FE := fun r S => (f r S).bind mkLst
@[simp] def eLstM (f : FA) : FE := fun r S => (f r S).bind mkLstM
theorem k1000 {n : Nat} (h : n ≤ 1000) : n ≤ sizeLine := Nat.le_trans h (by decide)
theorem s_tup {es : List Expr} {f : FA} {x1} {pos : Pos} (h : PA X es (TAx c W f)) : PE X (.Tuple es x1 pos) (TEx c W (eTup f)) :=
  pe_imp (pe_tupF h) fun σ H Q ⟨B, Z, r, S, s, rr, p⟩ => ⟨B, Z, r, S, s, rr, (Post.bind p).imp fun vs S1 B1 H1 e1 s1 q xs hxs => by
    unfold mkTup at q
    split at q
    · rename_i hl
      refine ⟨k1000 (by rw [← hxs.length]; exact hl), fun a oa ha toa => ?_⟩
      split at q
      · rename_i ds q1
        exact q B1 _ (Ev.new s1 ha) (s1.new ha) _ (.d (RD.newTup s1 ha toa (hxs.datas q1)))
      · exact q B1 _ (Ev.new s1 ha) (s1.new ha) _ (.tup upd_same toa (s1.out ha) (hxs.ev (Ev.new s1 ha)))
    · exact q.elim⟩
theorem s_lst {es : List Expr} {f : FA} {pos : Pos} (h : PA X es (TAx c W f)) : PE X (.List es pos) (TEx c W (eLst f)) :=
  pe_imp (pe_lst h) fun σ H Q ⟨B, Z, r, S, s, rr, p⟩ => ⟨B, Z, r, S, s, rr, (Post.bind p).imp fun vs S1 B1 H1 e1 s1 q xs hxs => by
    unfold mkLst at q
    split at q
    · rename_i hl
      refine ⟨k1000 (by rw [← hxs.length]; exact hl), fun a ha => ?_⟩
      split at q
      · rename_i ds q1
        exact q B1 _ (Ev.new s1 ha) (s1.new ha) _ (.d (RD.newList s1 ha (hxs.datas q1)))
      · exact q.elim
    · exact q.elim⟩
theorem s_lstM {es : List Expr} {f : FA} {pos : Pos} (h : PA X es (TAx c W f)) : PE X (.List es pos) (TEx c W (eLstM f)) :=
  pe_imp (pe_lst h) fun σ H Q ⟨B, Z, r, S, s, rr, p⟩ => ⟨B, Z, r, S, s, rr, (Post.bind p).imp fun vs S1 B1 H1 e1 s1 q xs hxs => by
    unfold mkLstM at q
    split at q
    · rename_i hl
      refine ⟨k1000 (by rw [← hxs.length]; exact hl), fun a ha => ?_⟩
      split at q
      · rename_i ds q1
        exact push_list s1 (hxs.datas q1) q ha
      · exact q.elim
    · exact q.elim⟩
/-! ## subscripts -/
theorem atI_of {K : PySem.W.Frag} {H : Hp} {bd : List Addr} {ds : List PyData} {xs : List V} {i : Int} {d : PyData} (r : RDs K H bd ds xs) (e : atI ds i = some d) : ∃ x, atI xs i = some x ∧ RD K H bd d x := by
  unfold atI at e ⊢
  rw [← r.length]
  cases q : ixN ds.length i with
  | none => rw [q] at e; cases e
  | some j =>
    rw [q] at e
    have e : ds[j]? = some d := e
    exact r.get e
theorem RIs.nth {H : Hp} {B Z : List Addr} : ∀ {us : List IV} {xs : List V} {i : Nat} {u : IV}, RIs c H B Z us xs → us[i]? = some u → ∃ x, xs[i]? = some x ∧ RI c H B Z u x
  | _, _, _, _, .nil, q => by simp at q
  | _, _, 0, _, .cons h _, q => by simp at q; subst q; exact ⟨_, rfl, h⟩
  | _, _, i + 1, _, .cons _ t, q => by simpa using RIs.nth (i := i) t (by simpa using q)
theorem atIs {H : Hp} {B Z : List Addr} {us : List IV} {xs : List V} {i : Int} {u : IV} (r : RIs c H B Z us xs) (e : atI us i = some u) : ∃ x, atI xs i = some x ∧ RI c H B Z u x := by
  unfold atI at e ⊢
  rw [← r.length]
  cases q : ixN us.length i with
  | none => rw [q] at e; cases e
  | some j =>
    rw [q] at e
    have e : us[j]? = some u := e
    exact r.nth e
@[simp] def oIx : O2 := fun v w S => match w with
  | .d (.int i) => (match v with
    | .d (.str z) => if z.length ≤ sizeLine then (match atI z.cps.toList i with
      | some k => .ok (.d (.str ⟨#[k]⟩)) S
      | none => .bad) else .bad
    | .scr ns => (match atI ns i with
      | some k => .ok (.d (.int k)) S
      | none => .bad)
    | .tup us => (match atI us i with
      | some u => .ok u S
      | none => .bad)
    | _ => (match itemsOf v S with
      | some ds => (match atI ds i with
        | some d => .ok (.d d) S
        | none => .bad)
      | none => .bad))
  | _ => .bad
theorem RI.scrS {H : Hp} {B Z : List Addr} {ns : List Int} {x : V} (h : RI c H B Z (.scr ns) x) : ∃ a, x = .ref a ∧ SqL c.K H a (ns.map V.int) := by
  cases h with
  | scr h _ => exact ⟨_, rfl, .inl h⟩
  | scrK h => exact ⟨_, rfl, .inr h⟩
theorem atI_map {α β : Type} (f : α → β) {xs : List α} {i : Int} {v : α} (h : atI xs i = some v) : atI (xs.map f) i = some (f v) := by
  unfold atI at h ⊢
  rw [List.length_map]
  cases q : ixN xs.length i with
  | none => rw [q] at h; cases h
  | some j =>
    rw [q] at h
    have h : xs[j]? = some v := h
    show (xs.map f)[j]? = some (f v)
    rw [List.getElem?_map, h] <;> rfl
theorem k_ix : Ok2 c W (rIx c.K) oIx := by
  intro σ B Z H S v w x y Q s rv rw_ p
  unfold oIx at p
  split at p
  · rename_i i
    cases rw_ with
    | d rw_ =>
      cases rw_
      split at p
      · rename_i z
        split at p
        · rename_i hl
          split at p
          · rename_i k e
            cases rv with | d rv => cases rv; exact .inr (.inr ⟨_, _, k, rfl, rfl, hl, e, p.ret s _ (.d (.str _))⟩)
          · exact p.elim
        · exact p.elim
      · split at p
        · rename_i ns k e
          obtain ⟨a, rfl, h⟩ := rv.scrS
          exact .inl ⟨a, _, _, _, rfl, rfl, h, atI_map V.int e, p.ret s _ (.d (.int _))⟩
        · exact p.elim
      · rename_i us
        split at p
        · rename_i u e
          cases rv with
          | tup h to hb r =>
            obtain ⟨z, h3, h4⟩ := atIs r e
            exact .inr (.inl ⟨_, _, _, z, rfl, rfl, sqF h, h3, p.ret s _ h4⟩)
        · exact p.elim
      · split at p
        · rename_i ds e
          split at p
          · rename_i d q
            obtain ⟨a, xs, rfl, h1, h2⟩ := items_of s rv e
            obtain ⟨z, h3, h4⟩ := atI_of h2 q
            rcases h1 with h1 | h1
            · exact .inr (.inl ⟨a, xs, _, z, rfl, rfl, h1, h3, p.ret s _ (.d h4)⟩)
            · exact .inl ⟨a, xs, _, z, rfl, rfl, h1, h3, p.ret s _ (.d h4)⟩
          · exact p.elim
        · exact p.elim
  · exact p.elim
theorem s_ix {a b : Expr} {f g : FE} {pos : Pos} (hK : c.K = X.K) (ha : PE X a (TEx c W f)) (hb : PE X b (TEx c W g)) (hs : PlainIx b) : PE X (.Subscript a b pos) (TEx c W (eOp2 oIx f g)) :=
  pe_imp (pe_ix ix_seq ha hb hs) fun σ H Q h => two_of (by rw [← hK]; exact k_ix) h
/-! slices -/
abbrev FO := Rho → Sto → Out (Option Int)
@[simp] def pNo : FO := fun _ S => .ok none S
@[simp] def pSm (f : FE) : FO := fun r S => (f r S).bind fun v S' => match v with
  | .d (.int i) => .ok (some i) S'
  | _ => .bad
def TOx (c : Ct) (W : WX) (f : FO) : TO := fun σ H Q => ∃ B Z r S, SR c H B Z S ∧ RR c H B Z r σ ∧ Post c W B Z H σ (f r S) fun v _ _ H' => Q v H'
theorem s_pno : PO X none (TOx c W pNo) := ⟨fun pins s σ H Q I ⟨B, Z, r, S, sr, rr, p⟩ => po_none.run pins s σ H Q I (p.ret sr)⟩
theorem s_psm {e : Expr} {f : FE} (h : PE X e (TEx c W f)) : PO X (some e) (TOx c W (pSm f)) := ⟨fun pins s σ H Q I ⟨B, Z, r, S, sr, rr, p⟩ => (po_some h).run pins s σ H Q I
  ⟨B, Z, r, S, sr, rr, (Post.bind p).imp fun v S' B' H' e s' q x hx => by
    split at q
    · cases hx with | d hx => cases hx; exact ⟨_, rfl, q.ret s'⟩
    · exact q.elim⟩⟩
def cutD (xs : List PyData) (lo hi : Option Int) : List PyData := (xs.drop (HT.sIx xs.length 0 lo)).take (HT.sIx xs.length xs.length hi - HT.sIx xs.length 0 lo)
@[simp] def oSl (v : IV) (lo hi : Option Int) (S : Sto) : Out IV := match v with
  | .d (.str z) => if z.length ≤ sizeLine then .ok (.d (.str (cutS z lo hi))) S else .bad
  | .d (.tuple ds) => .ok (.d (.tuple (cutD ds lo hi))) S
  | .d (.list ds) => .ok (.d (.list (cutD ds lo hi))) S
  | .ref n => (match S[n]? with
    | some (.lst ds) => .ok (.d (.list (cutD ds lo hi))) S
    | _ => .bad)
  | .scr ns => .ok (.d (.list (cutD (ns.map PyData.int) lo hi))) S
  | _ => .bad
@[simp] def eSl (f : FE) (lo hi : FO) : FE := fun r S => (f r S).bind fun v S1 => (lo r S1).bind fun l S2 => (hi r S2).bind fun h S3 => oSl v l h S3
def rSl (K : PySem.W.Frag) : V → Option Int → Option Int → Hp → VK → Prop := fun x lo hi H Q => rSlAF K x lo hi H Q ∨ rSlL K x lo hi H Q ∨ rSlS x lo hi H Q
theorem RDs.cut {K : PySem.W.Frag} {H : Hp} {bd : List Addr} {ds : List PyData} {xs : List V} (r : RDs K H bd ds xs) (lo hi : Option Int) : RDs K H bd (cutD ds lo hi) (cutV xs lo hi) := by
  unfold cutD cutV
  rw [r.length]
  exact (r.drop _).take _
theorem cut_all {xs : List PyData} {lo hi : Option Int} (h : HT.sIx xs.length 0 lo = 0 ∧ HT.sIx xs.length xs.length hi = xs.length) : cutD xs lo hi = xs := by
  unfold cutD
  rw [h.1, h.2]
  simp
theorem k_sl {σ : L2.St} {B Z : List Addr} {H : Hp} {S : Sto} {v : IV} {x : V} {lo hi : Option Int} {Q : VK} (s : SR c H B Z S) (rv : RI c H B Z v x)
    (p : Post c W B Z H σ (oSl v lo hi S) (fun z _ B' H' => ∀ y, RI c H' B' Z z y → Q y H')) : rSl c.K x lo hi H Q := by
  unfold oSl at p
  split at p
  · split at p
    · rename_i hl
      cases rv with | d rv => cases rv; exact .inr (.inr ⟨_, rfl, hl, p.ret s _ (.d (.str _))⟩)
    · exact p.elim
  · cases rv with
    | d rv =>
      have r0 := rv
      obtain ⟨a, xs, rfl, h1, h2⟩ := rv.tupS
      refine .inl ⟨a, xs, rfl, h1, fun hw => ?_, fun hw q oq hq toq => p B _ (Ev.new s hq) (s.new hq) _ (.d (RD.newTup s hq toq (h2.cut lo hi)))⟩
      rw [← h2.length] at hw
      rw [cut_all hw] at p
      exact p.ret s _ (.d r0)
  · cases rv with
    | d rv =>
      obtain ⟨a, xs, rfl, h1, h2⟩ := rv.lstS
      exact .inr (.inl ⟨a, xs, rfl, .of h1, fun q hq => p B _ (Ev.new s hq) (s.new hq) _ (.d (RD.newList s hq (h2.cut lo hi)))⟩)
  · split at p
    · rename_i e
      obtain ⟨b, xs, rfl, _, h1, h2⟩ := s.lst e rv
      exact .inr (.inl ⟨b, xs, rfl, .of h1, fun q hq => p B _ (Ev.new s hq) (s.new hq) _ (.d (RD.newList s hq (h2.cut lo hi)))⟩)
    · exact p.elim
  · obtain ⟨a, rfl, h⟩ := rv.scrS
    exact .inr (.inl ⟨a, _, rfl, h, fun q hq => p B _ (Ev.new s hq) (s.new hq) _ (.d (RD.newList s hq ((rds_ints _).cut lo hi)))⟩)
  · exact p.elim
theorem s_sl {e : Expr} {lo hi : Option Expr} {f : FE} {l h : FO} {p2 pos : Pos} (hK : c.K = X.K) (he : PE X e (TEx c W f)) (hl : PO X lo (TOx c W l)) (hh : PO X hi (TOx c W h)) : PE X (.Subscript e (.Slice lo hi none p2) pos) (TEx c W (eSl f l h)) :=
  pe_imp (pe_slice (r := rSl X.K) (sl_tupAF.or (sl_list.or sl_str)) he hl hh) fun σ H Q ⟨B, Z, r, S, s, rr, p⟩ => ⟨B, Z, r, S, s, rr, (Post.bind p).imp fun v S1 B1 H1 e1 s1 q1 x hx =>
    ⟨B1, Z, r, S1, s1, rr.ev e1, (Post.bind q1).imp fun l S2 B2 H2 e2 s2 q2 => ⟨B2, Z, r, S2, s2, (rr.ev e1).ev e2, (Post.bind q2).imp fun h S3 B3 H3 e3 s3 q3 => by
      rw [← hK]
      exact k_sl s3 ((hx.ev e2).ev e3) q3⟩⟩⟩
end
end MI
set_option maxRecDepth 100000
set_option maxHeartbeats 4000000
namespace MI
open PySem L2
/-! ## statements -/
inductive SOut where
  | nx (r : Rho) (S : Sto)
  | ret (v : IV) (S : Sto)
  | brk (r : Rho) (S : Sto)
  | ct (r : Rho) (S : Sto)
  | exn (n : Str) (v : PyData) (r : Rho) (S : Sto)
  | bad
abbrev FS := Rho → Sto → SOut
abbrev FG := IV → Rho → Sto → SOut
/-- a statement goes on behind an expression -/
def Out.to {α : Type} (o : Out α) (r : Rho) (f : α → Sto → SOut) : SOut := match o with
  | .ok a S => f a S
  | .exn n v S => .exn n v r S
  | .bad => .bad
def SOut.seq (o : SOut) (f : Rho → Sto → SOut) : SOut := match o with
  | .nx r S => f r S
  | o => o
def PostS (c : Ct) (W : WX) (B Z : List Addr) (H : Hp) (D : Ends) (o : SOut) : Prop := match o with
  | .nx r S => ∀ σ B' H', Ev B H B' H' → SR c H' B' Z S → RR c H' B' Z r σ → D.nx σ H'
  | .brk r S => ∀ σ B' H', Ev B H B' H' → SR c H' B' Z S → RR c H' B' Z r σ → D.bk σ H'
  | .ct r S => ∀ σ B' H', Ev B H B' H' → SR c H' B' Z S → RR c H' B' Z r σ → D.ct σ H'
  | .ret v S => ∀ x B' H', Ev B H B' H' → SR c H' B' Z S → RI c H' B' Z v x → D.rt x H'
  | .exn n v r S => ∀ cls dd σ B' H', Ev B H B' H' → SR c H' B' Z S → RR c H' B' Z r σ → RX c H' (B' ++ Z) n v cls dd → W cls dd σ H'
  | .bad => False
def TSx (c : Ct) (W : WX) (f : FS) : TS := fun D σ H => ∃ B Z r S, SR c H B Z S ∧ RR c H B Z r σ ∧ PostS c W B Z H D (f r S)
def TGx (c : Ct) (W : WX) (g : FG) : TG := fun x σ H Q => ∃ B Z r S v, SR c H B Z S ∧ RR c H B Z r σ ∧ RI c H B Z v x ∧ PostS c W B Z H { nx := Q, rt := fun _ _ => False, bk := fun _ _ => False, ct := fun _ _ => False } (g v r S)
section
variable {c : Ct} {W : WX} {X : Cx} {B Z B1 : List Addr} {H H1 : Hp} {σ : L2.St} {α : Type} {D D' : Ends}
theorem PostS.far {o : SOut} (e : Ev B H B1 H1) (h : PostS c W B Z H D o) : PostS c W B1 Z H1 D o := by
  cases o with
  | nx r S => exact fun σ B' H' f => h σ B' H' (e.trans f)
  | brk r S => exact fun σ B' H' f => h σ B' H' (e.trans f)
  | ct r S => exact fun σ B' H' f => h σ B' H' (e.trans f)
  | ret v S => exact fun x B' H' f => h x B' H' (e.trans f)
  | exn n v r S => exact fun cls dd σ B' H' f => h cls dd σ B' H' (e.trans f)
  | bad => exact h
/-- the end of an expression -/
theorem Post.to {o : Out α} {r : Rho} {f : α → Sto → SOut} (rr : RR c H B Z r σ) (h : PostS c W B Z H D (o.to r f)) : Post c W B Z H σ o fun v S' B' H' => PostS c W B' Z H' D (f v S') := by
  cases o with
  | ok v S =>
    have h : PostS c W B Z H D (f v S) := h
    exact fun B' H' e s => h.far e
  | exn n v S => exact fun cls dd B' H' e s rx => h cls dd σ B' H' e s (rr.ev e) rx
  | bad => exact h
theorem PostS.nxr {r : Rho} {S : Sto} (s : SR c H B Z S) (rr : RR c H B Z r σ) (h : PostS c W B Z H D (.nx r S)) : D.nx σ H := h σ B H (Ev.refl s) s rr
theorem PostS.retr {v : IV} {x : V} {S : Sto} (s : SR c H B Z S) (rv : RI c H B Z v x) (h : PostS c W B Z H D (.ret v S)) : D.rt x H := h x B H (Ev.refl s) s rv
/-- one after the other, in another's ends -/
theorem PostS.seq {o : SOut} {f : Rho → Sto → SOut} (h : PostS c W B Z H D (o.seq f)) (hn : ∀ r S σ B' H', Ev B H B' H' → SR c H' B' Z S → RR c H' B' Z r σ → PostS c W B' Z H' D (f r S) → D'.nx σ H')
    (h1 : D'.rt = D.rt) (h2 : D'.bk = D.bk) (h3 : D'.ct = D.ct) : PostS c W B Z H D' o := by
  cases o with
  | nx r S =>
    have h : PostS c W B Z H D (f r S) := h
    exact fun σ B' H' e s rr => hn r S σ B' H' e s rr (h.far e)
  | brk r S =>
    show ∀ σ B' H', _ → _ → _ → D'.bk σ H'
    rw [h2]; exact h
  | ct r S =>
    show ∀ σ B' H', _ → _ → _ → D'.ct σ H'
    rw [h3]; exact h
  | ret v S =>
    show ∀ x B' H', _ → _ → _ → D'.rt x H'
    rw [h1]; exact h
  | exn n v r S => exact h
  | bad => exact h
/-! ### blocks, small statements -/
@[simp] def sNil : FS := fun r S => .nx r S
@[simp] def sCons (a b : FS) : FS := fun r S => (a r S).seq b
theorem s_snil : PSs X [] (TSx c W sNil) := pss_imp pss_nil fun D σ H ⟨B, Z, r, S, s, rr, p⟩ => p.nxr s rr
theorem s_scons {st : Stmt} {rest : List Stmt} {a b : FS} (h1 : PS X st (TSx c W a)) (h2 : PSs X rest (TSx c W b)) : PSs X (st :: rest) (TSx c W (sCons a b)) :=
  pss_imp (pss_cons h1 h2) fun D σ H ⟨B, Z, r, S, s, rr, p⟩ => ⟨B, Z, r, S, s, rr, p.seq (fun r' S' σ' B' H' e s' rr' q => ⟨B', Z, r', S', s', rr', q⟩) rfl rfl rfl⟩
@[simp] def sPass : FS := fun r S => .nx r S
@[simp] def sBrk : FS := fun r S => .brk r S
@[simp] def sCt : FS := fun r S => .ct r S
@[simp] def sEx (f : FE) : FS := fun r S => (f r S).to r fun _ S' => .nx r S'
theorem s_ex {e : Expr} {f : FE} {pos : Pos} (h : PE X e (TEx c W f)) (hs : swapsWith e none pos.line X.env = pure false := by rfl) : PS X (.Expr e pos) (TSx c W (sEx f)) :=
  ps_imp (ps_expr h hs) fun D σ H ⟨B, Z, r, S, s, rr, p⟩ => ⟨B, Z, r, S, s, rr, (Post.to rr p).imp fun v S' B' H' e s' q x hx => q.nxr s' (rr.ev e)⟩
@[simp] def sRet (f : FE) : FS := fun r S => (f r S).to r fun v S' => .ret v S'
theorem s_ret {e : Expr} {f : FE} {pos : Pos} (h : PE X e (TEx c W f)) : PS X (.Return (some e) pos) (TSx c W (sRet f)) :=
  ps_imp (ps_ret h) fun D σ H ⟨B, Z, r, S, s, rr, p⟩ => ⟨B, Z, r, S, s, rr, (Post.to rr p).imp fun v S' B' H' e s' q x hx => q.retr s' hx⟩
@[simp] def sIf (t : FT) (a b : FS) : FS := fun r S => (t r S).to r fun k S' => if k = true then a r S' else b r S'
theorem s_sif {t : Expr} {a b : List Stmt} {ft : FT} {fa fb : FS} {pos : Pos} (ht : PT X t (TTx c W ft)) (ha : PSs X a (TSx c W fa)) (hb : PSs X b (TSx c W fb)) : PS X (.If t a b pos) (TSx c W (sIf ft fa fb)) :=
  ps_imp (ps_if ht ha hb) fun D σ H ⟨B, Z, r, S, s, rr, p⟩ => ⟨B, Z, r, S, s, rr, (Post.to rr p).imp fun k S' B' H' e s' q => by
    cases k with
    | true => exact ⟨B', Z, r, S', s', rr.ev e, q⟩
    | false => exact ⟨B', Z, r, S', s', rr.ev e, q⟩⟩
/-! ### targets -/
@[simp] def gNm (i : Nat) : FG := fun v r S => .nx (r.set i (some v)) S
theorem s_gnm {i : Nat} {x : Str} {pos : Pos} (h : PG X (.Name x pos) (gName i)) : PG X (.Name x pos) (TGx c W (gNm i)) :=
  ⟨fun pins s σ H v u Q I rv ⟨B, Z, r, S, iv, sr, rr, ri, p⟩ => h.run pins s σ H v u Q I rv (p (σ.set i (some v)) B H (Ev.refl sr) sr (rr.set ri i))⟩
/-- several targets -/
abbrev FGs := List IV → Rho → Sto → SOut
@[simp] def gsNil : FGs := fun vs r S => match vs with
  | [] => .nx r S
  | _ => .bad
@[simp] def gsCons (g : FG) (t : FGs) : FGs := fun vs r S => match vs with
  | v :: rest => (g v r S).seq (t rest)
  | [] => .bad
def TGsx (c : Ct) (W : WX) (g : FGs) : TGs := fun xs σ H Q => ∃ B Z r S vs, SR c H B Z S ∧ RR c H B Z r σ ∧ RIs c H B Z vs xs ∧ PostS c W B Z H { nx := Q, rt := fun _ _ => False, bk := fun _ _ => False, ct := fun _ _ => False } (g vs r S)
theorem s_gsnil : PGs X [] (TGsx c W gsNil) := ⟨fun pins s σ H xs us Q I rv ⟨B, Z, r, S, vs, sr, rr, ri, p⟩ => pgs_nil.run pins s σ H xs us Q I rv (by
  unfold gsNil at p
  split at p
  · cases ri; exact ⟨rfl, p.nxr sr rr⟩
  · exact p.elim)⟩
theorem RIs.evs {vs : List IV} {xs : List V} (h : RIs c H B Z vs xs) (e : Ev B H B1 H1) : RIs c H1 B1 Z vs xs := h.ev e
theorem s_gscons {e : Expr} {es : List Expr} {g : FG} {t : FGs} (h1 : PG X e (TGx c W g)) (h2 : PGs X es (TGsx c W t)) (hs : (assignEach (e :: es) X.env).map (·.2) = assign e X.env :: (assignEach es X.env).map (·.2) := by rfl) : PGs X (e :: es) (TGsx c W (gsCons g t)) :=
  ⟨fun pins s σ H xs us Q I rv ⟨B, Z, r, S, vs, sr, rr, ri, p⟩ => (pgs_cons h1 h2 hs).run pins s σ H xs us Q I rv (by
    unfold gsCons at p
    split at p
    · cases ri with
      | cons hv ht =>
        refine ⟨_, _, rfl, B, Z, r, S, _, sr, rr, hv, ?_⟩
        exact p.seq (fun r' S' σ' B' H' e' s' rr' q => ⟨B', Z, r', S', _, s', rr', ht.ev e', q⟩) rfl rfl rfl
    · exact p.elim)⟩
/-- a tuple's items -/
@[simp] def partsT : IV → Option (List IV)
  | .d (.tuple ds) => some (ds.map IV.d)
  | .tup vs => some vs
  | _ => none
@[simp] def gTp (n : Nat) (t : FGs) : FG := fun v r S => match partsT v with
  | some vs => if vs.length = n then t vs r S else .bad
  | none => .bad
theorem parts_of {v : IV} {x : V} {vs : List IV} (h : RI c H B Z v x) (e : partsT v = some vs) : ∃ a xs, x = .ref a ∧ SqT c.K H a xs ∧ RIs c H B Z vs xs := by
  unfold partsT at e
  split at e
  · cases e
    cases h with
    | d h => obtain ⟨a, xs, h1, h2, h3⟩ := h.tupS; exact ⟨a, xs, h1, h2, .ofDs h3⟩
  · cases e
    cases h with
    | tup h to hb r => exact ⟨_, _, rfl, sqF h, r⟩
  · cases e
theorem s_gtp {es : List Expr} {k n : Nat} {t : FGs} {pos : Pos} (hc : X.calm = true) (hK : c.K = X.K) (h : PGs X es (TGsx c W t)) (hn : (assignEach es X.env).length = n := by rfl) (hst : (assignEach es X.env).findIdx? (·.1) = none := by rfl) :
    PG X (.Tuple es k pos) (TGx c W (gTp n t)) := ⟨fun pins s σ H v u Q I rv ⟨B, Z, r, S, iv, sr, rr, ri, p⟩ => (pg_tup hc h hn hst).run pins s σ H v u Q I rv (by
  unfold gTp at p
  split at p
  · rename_i vs q
    split at p
    · rename_i hl
      obtain ⟨a, xs, h1, h2, h3⟩ := parts_of ri q
      exact ⟨a, xs, h1, by rw [← hK]; exact h2, by rw [← h3.length]; exact hl, B, Z, r, S, vs, sr, rr, h3, p⟩
    · exact p.elim
  · exact p.elim)⟩
/-- xs[i] = v of an object of the store -/
@[simp] def stPut (o i v : IV) (S : Sto) : Option Sto := match o, i with
  | .ref n, .d (.int k) => (match S[n]?, v with
    | some (.lst ds), .d d => (match ixN ds.length k with
      | some j => some (S.set n (.lst (ds.set j d)))
      | none => none)
    | _, _ => none)
  | _, _ => none
@[simp] def gSb (o i : FE) : FG := fun v r S => (o r S).to r fun ov S1 => (i r S1).to r fun iv S2 => match stPut ov iv v S2 with
  | some S3 => .nx r S3
  | none => .bad
theorem SR.putL {S : Sto} {n : Nat} {b : Addr} {ds : List PyData} {xs : List V} (s : SR c H B Z S) (hb : B[n]? = some b) (r : RDs c.K H (B ++ Z) ds xs) : SR c (upd H b (.lst xs)) B Z (S.set n (.lst ds)) ∧ Ev B H B (upd H b (.lst xs)) := by
  have e := Ev.put (o := HO.lst xs) s hb
  exact ⟨s.put hb ⟨xs, upd_same, r.ev e⟩, e⟩
theorem k_put {o i v : IV} {xo xi xv : V} {S S' : Sto} {Q : Hp → Prop} (s : SR c H B Z S) (ro : RI c H B Z o xo) (ri : RI c H B Z i xi) (rv : RI c H B Z v xv) (e : stPut o i v S = some S')
    (h : ∀ H', Ev B H B H' → SR c H' B Z S' → Q H') : rSetL xo xi xv H Q := by
  unfold stPut at e
  split at e
  · rename_i n k
    split at e
    · rename_i ds d q
      split at e
      · rename_i j hj
        cases e
        obtain ⟨b, xs, rfl, hb, h1, h2⟩ := s.lst q ro
        cases ri with
        | d ri =>
          cases ri
          cases rv with
          | d rv =>
            have w := s.putL hb (h2.set j rv)
            exact ⟨b, xs, k, j, rfl, rfl, h1, by rw [← h2.length]; exact hj, h _ w.2 w.1⟩
      · cases e
    · cases e
  · cases e
theorem s_gsb {o i : Expr} {fo fi : FE} {pos : Pos} (ho : PE X o (TEx c W fo)) (hi : PE X i (TEx c W fi))
    (ha : ∀ v, assign (.Subscript o i pos) X.env v = (do
      let ov ← holding [v] (eval o X.env); let iv ← holding [v, ov] (eval i X.env); standAt pos; holding [v, ov, iv] (setItem ov iv v); release [v, ov, iv] []) := by intro _; rfl) : PG X (.Subscript o i pos) (TGx c W (gSb fo fi)) :=
  ⟨fun pins s σ H v u Q I rv ⟨B, Z, r, S, iv, sr, rr, ri, p⟩ => (pg_sub ho hi set_list ha).run pins s σ H v u Q I rv
    ⟨B, Z, r, S, sr, rr, (Post.to rr p).imp fun ov S1 B1 H1 e1 s1 q1 xo hxo => ⟨B1, Z, r, S1, s1, rr.ev e1, (Post.to (rr.ev e1) q1).imp fun jv S2 B2 H2 e2 s2 q2 xi hxi => by
      split at q2
      · rename_i S3 q3
        exact k_put s2 (hxo.ev e2) hxi ((ri.ev e1).ev e2) q3 fun H' e3 s3 => q2 σ B2 H' e3 s3 (((rr.ev e1).ev e2).ev e3)
      · exact q2.elim⟩⟩⟩
@[simp] def sAs (f : FE) (g : FG) : FS := fun r S => (f r S).to r fun v S' => g v r S'
theorem asg_of {f : FE} {g : FG} {D : Ends} {σ : L2.St} {H : Hp} (h : TSx c W (sAs f g) D σ H) (hg : ∀ v r S B Z H x σ, SR c H B Z S → RR c H B Z r σ → RI c H B Z v x → PostS c W B Z H D (g v r S) → PostS c W B Z H { nx := D.nx, rt := fun _ _ => False, bk := fun _ _ => False, ct := fun _ _ => False } (g v r S)) :
    tAsg (TEx c W f) (TGx c W g) D σ H := by
  obtain ⟨B, Z, r, S, s, rr, p⟩ := h
  exact ⟨B, Z, r, S, s, rr, (Post.to rr p).imp fun v S' B' H' e s' q x hx => ⟨B', Z, r, S', v, s', rr.ev e, hx, hg _ _ _ _ _ _ _ _ s' (rr.ev e) hx q⟩⟩
/-- a target's outcome is no break, no continue, no return -/
def GOk (g : FG) : Prop := ∀ v r S, match g v r S with
  | .nx _ _ => True
  | .exn _ _ _ _ => True
  | .bad => True
  | _ => False
theorem GOk.post {g : FG} (k : GOk g) {v : IV} {r : Rho} {S : Sto} (h : PostS c W B Z H D (g v r S)) : PostS c W B Z H { nx := D.nx, rt := fun _ _ => False, bk := fun _ _ => False, ct := fun _ _ => False } (g v r S) := by
  have q := k v r S
  cases e : g v r S with
  | nx r' S' => rw [e] at h; exact h
  | exn n v r' S' => rw [e] at h; exact h
  | bad => rw [e] at h; exact h
  | ret v S' => rw [e] at q; exact q.elim
  | brk r' S' => rw [e] at q; exact q.elim
  | ct r' S' => rw [e] at q; exact q.elim
theorem s_as {tg e : Expr} {f : FE} {g : FG} {pos : Pos} (he : PE X e (TEx c W f)) (hg : PG X tg (TGx c W g)) (k : GOk g) (hs : swapsWithSole [tg] e pos.line X.env = pure false := by rfl) (hw : swappedStores [tg] e X.env = pure none := by rfl)
    (h1 : (assignEach [tg] X.env).map (·.2) = [assign tg X.env] := by rfl) : PS X (.Assign [tg] e pos) (TSx c W (sAs f g)) :=
  ps_imp (ps_asg he hg hs hw h1) fun D σ H h => asg_of h fun v r S B Z H x σ _ _ _ q => k.post q
@[simp] def sSet (f : FE) (i : Nat) : FS := fun r S => (f r S).to r fun v S' => .nx (r.set i (some v)) S'
theorem s_set {i : Nat} {x : Str} {e : Expr} {f : FE} {pos' pos : Pos} (hN : X.N.Nodup) (hi : X.N[i]? = some x) (hx : Loc X.env.scope x) (he : PE X e (TEx c W f)) (hs : swapsWith e (some (.Name x pos')) pos.line X.env = pure false := by rfl)
    (hf : X.fn x = true ∨ X.env.scope.names.lookup x = some .local := by first | exact .inl rfl | exact .inr rfl | assumption) : PS X (.Assign [.Name x pos'] e pos) (TSx c W (sSet f i)) :=
  ps_imp (ps_set hN hi hx he hs hf) fun D σ H ⟨B, Z, r, S, s, rr, p⟩ => ⟨B, Z, r, S, s, rr, (Post.to rr p).imp fun v S' B' H' e s' q x hx => q.nxr s' ((rr.ev e).set hx i)⟩
/-- a, b = x, y -/
@[simp] def sPar (i j : Nat) (f : FA) : FS := fun r S => (f r S).to r fun vs S' => match vs with
  | [v, w] => .nx ((r.set i (some v)).set j (some w)) S'
  | _ => .bad
theorem s_par {i j : Nat} {x y : Str} {a b : Expr} {f : FA} {px py pt pos : Pos} {kt k2 pt2} (hc : X.calm = true) (hN : X.N.Nodup) (hi : X.N[i]? = some x) (hj : X.N[j]? = some y) (hij : i ≠ j) (hx : X.env.scope.names.lookup x = some .local) (hy : X.env.scope.names.lookup y = some .local)
    (ha : PA X [a, b] (TAx c W f)) (hw : swappedStores [.Tuple [.Name x px, .Name y py] kt pt] (.Tuple [a, b] k2 pt2) X.env = pure (some [x, y])) (hs : swapsWithSole [.Tuple [.Name x px, .Name y py] kt pt] (.Tuple [a, b] k2 pt2) pos.line X.env = pure false := by rfl) :
    PS X (.Assign [.Tuple [.Name x px, .Name y py] kt pt] (.Tuple [a, b] k2 pt2) pos) (TSx c W (sPar i j f)) :=
  ps_imp (ps_par hc hN hi hj hij hx hy ha hw hs) fun D σ H ⟨B, Z, r, S, s, rr, p⟩ => ⟨B, Z, r, S, s, rr, (Post.to rr p).imp fun vs S' B' H' e s' q xs hxs => by
    split at q
    · cases hxs with
      | cons h1 t =>
        cases t with
        | cons h2 t =>
          cases t
          exact ⟨_, _, rfl, q.nxr s' (((rr.ev e).set h1 i).set h2 j)⟩
    · exact q.elim⟩
end
end MI
set_option maxRecDepth 100000
set_option maxHeartbeats 4000000
namespace MI
open PySem L2
section
variable {c : Ct} {W : WX} {X : Cx} {B Z B1 : List Addr} {H H1 : Hp} {σ : L2.St} {α : Type} {D D' : Ends}
theorem g_nm {i : Nat} : GOk (gNm i) := fun v r S => trivial
theorem SOut.seq_ok {o : SOut} {f : Rho → Sto → SOut} (h : match o with | .nx _ _ => True | .exn _ _ _ _ => True | .bad => True | _ => False) (k : ∀ r S, match f r S with | .nx _ _ => True | .exn _ _ _ _ => True | .bad => True | _ => False) :
    match o.seq f with | .nx _ _ => True | .exn _ _ _ _ => True | .bad => True | _ => False := by
  cases o with
  | nx r S => exact k r S
  | exn n v r S => trivial
  | bad => trivial
  | ret v S => exact h.elim
  | brk r S => exact h.elim
  | ct r S => exact h.elim
def GsOk (g : FGs) : Prop := ∀ v r S, match g v r S with
  | .nx _ _ => True
  | .exn _ _ _ _ => True
  | .bad => True
  | _ => False
theorem g_snil : GsOk gsNil := fun v r S => by
  unfold gsNil
  cases v <;> trivial
theorem g_scons {g : FG} {t : FGs} (h : GOk g) (k : GsOk t) : GsOk (gsCons g t) := fun v r S => by
  unfold gsCons
  cases v with
  | nil => trivial
  | cons a b => exact SOut.seq_ok (h a r S) fun r S => k b r S
theorem g_tp {n : Nat} {t : FGs} (k : GsOk t) : GOk (gTp n t) := fun v r S => by
  unfold gTp
  cases partsT v with
  | none => trivial
  | some vs =>
    show match (if vs.length = n then t vs r S else SOut.bad) with | .nx _ _ => True | .exn _ _ _ _ => True | .bad => True | _ => False
    by_cases h : vs.length = n
    · rw [if_pos h]; exact k vs r S
    · rw [if_neg h]; trivial
theorem g_sb {o i : FE} : GOk (gSb o i) := fun v r S => by
  unfold gSb
  cases o r S with
  | exn n v S => trivial
  | bad => trivial
  | ok ov S1 =>
    show match (Out.to (i r S1) r fun iv S2 => _) with | .nx _ _ => True | .exn _ _ _ _ => True | .bad => True | _ => False
    cases i r S1 with
    | exn n v S => trivial
    | bad => trivial
    | ok iv S2 =>
      show match (match stPut ov iv v S2 with | some S3 => SOut.nx r S3 | none => SOut.bad) with | .nx _ _ => True | .exn _ _ _ _ => True | .bad => True | _ => False
      cases stPut ov iv v S2 <;> trivial
/-! ## what is walked -/
abbrev FI := Rho → Sto → Out (List PyData)
/-- J gives the items ds one by one, whatever goes on meanwhile -/
def Gives (c : Ct) (B Z : List Addr) (H : Hp) (J : It) (ds : List PyData) : Prop := ∃ (G : Hp → Prop) (Y : Nat → Hp → V → Hp → Prop), Walk J ds.length G Y ∧ (∀ B' H', Ev B H B' H' → G H') ∧
  ∀ (Z' : List Addr), (∀ z, z ∈ Z' → z ∈ Z ∨ H z = none) → ∀ i B' H' S x H2, i < ds.length → Ev B H B' H' → SR c H' B' Z' S → Y i H' x H2 → Ev B' H' B' H2 ∧ SR c H2 B' Z' S ∧ ∃ d, ds[i]? = some d ∧ RD c.K H2 (B' ++ Z') d x
theorem Ev.farZ {H H' : Hp} {B B' Z Z' : List Addr} (e : Ev B H B' H') (hz : ∀ z, z ∈ Z' → z ∈ Z ∨ H z = none) : ∀ a, a ∈ B' ++ Z' → a ∈ B ++ Z ∨ H a = none := fun a m => by
  rcases List.mem_append.mp m with m | m
  · exact e.far a (List.mem_append_left _ m)
  · exact (hz a m).imp (List.mem_append_right _) id
theorem RD.evZ {K : PySem.W.Frag} {H H' : Hp} {B B' Z Z' : List Addr} (e : Ev B H B' H') (hz : ∀ z, z ∈ Z' → z ∈ Z ∨ H z = none) {d : PyData} {v : V} (r : RD K H (B ++ Z) d v) : RD K H' (B' ++ Z') d v := r.mono e.kp (e.farZ hz)
theorem RDs.evZ {K : PySem.W.Frag} {H H' : Hp} {B B' Z Z' : List Addr} (e : Ev B H B' H') (hz : ∀ z, z ∈ Z' → z ∈ Z ∨ H z = none) {d : List PyData} {v : List V} (r : RDs K H (B ++ Z) d v) : RDs K H' (B' ++ Z') d v := r.mono e.kp (e.farZ hz)
def TIx (c : Ct) (W : WX) (f : FI) : TI := fun σ H R => ∃ B Z r S, SR c H B Z S ∧ RR c H B Z r σ ∧ Post c W B Z H σ (f r S) fun ds _ B' H' => ∀ J, Gives c B' Z H' J ds → R J H'
theorem pi_imp {X : Cx} {tg e : Expr} {t t' : TI} (h : PI X tg e t) (k : ∀ σ H Q, t' σ H Q → t σ H Q) : PI X tg e t' := ⟨fun pins s σ H Q I q => h.run pins s σ H Q I (k σ H Q q)⟩
/-- a list or a tuple -/
def iAny (K : PySem.W.Frag) (tl : TE) : TI := fun σ H R => tl σ H fun x H1 => ∃ a xs, x = .ref a ∧ ((SqL K H1 a xs ∧ R (Itl K a) H1) ∨ (SqT K H1 a xs ∧ R (Itt K a) H1))
theorem pi_any {tg l : Expr} {tl : TE} (hl : PE X l tl) : PI X tg l (iAny X.K tl) := by
  refine ⟨fun pins s σ H R I h => thn (hl.run pins s σ H _ I h) fun v s1 ⟨x, H1, I1, r1, a, xs, e, q⟩ => ?_⟩
  subst e
  cases r1
  have fresh : ∀ b, b ∈ [s1.heap.objs.size] → FpOk X pins H1 b := fun b hb => by
    rw [List.mem_singleton.mp hb]
    exact I1.fpOk (Nat.le_refl _) (I1.hok.fresh (Nat.le_refl _))
  rcases q with ⟨hq, q⟩ | ⟨hq, q⟩
  · obtain ⟨its, rv, p, hz⟩ := I1.list hq
    exact wpAny_pyIter_list p.isList ⟨s1.heap.objs.size, [s1.heap.objs.size], _, _, H1, rfl, I1.kept (t' := s1.toks) fun b o e => Heap.get?_push_of_some _ e, turn_list a _, ⟨_, Heap.get?_push_size _ rfl, rfl, rfl⟩, fresh, q⟩
  · obtain ⟨its, rv, p, hz⟩ := I1.tuple hq
    exact wpAny_pyIter_tuple (show s1.heap.IsTuple a its.toArray from p) ⟨s1.heap.objs.size, [s1.heap.objs.size], _, _, H1, rfl, I1.kept (t' := s1.toks) fun b o e => Heap.get?_push_of_some _ e, turn_tuple a _, ⟨_, Heap.get?_push_size _ rfl, rfl, rfl⟩, fresh, q⟩
/-- frozen data -/
@[simp] def frozen : IV → Option (List PyData)
  | .d (.list ds) => some ds
  | .d (.tuple ds) => some ds
  | _ => none
@[simp] def iSeq (f : FE) : FI := fun r S => (f r S).bind fun v S' => match frozen v with
  | some ds => if ds.length < sizeLine then .ok ds S' else .bad
  | none => .bad
theorem gives_tup {a : Addr} {ds : List PyData} (rd : RD c.K H (B ++ Z) (.tuple ds) (.ref a)) : Gives c B Z H (Itt c.K a) ds := by
  have main : ∀ xs, (∀ B' H', Ev B H B' H' → SqT c.K H' a xs) → RDs c.K H (B ++ Z) ds xs → Gives c B Z H (Itt c.K a) ds := fun xs k r => by
    refine ⟨fun H => SqT c.K H a xs, YAt xs, ?_, k, fun Z' hz i B' H' S x H2 hi e s y => ?_⟩
    · rw [r.length]; exact walk_tup
    · obtain ⟨rfl, hx⟩ := y
      refine ⟨Ev.refl s, s, ds[i], List.getElem?_eq_getElem hi, ?_⟩
      obtain ⟨z, h1, h2⟩ := (r.evZ e hz).get (List.getElem?_eq_getElem hi)
      rw [hx] at h1
      cases h1
      exact h2
  cases rd with
  | tup h to hb r => exact main _ (fun B' H' e => sqF (e.kp _ _ h hb ntF)) r
  | tupK h nd r => exact main _ (fun B' H' e => .inr h) r
theorem gives_lst {a : Addr} {ds : List PyData} (rd : RD c.K H (B ++ Z) (.list ds) (.ref a)) : Gives c B Z H (Itl c.K a) ds := by
  cases rd with
  | lst h hb r =>
    rename_i xs
    refine ⟨fun H => SqL c.K H a xs, YAt xs, ?_, fun B' H' e => .of (e.kp _ _ h hb ntL), fun Z' hz i B' H' S x H2 hi e s y => ?_⟩
    · rw [r.length]; exact walk_list
    · obtain ⟨rfl, hx⟩ := y
      refine ⟨Ev.refl s, s, ds[i], List.getElem?_eq_getElem hi, ?_⟩
      obtain ⟨z, h1, h2⟩ := (r.evZ e hz).get (List.getElem?_eq_getElem hi)
      rw [hx] at h1
      cases h1
      exact h2
theorem s_iseq {tg e : Expr} {f : FE} (hK : c.K = X.K) (h : PE X e (TEx c W f)) : PI X tg e (TIx c W (iSeq f)) :=
  pi_imp (pi_any h) fun σ H R ⟨B, Z, r, S, s, rr, p⟩ => ⟨B, Z, r, S, s, rr, (Post.bind p).imp fun v S1 B1 H1 e1 s1 q x hx => by
    rw [← hK]
    split at q
    · rename_i ds q1
      split at q
      · unfold frozen at q1
        split at q1
        · cases q1
          cases hx with
          | d rd =>
            have rd0 := rd
            obtain ⟨a, xs, rfl, h1, h2⟩ := rd.lstS
            exact ⟨a, xs, rfl, .inl ⟨.of h1, q.ret s1 _ (gives_lst rd0)⟩⟩
        · cases q1
          cases hx with
          | d rd =>
            have rd0 := rd
            obtain ⟨a, xs, rfl, h1, h2⟩ := rd.tupS
            exact ⟨a, xs, rfl, .inr ⟨h1, q.ret s1 _ (gives_tup rd0)⟩⟩
        · cases q1
      · exact q.elim
    · exact q.elim⟩
/-- ranges -/
def rngD (lo hi : Int) : List PyData := (List.range (hi - lo).toNat).map fun (k : Nat) => PyData.int (lo + k)
@[simp] def iR1 (f : FE) : FI := fun r S => (f r S).bind fun v S' => match v with
  | .d (.int j) => if j.natAbs < 2 ^ 24 then .ok (rngD 0 j) S' else .bad
  | _ => .bad
@[simp] def iR2 (f g : FE) : FI := fun r S => (f r S).bind fun v S1 => (g r S1).bind fun w S2 => match v, w with
  | .d (.int i), .d (.int j) => if i.natAbs < 2 ^ 23 ∧ j.natAbs < 2 ^ 23 then .ok (rngD i j) S2 else .bad
  | _, _ => .bad
theorem gives_rng {lo hi : Int} : Gives c B Z H (Itr lo (hi - lo).toNat) (rngD lo hi) := by
  refine ⟨fun _ => True, YFn fun i => .int (lo + i), ?_, fun _ _ _ => trivial, fun Z' hz i B' H' S x H2 hi' e s y => ?_⟩
  · have : (rngD lo hi).length = (hi - lo).toNat := by simp [rngD]
    rw [this]; exact walk_range
  · obtain ⟨rfl, rfl⟩ := y
    have hl : i < (hi - lo).toNat := by simpa [rngD] using hi'
    exact ⟨Ev.refl s, s, .int (lo + i), by simp [rngD, hl], .int _⟩
theorem s_ir1 {tg a : Expr} {f : FE} {p pos : Pos} (hg : Gl X "range") (hm : X.mg "range" = none) (h : PE X a (TEx c W f)) (hs : starEach [a] X.env = [(false, eval a X.env)] := by rfl) : PI X tg (.Call (.Name "range" p) [a] [] pos) (TIx c W (iR1 f)) :=
  pi_imp (pi_range1 hg hm (pa_cons h pa_nil hs) hs) fun σ H R ⟨B, Z, r, S, s, rr, q⟩ => ⟨B, Z, r, S, s, rr, (Post.bind q).imp fun v S1 B1 H1 e1 s1 q x hx => by
    split at q
    · rename_i j
      split at q
      · rename_i hj
        cases hx with
        | d hx =>
          cases hx
          refine ⟨j, rfl, by omega, by omega, q.ret s1 _ ?_⟩
          have := gives_rng (c := c) (B := B1) (Z := Z) (H := H1) (lo := 0) (hi := j)
          rw [Int.sub_zero] at this
          exact this
      · exact q.elim
    · exact q.elim⟩
/-- new pairs -/
def YPairF (xs ys : Nat → Option V) : Nat → Hp → V → Hp → Prop := fun i H v H' => ∃ (T : Addr) (x y : V) (o : Obj), v = .ref T ∧ H T = none ∧ TupO o ∧ H' = upd H T (.frz o (.tup [x, y])) ∧ xs i = some x ∧ ys i = some y
theorem gives_pair {J : It} {G : Hp → Prop} {as bs : List PyData} {xs ys : Nat → Option V} (n : Nat) (w : Walk J n G (YPairF xs ys)) (kg : ∀ B' H', Ev B H B' H' → G H') (ds : List PyData) (hn : ds.length = n)
    (k : ∀ i, i < n → ∃ d e, ds[i]? = some (.tuple [d, e]) ∧ (∀ x, xs i = some x → RD c.K H (B ++ Z) d x) ∧ (∀ y, ys i = some y → RD c.K H (B ++ Z) e y)) : Gives c B Z H J ds := by
  refine ⟨G, YPairF xs ys, by rw [hn]; exact w, kg, fun Z' hz i B' H' S x H2 hi e s y => ?_⟩
  obtain ⟨T, x1, y1, oT, rfl, hT, toT, rfl, h1, h2⟩ := y
  obtain ⟨d, e', hd, k1, k2⟩ := k i (by rw [← hn]; exact hi)
  refine ⟨Ev.new s hT, s.new hT, _, hd, RD.newTup s hT toT (.cons ((k1 _ h1).evZ e hz) (.cons ((k2 _ h2).evZ e hz) .nil))⟩
def zipD (as bs : List PyData) : List PyData := (as.zip bs).map fun p => .tuple [p.1, p.2]
def enumD (as : List PyData) : List PyData := (List.range as.length).zip as |>.map fun p => .tuple [.int (p.1 : Nat), p.2]
/-- zip of two lists, of two tuples -/
@[simp] def zipOf (v w : IV) : Option (List PyData) := match v, w with
  | .d (.list as), .d (.list bs) => some (zipD as bs)
  | .d (.tuple as), .d (.tuple bs) => some (zipD as bs)
  | _, _ => none
@[simp] def iZp (f g : FE) : FI := fun r S => (f r S).bind fun v S1 => (g r S1).bind fun w S2 => match zipOf v w with
  | some ds => if ds.length < sizeLine then .ok ds S2 else .bad
  | none => .bad
theorem RD.tupE {a : Addr} {ds : List PyData} (rd : RD c.K H (B ++ Z) (.tuple ds) (.ref a)) : ∃ xs, (∀ B' H', Ev B H B' H' → SqT c.K H' a xs) ∧ RDs c.K H (B ++ Z) ds xs := by
  cases rd with
  | tup h to hb r => exact ⟨_, fun B' H' e => sqF (e.kp _ _ h hb ntF), r⟩
  | tupK h nd r => exact ⟨_, fun B' H' e => .inr h, r⟩
theorem RD.lstE {a : Addr} {ds : List PyData} (rd : RD c.K H (B ++ Z) (.list ds) (.ref a)) : ∃ xs, (∀ B' H', Ev B H B' H' → SqL c.K H' a xs) ∧ RDs c.K H (B ++ Z) ds xs := by
  cases rd with
  | lst h hb r => exact ⟨_, fun B' H' e => .of (e.kp _ _ h hb ntL), r⟩
/-! ## for -/
def forL (g : FG) (b : FS) : List PyData → Rho → Sto → SOut
  | [], r, S => .nx r S
  | d :: ds, r, S => match (g (.d d) r S).seq b with
    | .nx r' S' => forL g b ds r' S'
    | .ct r' S' => forL g b ds r' S'
    | .brk r' S' => .nx r' S'
    | o => o
@[simp] def sFor (it : FI) (g : FG) (b : FS) : FS := fun r S => (it r S).to r fun ds S' => forL g b ds r S'
/-- a loop's turn: what comes behind next and continue is N, behind break what follows the loop -/
theorem loop_turn {g : FG} {b : FS} {o : SOut} {k : Rho → Sto → SOut} {v : IV} {r : Rho} {S : Sto} {N : L2.St → Hp → Prop} (ho : o = (match (g v r S).seq b with | .nx r' S' => k r' S' | .ct r' S' => k r' S' | .brk r' S' => .nx r' S' | o => o)) (hg : GOk g)
    (h : PostS c W B Z H D o) (hn : ∀ r' S' σ B' H', Ev B H B' H' → SR c H' B' Z S' → RR c H' B' Z r' σ → PostS c W B' Z H' D (k r' S') → N σ H') :
    PostS c W B Z H { nx := fun σ2 H2 => TSx c W b { D with nx := N, ct := N, bk := D.nx } σ2 H2, rt := fun _ _ => False, bk := fun _ _ => False, ct := fun _ _ => False } (g v r S) := by
  have go := hg v r S
  have body : ∀ r1 S1, g v r S = .nx r1 S1 → PostS c W B Z H { D with nx := N, ct := N, bk := D.nx } (b r1 S1) := fun r1 S1 e => by
    rw [e] at ho
    have ho : o = (match b r1 S1 with | .nx r' S' => k r' S' | .ct r' S' => k r' S' | .brk r' S' => .nx r' S' | o => o) := ho
    cases q : b r1 S1 with
    | nx r' S' =>
      rw [q] at ho
      subst ho
      exact fun σ B' H' e s rr => hn r' S' σ B' H' e s rr (h.far e)
    | ct r' S' =>
      rw [q] at ho
      subst ho
      exact fun σ B' H' e s rr => hn r' S' σ B' H' e s rr (h.far e)
    | brk r' S' =>
      rw [q] at ho
      subst ho
      exact h
    | ret v S' =>
      rw [q] at ho
      subst ho
      exact h
    | exn n v r' S' =>
      rw [q] at ho
      subst ho
      exact h
    | bad =>
      rw [q] at ho
      subst ho
      exact h
  cases q : g v r S with
  | nx r1 S1 => exact fun σ B' H' e s rr => ⟨B', Z, r1, S1, s, rr, (body r1 S1 q).far e⟩
  | exn n v r1 S1 =>
    rw [q] at ho
    subst ho
    exact h
  | bad =>
    rw [q] at ho
    subst ho
    exact h
  | ret v S1 => rw [q] at go; exact go.elim
  | brk r1 S1 => rw [q] at go; exact go.elim
  | ct r1 S1 => rw [q] at go; exact go.elim
theorem for_of {J : It} {g : FG} {b : FS} {ds : List PyData} {r : Rho} {S : Sto} (hg : GOk g) (w : Gives c B Z H J ds) (s : SR c H B Z S) (rr : RR c H B Z r σ) (p : PostS c W B Z H D (forL g b ds r S)) :
    ∃ Wd : Nat → Nat → L2.St → Hp → Prop, (∃ m, Wd 0 m σ H) ∧ ∀ i m σ H, Wd i m σ H →
      (J.stop i H ∧ D.nx σ H) ∨ (J.go i H ∧ ∃ N : L2.St → Hp → Prop, (∀ σ' H', N σ' H' → ∃ m', m' < m ∧ Wd (i + 1) m' σ' H') ∧ ∀ x H', J.yld i H x H' → TGx c W g x σ H' fun σ2 H2 => TSx c W b { D with nx := N, ct := N, bk := D.nx } σ2 H2) := by
  obtain ⟨G, Y, wk, kg, ky⟩ := w
  refine for_it wk (fun i σ' H' => ∃ B' r' S', Ev B H B' H' ∧ SR c H' B' Z S' ∧ RR c H' B' Z r' σ' ∧ PostS c W B' Z H' D (forL g b (ds.drop i) r' S')) ⟨B, r, S, Ev.refl s, s, rr, p⟩ (fun i σ' H' _ ⟨B', r', S', e, _⟩ => kg B' H' e) ?_ ?_
  · rintro i x σ' H' H2 hi ⟨B', r', S', e, s', rr', p'⟩ y
    obtain ⟨e2, s2, d, hd, rd⟩ := ky Z (fun z m => .inl m) i B' H' S' x H2 hi e s' y
    have hds : ds.drop i = d :: ds.drop (i + 1) := by
      rw [List.drop_eq_getElem_cons hi]
      have := List.getElem?_eq_getElem hi
      rw [hd] at this
      cases this
      rfl
    rw [hds] at p'
    refine ⟨B', Z, r', S', .d d, s2, rr'.ev e2, .d rd, ?_⟩
    exact loop_turn (k := fun r' S' => forL g b (ds.drop (i + 1)) r' S') rfl hg (p'.far e2) fun r3 S3 σ3 B3 H3 e3 s3 rr3 q => ⟨B3, r3, S3, (e.trans e2).trans e3, s3, rr3, q⟩
  · rintro σ' H' ⟨B', r', S', e, s', rr', p'⟩
    rw [List.drop_length] at p'
    exact p'.nxr s' rr'
theorem s_for {tg iter : Expr} {body : List Stmt} {it : FI} {g : FG} {b : FS} {pos : Pos} (hp : PassesOwn (model X.prog X.w) X.A X.env X.xe) (hc : X.calm = true) (hi : PI X tg iter (TIx c W it)) (hg : PG X tg (TGx c W g)) (k : GOk g) (hb : PSs X body (TSx c W b))
    (hs : ∀ x, foldedSetIterable iter X.env x = pure x := by intro _; rfl) : PS X (.For tg iter body [] pos) (TSx c W (sFor it g b)) :=
  ps_imp (ps_for hp hc hi hg hb hs) fun D σ H ⟨B, Z, r, S, s, rr, p⟩ => ⟨B, Z, r, S, s, rr, (Post.to rr p).imp fun ds S1 B1 H1 e1 s1 q J w => for_of k w s1 (rr.ev e1) q⟩
/-! ## while -/
def whl (t : FT) (b : FS) : Nat → Rho → Sto → SOut
  | 0, _, _ => .bad
  | f + 1, r, S => (t r S).to r fun k S1 => if k = true then (match b r S1 with
    | .nx r' S' => whl t b f r' S'
    | .ct r' S' => whl t b f r' S'
    | .brk r' S' => .nx r' S'
    | o => o) else .nx r S1
def sWh (t : FT) (b : FS) : FS := fun r S => whl t b 100000 r S
theorem s_wh {t : Expr} {body : List Stmt} {ft : FT} {b : FS} {pos : Pos} (hp : PassesOwn (model X.prog X.w) X.A X.env X.xe) (ht : PT X t (TTx c W ft)) (hb : PSs X body (TSx c W b)) : PS X (.While t body [] pos) (TSx c W (sWh ft b)) :=
  ps_imp (ps_while hp ht hb) fun D σ H ⟨B, Z, r, S, s, rr, p⟩ => by
    refine ⟨fun m σ H => ∃ B r S, SR c H B Z S ∧ RR c H B Z r σ ∧ PostS c W B Z H D (whl ft b m r S), ⟨100000, B, r, S, s, rr, p⟩, ?_⟩
    rintro m σ' H' ⟨B', r', S', s', rr', q'⟩
    cases m with
    | zero => exact q'.elim
    | succ m =>
      unfold whl at q'
      refine ⟨B', Z, r', S', s', rr', (Post.to rr' q').imp fun k S2 B2 H2 e2 s2 q2 => ?_⟩
      cases k with
      | false => exact q2.nxr s2 (rr'.ev e2)
      | true =>
        rw [if_pos rfl]
        refine ⟨fun σ H => ∃ B r S, SR c H B Z S ∧ RR c H B Z r σ ∧ PostS c W B Z H D (whl ft b m r S), fun σ3 H3 w => ⟨m, Nat.lt_succ_self m, w⟩, B2, Z, r', S2, s2, rr'.ev e2, ?_⟩
        rw [if_pos rfl] at q2
        cases q : b r' S2 with
        | nx r3 S3 => rw [q] at q2; exact fun σ B' H' e s rr => ⟨B', r3, S3, s, rr, q2.far e⟩
        | ct r3 S3 => rw [q] at q2; exact fun σ B' H' e s rr => ⟨B', r3, S3, s, rr, q2.far e⟩
        | brk r3 S3 => rw [q] at q2; exact q2
        | ret v S3 => rw [q] at q2; exact q2
        | exn n v r3 S3 => rw [q] at q2; exact q2
        | bad => rw [q] at q2; exact q2
end
end MI
set_option maxRecDepth 100000
set_option maxHeartbeats 4000000
namespace MI
open PySem L2
abbrev W0 : WX := fun _ _ _ _ => False
section
variable {c : Ct} {W : WX} {X : Cx} {B Z B1 : List Addr} {H H1 : Hp} {σ : L2.St} {α β : Type} {D D' : Ends}
/-! ## comprehensions -/
def Out.nox {α : Type} : Out α → Out α
  | .exn _ _ _ => .bad
  | o => o
def wipeR (r : Rho) : List Nat → Rho
  | [] => r
  | v :: vs => (wipeR r vs).set v none
theorem wipeR_len (r : Rho) : ∀ vs, (wipeR r vs).length = r.length
  | [] => rfl
  | v :: vs => by unfold wipeR; rw [List.length_set]; exact wipeR_len r vs
theorem wipeR_some {r : Rho} {i : Nat} {x : IV} : ∀ {vs : List Nat}, (wipeR r vs)[i]? = some (some x) → r[i]? = some (some x) ∧ i ∉ vs
  | [], h => ⟨h, by simp⟩
  | v :: vs, h => by
    unfold wipeR at h
    by_cases hi : v = i
    · subst hi
      by_cases hv : v < (wipeR r vs).length
      · rw [List.getElem?_set_self hv] at h; cases h
      · rw [List.getElem?_eq_none (by simpa using hv)] at h; cases h
    · rw [List.getElem?_set_ne hi] at h
      have z := wipeR_some h
      exact ⟨z.1, fun m => by
        rcases List.mem_cons.mp m with m | m
        · exact hi m.symm
        · exact z.2 m⟩
theorem RR.wipe {r : Rho} (h : RR c H B Z r σ) (vs : List Nat) : RR c H B Z (wipeR r vs) (L2.wipe σ vs) := by
  refine ⟨by rw [wipeR_len, L2.wipe_length]; exact h.len, fun i v q => ?_⟩
  obtain ⟨h1, h2⟩ := wipeR_some q
  obtain ⟨x, h3, h4⟩ := h.at_ i v h1
  exact ⟨x, by rw [L2.wipe_out h2]; exact h3, h4⟩
theorem wipe_set {i : Nat} {x : Option V} : ∀ {vs : List Nat}, i ∈ vs → ∀ σ : L2.St, L2.wipe (σ.set i x) vs = L2.wipe σ vs
  | v :: vs, h, σ => by
    unfold L2.wipe
    by_cases hi : i ∈ vs
    · rw [wipe_set hi σ]
    · have e : v = i := by
        rcases List.mem_cons.mp h with e | e
        · exact e.symm
        · exact absurd e hi
      subst e
      have go : ∀ ws : List Nat, v ∉ ws → L2.wipe (σ.set v x) ws = (L2.wipe σ ws).set v x := by
        intro ws
        induction ws with
        | nil => intro _; rfl
        | cons w ws ih =>
          intro hw
          unfold L2.wipe
          rw [ih fun m => hw (List.mem_cons_of_mem _ m)]
          rw [List.set_comm _ _ fun q => hw (by rw [q]; exact List.mem_cons_self)]
      rw [go vs hi, List.set_set]
theorem wipe_idem (σ : L2.St) : ∀ vs : List Nat, L2.wipe (L2.wipe σ vs) vs = L2.wipe σ vs
  | [] => rfl
  | v :: vs => by
    show L2.wipe ((L2.wipe σ vs).set v none) (v :: vs) = (L2.wipe σ vs).set v none
    rw [wipe_set List.mem_cons_self]
    show (L2.wipe (L2.wipe σ vs) vs).set v none = (L2.wipe σ vs).set v none
    rw [wipe_idem σ vs]
/-- a target that touches the slots vs alone -/
def TGw (c : Ct) (W : WX) (vs : List Nat) (g : FG) : TG := fun x σ H Q => ∃ B Z r S v, SR c H B Z S ∧ RR c H B Z r σ ∧ RI c H B Z v x ∧ PostS c W B Z H { nx := fun σ2 H2 => L2.wipe σ2 vs = L2.wipe σ vs → Q σ2 H2, rt := fun _ _ => False, bk := fun _ _ => False, ct := fun _ _ => False } (g v r S)
def TGsw (c : Ct) (W : WX) (vs : List Nat) (g : FGs) : TGs := fun xs σ H Q => ∃ B Z r S is, SR c H B Z S ∧ RR c H B Z r σ ∧ RIs c H B Z is xs ∧ PostS c W B Z H { nx := fun σ2 H2 => L2.wipe σ2 vs = L2.wipe σ vs → Q σ2 H2, rt := fun _ _ => False, bk := fun _ _ => False, ct := fun _ _ => False } (g is r S)
theorem w_gnm {i : Nat} {x : Str} {pos : Pos} {vs : List Nat} (hm : i ∈ vs) (h : PG X (.Name x pos) (gName i)) : PG X (.Name x pos) (TGw c W vs (gNm i)) :=
  ⟨fun pins s σ H v u Q I rv ⟨B, Z, r, S, iv, sr, rr, ri, p⟩ => h.run pins s σ H v u Q I rv (p (σ.set i (some v)) B H (Ev.refl sr) sr (rr.set ri i) (wipe_set hm σ))⟩
theorem w_gsnil {vs : List Nat} : PGs X [] (TGsw c W vs gsNil) := ⟨fun pins s σ H xs us Q I rv ⟨B, Z, r, S, is, sr, rr, ri, p⟩ => pgs_nil.run pins s σ H xs us Q I rv (by
  unfold gsNil at p
  split at p
  · cases ri; exact ⟨rfl, p.nxr sr rr rfl⟩
  · exact p.elim)⟩
theorem w_gscons {e : Expr} {es : List Expr} {g : FG} {t : FGs} {vs : List Nat} (h1 : PG X e (TGw c W vs g)) (h2 : PGs X es (TGsw c W vs t)) (hs : (assignEach (e :: es) X.env).map (·.2) = assign e X.env :: (assignEach es X.env).map (·.2) := by rfl) : PGs X (e :: es) (TGsw c W vs (gsCons g t)) :=
  ⟨fun pins s σ H xs us Q I rv ⟨B, Z, r, S, is, sr, rr, ri, p⟩ => (pgs_cons h1 h2 hs).run pins s σ H xs us Q I rv (by
    unfold gsCons at p
    split at p
    · cases ri with
      | cons hv ht =>
        refine ⟨_, _, rfl, B, Z, r, S, _, sr, rr, hv, ?_⟩
        refine p.seq (fun r' S' σ' B' H' e' s' rr' q => ?_) rfl rfl rfl
        exact fun hw => ⟨B', Z, r', S', _, s', rr', ht.ev e', by rw [hw]; exact q⟩
    · exact p.elim)⟩
theorem w_gtp {es : List Expr} {k n : Nat} {t : FGs} {pos : Pos} {vs : List Nat} (hc : X.calm = true) (hK : c.K = X.K) (h : PGs X es (TGsw c W vs t)) (hn : (assignEach es X.env).length = n := by rfl) (hst : (assignEach es X.env).findIdx? (·.1) = none := by rfl) :
    PG X (.Tuple es k pos) (TGw c W vs (gTp n t)) := ⟨fun pins s σ H v u Q I rv ⟨B, Z, r, S, iv, sr, rr, ri, p⟩ => (pg_tup hc h hn hst).run pins s σ H v u Q I rv (by
  unfold gTp at p
  split at p
  · rename_i is q
    split at p
    · rename_i hl
      obtain ⟨a, xs, h1, h2, h3⟩ := parts_of ri q
      exact ⟨a, xs, h1, by rw [← hK]; exact h2, by rw [← h3.length]; exact hl, B, Z, r, S, is, sr, rr, h3, p⟩
    · exact p.elim
  · exact p.elim)⟩
@[simp] def tYe : FT := fun _ S => .ok true S
theorem s_tnil : PTs X [] (TTx c W tYe) := ⟨fun pins s σ H Q I ⟨B, Z, r, S, sr, rr, p⟩ => pts_nil.run pins s σ H Q I (p.ret sr)⟩
theorem s_tone {e : Expr} {f : FT} (h : PT X e (TTx c W f)) : PTs X [e] (TTx c W f) := pts_one h
/-- the turns; an element is data -/
def lcL (g : FG) (t : FT) (e : FE) (r0 : Rho) : List PyData → Sto → Out (List PyData)
  | [], S => .ok [] S
  | d :: ds, S => match g (.d d) r0 S with
    | .nx r1 S1 => (t r1 S1).bind fun k S2 => if k = true then (e r1 S2).bind fun v S3 => (match v with
        | .d x => (lcL g t e r0 ds S3).bind fun xs S4 => .ok (x :: xs) S4
        | _ => .bad) else lcL g t e r0 ds S2
    | _ => .bad
@[simp] def lcR (it : FI) (g : FG) (t : FT) (e : FE) (vs : List Nat) : Rho → Sto → Out (List PyData) := fun r S => (it r S).bind fun ds S1 => if ds.length ≤ 1000000 then (lcL g t e (wipeR r vs) ds S1).nox else .bad
@[simp] def eLc (it : FI) (g : FG) (t : FT) (e : FE) (vs : List Nat) : FE := fun r S => (lcR it g t e vs r S).bind fun xs S' => .ok (.d (.list xs)) S'
@[simp] def eLcM (it : FI) (g : FG) (t : FT) (e : FE) (vs : List Nat) : FE := fun r S => (lcR it g t e vs r S).bind fun xs S' => .ok (.ref S'.length) (S' ++ [.lst xs])
/-- Z may hold more -/
theorem SR.less {z : Addr} {S : Sto} (s : SR c H B (z :: Z) S) : SR c H B Z S := by
  have k : ∀ a o, H a = some o → a ∉ B ++ z :: Z → NT o → H a = some o := fun _ _ h _ _ => h
  have g : ∀ a, a ∈ B ++ Z → a ∈ B ++ z :: Z ∨ H a = none := fun a m => .inl (by
    rcases List.mem_append.mp m with m | m
    · exact List.mem_append_left _ m
    · exact List.mem_append_right _ (List.mem_cons_of_mem _ m))
  refine ⟨s.len, s.nd, fun y m => s.zt y (List.mem_cons_of_mem _ m), fun y m => s.zb y (List.mem_cons_of_mem _ m), fun n b o hb ho => ?_, s.tb⟩
  have r := s.ob n b o hb ho
  cases o with
  | lst ds => obtain ⟨xs, h1, h2⟩ := r; exact ⟨xs, h1, h2.mono k g⟩
  | lsx ds =>
    obtain ⟨xs, h1, h2⟩ := r
    exact ⟨xs, h1, RIs.less h2⟩
  | dct _ => obtain ⟨xs, h1, h2, h3⟩ := r; exact ⟨xs, h1, h2, h3.mono k g⟩
  | dcn _ => obtain ⟨ob, xs, h1, hs, h2, h3⟩ := r; exact ⟨ob, xs, h1, hs, h2, h3.mono k g⟩
  | dead => exact r
where
  RIs.less : ∀ {is : List IV} {xs : List V}, RIs c H B (z :: Z) is xs → RIs c H B Z is xs
    | _, _, .nil => .nil
    | _, _, .cons h t => .cons (RI.less h) (RIs.less t)
  RI.less : ∀ {i : IV} {x : V}, RI c H B (z :: Z) i x → RI c H B Z i x
    | _, _, .d h => .d (h.mono (fun _ _ h _ _ => h) fun a m => .inl (by
        rcases List.mem_append.mp m with m | m
        · exact List.mem_append_left _ m
        · exact List.mem_append_right _ (List.mem_cons_of_mem _ m)))
    | _, _, .ref h => .ref h
    | _, _, .gl h => .gl h
    | _, _, .tup h to hb r => .tup h to (fun m => hb (by
        rcases List.mem_append.mp m with m | m
        · exact List.mem_append_left _ m
        · exact List.mem_append_right _ (List.mem_cons_of_mem _ m))) (RIs.less r)
    | _, _, .scr h hb => .scr h fun m => hb (by
        rcases List.mem_append.mp m with m | m
        · exact List.mem_append_left _ m
        · exact List.mem_append_right _ (List.mem_cons_of_mem _ m))
    | _, _, .scrK h => .scrK h
    | _, _, .lam hk h hb hc hcb => .lam hk h (lessN hb) hc (lessN hcb)
    | _, _, .clo hk h hb hc hcb cs r => .clo hk h (lessN hb) hc (lessN hcb) (cs.mono (fun _ _ h _ _ => h) lessG) (r.mono (fun _ _ h _ _ => h) lessG)
    | _, _, .exc hC h hb hd hdb r => .exc hC h (lessN hb) hd (lessN hdb) (r.mono (fun _ _ h _ _ => h) lessG)
  lessG {H : Hp} : ∀ a, a ∈ B ++ Z → a ∈ B ++ z :: Z ∨ H a = none := fun a m => .inl (by
    rcases List.mem_append.mp m with m | m
    · exact List.mem_append_left _ m
    · exact List.mem_append_right _ (List.mem_cons_of_mem _ m))
  lessN {a : Addr} (h : a ∉ B ++ z :: Z) : a ∉ B ++ Z := fun m => h (by
    rcases List.mem_append.mp m with m | m
    · exact List.mem_append_left _ m
    · exact List.mem_append_right _ (List.mem_cons_of_mem _ m))
/-! what stood ahead of a new object D, behind it -/
theorem evZ_far {D : Addr} (e : Ev B H B1 H1) (hD : H D = none) : ∀ a, a ∈ B1 ++ D :: Z → a ∈ B ++ Z ∨ H a = none := fun a m => by
  rcases List.mem_append.mp m with m | m
  · exact e.far a (List.mem_append_left _ m)
  · rcases List.mem_cons.mp m with m | m
    · exact .inr (by rw [m]; exact hD)
    · exact .inl (List.mem_append_right _ m)
mutual
theorem RI.evZ {D : Addr} (e : Ev B H B1 H1) (hD : H D = none) : ∀ {i : IV} {v : V}, RI c H B Z i v → RI c H1 B1 (D :: Z) i v
  | _, _, .d h => .d (h.mono e.kp (evZ_far e hD))
  | _, _, .ref h => .ref (by
      obtain ⟨N, rfl, _⟩ := e.pre
      rw [List.getElem?_append_left (List.getElem?_eq_some_iff.mp h).1]; exact h)
  | _, _, .gl h => .gl h
  | _, _, .tup h to hb r => .tup (e.kp _ _ h hb ntF) to (fun m => (evZ_far e hD _ m).elim hb fun z => by rw [h] at z; cases z) (RIs.evZ e hD r)
  | _, _, .scr h hb => .scr (rd_mono h ntL fun o q => e.kp _ o q hb) (fun m => (evZ_far e hD _ m).elim hb (rd_there h))
  | _, _, .scrK h => .scrK h
  | _, _, .lam hk h hb hc hcb => .lam hk (e.kp _ _ h hb ntM) (far_out h hb (evZ_far e hD)) (e.kp _ _ hc hcb ntC) (far_out hc hcb (evZ_far e hD))
  | _, _, .clo hk h hb hc hcb cs r => .clo hk (e.kp _ _ h hb ntM) (far_out h hb (evZ_far e hD)) (e.kp _ _ hc hcb ntC) (far_out hc hcb (evZ_far e hD)) (cs.mono e.kp (evZ_far e hD)) (r.mono e.kp (evZ_far e hD))
  | _, _, .exc hC h hb hd hdb r => .exc hC (e.kp _ _ h hb ntE) (far_out h hb (evZ_far e hD)) (e.kp _ _ hd hdb ntX) (far_out hd hdb (evZ_far e hD)) (r.mono e.kp (evZ_far e hD))
theorem RIs.evZ {D : Addr} (e : Ev B H B1 H1) (hD : H D = none) : ∀ {i : List IV} {v : List V}, RIs c H B Z i v → RIs c H1 B1 (D :: Z) i v
  | _, _, .nil => .nil
  | _, _, .cons h t => .cons (RI.evZ e hD h) (RIs.evZ e hD t)
end
theorem RR.evZ {r : Rho} {D : Addr} (e : Ev B H B1 H1) (hD : H D = none) (h : RR c H B Z r σ) : RR c H1 B1 (D :: Z) r σ := ⟨h.len, fun i v q => by
  obtain ⟨x, h1, h2⟩ := h.at_ i v q
  exact ⟨x, h1, h2.evZ e hD⟩⟩
theorem SR.newZ {D : Addr} {o : HO} {S : Sto} (s : SR c H B Z S) (hD : H D = none) (hko : (∃ xs, o = .lst xs) ∨ ∃ ks, o = .dK ks) : SR c (upd H D o) B (D :: Z) S := by
  have e := Ev.new (o := o) s hD
  have nB : ∀ b, b ∈ B → b ≠ D := fun b hb q => s.trk b hb (by rw [q]; exact hD)
  refine ⟨s.len, s.nd, fun z m => ?_, fun z m hz => ?_, fun n b o' hb ho => ?_, LamX.Tabs.ext s.tb fun b u h => by rw [upd_ne (ne_of_none h hD)]; exact h⟩
  · rcases List.mem_cons.mp m with m | m
    · rw [m]
      rcases hko with ⟨xs, rfl⟩ | ⟨xs, rfl⟩
      · exact .inl ⟨xs, upd_same⟩
      · exact .inr (.inl ⟨xs, upd_same⟩)
    · have h1 := s.zt z m
      have : z ≠ D := fun q => kdNe h1 (by rw [q]; exact hD)
      exact kdKeep h1 fun o' h _ => by rw [upd_ne this]; exact h
  · rcases List.mem_cons.mp m with m | m
    · exact nB z hz m
    · exact s.zb z m hz
  · have r := s.ob n b o' hb ho
    have kb : (upd H D o) b = H b := upd_ne (nB b (List.mem_of_getElem? hb))
    cases o' with
    | lst ds => obtain ⟨xs, h1, h2⟩ := r; exact ⟨xs, by rw [kb]; exact h1, h2.mono e.kp (evZ_far e hD)⟩
    | lsx ds => obtain ⟨xs, h1, h2⟩ := r; exact ⟨xs, by rw [kb]; exact h1, h2.evZ e hD⟩
    | dct _ => obtain ⟨xs, h1, h2, h3⟩ := r; exact ⟨xs, by rw [kb]; exact h1, h2, h3.mono e.kp (evZ_far e hD)⟩
    | dcn _ => obtain ⟨ob, xs, h1, hs, h2, h3⟩ := r; exact ⟨ob, xs, by rw [kb]; exact h1, hs, h2, h3.mono e.kp (evZ_far e hD)⟩
    | dead => obtain ⟨xs, h1⟩ := r; exact ⟨xs, by rw [kb]; exact h1⟩
/-- the foreign object D is written: what leans on others stays -/
theorem SR.wrZ {D : Addr} {o : HO} {S : Sto} (s : SR c H B (D :: Z) S) (hk : (∃ xs, H D = some (.lst xs)) ∨ ∃ ks, H D = some (.dK ks)) (hko : (∃ xs, o = .lst xs) ∨ ∃ ks, o = .dK ks) : SR c (upd H D o) B (D :: Z) S ∧ (∀ {d : PyData} {v : V}, RD c.K H (B ++ D :: Z) d v → RD c.K (upd H D o) (B ++ D :: Z) d v) := by
  have nD : D ∉ B := s.zb D List.mem_cons_self
  have kp : ∀ a u, H a = some u → a ∉ B ++ D :: Z → NT u → (upd H D o) a = some u := fun a u h hb _ => by
    have : a ≠ D := fun q => hb (List.mem_append_right _ (by rw [q]; exact List.mem_cons_self))
    rw [upd_ne this]; exact h
  have rd : ∀ {d : PyData} {v : V}, RD c.K H (B ++ D :: Z) d v → RD c.K (upd H D o) (B ++ D :: Z) d v := fun h => h.mono kp fun _ m => .inl m
  refine ⟨⟨s.len, s.nd, fun z m => ?_, s.zb, fun n b o' hb ho => ?_, fun p hp => kind_tab (hk.imp id fun x => .inl x) (s.tb p hp)⟩, rd⟩
  · by_cases q : z = D
    · rw [q]
      rcases hko with ⟨xs, rfl⟩ | ⟨xs, rfl⟩
      · exact .inl ⟨xs, upd_same⟩
      · exact .inr (.inl ⟨xs, upd_same⟩)
    · exact kdKeep (s.zt z m) fun o' h _ => by rw [upd_ne q]; exact h
  · have r := s.ob n b o' hb ho
    have kb : (upd H D o) b = H b := upd_ne fun q => nD (by rw [← q]; exact List.mem_of_getElem? hb)
    cases o' with
    | lst ds => obtain ⟨xs, h1, h2⟩ := r; exact ⟨xs, by rw [kb]; exact h1, h2.mono kp fun _ m => .inl m⟩
    | lsx ds => obtain ⟨xs, h1, h2⟩ := r; exact ⟨xs, by rw [kb]; exact h1, ris kp h2⟩
    | dct _ => obtain ⟨xs, h1, h2, h3⟩ := r; exact ⟨xs, by rw [kb]; exact h1, h2, h3.mono kp fun _ m => .inl m⟩
    | dcn _ => obtain ⟨ob, xs, h1, hs, h2, h3⟩ := r; exact ⟨ob, xs, by rw [kb]; exact h1, hs, h2, h3.mono kp fun _ m => .inl m⟩
    | dead => obtain ⟨xs, h1⟩ := r; exact ⟨xs, by rw [kb]; exact h1⟩
where
  ris {o : HO} {D : Addr} (kp : ∀ a u, H a = some u → a ∉ B ++ D :: Z → NT u → (upd H D o) a = some u) : ∀ {is : List IV} {xs : List V}, RIs c H B (D :: Z) is xs → RIs c (upd H D o) B (D :: Z) is xs
    | _, _, .nil => .nil
    | _, _, .cons h t => .cons (ri kp h) (ris kp t)
  ri {o : HO} {D : Addr} (kp : ∀ a u, H a = some u → a ∉ B ++ D :: Z → NT u → (upd H D o) a = some u) : ∀ {i : IV} {x : V}, RI c H B (D :: Z) i x → RI c (upd H D o) B (D :: Z) i x
    | _, _, .d h => .d (h.mono kp fun _ m => .inl m)
    | _, _, .ref h => .ref h
    | _, _, .gl h => .gl h
    | _, _, .tup h to hb r => .tup (kp _ _ h hb ntF) to hb (ris kp r)
    | _, _, .scr h hb => .scr (rd_mono h ntL fun o q => kp _ o q hb) hb
    | _, _, .scrK h => .scrK h
    | _, _, .lam hk h hb hc hcb => .lam hk (kp _ _ h hb ntM) hb (kp _ _ hc hcb ntC) hcb
    | _, _, .clo hk h hb hc hcb cs r => .clo hk (kp _ _ h hb ntM) hb (kp _ _ hc hcb ntC) hcb (cs.mono kp fun _ m => .inl m) (r.mono kp fun _ m => .inl m)
    | _, _, .exc hC h hb hd hdb r => .exc hC (kp _ _ h hb ntE) hb (kp _ _ hd hdb ntX) hdb (r.mono kp fun _ m => .inl m)
theorem bind_ok {o : Out α} {f : α → Sto → Out β} {v : β} {S : Sto} (h : (o.bind f) = .ok v S) : ∃ a S1, o = .ok a S1 ∧ f a S1 = .ok v S := by
  cases o with
  | ok a S1 => exact ⟨a, S1, rfl, h⟩
  | exn n v S => cases h
  | bad => cases h
/-- a new object of ours is written -/
theorem evD {D : Addr} {o : HO} (e : Ev B H B1 H1) (hD : H D = none) (hk : (∃ xs, H1 D = some (.lst xs)) ∨ ∃ ks, H1 D = some (.dK ks)) : Ev B H B1 (upd H1 D o) := by
  have th : ∀ a, H1 a ≠ none → upd H1 D o a ≠ none := fun a ha => by
    by_cases q : a = D
    · rw [q, upd_same]; simp
    · rw [upd_ne q]; exact ha
  refine ⟨e.pre, fun a u h hb nt => ?_, fun b hb => th b (e.trk b hb), fun a ha => th a (e.there a ha)⟩
  rw [upd_ne fun q => by rw [q, hD] at h; cases h]
  exact e.keep a u h hb nt
/-- the loop of a comprehension whose answers are all known -/
theorem lc_of {J : It} {g : FG} {t : FT} {e : FE} {vs : List Nat} {ds all : List PyData} {r : Rho} {S S9 : Sto} {D : Addr} {Qd : Hp → Prop} (hg : GOk g) (w : Gives c B Z H J ds) (s : SR c H B Z S) (rr : RR c H B Z r σ) (hD : H D = none) (hl : ds.length ≤ 1000000)
    (ha : lcL g t e (wipeR r vs) ds S = .ok all S9)
    (fin : ∀ B' H' xs, Ev B H B' H' → SR c H' B' (D :: Z) S9 → H' D = some (.lst xs) → RDs c.K H' (B' ++ D :: Z) all xs → Qd H') :
    ∃ Wd : Nat → Nat → Hp → Prop, (∃ m, Wd 0 m (upd H D (.lst []))) ∧ ∀ i m H', Wd i m H' → (J.stop i H' ∧ Qd H') ∨ (J.go i H' ∧ ∃ Nx : Hp → Prop, (∀ H2, Nx H2 → ∃ m', m' < m ∧ Wd (i + 1) m' H2) ∧ ∀ x H2, J.yld i H' x H2 →
      TGw c W0 vs g x (L2.wipe σ vs) H2 fun σ2 H3 => L2.wipe σ2 vs = L2.wipe σ vs ∧ TTx c W0 t σ2 H3 fun b H4 => if b = true then TEx c W0 e σ2 H4 fun y H5 => ∃ acc, H5 D = some (.lst acc) ∧ acc.length < sizeLine ∧ Nx (upd H5 D (.lst (acc ++ [y]))) else Nx H4) := by
  obtain ⟨G, Y, wk, kg, ky⟩ := w
  refine lc_it wk (fun i H' => ∃ B' S' acc xs rest, Ev B H B' H' ∧ SR c H' B' (D :: Z) S' ∧ H' D = some (.lst xs) ∧ RDs c.K H' (B' ++ D :: Z) acc xs ∧ acc.length ≤ i ∧ lcL g t e (wipeR r vs) (ds.drop i) S' = .ok rest S9 ∧ all = acc ++ rest)
    ⟨B, S, [], [], all, Ev.new s hD, s.newZ hD (.inl ⟨_, rfl⟩), upd_same, .nil, Nat.le_refl _, ha, rfl⟩ (fun i H' _ ⟨B', S', acc, xs, rest, e', _⟩ => kg B' H' e') ?_ ?_
  · rintro i x H' H2 hi ⟨B', S', acc, xs, rest, e', s', hx, ra, hlen, hL, hall⟩ y
    have hz : ∀ z, z ∈ D :: Z → z ∈ Z ∨ H z = none := fun z m => by
      rcases List.mem_cons.mp m with m | m
      · exact .inr (by rw [m]; exact hD)
      · exact .inl m
    obtain ⟨e2, s2, d, hd, rd⟩ := ky (D :: Z) hz i B' H' S' x H2 hi e' s' y
    have hds : ds.drop i = d :: ds.drop (i + 1) := by
      rw [List.drop_eq_getElem_cons hi]
      have := List.getElem?_eq_getElem hi
      rw [hd] at this
      cases this
      rfl
    rw [hds] at hL
    unfold lcL at hL
    have go := hg (.d d) (wipeR r vs) S'
    cases hgo : g (.d d) (wipeR r vs) S' with
    | nx r1 S1 =>
      rw [hgo] at hL
      obtain ⟨k, S2, ht, hL⟩ := bind_ok hL
      refine ⟨B', D :: Z, wipeR r vs, S', .d d, s2, (rr.wipe vs).evZ (e'.trans e2) hD, .d rd, ?_⟩
      rw [hgo]
      intro σ2 B3 H3 e3 s3 rr3 hw
      refine ⟨hw.trans (wipe_idem σ vs), B3, D :: Z, r1, S1, s3, rr3, ?_⟩
      rw [ht]
      intro B4 H4 e4 s4
      have e04 := ((e'.trans e2).trans e3).trans e4
      have eD4 := (e2.trans e3).trans e4
      have nD : D ∉ B' := s'.zb D List.mem_cons_self
      have hx4 : H4 D = some (.lst xs) := eD4.keep D _ hx nD ntL
      have ra4 := ra.ev eD4
      cases k with
      | false =>
        rw [if_neg (by decide)] at hL
        dsimp only
        rw [if_neg Bool.false_ne_true]
        exact ⟨B4, S2, acc, xs, rest, e04, s4, hx4, ra4, Nat.le_succ_of_le hlen, hL, hall⟩
      | true =>
        rw [if_pos rfl] at hL
        dsimp only
        rw [if_pos rfl]
        obtain ⟨v, S3, hv, hL⟩ := bind_ok hL
        refine ⟨B4, D :: Z, r1, S2, s4, rr3.ev e4, ?_⟩
        rw [hv]
        intro B5 H5 e5 s5 y hy
        split at hL
        · rename_i xd
          obtain ⟨rest', S5, hr, hL⟩ := bind_ok hL
          cases hL
          have nD4 : D ∉ B4 := s4.zb D List.mem_cons_self
          have hx5 := e5.keep D _ hx4 nD4 ntL
          have ra5 := ra4.ev e5
          cases hy with
          | d hy =>
            have w := s5.wrZ (o := HO.lst (xs ++ [y])) (.inl ⟨_, hx5⟩) (.inl ⟨_, rfl⟩)
            have e5D : Ev B H B5 (upd H5 D (.lst (xs ++ [y]))) := evD (e04.trans e5) hD (.inl ⟨_, hx5⟩)
            have lens := ra5.length
            refine ⟨xs, hx5, ?_, B5, S3, acc ++ [xd], xs ++ [y], rest', e5D, w.1, upd_same, ?_, ?_, hr, by rw [hall, List.append_assoc] <;> rfl⟩
            · rw [← lens]
              have : sizeLine = 16777216 := by decide
              omega
            · exact RDs.mono (fun a u h hb _ => by
                have : a ≠ D := fun q => hb (List.mem_append_right _ (by rw [q]; exact List.mem_cons_self))
                rw [upd_ne this]; exact h) (fun _ m => .inl m) (ra5.app (.cons hy .nil))
            · rw [List.length_append]
              simp
              omega
        · cases hL
    | exn n v r1 S1 => rw [hgo] at hL; cases hL
    | bad => rw [hgo] at hL; cases hL
    | ret v S1 => rw [hgo] at go; exact go.elim
    | brk r1 S1 => rw [hgo] at go; exact go.elim
    | ct r1 S1 => rw [hgo] at go; exact go.elim
  · rintro H' ⟨B', S', acc, xs, rest, e', s', hx, ra, hlen, hL, hall⟩
    rw [List.drop_length] at hL
    cases hL
    rw [List.append_nil] at hall
    subst hall
    exact fin B' H' xs e' s' hx ra
/-- the whole comprehension -/
theorem tlc_of {it : FI} {g : FG} {t : FT} {e : FE} {vs : List Nat} {r : Rho} {S : Sto} {Q : VK} {K : List PyData → Sto → Out IV} (hg : GOk g) (s : SR c H B Z S) (rr : RR c H B Z r σ)
    (p : Post c W B Z H σ ((lcR it g t e vs r S).bind K) fun v S' B' H' => ∀ x, RI c H' B' Z v x → Q x H')
    (fin : ∀ (all : List PyData) (S1 S9 : Sto) (B1 : List Addr) (H1 : Hp) (D : Addr) B' H' xs, H1 D = none → Post c W B1 Z H1 σ (K all S9) (fun v S' B' H' => ∀ x, RI c H' B' Z v x → Q x H') → Ev B1 H1 B' H' → SR c H' B' (D :: Z) S9 → SR c H1 B1 Z S1 → H' D = some (.lst xs) → RDs c.K H' (B' ++ D :: Z) all xs → Q (.ref D) H') :
    tLc (TIx c W it) (TGw c W0 vs g) (TTx c W0 t) (TEx c W0 e) vs σ H Q := by
  have key : ∀ ds S1, it r S = .ok ds S1 → ∃ all S9, ds.length ≤ 1000000 ∧ lcL g t e (wipeR r vs) ds S1 = .ok all S9 ∧ lcR it g t e vs r S = .ok all S9 := fun ds S1 hi => by
    have hR : lcR it g t e vs r S = if ds.length ≤ 1000000 then (lcL g t e (wipeR r vs) ds S1).nox else .bad := by
      unfold lcR
      rw [hi] <;> rfl
    by_cases hl : ds.length ≤ 1000000
    · rw [if_pos hl] at hR
      cases q : lcL g t e (wipeR r vs) ds S1 with
      | ok all S9 => rw [q] at hR; exact ⟨all, S9, hl, rfl, hR⟩
      | exn n v S9 => rw [q] at hR; rw [hR] at p; exact p.elim
      | bad => rw [q] at hR; rw [hR] at p; exact p.elim
    · rw [if_neg hl] at hR; rw [hR] at p; exact p.elim
  refine ⟨B, Z, r, S, s, rr, ?_⟩
  cases hi : it r S with
  | bad =>
    have hR : lcR it g t e vs r S = .bad := by unfold lcR; rw [hi] <;> rfl
    rw [hR] at p
    exact p
  | exn n v S1 =>
    have hR : lcR it g t e vs r S = .exn n v S1 := by unfold lcR; rw [hi] <;> rfl
    rw [hR] at p
    exact p
  | ok ds S1 =>
    obtain ⟨all, S9, hl, hL, hR⟩ := key ds S1 hi
    rw [hR] at p
    have p : Post c W B Z H σ (K all S9) (fun v S' B' H' => ∀ x, RI c H' B' Z v x → Q x H') := p
    intro B1 H1 e1 s1 J w D hD
    exact lc_of hg w s1 (rr.ev e1) hD hl hL fun B' H' xs e' s' hx ra => fin all S1 S9 B1 H1 D B' H' xs hD (p.far e1) e' s' s1 hx ra
theorem RDs.less {K : PySem.W.Frag} {z : Addr} {ds : List PyData} {xs : List V} (h : RDs K H (B ++ z :: Z) ds xs) : RDs K H (B ++ Z) ds xs := h.mono (fun _ _ h _ _ => h) fun a m => .inl (by
  rcases List.mem_append.mp m with m | m
  · exact List.mem_append_left _ m
  · exact List.mem_append_right _ (List.mem_cons_of_mem _ m))
theorem not_in {D : Addr} {S : Sto} {B1 : List Addr} {H1 : Hp} (s : SR c H B (D :: Z) S) (s1 : SR c H1 B1 Z S') (hD : H1 D = none) : D ∉ B ++ Z := fun m => by
  rcases List.mem_append.mp m with m | m
  · exact s.zb D List.mem_cons_self m
  · exact kdNe (s1.zt D m) hD
theorem tlc_fr {it : FI} {g : FG} {t : FT} {e : FE} {vs : List Nat} {Q : VK} (hg : GOk g) (h : TEx c W (eLc it g t e vs) σ H Q) : tLc (TIx c W it) (TGw c W0 vs g) (TTx c W0 t) (TEx c W0 e) vs σ H Q := by
  obtain ⟨B, Z, r, S, s, rr, p⟩ := h
  refine tlc_of hg s rr p fun all S1 S9 B1 H1 D B' H' xs hD q e' s' s1 hx ra => ?_
  exact q B' H' e' s'.less _ (.d (.lst hx (not_in s' s1 hD) ra.less))
/-- the block's judgements, whatever its frame -/
abbrev Blk (X : Cx) (scope : Scope) (f : Cx → Prop) : Prop := ∀ (s : Shared) (H : Hp) (C : Addr) (cl : List (Str × Addr)) (fp : List Addr), f (X.blk s H scope (compEnvC scope cl C X.env) fp)
theorem s_lc {elt tg iter : Expr} {ifs : List Expr} {scope : Scope} {own : List (Str × Nat)} {pos : Pos} {it : FI} {g : FG} {t : FT} {f : FE} (hc : X.calm = true) (hN : X.N.Nodup) (hi : PI X tg iter (TIx c W it)) (ok : BlkOk X.N X.env.scope scope own) (hgo : GOk g)
    (hg : Blk X scope fun Y => PG Y tg (TGw c W0 (own.map (·.2)) g)) (ht : Blk X scope fun Y => PTs Y ifs (TTx c W0 t)) (he : Blk X scope fun Y => PE Y elt (TEx c W0 f)) (hs : ∀ x, foldedSetIterable iter X.env x = pure x := by intro _; rfl) :
    PE X (.ListComp elt [⟨tg, iter, ifs, 0⟩] scope pos) (TEx c W (eLc it g t f (own.map (·.2)))) := pe_imp (pe_lc hc hN hi ok hg ht he hs) fun _ _ _ => tlc_fr hgo
end
end MI
set_option maxRecDepth 100000
set_option maxHeartbeats 4000000
namespace MI
open PySem PySem.Spec L2
/-! ## calls of defs: the callee sees the lists it is handed, nothing else of the store -/
abbrev FN := List IV → Sto → Out IV
def brw : List IV → List Nat
  | [] => []
  | .ref n :: t => if n ∈ brw t then brw t else n :: brw t
  | _ :: t => brw t
def inA (ns : List Nat) : IV → Option IV
  | .ref n => if n ∈ ns then some (.ref (ns.idxOf n)) else none
  | .d x => some (.d x)
  | .gl x => some (.gl x)
  | .scr x => some (.scr x)
  | .clo k vs => some (.clo k vs)
  | .exc n v => some (.exc n v)
  | _ => none
def inAs (ns : List Nat) : List IV → Option (List IV)
  | [] => some []
  | v :: t => match inA ns v, inAs ns t with
    | some w, some u => some (w :: u)
    | _, _ => none
/-- what may be lent -/
@[simp] def lendb : IO → Bool
  | .lst _ => true
  | .dct _ => true
  | .dcn _ => true
  | _ => false
def inS : List Nat → Sto → Option Sto
  | [], _ => some []
  | n :: ns, S => match S[n]?, inS ns S with
    | some o, some T => if lendb o = true then some (o :: T) else none
    | _, _ => none
def outS : List Nat → Sto → Sto → Option Sto
  | [], _, S => some S
  | n :: ns, o :: T, S => if lendb o = true then outS ns T (S.set n o) else none
  | _, _, _ => none
mutual
@[simp] def toD (k : Nat) (T : Sto) : IV → Option PyData
  | .d x => some x
  | .ref n => if n < k then none else match T[n]? with
    | some (.lst ds) => some (.list ds)
    | some (.dct kvs) => some (.dict kvs)
    | _ => none
  | .tup vs => match toDs k T vs with
    | some ds => some (.tuple ds)
    | none => none
  | _ => none
@[simp] def toDs (k : Nat) (T : Sto) : List IV → Option (List PyData)
  | [] => some []
  | v :: t => match toD k T v, toDs k T t with
    | some w, some u => some (w :: u)
    | _, _ => none
end
mutual
def outV (ns : List Nat) (T : Sto) : IV → Option IV
  | .ref n => match ns[n]? with
    | some m => some (.ref m)
    | none => (toD ns.length T (.ref n)).map .d
  | .gl x => some (.gl x)
  | .scr x => some (.scr x)
  | .clo k vs => some (.clo k vs)
  | .exc n v => some (.exc n v)
  | .tup vs => match toD ns.length T (.tup vs) with
    | some d => some (.d d)
    | none => (outVs ns T vs).map .tup
  | .d x => some (.d x)
  | .lam _ => none
def outVs (ns : List Nat) (T : Sto) : List IV → Option (List IV)
  | [] => some []
  | v :: t => match outV ns T v, outVs ns T t with
    | some w, some u => some (w :: u)
    | _, _ => none
end
def backW (ns : List Nat) (S : Sto) : Out IV → Out IV
  | .ok v T => match outS ns T S, outV ns T v with
    | some S', some w => .ok w S'
    | _, _ => .bad
  | .exn n v T => match outS ns T S with
    | some S' => .exn n v S'
    | none => .bad
  | .bad => .bad
/-- the answer, where it is a new list, goes into the caller's store -/
@[simp] def newO (k : Nat) (T : Sto) (n : Nat) : Option IO := if n < k then none else match T[n]? with
  | some o => if lendb o = true then some o else none
  | none => none
def backM (ns : List Nat) (S : Sto) : Out IV → Out IV
  | .ok (.ref n) T => match outS ns T S, newO ns.length T n with
    | some S', some o => .ok (.ref S'.length) (S' ++ [o])
    | _, _ => .bad
  | _ => .bad
def callW (bk : List Nat → Sto → Out IV → Out IV) (g : FN) (is : List IV) (S : Sto) : Out IV := match inAs (brw is) is, inS (brw is) S with
  | some js, some T => bk (brw is) S (g js T)
  | _, _ => .bad
section
variable {c : Ct} {W : WX} {X : Cx} {B Z B1 : List Addr} {H H1 : Hp} {σ : L2.St} {α β : Type}
theorem brw_nd : ∀ is : List IV, (brw is).Nodup
  | [] => .nil
  | v :: t => by
    cases v <;> try exact brw_nd t
    rename_i n
    show (if n ∈ brw t then brw t else n :: brw t).Nodup
    split
    · exact brw_nd t
    · rename_i h; exact List.nodup_cons.mpr ⟨h, brw_nd t⟩
/-- the borrowed addresses -/
def lent (B : List Addr) (ns : List Nat) : List Addr := ns.filterMap (B[·]?)
theorem lent_cons {n : Nat} {b : Addr} {ns : List Nat} (h : B[n]? = some b) : lent B (n :: ns) = b :: lent B ns := by
  unfold lent; rw [List.filterMap_cons, h]
theorem lent_at : ∀ {ns : List Nat} {S T : Sto}, B.length = S.length → inS ns S = some T → (lent B ns).length = ns.length ∧ T.length = ns.length ∧ ∀ (i n : Nat), ns[i]? = some n → (∃ b, (lent B ns)[i]? = some b ∧ B[n]? = some b) ∧ ∃ o : IO, lendb o = true ∧ T[i]? = some o ∧ S[n]? = some o
  | [], S, T, _, h => by
    cases h
    exact ⟨rfl, rfl, fun i n q => by simp at q⟩
  | n :: ns, S, T, hl, h => by
    unfold inS at h
    split at h
    · rename_i ds T' h1 h2
      by_cases hld : lendb ds = true
      case neg => rw [if_neg hld] at h; cases h
      rw [if_pos hld] at h
      cases h
      obtain ⟨l1, l2, ih⟩ := lent_at hl h2
      have hn : n < B.length := by rw [hl]; exact (List.getElem?_eq_some_iff.mp h1).1
      have hb := List.getElem?_eq_getElem hn
      rw [lent_cons hb]
      refine ⟨by simp [l1], by simp [l2], fun i m q => ?_⟩
      cases i with
      | zero => simp at q; subst q; exact ⟨⟨_, rfl, hb⟩, ds, hld, rfl, h1⟩
      | succ i => simpa using ih i m (by simpa using q)
    · cases h
theorem lent_sub {ns : List Nat} {b : Addr} (h : b ∈ lent B ns) : ∃ n, n ∈ ns ∧ B[n]? = some b := by
  obtain ⟨n, h1, h2⟩ := List.mem_filterMap.mp h
  exact ⟨n, h1, h2⟩
theorem lent_mem {ns : List Nat} {b : Addr} (h : b ∈ lent B ns) : b ∈ B := by
  obtain ⟨n, _, h2⟩ := lent_sub h
  exact List.mem_of_getElem? h2
theorem at_inj (nd : B.Nodup) {m n : Nat} {b : Addr} (h : B[m]? = some b) (h' : B[n]? = some b) : m = n := by
  obtain ⟨h1, e1⟩ := List.getElem?_eq_some_iff.mp h
  obtain ⟨h2, e2⟩ := List.getElem?_eq_some_iff.mp h'
  exact (List.getElem_inj nd).mp (e1.trans e2.symm)
theorem lent_nd (nd : B.Nodup) : ∀ {ns : List Nat}, ns.Nodup → (lent B ns).Nodup
  | [], _ => .nil
  | n :: ns, h => by
    have z := List.nodup_cons.mp h
    cases q : B[n]? with
    | none =>
      have : lent B (n :: ns) = lent B ns := by unfold lent; rw [List.filterMap_cons, q]
      rw [this]; exact lent_nd nd z.2
    | some b =>
      rw [lent_cons q]
      refine List.nodup_cons.mpr ⟨fun m => ?_, lent_nd nd z.2⟩
      obtain ⟨k, h1, h2⟩ := lent_sub m
      exact z.1 (at_inj nd q h2 ▸ h1)
def rest (B : List Addr) (ns : List Nat) (Z : List Addr) : List Addr := B.filter (fun b => !decide (b ∈ lent B ns)) ++ Z
theorem lent_all {ns : List Nat} {a : Addr} : a ∈ lent B ns ++ rest B ns Z ↔ a ∈ B ++ Z := by
  unfold rest
  constructor
  · intro m
    rcases List.mem_append.mp m with m | m
    · exact List.mem_append_left _ (lent_mem m)
    · rcases List.mem_append.mp m with m | m
      · exact List.mem_append_left _ (List.mem_filter.mp m).1
      · exact List.mem_append_right _ m
  · intro m
    rcases List.mem_append.mp m with m | m
    · by_cases h : a ∈ lent B ns
      · exact List.mem_append_left _ h
      · exact List.mem_append_right _ (List.mem_append_left _ (List.mem_filter.mpr ⟨m, by simp [h]⟩))
    · exact List.mem_append_right _ (List.mem_append_right _ m)
theorem RO.bd {H' : Hp} {B' Z' : List Addr} {b : Addr} {o : IO} (l : lendb o = true) (r : RO c H B Z b o) (k : ∀ a o, H a = some o → a ∉ B ++ Z → NT o → H' a = some o) (g : ∀ a, a ∈ B' ++ Z' → a ∈ B ++ Z ∨ H a = none) (kb : H' b = H b) : RO c H' B' Z' b o := by
  cases o with
  | lst ds => obtain ⟨xs, h1, h2⟩ := r; exact ⟨xs, by rw [kb]; exact h1, h2.mono k g⟩
  | dct ds => obtain ⟨xs, h1, h2, h3⟩ := r; exact ⟨xs, by rw [kb]; exact h1, h2, h3.mono k g⟩
  | dcn ds => obtain ⟨ob, xs, h1, hs, h2, h3⟩ := r; exact ⟨ob, xs, by rw [kb]; exact h1, hs, h2, h3.mono k g⟩
  | lsx _ => cases l
  | dead => cases l
theorem SR.lent {ns : List Nat} {S T : Sto} (s : SR c H B Z S) (hn : ns.Nodup) (h : inS ns S = some T) : SR c H (lent B ns) (rest B ns Z) T := by
  obtain ⟨l1, l2, at_⟩ := lent_at s.len h
  refine ⟨by rw [l1, l2], lent_nd s.nd hn, fun z m => ?_, fun z m hz => ?_, fun i b o hb ho => ?_, s.tb⟩
  · rcases List.mem_append.mp m with m | m
    · exact s.kind (List.mem_filter.mp m).1
    · exact s.zt z m
  · rcases List.mem_append.mp m with m | m
    · have := (List.mem_filter.mp m).2; simp [hz] at this
    · exact s.zb z m (lent_mem hz)
  · have hi : i < ns.length := by rw [← l1]; exact (List.getElem?_eq_some_iff.mp hb).1
    obtain ⟨⟨b', q1, q2⟩, ds, hld, q3, q4⟩ := at_ i _ (List.getElem?_eq_getElem hi)
    rw [hb] at q1; cases q1
    rw [ho] at q3; cases q3
    exact (s.ob _ _ _ q2 q4).bd hld (fun _ _ h _ _ => h) (fun a m => .inl (lent_all.mp m)) rfl
theorem RI.lent {ns : List Nat} {S T : Sto} (s : SR c H B Z S) (h : inS ns S = some T) {i j : IV} {v : V} (r : RI c H B Z i v) (q : inA ns i = some j) : RI c H (lent B ns) (rest B ns Z) j v := by
  cases r with
  | d r => cases q; exact .d (r.mono (fun _ _ h _ _ => h) fun a m => .inl (lent_all.mp m))
  | ref hb =>
    rename_i n b
    have q : (if n ∈ ns then some (IV.ref (ns.idxOf n)) else none) = some j := q
    by_cases hm : n ∈ ns
    · rw [if_pos hm] at q
      cases q
      have hi := List.idxOf_lt_length_of_mem hm
      have e : ns[ns.idxOf n]? = some n := by rw [List.getElem?_eq_getElem hi, List.getElem_idxOf]
      obtain ⟨⟨b', q1, q2⟩, _⟩ := (lent_at s.len h).2.2 _ _ e
      rw [hb] at q2; cases q2
      exact .ref q1
    · rw [if_neg hm] at q; cases q
  | gl h => cases q; exact .gl h
  | tup => cases q
  | scr r hb => cases q; exact .scr r fun m => hb (lent_all.mp m)
  | scrK r => cases q; exact .scrK r
  | lam => cases q
  | clo hk h hb hc hcb cs r => cases q; exact .clo hk h (fun m => hb (lent_all.mp m)) hc (fun m => hcb (lent_all.mp m)) (cs.mono (fun _ _ h _ _ => h) fun a m => .inl (lent_all.mp m)) (r.mono (fun _ _ h _ _ => h) fun a m => .inl (lent_all.mp m))
  | exc hC h hb hd hdb r => cases q; exact .exc hC h (fun m => hb (lent_all.mp m)) hd (fun m => hdb (lent_all.mp m)) (r.mono (fun _ _ h _ _ => h) fun a m => .inl (lent_all.mp m))
theorem RIs.lent {ns : List Nat} {S T : Sto} (s : SR c H B Z S) (h : inS ns S = some T) : ∀ {is js : List IV} {vs : List V}, RIs c H B Z is vs → inAs ns is = some js → RIs c H (lent B ns) (rest B ns Z) js vs
  | _, _, _, .nil, q => by cases q; exact .nil
  | _, _, _, .cons r t, q => by
    unfold inAs at q
    split at q
    · rename_i h1 h2
      cases q
      exact .cons (r.lent s h h1) (RIs.lent s h t h2)
    · cases q
theorem Ev.lent {ns : List Nat} {B' : List Addr} (s : SR c H B Z S) (e : Ev (lent B ns) H B' H1) : Ev B H B H1 := by
  exact ⟨⟨[], by simp, fun _ h => by cases h⟩, fun a o h hb nt => e.keep a o h (fun m => hb (lent_mem m)) nt, fun b hb => e.there b (s.trk b hb), e.there⟩
theorem back_far {ns : List Nat} {B' : List Addr} (e : Ev (lent B ns) H B' H1) : ∀ a, a ∈ B ++ Z → a ∈ B' ++ rest B ns Z ∨ H1 a = none := fun a m => .inl (by
  obtain ⟨N, hN, _⟩ := e.pre
  rcases List.mem_append.mp (lent_all (ns := ns).mpr m) with m | m
  · exact List.mem_append_left _ (by rw [hN]; exact List.mem_append_left _ m)
  · exact List.mem_append_right _ m)
/-- what is written back, list by list -/
theorem outS_at : ∀ {ns : List Nat} {T S S' : Sto}, ns.Nodup → outS ns T S = some S' → S'.length = S.length ∧ ns.length ≤ T.length ∧ (∀ (i n : Nat), ns[i]? = some n → n < S.length → ∃ o : IO, lendb o = true ∧ T[i]? = some o ∧ S'[n]? = some o) ∧ ∀ m, m ∉ ns → S'[m]? = S[m]?
  | [], T, S, S', _, h => by cases h; exact ⟨rfl, by simp, fun i n q => by simp at q, fun _ _ => rfl⟩
  | n :: ns, [], S, S', _, h => by cases h
  | n :: ns, o :: T, S, S', hn, h => by
    have z := List.nodup_cons.mp hn
    unfold outS at h
    by_cases hld : lendb o = true
    case neg => rw [if_neg hld] at h; cases h
    rw [if_pos hld] at h
    obtain ⟨a1, a2, a3, a4⟩ := outS_at z.2 (S := S.set n o) h
    refine ⟨by rw [a1, List.length_set], by simp; exact a2, fun i m q hm => ?_, fun m hm => ?_⟩
    · cases i with
      | zero =>
        simp at q; subst q
        refine ⟨o, hld, rfl, ?_⟩
        rw [a4 n z.1, List.getElem?_set_self hm]
      | succ i => exact a3 i m (by simpa using q) (by rw [List.length_set]; exact hm)
    · rw [a4 m fun k => hm (List.mem_cons_of_mem _ k), List.getElem?_set_ne fun k => hm (by rw [k]; exact List.mem_cons_self)]
theorem SR.back {ns : List Nat} {S T T' S' : Sto} {B' : List Addr} (s : SR c H B Z S) (hn : ns.Nodup) (h : inS ns S = some T) (e : Ev (MI.lent B ns) H B' H1) (s1 : SR c H1 B' (rest B ns Z) T') (ho : outS ns T' S = some S') : SR c H1 B Z S' := by
  obtain ⟨a1, a2, a3, a4⟩ := outS_at hn ho
  obtain ⟨l1, l2, at_⟩ := lent_at s.len h
  have e1 := Ev.lent s e
  refine ⟨by rw [s.len, a1], s.nd, fun z m => kdKeep (s.zt z m) fun o h nt => e1.keep z o h (s.zb z m) nt, s.zb, fun n b o hb ho => ?_, s1.tb⟩
  · by_cases m : n ∈ ns
    · obtain ⟨i, hi⟩ := List.getElem?_of_mem m
      obtain ⟨⟨b', q1, q2⟩, _⟩ := at_ i n hi
      rw [hb] at q2; cases q2
      obtain ⟨ds, hld, t1, t2⟩ := a3 i n hi (by rw [← s.len]; exact (List.getElem?_eq_some_iff.mp hb).1)
      rw [ho] at t2; cases t2
      have q3 : B'[i]? = some b := by
        obtain ⟨N, hN, _⟩ := e.pre
        rw [hN, List.getElem?_append_left (List.getElem?_eq_some_iff.mp q1).1]
        exact q1
      exact (s1.ob i b _ q3 t1).bd hld (fun _ _ h _ _ => h) (back_far e) rfl
    · rw [a4 n m] at ho
      have r' := s.ob n b o hb ho
      have nb : b ∉ MI.lent B ns := fun k => by
        obtain ⟨k1, k2, k3⟩ := lent_sub k
        exact m (at_inj s.nd hb k3 ▸ k2)
      cases o with
      | lst ds => obtain ⟨xs, h1, h2⟩ := r'; exact ⟨xs, e.keep _ _ h1 nb ntL, h2.ev e1⟩
      | lsx ds => obtain ⟨xs, h1, h2⟩ := r'; exact ⟨xs, e.keep _ _ h1 nb ntL, h2.ev e1⟩
      | dct _ => obtain ⟨xs, h1, h2, h3⟩ := r'; exact ⟨xs, e.keep _ _ h1 nb ntD, h2, h3.ev e1⟩
      | dcn _ => obtain ⟨ob, xs, h1, hs, h2, h3⟩ := r'; exact ⟨ob, xs, e.keep _ _ h1 nb ntK, hs, h2, h3.ev e1⟩
      | dead => obtain ⟨xs, h1⟩ := r'; exact ⟨xs, e.keep _ _ h1 nb ntL⟩
mutual
theorem toD_rd {k : Nat} {T : Sto} {B' Z' : List Addr} {bd : List Addr} (s1 : SR c H1 B' Z' T) (hf : ∀ a, a ∈ bd → a ∈ B' ++ Z') (hk : ∀ i b, B'[i]? = some b → k ≤ i → b ∉ bd) : ∀ {v : IV} {d : PyData} {x : V}, toD k T v = some d → RI c H1 B' Z' v x → RD c.K H1 bd d x
  | .d y, d, x, h, r => by
    cases h
    cases r with
    | d r => exact r.mono (fun _ _ h _ _ => h) fun a m => .inl (hf a m)
  | .ref n, d, x, h, r => by
    unfold toD at h
    split at h
    · cases h
    · rename_i hn
      split at h
      · rename_i ds q
        cases h
        cases r with
        | ref hb =>
          obtain ⟨xs, h1, h2⟩ := s1.ob n _ _ hb q
          exact .lst h1 (hk n _ hb (by omega)) (h2.mono (fun _ _ h _ _ => h) fun a m => .inl (hf a m))
      · rename_i kvs q
        cases h
        cases r with
        | ref hb =>
          obtain ⟨ks, h1, h2, h3⟩ := s1.ob n _ _ hb q
          exact .dct h1 (hk n _ hb (by omega)) h2 (h3.mono (fun _ _ h _ _ => h) fun a m => .inl (hf a m))
      · cases h
  | .tup vs, d, x, h, r => by
    unfold toD at h
    split at h
    · rename_i ds q
      cases h
      cases r with
      | tup h1 to hb t => exact .tup h1 to (fun m => hb (hf _ m)) (toDs_rd s1 hf hk q t)
    · cases h
  | .gl _, d, x, h, r => by simp [toD] at h
  | .scr _, d, x, h, r => by simp [toD] at h
  | .clo _ _, d, x, h, r => by simp [toD] at h
  | .exc _ _, d, x, h, r => by simp [toD] at h
  | .lam _, d, x, h, r => by simp [toD] at h
theorem toDs_rd {k : Nat} {T : Sto} {B' Z' : List Addr} {bd : List Addr} (s1 : SR c H1 B' Z' T) (hf : ∀ a, a ∈ bd → a ∈ B' ++ Z') (hk : ∀ i b, B'[i]? = some b → k ≤ i → b ∉ bd) : ∀ {v : List IV} {d : List PyData} {x : List V}, toDs k T v = some d → RIs c H1 B' Z' v x → RDs c.K H1 bd d x
  | [], d, x, h, r => by
    simp [toDs] at h
    subst h
    cases r
    exact .nil
  | v :: t, d, x, h, r => by
    unfold toDs at h
    split at h
    · rename_i h1 h2
      cases h
      cases r with
      | cons r1 r2 => exact .cons (toD_rd s1 hf hk h1 r1) (toDs_rd s1 hf hk h2 r2)
    · cases h
end
theorem fresh_of {ns : List Nat} {B' : List Addr} (s : SR c H B Z S) (e : Ev (lent B ns) H B' H1) (hl : (lent B ns).length = ns.length) : ∀ i b, B'[i]? = some b → ns.length ≤ i → b ∉ B ++ Z := fun i b hb hi m => by
  obtain ⟨N, hN, hn⟩ := e.pre
  rw [hN, List.getElem?_append_right (by omega)] at hb
  have z := hn b (List.mem_of_getElem? hb)
  rcases List.mem_append.mp m with m | m
  · exact s.trk b m z
  · exact kdNe (s.zt b m) z
theorem back_hf {ns : List Nat} {B' : List Addr} (e : Ev (MI.lent B ns) H B' H1) : ∀ a, a ∈ B ++ Z → a ∈ B' ++ rest B ns Z := fun a m => by
  obtain ⟨N, hN, _⟩ := e.pre
  rcases List.mem_append.mp (lent_all (ns := ns).mpr m) with m | m
  · exact List.mem_append_left _ (by rw [hN]; exact List.mem_append_left _ m)
  · exact List.mem_append_right _ m
section
variable {ns : List Nat} {S T T' S' : Sto} {B' : List Addr}
mutual
theorem RI.back (s : SR c H B Z S) (hn : ns.Nodup) (h : inS ns S = some T) (e : Ev (MI.lent B ns) H B' H1) (s1 : SR c H1 B' (rest B ns Z) T') : ∀ {v w : IV} {x : V}, outV ns T' v = some w → RI c H1 B' (rest B ns Z) v x → RI c H1 B Z w x
  | .d y, w, x, hv, r => by
    cases hv
    cases r with
    | d r => exact .d (r.mono (fun _ _ h _ _ => h) fun a m => .inl (back_hf e a m))
  | .ref n, w, x, hv, r => by
    obtain ⟨l1, l2, at_⟩ := lent_at s.len h
    cases r with
    | ref hb =>
      rename_i b
      unfold outV at hv
      cases hm : ns[n]? with
      | some m =>
        rw [hm] at hv
        cases hv
        obtain ⟨⟨b', q1, q2⟩, _⟩ := at_ n m hm
        have q3 : B'[n]? = some b' := by
          obtain ⟨N, hN, _⟩ := e.pre
          rw [hN, List.getElem?_append_left (List.getElem?_eq_some_iff.mp q1).1]
          exact q1
        rw [hb] at q3; cases q3
        exact .ref q2
      | none =>
        rw [hm] at hv
        obtain ⟨d, hd, rfl⟩ := Option.map_eq_some_iff.mp hv
        exact .d (toD_rd s1 (back_hf e) (fresh_of s e l1) hd (.ref hb))
  | .gl y, w, x, hv, r => by
    cases r with
    | gl h => cases hv; exact .gl h
  | .scr y, w, x, hv, r => by
    cases r with
    | scr r hb => cases hv; exact .scr r fun m => hb (back_hf e _ m)
    | scrK r => cases hv; exact .scrK r
  | .clo k vs, w, x, hv, r => by
    cases r with
    | clo hk h hb hc hcb cs r => cases hv; exact .clo hk h (fun m => hb (back_hf e _ m)) hc (fun m => hcb (back_hf e _ m)) (cs.mono (fun _ _ h _ _ => h) fun a m => .inl (back_hf e a m)) (r.mono (fun _ _ h _ _ => h) fun a m => .inl (back_hf e a m))
  | .exc n v, w, x, hv, r => by
    cases r with
    | exc hC h hb hd hdb r => cases hv; exact .exc hC h (fun m => hb (back_hf e _ m)) hd (fun m => hdb (back_hf e _ m)) (r.mono (fun _ _ h _ _ => h) fun a m => .inl (back_hf e a m))
  | .lam k, w, x, hv, r => by cases hv
  | .tup vs, w, x, hv, r => by
    obtain ⟨l1, l2, at_⟩ := lent_at s.len h
    unfold outV at hv
    split at hv
    · rename_i d hd
      cases hv
      exact .d (toD_rd s1 (back_hf e) (fresh_of s e l1) hd r)
    · obtain ⟨ws, hw, rfl⟩ := Option.map_eq_some_iff.mp hv
      cases r with
      | tup h2 to hb t => exact .tup h2 to (fun m => hb (back_hf e _ m)) (RIs.back s hn h e s1 hw t)
theorem RIs.back (s : SR c H B Z S) (hn : ns.Nodup) (h : inS ns S = some T) (e : Ev (MI.lent B ns) H B' H1) (s1 : SR c H1 B' (rest B ns Z) T') : ∀ {v w : List IV} {x : List V}, outVs ns T' v = some w → RIs c H1 B' (rest B ns Z) v x → RIs c H1 B Z w x
  | [], w, x, hv, r => by
    unfold outVs at hv
    cases hv
    cases r
    exact .nil
  | v :: t, w, x, hv, r => by
    unfold outVs at hv
    split at hv
    · rename_i h1 h2
      cases hv
      cases r with
      | cons r1 r2 => exact .cons (RI.back s hn h e s1 h1 r1) (RIs.back s hn h e s1 h2 r2)
    · cases hv
end
end
/-! ## a def's promise -/
structure FnG (P : Program) (w : World) (c : Ct) (base : Heap) (k : Nat) (f : Addr) (fd : FuncData) (ps : List Str) (g : FN) : Prop where
  run : ∀ (A : Around) (outer : List Env) (s : Shared) (H : Hp) (args : Args) (us : List Value) (vs : List V) (Q : VK) (E : XK) (B Z : List Addr) (S : Sto) (is : List IV), Room k A → A.guards = some [] → Env0 P w c.K c.mg base A outer s H → BindsTo s fd args (ps.zip us) → Vals vs us → vs.length = ps.length →
    SR c H B Z S → RIs c H B Z is vs → Post c (fun cls d _ H => E cls d H) B Z H [] (g is S) (fun v _ B' H' => ∀ x, RI c H' B' Z v x → Q x H') →
    codeAny (model P w) A (.call (.ref f) args) (CR (L2.CX P w) outer P w H s Q E) s
theorem FnG.mono {P : Program} {w : World} {base : Heap} {j k : Nat} {f : Addr} {fd : FuncData} {ps : List Str} {g : FN} (F : FnG P w c base j f fd ps g) (h : j ≤ k) : FnG P w c base k f fd ps g :=
  ⟨fun A outer s H args us vs Q E B Z S is hr => F.run A outer s H args us vs Q E B Z S is (hr.mono h)⟩
/-- the end of a body -/
def SOut.fin : SOut → Out IV
  | .nx _ S => .ok (.d .none) S
  | .ret v S => .ok v S
  | .exn n v _ S => .exn n v S
  | _ => .bad
def fnB (n : Nat) (fs : FS) : FN := fun is S => if is.length ≤ n then (fs (is.map some ++ List.replicate (n - is.length) none) S).fin else .bad
theorem RIs.at_ : ∀ {is : List IV} {vs : List V} {i : Nat} {v : IV}, RIs c H B Z is vs → is[i]? = some v → ∃ x, vs[i]? = some x ∧ RI c H B Z v x
  | _, _, _, _, .nil, q => by simp at q
  | _, _, 0, _, .cons h _, q => by simp at q; subst q; exact ⟨_, rfl, h⟩
  | _, _, i + 1, _, .cons _ t, q => by simpa using RIs.at_ (i := i) t (by simpa using q)
theorem rr_start {N : List Str} {is : List IV} {vs : List V} (r : RIs c H B Z is vs) (hl : is.length ≤ N.length) : RR c H B Z (is.map some ++ List.replicate (N.length - is.length) none) (L2.start N vs) := by
  unfold L2.start
  refine ⟨by simp [r.length], fun i v q => ?_⟩
  by_cases hi : i < is.length
  · rw [List.getElem?_append_left (by simpa using hi), List.getElem?_map] at q
    cases e : is[i]? with
    | none => rw [e] at q; cases q
    | some a =>
      rw [e] at q; cases q
      obtain ⟨x, h1, h2⟩ := r.at_ e
      refine ⟨x, ?_, h2⟩
      rw [List.getElem?_append_left (by simpa [← r.length] using hi), List.getElem?_map, h1] <;> rfl
  · rw [List.getElem?_append_right (by simpa using hi), List.getElem?_replicate] at q
    split at q <;> cases q
theorem fn_ofG {P : Program} {w : World} {base : Heap} {k : Nat} {f : Addr} {name qual : Str} {params : Arguments} {body : List Stmt} {scope : Scope} {dV kV doc pm cdv ct oc : Value} {an od : Option Addr} {osl : Array (Option Value)} {N ps : List Str} {fs : FS}
    (lk : c.K.lookup f = some ⟨oc, od, .func (PySem.W.fnOf name qual params body scope dV kV doc pm an cdv ct), osl⟩) (hcd : PySem.W.codeIn c.K cdv qual = true) (S : FnScope N ps scope)
    (hbody : ∀ (A : Around) (outer : List Env) (s : Shared) (H : Hp) (E : XK), Room k (A.deeper (PyProof.Rows.envOfC qual scope s.heap.objs.size f cdv)) → A.guards = some [] →
      PSs (cxOf (L2.CX P w) P w c.K c.mg base N qual scope f cdv A outer s H E) body (TSx c (fun cls d _ H => E cls d H) fs)) :
    FnG P w c base (k + 1) f (PySem.W.fnOf name qual params body scope dV kV doc pm an cdv ct) ps (fnB N.length fs) := by
  refine ⟨fun A outer s H args us vs Q E B Z S0 is hr hgu e0 hb rv hlen sr ri hp => ?_⟩
  have inH : c.K.In s.heap := e0.mod.kin.keeps fun b o e => (e0.bs b o e).1
  have noL : s.heap.NoLimit := e0.mod.nolimit.keeps fun b o e => (e0.bs b o e).1
  have kinds : ∀ y ∈ ps.zip us, scope.names.lookup y.1 = some .local ∨ (scope.names.lookup y.1 = some .cell ∧ ((cellsFrom (s.heap.objs.size + 1) scope.names []).lookup y.1).isSome = true) := fun ⟨n, v⟩ hy => by
    rcases S.par n (List.of_mem_zip hy).1 with q | q
    · exact .inl q
    · exact .inr ⟨q, PySem.W.cellsFrom_some _ _ _ (.inl q)⟩
  refine codeAny_call_function hr.depth (inH _ _ lk) rfl S.co S.gen rfl (PySem.W.codeRec_of inH hcd) (hb _ _ _ _ ?_)
  refine wpAny_newFunctionEnv_cells S.kind kinds fun env he s1 x => ?_
  subst he
  refine ⟨noL.keeps x.toInCall.keep, codeAny_func ?_⟩
  have I : Inv (cxOf (L2.CX P w) P w c.K c.mg base N qual scope f cdv A outer s H E) [] (L2.start N vs) H s1 := inv_start S hr.hd e0 hlen rv x
  unfold fnB at hp
  by_cases hle : is.length ≤ N.length
  · rw [if_pos hle] at hp
    have pr : TSx c (fun cls d _ H => E cls d H) fs { nx := fun _ H' => Q .non H', rt := Q } (L2.start N vs) H := by
      refine ⟨B, Z, _, S0, sr, rr_start ri hle, ?_⟩
      cases q : fs (is.map some ++ List.replicate (N.length - is.length) none) S0 with
      | nx r1 S1 =>
        rw [q] at hp
        exact fun σ1 B1 H1 e s _ => hp B1 H1 e s .non (.d .non)
      | ret v1 S1 =>
        rw [q] at hp
        exact fun x1 B1 H1 e s r => hp B1 H1 e s x1 r
      | exn n1 v1 r1 S1 =>
        rw [q] at hp
        exact fun cls d1 σ1 B1 H1 e s _ rx => hp cls d1 B1 H1 e s rx
      | brk r1 S1 => rw [q] at hp; exact hp.elim
      | ct r1 S1 => rw [q] at hp; exact hp.elim
      | bad => rw [q] at hp; exact hp.elim
    refine wpAny_mono ((hbody A outer s H E (hr.deeper _) hgu).run [] s1 (L2.start N vs) H _ I pr) (fun fl s2 hs => ?_) fun e s2 hs => hs
    have done : ∀ {σ' : St} {H' : Hp} {v : V} {u : Value}, Inv (cxOf (L2.CX P w) P w c.K c.mg base N qual scope f cdv A outer s H E) [] σ' H' s2 → RelV v u → Q v H' → CE outer P w H s Q u s2 :=
      fun {σ' H' v u} J r q => ⟨v, H', J.os, J.bare, J.base, J.hok, r, q⟩
    cases fl with
    | ret u => obtain ⟨v, σ', H', J, r, q⟩ := hs; exact done J r q
    | next => obtain ⟨σ', H', J, q⟩ := hs; exact done (v := V.non) (u := Value.none) J rfl q
    | brk => obtain ⟨_, _, _, q⟩ := hs; exact q.elim
    | cont => obtain ⟨_, _, _, q⟩ := hs; exact q.elim
  · rw [if_neg hle] at hp
    exact hp.elim
/-- the callee runs, in the caller's body -/
theorem run_fnG {k : Nat} {f : Addr} {fd : FuncData} {ps : List Str} {g : FN} {pins : List (Addr × Obj)} {s : Shared} {Q : VK} {us : List Value} {vs : List V} {S : Sto} {is : List IV} (hX : X.K = c.K) (hmg : X.mg = c.mg) (F : FnG X.prog X.w c X.base k f fd ps g) (hr : Room k X.A) (hgu : X.A.guards = some [])
    (hb : Binds X.K fd ps []) (tk : Takes X W) (hlen : is.length = ps.length) (I : Inv X pins σ H s) (rv : Vals vs us) (sr : SR c H B Z S) (ri : RIs c H B Z is vs)
    (hp : Post c W B Z H σ (g is S) fun v _ B' H' => ∀ x, RI c H' B' Z v x → Q x H') : wpAny (model X.prog X.w) X.A (call (.ref f) us) (EP X pins σ Q) X.xe s := by
  have hl : us.length = ps.length := by rw [← rv.length, ← ri.length, hlen]
  have bnd := hb s us I.kIn (by rw [List.append_nil]; exact hl)
  rw [List.append_nil] at bnd
  have en := I.env0
  rw [hX, hmg] at en
  have hp' : Post c (fun cls d _ H => W cls d σ H) B Z H [] (g is S) (fun v _ B' H' => ∀ x, RI c H' B' Z v x → Q x H') := by
    cases q : g is S with
    | ok v1 S1 => rw [q] at hp; exact hp
    | exn n1 v1 S1 => rw [q] at hp; exact hp
    | bad => rw [q] at hp; exact hp.elim
  refine wpAny_call (codeAny_mono (F.run X.A X.stack s H ⟨us, []⟩ us vs Q (WE W σ) B Z S is hr hgu en bnd rv (by rw [← ri.length, hlen]) sr ri hp') fun r s' hq => ?_)
  cases r with
  | error e => exact passAt tk σ pins H s e s' I hq
  | ok fl =>
    cases fl with
    | ret u => exact I.after hq
    | next => exact hq.elim
    | brk => exact hq.elim
    | cont => exact hq.elim
end
end MI
set_option maxRecDepth 100000
set_option maxHeartbeats 4000000
namespace MI
open PySem PySem.Spec L2
section
variable {c : Ct} {W : WX} {X : Cx} {B Z B1 : List Addr} {H H1 : Hp} {σ : L2.St} {α β : Type}
theorem RX.back {ns : List Nat} {B' : List Addr} {n : Str} {v : PyData} {cls : Value} {dd : Option Addr} (e : Ev (lent B ns) H B' H1) (x : RX c H1 (B' ++ rest B ns Z) n v cls dd) : RX c H1 (B ++ Z) n v cls dd := by
  obtain ⟨C, dx, y, a1, a2, a3, a4, a6, a5⟩ := x
  exact ⟨C, dx, y, a1, a2, a3, a4, far_out a4 a6 (back_far e), a5.mono (fun _ _ h _ _ => h) (back_far e)⟩
/-- how an answer is brought back -/
def BackOk (c : Ct) (bk : List Nat → Sto → Out IV → Out IV) : Prop := ∀ {W : WX} {B Z : List Addr} {H : Hp} {σ : L2.St} {S T : Sto} {ns : List Nat} {o : Out IV} {Q : VK}, SR c H B Z S → ns.Nodup → inS ns S = some T →
  Post c W B Z H σ (bk ns S o) (fun v S' B' H' => ∀ x, RI c H' B' Z v x → Q x H') → Post c W (lent B ns) (rest B ns Z) H σ o (fun v S' B' H' => ∀ x, RI c H' B' (rest B ns Z) v x → Q x H')
theorem back_exn {S T : Sto} {ns : List Nat} {n : Str} {v : PyData} {T' : Sto} {Q : IV → Sto → List Addr → Hp → Prop} {R : IV → Sto → List Addr → Hp → Prop} (s : SR c H B Z S) (hn : ns.Nodup) (h : inS ns S = some T)
    (p : Post c W B Z H σ (backW ns S (.exn n v T')) Q) : Post c W (lent B ns) (rest B ns Z) H σ (.exn n v T') R := by
  have p : Post c W B Z H σ (match outS ns T' S with
    | some S' => Out.exn n v S'
    | none => Out.bad) Q := p
  intro cls dd B' H' e s1 rx
  cases q : outS ns T' S with
  | none => rw [q] at p; exact p.elim
  | some S' =>
    rw [q] at p
    exact p cls dd B H' (e.lent s) (s.back hn h e s1 q) (RX.back e rx)
theorem backW_ok : BackOk c backW := by
  intro W B Z H σ S T ns o Q s hn h p
  cases o with
  | bad => exact p
  | exn n v T' => exact back_exn s hn h p
  | ok v T' =>
    have p : Post c W B Z H σ (match outS ns T' S, outV ns T' v with
      | some S', some w => Out.ok w S'
      | _, _ => Out.bad) (fun v S' B' H' => ∀ x, RI c H' B' Z v x → Q x H') := p
    intro B' H' e s1 x r
    cases q : outS ns T' S with
    | none => rw [q] at p; exact p.elim
    | some S' =>
      cases q2 : outV ns T' v with
      | none => rw [q, q2] at p; exact p.elim
      | some w =>
        rw [q, q2] at p
        exact p B H' (e.lent s) (s.back hn h e s1 q) x (r.back s hn h e s1 q2)
theorem backM_ok : BackOk c (fun ns S o => match o with
    | .exn n v T => backW ns S (.exn n v T)
    | o => backM ns S o) := by
  intro W B Z H σ S T ns o Q s hn h p
  cases o with
  | bad => exact p
  | exn n v T' => exact back_exn s hn h p
  | ok v T' =>
    intro B' H' e s1 x r
    cases r with
    | d r => exact (show False from p).elim
    | gl r => exact (show False from p).elim
    | tup r => exact (show False from p).elim
    | scr r => exact (show False from p).elim
    | scrK r => exact (show False from p).elim
    | lam => exact (show False from p).elim
    | clo => exact (show False from p).elim
    | exc => exact (show False from p).elim
    | ref hb =>
      rename_i n b
      have p : Post c W B Z H σ (match outS ns T' S, newO ns.length T' n with
        | some S', some o => Out.ok (.ref S'.length) (S' ++ [o])
        | _, _ => .bad) (fun v S' B' H' => ∀ x, RI c H' B' Z v x → Q x H') := p
      cases q : outS ns T' S with
      | none => rw [q] at p; exact p.elim
      | some S' =>
        rw [q] at p
        unfold newO at p
        by_cases hk : n < ns.length
        · rw [if_pos hk] at p; exact p.elim
        · rw [if_neg hk] at p
          cases q2 : T'[n]? with
          | none => rw [q2] at p; exact p.elim
          | some u =>
              rw [q2] at p
              by_cases hld : lendb u = true
              case neg => simp only [if_neg hld] at p; exact p.elim
              simp only [if_pos hld] at p
              have p : Post c W B Z H σ (Out.ok (.ref S'.length) (S' ++ [u])) (fun v S' B' H' => ∀ x, RI c H' B' Z v x → Q x H') := p
              obtain ⟨a1, a2, a3, a4⟩ := outS_at hn q
              obtain ⟨l1, l2, at_⟩ := lent_at s.len h
              have hfr := fresh_of s e l1 n b hb (by omega)
              have hHb : H b = none := by
                obtain ⟨N, hN, hn'⟩ := e.pre
                rw [hN, List.getElem?_append_right (by omega)] at hb
                exact hn' b (List.mem_of_getElem? hb)
              have e0 := e.lent s
              have eB : Ev B H (B ++ [b]) H' := ⟨⟨[b], rfl, fun y m => by rw [List.mem_singleton.mp m]; exact hHb⟩, e0.keep, (fun y m => by
                rcases List.mem_append.mp m with m | m
                · exact e0.trk y m
                · rw [List.mem_singleton.mp m]; exact e.trk b (List.mem_of_getElem? hb)), e0.there⟩
              have far : ∀ a, a ∈ (B ++ [b]) ++ Z → a ∈ B' ++ rest B ns Z ∨ H' a = none := fun a m => by
                rcases List.mem_append.mp m with m | m
                · rcases List.mem_append.mp m with m | m
                  · exact back_far e a (List.mem_append_left _ m)
                  · rw [List.mem_singleton.mp m]; exact .inl (List.mem_append_left _ (List.mem_of_getElem? hb))
                · exact back_far e a (List.mem_append_right _ m)
              refine p (B ++ [b]) H' eB ?_ _ (.ref (by rw [a1, ← s.len]; simp))
              have s0 := s.back hn h e s1 q
              refine ⟨by rw [List.length_append, List.length_append, s0.len] <;> rfl, List.nodup_append.mpr ⟨s.nd, by simp, fun y hy z hz k => ?_⟩, s0.zt, fun z hz m => ?_, fun m y o hy ho => ?_, s0.tb⟩
              · rw [List.mem_singleton.mp hz] at k; exact hfr (List.mem_append_left _ (k ▸ hy))
              · rcases List.mem_append.mp m with m | m
                · exact s.zb z hz m
                · rw [List.mem_singleton.mp m] at hz; exact hfr (List.mem_append_right _ hz)
              · by_cases hm : m < S'.length
                · rw [List.getElem?_append_left (by rw [s0.len]; exact hm)] at hy
                  rw [List.getElem?_append_left hm] at ho
                  by_cases mem : m ∈ ns
                  · obtain ⟨i, hi⟩ := List.getElem?_of_mem mem
                    obtain ⟨⟨b', q1, q3⟩, _⟩ := at_ i m hi
                    rw [hy] at q3; cases q3
                    obtain ⟨ds', hld2, t1, t2⟩ := a3 i m hi (by rw [← a1]; exact hm)
                    rw [ho] at t2; cases t2
                    have q4 : B'[i]? = some y := by
                      obtain ⟨N, hN, _⟩ := e.pre
                      rw [hN, List.getElem?_append_left (List.getElem?_eq_some_iff.mp q1).1]
                      exact q1
                    exact (s1.ob i y _ q4 t1).bd hld2 (fun _ _ h _ _ => h) far rfl
                  · rw [a4 m mem] at ho
                    have r' := s.ob m y o hy ho
                    have nb : y ∉ lent B ns := fun k => by
                      obtain ⟨k1, k2, k3⟩ := lent_sub k
                      exact mem (at_inj s.nd hy k3 ▸ k2)
                    cases o with
                    | lst ds => obtain ⟨xs, h1, h2⟩ := r'; exact ⟨xs, e.keep _ _ h1 nb ntL, h2.ev eB⟩
                    | lsx ds => obtain ⟨xs, h1, h2⟩ := r'; exact ⟨xs, e.keep _ _ h1 nb ntL, h2.ev eB⟩
                    | dct _ => obtain ⟨xs, h1, h2, h3⟩ := r'; exact ⟨xs, e.keep _ _ h1 nb ntD, h2, h3.ev eB⟩
                    | dcn _ => obtain ⟨ob, xs, h1, hs, h2, h3⟩ := r'; exact ⟨ob, xs, e.keep _ _ h1 nb ntK, hs, h2, h3.ev eB⟩
                    | dead => obtain ⟨xs, h1⟩ := r'; exact ⟨xs, e.keep _ _ h1 nb ntL⟩
                · have hl := (List.getElem?_eq_some_iff.mp ho).1
                  rw [List.length_append] at hl
                  have en : m = S'.length := by simp at hl; omega
                  subst en
                  rw [List.getElem?_append_right (Nat.le_refl _)] at ho
                  rw [← s0.len, List.getElem?_append_right (Nat.le_refl _)] at hy
                  simp at ho hy
                  subst ho hy
                  exact (s1.ob n b _ hb q2).bd hld (fun _ _ h _ _ => h) far rfl
@[simp] def backN (ns : List Nat) (S : Sto) (o : Out IV) : Out IV := match o with
    | .exn n v T => backW ns S (.exn n v T)
    | o => backM ns S o
/-- f(..): n arguments -/
@[simp] def callN (n : Nat) (g : FN) : FN := fun is S => if is.length = n then callW backW g is S else .bad
/-- the same, the answer being a list to be changed -/
@[simp] def callNM (n : Nat) (g : FN) : FN := fun is S => if is.length = n then callW backN g is S else .bad
@[simp] def eApp (o : FN) (fa : FA) : FE := fun r S => (fa r S).bind o
theorem call_fn {k n : Nat} {f : Addr} {fd : FuncData} {ps : List Str} {g : FN} {bk : List Nat → Sto → Out IV → Out IV} {pins : List (Addr × Obj)} {s : Shared} {Q : VK} {us : List Value} {vs : List V} {S : Sto} {is : List IV} (hbk : BackOk c bk) (hX : X.K = c.K) (hmg : X.mg = c.mg)
    (F : FnG X.prog X.w c X.base k f fd ps g) (hr : Room k X.A) (hgu : X.A.guards = some []) (hb : Binds X.K fd ps []) (tk : Takes X W) (hlen : is.length = ps.length) (I : Inv X pins σ H s) (rv : Vals vs us) (sr : SR c H B Z S) (ri : RIs c H B Z is vs)
    (hp : Post c W B Z H σ (callW bk g is S) fun v _ B' H' => ∀ x, RI c H' B' Z v x → Q x H') : wpAny (model X.prog X.w) X.A (call (.ref f) us) (EP X pins σ Q) X.xe s := by
  unfold callW at hp
  cases q1 : inAs (brw is) is with
  | none => rw [q1] at hp; exact hp.elim
  | some js =>
    cases q2 : inS (brw is) S with
    | none => rw [q1, q2] at hp; exact hp.elim
    | some T =>
      rw [q1, q2] at hp
      have hj : js.length = ps.length := by
        rw [← hlen, (ri.lent sr q2 q1).length, ri.length]
      exact run_fnG hX hmg F hr hgu hb tk hj I rv (sr.lent (brw_nd is) q2) (ri.lent sr q2 q1) (hbk sr (brw_nd is) q2 hp)
/-- the reading of an application -/
def TApp (c : Ct) (W : WX) (o : FN) (t : TA) : TE := fun σ H Q => t σ H fun vs H1 => ∃ B Z S is, SR c H1 B Z S ∧ RIs c H1 B Z is vs ∧ Post c W B Z H1 σ (o is S) fun v _ B' H' => ∀ x, RI c H' B' Z v x → Q x H'
theorem app_of {o : FN} {fa : FA} {Q : VK} (h : TEx c W (eApp o fa) σ H Q) : TApp c W o (TAx c W fa) σ H Q := by
  obtain ⟨B, Z, r, S, s, rr, p⟩ := h
  exact ⟨B, Z, r, S, s, rr, (Post.bind p).imp fun is S1 B1 H1 e1 s1 q vs rv => ⟨B1, Z, S1, is, s1, rv, q⟩⟩
/-- what is the same at every call of one body -/
structure Cxg (c : Ct) (W : WX) (X : Cx) : Prop where
  K : X.K = c.K
  mg : X.mg = c.mg
  gu : X.A.guards = some []
  tk : Takes X W
theorem s_callB {k n : Nat} {f : Addr} {fd : FuncData} {ps : List Str} {g : FN} {bk : List Nat → Sto → Out IV → Out IV} {x : Str} {p pos : Pos} {e : Expr} {es : List Expr} {fa : FA} (hbk : BackOk c bk) (cx : Cxg c W X) (F : FnG X.prog X.w c X.base k f fd ps g) (hr : Room k X.A)
    (hg : Gl X x) (hm : X.mg x = some (.ref f)) (hk : PySem.W.keepIn X.K (.ref f) = true) (hb : Binds X.K fd ps []) (hn : n = ps.length) (ha : PA X (e :: es) (TAx c W fa)) (hdb : (x == ("__debug__" : Str)) = false := by decide)
    (he : starEach (e :: es) X.env = (false, eval e X.env) :: starEach es X.env := by rfl) (hpl : (backTo pos (starEach es X.env)).any (·.1) = false := by rfl) :
    PE X (.Call (.Name x p) (e :: es) [] pos) (TEx c W (eApp (fun is S => if is.length = n then callW bk g is S else .bad) fa)) := by
  refine pe_imp (t := TApp c W (fun is S => if is.length = n then callW bk g is S else .bad) (TAx c W fa)) ⟨fun pins s σ H Q I h => ?_⟩ fun _ _ _ => app_of
  refine wpAny_Call_Name_kw (ld_glob I hg hm ?_ hdb)
  refine PySem.W.callWith_K (h₀ := X.base) I.ok.mod.kin hk (thn (ha.run pos pins s σ H _ I h) fun us s1 ⟨vs, H1, I1, r, B, Z, S, is, sr, ri, hp⟩ => ⟨I1.kIn, ?_⟩) he hpl
  dsimp only at hp
  by_cases hl : is.length = n
  · rw [if_pos hl] at hp
    exact call_fn (n := n) hbk cx.K cx.mg F hr cx.gu hb cx.tk (hl.trans hn) I1 r sr ri hp
  · rw [if_neg hl] at hp
    exact hp.elim
theorem s_call {k n : Nat} {f : Addr} {fd : FuncData} {ps : List Str} {g : FN} {x : Str} {p pos : Pos} {e : Expr} {es : List Expr} {fa : FA} (cx : Cxg c W X) (F : FnG X.prog X.w c X.base k f fd ps g) (hr : Room k X.A)
    (hg : Gl X x) (hm : X.mg x = some (.ref f)) (hk : PySem.W.keepIn X.K (.ref f) = true) (hb : Binds X.K fd ps []) (hn : n = ps.length) (ha : PA X (e :: es) (TAx c W fa)) (hdb : (x == ("__debug__" : Str)) = false := by decide)
    (he : starEach (e :: es) X.env = (false, eval e X.env) :: starEach es X.env := by rfl) (hpl : (backTo pos (starEach es X.env)).any (·.1) = false := by rfl) :
    PE X (.Call (.Name x p) (e :: es) [] pos) (TEx c W (eApp (callN n g) fa)) := s_callB backW_ok cx F hr hg hm hk hb hn ha hdb he hpl
theorem s_callM {k n : Nat} {f : Addr} {fd : FuncData} {ps : List Str} {g : FN} {x : Str} {p pos : Pos} {e : Expr} {es : List Expr} {fa : FA} (cx : Cxg c W X) (F : FnG X.prog X.w c X.base k f fd ps g) (hr : Room k X.A)
    (hg : Gl X x) (hm : X.mg x = some (.ref f)) (hk : PySem.W.keepIn X.K (.ref f) = true) (hb : Binds X.K fd ps []) (hn : n = ps.length) (ha : PA X (e :: es) (TAx c W fa)) (hdb : (x == ("__debug__" : Str)) = false := by decide)
    (he : starEach (e :: es) X.env = (false, eval e X.env) :: starEach es X.env := by rfl) (hpl : (backTo pos (starEach es X.env)).any (·.1) = false := by rfl) :
    PE X (.Call (.Name x p) (e :: es) [] pos) (TEx c W (eApp (callNM n g) fa)) := s_callB backM_ok cx F hr hg hm hk hb hn ha hdb he hpl
/-- built-ins: what the rule asks, from the reading -/
def OkN (c : Ct) (W : WX) (r : List V → Hp → VK → Prop) (o : FN) : Prop := ∀ {σ : L2.St} {B Z : List Addr} {H : Hp} {S : Sto} {is : List IV} {vs : List V} {Q : VK}, SR c H B Z S → RIs c H B Z is vs → Post c W B Z H σ (o is S) (fun v S' B' H' => ∀ x, RI c H' B' Z v x → Q x H') → r vs H Q
theorem cb_of {o : FN} {fa : FA} {Q : VK} {r : List V → Hp → VK → Prop} (k : OkN c W r o) (h : TEx c W (eApp o fa) σ H Q) : tCB r (TAx c W fa) σ H Q := by
  obtain ⟨B, Z, r', S, s, rr, p⟩ := h
  exact ⟨B, Z, r', S, s, rr, (Post.bind p).imp fun is S1 B1 H1 e1 s1 q vs rv => k s1 rv q⟩
section
variable {x : Str} {p pos : Pos} {e : Expr} {es : List Expr} {fa : FA} {o : FN} {id T : String} {r : List V → Hp → VK → Prop}
theorem s_blt (k : OkN c W r o) (hc : CallR X (.builtin id) r) (hg : Gl X x) (hm : X.mg x = none) (hv : bootBuiltins x = some (.builtin id)) (ha : PA X (e :: es) (TAx c W fa)) (hn : x ≠ "__name__" := by decide) (hdb : (x == ("__debug__" : Str)) = false := by decide)
    (he : starEach (e :: es) X.env = (false, eval e X.env) :: starEach es X.env := by rfl) (hpl : (backTo pos (starEach es X.env)).any (·.1) = false := by rfl) : PE X (.Call (.Name x p) (e :: es) [] pos) (TEx c W (eApp o fa)) :=
  pe_imp (pe_callB hc hg hm hv ha hn hdb he hpl) fun _ _ _ => cb_of k
theorem s_bty (k : OkN c W r o) (hc : CallR X (.type T) r) (hg : Gl X x) (hm : X.mg x = none) (hv : bootBuiltins x = some (.type T)) (ha : PA X (e :: es) (TAx c W fa)) (hn : x ≠ "__name__" := by decide) (hdb : (x == ("__debug__" : Str)) = false := by decide)
    (he : starEach (e :: es) X.env = (false, eval e X.env) :: starEach es X.env := by rfl) (hpl : (backTo pos (starEach es X.env)).any (·.1) = false := by rfl) : PE X (.Call (.Name x p) (e :: es) [] pos) (TEx c W (eApp o fa)) :=
  pe_imp (pe_callTy hc hg hm hv ha hn hdb he hpl) fun _ _ _ => cb_of k
end
end
end MI
set_option maxRecDepth 100000
set_option maxHeartbeats 4000000
namespace MI
open PySem PySem.Spec L2
section
variable {c : Ct} {W : WX} {X : Cx} {B Z B1 : List Addr} {H H1 : Hp} {σ : L2.St} {α β : Type}
theorem ris1 {v : IV} {vs : List V} (r : RIs c H B Z [v] vs) : ∃ x, vs = [x] ∧ RI c H B Z v x := by
  cases r with
  | cons h t => cases t; exact ⟨_, rfl, h⟩
theorem ris2 {v w : IV} {vs : List V} (r : RIs c H B Z [v, w] vs) : ∃ x y, vs = [x, y] ∧ RI c H B Z v x ∧ RI c H B Z w y := by
  cases r with
  | cons h t =>
    obtain ⟨y, rfl, k⟩ := ris1 t
    exact ⟨_, y, rfl, h, k⟩
/-- what is in a list -/
@[simp] def lstOf (S : Sto) : IV → Option (List PyData)
  | .d (.list ds) => some ds
  | .scr ns => some (ns.map .int)
  | .ref n => match S[n]? with
    | some (.lst ds) => some ds
    | _ => none
  | _ => none
@[simp] def tupOf : IV → Option (List PyData)
  | .d (.tuple ds) => some ds
  | _ => none
theorem lstOf_sq {S : Sto} {v : IV} {x : V} {ds : List PyData} (s : SR c H B Z S) (r : RI c H B Z v x) (h : lstOf S v = some ds) : ∃ p xs, x = .ref p ∧ SqL c.K H p xs ∧ RDs c.K H (B ++ Z) ds xs := by
  cases r with
  | d r =>
    cases r with
    | lst h1 hb t => cases h; exact ⟨_, _, rfl, .of h1, t⟩
    | non => cases h
    | bl => cases h
    | int => cases h
    | str => cases h
    | tup => cases h
    | tupK => cases h
    | dct => cases h
  | ref hb =>
    rename_i n b
    have h : (match S[n]? with
      | some (IO.lst ds) => some ds
      | _ => none) = some ds := h
    cases q : S[n]? with
    | none => rw [q] at h; cases h
    | some o =>
      cases o with
      | lst es => rw [q] at h; cases h; obtain ⟨xs, h1, h2⟩ := s.ob n b _ hb q; exact ⟨b, xs, rfl, .of h1, h2⟩
      | lsx es => rw [q] at h; cases h
      | dct es => rw [q] at h; cases h
      | dcn es => rw [q] at h; cases h
      | dead => rw [q] at h; cases h
  | gl => cases h
  | lam => cases h
  | clo => cases h
  | exc => cases h
  | tup => cases h
  | scr h1 hb =>
    cases h
    obtain ⟨a, e, q⟩ := RI.scrS (.scr h1 hb)
    cases e
    exact ⟨_, _, rfl, q, rds_ints _⟩
  | scrK h1 =>
    cases h
    obtain ⟨a, e, q⟩ := RI.scrS (B := B) (Z := Z) (H := H) (.scrK h1)
    cases e
    exact ⟨_, _, rfl, q, rds_ints _⟩
theorem tupOf_sq {v : IV} {x : V} {ds : List PyData} (r : RI c H B Z v x) (h : tupOf v = some ds) : ∃ p xs, x = .ref p ∧ SqT c.K H p xs ∧ RDs c.K H (B ++ Z) ds xs := by
  cases r with
  | d r =>
    cases r with
    | tup h1 to hb t => cases h; exact ⟨_, _, rfl, sqF h1, t⟩
    | tupK h1 nd t => cases h; exact ⟨_, _, rfl, .inr h1, t⟩
    | non => cases h
    | bl => cases h
    | int => cases h
    | str => cases h
    | lst => cases h
    | dct => cases h
  | ref => cases h
  | gl => cases h
  | tup => cases h
  | scr => cases h
  | scrK => cases h
  | lam => cases h
  | clo => cases h
  | exc => cases h
@[simp] def seqOf (S : Sto) (v : IV) : Option (List PyData) := match lstOf S v with
  | some ds => some ds
  | none => tupOf v
theorem seqOf_sq {S : Sto} {v : IV} {x : V} {ds : List PyData} (s : SR c H B Z S) (r : RI c H B Z v x) (h : seqOf S v = some ds) : ∃ p xs, x = .ref p ∧ (SqL c.K H p xs ∨ SqT c.K H p xs) ∧ RDs c.K H (B ++ Z) ds xs := by
  unfold seqOf at h
  cases q : lstOf S v with
  | some es =>
    rw [q] at h; cases h
    obtain ⟨p, xs, a1, a2, a3⟩ := lstOf_sq s r q
    exact ⟨p, xs, a1, .inl a2, a3⟩
  | none =>
    rw [q] at h
    obtain ⟨p, xs, a1, a2, a3⟩ := tupOf_sq r h
    exact ⟨p, xs, a1, .inr a2, a3⟩
/-! ### len, int, abs, min, max -/
@[simp] def lenOf (S : Sto) : IV → Option Nat
  | .d (.str x) => if x.length ≤ sizeLine then some x.length else none
  | .tup vs => some vs.length
  | .ref n => match S[n]? with
    | some (.lst ds) => some ds.length
    | some (.lsx ds) => some ds.length
    | _ => none
  | v => (seqOf S v).map List.length
@[simp] def bLen : FN := fun is S => match is with
  | [v] => match lenOf S v with
    | some n => .ok (.d (.int n)) S
    | none => .bad
  | _ => .bad
theorem lenOf_v {S : Sto} {v : IV} {x : V} {n : Nat} (s : SR c H B Z S) (r : RI c H B Z v x) (h : lenOf S v = some n) : LenV c.K x H n := by
  have seq : (seqOf S v).map List.length = some n → LenV c.K x H n := fun q => by
    obtain ⟨ds, h1, rfl⟩ := Option.map_eq_some_iff.mp q
    obtain ⟨p, xs, rfl, h2, h3⟩ := seqOf_sq s r h1
    rw [h3.length]
    rcases h2 with h2 | h2
    · exact .inl ⟨xs, h2, rfl⟩
    · exact .inr ⟨xs, h2, rfl⟩
  cases r with
  | d r =>
    cases r with
    | str y =>
      unfold lenOf at h
      split at h <;> try (rename_i hx; cases hx)
      · split at h
        · cases h; exact ⟨by assumption, rfl⟩
        · cases h
      · rename_i h1 _ _; exact (h1 y rfl).elim
    | non => exact seq h
    | bl => exact seq h
    | int => exact seq h
    | lst => exact seq h
    | tup => exact seq h
    | tupK => exact seq h
    | dct => exact seq h
  | ref hb =>
    rename_i k b
    have h : (match S[k]? with
      | some (IO.lst ds) => some ds.length
      | some (IO.lsx ds) => some ds.length
      | _ => none) = some n := h
    cases q : S[k]? with
    | none => rw [q] at h; cases h
    | some o =>
      have ob := s.ob k b _ hb q
      cases o with
      | lst es => rw [q] at h; cases h; obtain ⟨xs, h1, h2⟩ := ob; exact .inl ⟨xs, .of h1, h2.length⟩
      | lsx es => rw [q] at h; cases h; obtain ⟨xs, h1, h2⟩ := ob; exact .inl ⟨xs, .of h1, h2.length⟩
      | dct es => rw [q] at h; cases h
      | dcn es => rw [q] at h; cases h
      | dead => rw [q] at h; cases h
  | gl => cases h
  | lam => cases h
  | clo => cases h
  | exc => cases h
  | tup h1 to hb t => cases h; exact .inr ⟨_, sqF h1, t.length⟩
  | scr h1 hb => exact seq h
  | scrK h1 => exact seq h
theorem k_len : OkN c W (fun xs H Q => ∃ x n, xs = [x] ∧ LenV c.K x H n ∧ Q (.int n) H) bLen := by
  intro σ B Z H S is vs Q s r p
  unfold bLen at p
  split at p
  · obtain ⟨x, rfl, rx⟩ := ris1 r
    split at p
    · rename_i n hn
      exact ⟨x, n, rfl, lenOf_v s rx hn, p.ret s _ (.d (.int _))⟩
    · exact p.elim
  · exact p.elim
@[simp] def bInt : FN := fun is S => match is with
  | [.d (.int i)] => .ok (.d (.int i)) S
  | [.d (.bool b)] => .ok (.d (.int (if b then 1 else 0))) S
  | _ => .bad
theorem k_toint : OkN c W (fun xs H Q => (∃ i, xs = [.int i] ∧ Q (.int i) H) ∨ ∃ k, xs = [.bl k] ∧ Q (.int (if k then 1 else 0)) H) bInt := by
  intro σ B Z H S is vs Q s r p
  unfold bInt at p
  split at p
  · obtain ⟨x, rfl, rx⟩ := ris1 r
    cases rx with | d rx => cases rx; exact .inl ⟨_, rfl, p.ret s _ (.d (.int _))⟩
  · obtain ⟨x, rfl, rx⟩ := ris1 r
    cases rx with | d rx => cases rx; exact .inr ⟨_, rfl, p.ret s _ (.d (.int _))⟩
  · exact p.elim
@[simp] def bAbs : FN := fun is S => match is with
  | [.d (.int i)] => .ok (.d (.int (if i < 0 then -i else i))) S
  | _ => .bad
theorem k_abs : OkN c W (fun xs H Q => ∃ i, xs = [.int i] ∧ Q (.int (if i < 0 then -i else i)) H) bAbs := by
  intro σ B Z H S is vs Q s r p
  unfold bAbs at p
  split at p
  · obtain ⟨x, rfl, rx⟩ := ris1 r
    cases rx with | d rx => cases rx; exact ⟨_, rfl, p.ret s _ (.d (.int _))⟩
  · exact p.elim
@[simp] def bMax2 : FN := fun is S => match is with
  | [.d (.int i), .d (.int j)] => .ok (.d (.int (if j > i then j else i))) S
  | _ => .bad
theorem k_max2 : OkN c W (fun xs H Q => ∃ i j, xs = [.int i, .int j] ∧ Q (.int (if j > i then j else i)) H) bMax2 := by
  intro σ B Z H S is vs Q s r p
  unfold bMax2 at p
  split at p
  · obtain ⟨x, y, rfl, rx, ry⟩ := ris2 r
    cases rx with | d rx => cases rx; cases ry with | d ry => cases ry; exact ⟨_, _, rfl, p.ret s _ (.d (.int _))⟩
  · exact p.elim
@[simp] def bMin2 : FN := fun is S => match is with
  | [.d (.int i), .d (.int j)] => .ok (.d (.int (if j < i then j else i))) S
  | _ => .bad
theorem k_min2 : OkN c W (fun xs H Q => ∃ i j, xs = [.int i, .int j] ∧ Q (.int (if j < i then j else i)) H) bMin2 := by
  intro σ B Z H S is vs Q s r p
  unfold bMin2 at p
  split at p
  · obtain ⟨x, y, rfl, rx, ry⟩ := ris2 r
    cases rx with | d rx => cases rx; cases ry with | d ry => cases ry; exact ⟨_, _, rfl, p.ret s _ (.d (.int _))⟩
  · exact p.elim
/-! ### over lists of ints, of bools -/
def intsOf : List PyData → Option (List Int)
  | [] => some []
  | .int i :: t => match intsOf t with
    | some r => some (i :: r)
    | none => none
  | _ => none
theorem intsOf_eq : ∀ {ds : List PyData} {ns : List Int}, intsOf ds = some ns → ds = ns.map .int
  | [], ns, h => by cases h; rfl
  | d :: ds, ns, h => by
    cases d <;> try (cases h)
    rename_i i
    have h : (match intsOf ds with
      | some r => some (i :: r)
      | none => none) = some ns := h
    cases q : intsOf ds with
    | none => rw [q] at h; cases h
    | some r => rw [q] at h; cases h; rw [intsOf_eq q] <;> rfl
theorem intsOf_map : ∀ ns : List Int, intsOf (ns.map .int) = some ns
  | [] => rfl
  | n :: ns => by show (match intsOf (ns.map .int) with
      | some r => some (n :: r)
      | none => none) = _; rw [intsOf_map ns]
def boolsOf : List PyData → Option (List Bool)
  | [] => some []
  | .bool i :: t => match boolsOf t with
    | some r => some (i :: r)
    | none => none
  | _ => none
theorem boolsOf_eq : ∀ {ds : List PyData} {ns : List Bool}, boolsOf ds = some ns → ds = ns.map .bool
  | [], ns, h => by cases h; rfl
  | d :: ds, ns, h => by
    cases d <;> try (cases h)
    rename_i i
    have h : (match boolsOf ds with
      | some r => some (i :: r)
      | none => none) = some ns := h
    cases q : boolsOf ds with
    | none => rw [q] at h; cases h
    | some r => rw [q] at h; cases h; rw [boolsOf_eq q] <;> rfl
theorem boolsOf_map : ∀ ns : List Bool, boolsOf (ns.map .bool) = some ns
  | [] => rfl
  | n :: ns => by show (match boolsOf (ns.map .bool) with
      | some r => some (n :: r)
      | none => none) = _; rw [boolsOf_map ns]
/-- the ints of a list -/
@[simp] def lintsOf (S : Sto) (v : IV) : Option (List Int) := match lstOf S v with
  | some ds => intsOf ds
  | none => none
theorem lintsOf_sq {S : Sto} {v : IV} {x : V} {ns : List Int} (s : SR c H B Z S) (r : RI c H B Z v x) (h : lintsOf S v = some ns) : ∃ p, x = .ref p ∧ SqL c.K H p (ns.map V.int) := by
  unfold lintsOf at h
  cases q : lstOf S v with
  | none => rw [q] at h; cases h
  | some ds =>
    rw [q] at h
    obtain ⟨p, xs, rfl, h1, h2⟩ := lstOf_sq s r q
    rw [intsOf_eq h] at h2
    rw [h2.ints] at h1
    exact ⟨p, rfl, h1⟩
@[simp] def lboolsOf (S : Sto) (v : IV) : Option (List Bool) := match lstOf S v with
  | some ds => boolsOf ds
  | none => none
theorem lboolsOf_sq {S : Sto} {v : IV} {x : V} {ns : List Bool} (s : SR c H B Z S) (r : RI c H B Z v x) (h : lboolsOf S v = some ns) : ∃ p, x = .ref p ∧ SqL c.K H p (ns.map V.bl) := by
  unfold lboolsOf at h
  cases q : lstOf S v with
  | none => rw [q] at h; cases h
  | some ds =>
    rw [q] at h
    obtain ⟨p, xs, rfl, h1, h2⟩ := lstOf_sq s r q
    rw [boolsOf_eq h] at h2
    rw [h2.bools] at h1
    exact ⟨p, rfl, h1⟩
@[simp] def bSum : FN := fun is S => match is with
  | [v] => match lintsOf S v with
    | some ns => .ok (.d (.int ns.sum)) S
    | none => .bad
  | _ => .bad
theorem k_sum : OkN c W (rSum c.K) bSum := by
  intro σ B Z H S is vs Q s r p
  unfold bSum at p
  split at p
  · obtain ⟨x, rfl, rx⟩ := ris1 r
    split at p
    · rename_i ns hn
      obtain ⟨a, rfl, h1⟩ := lintsOf_sq s rx hn
      exact ⟨a, ns, rfl, h1, p.ret s _ (.d (.int _))⟩
    · exact p.elim
  · exact p.elim
@[simp] def bAll : FN := fun is S => match is with
  | [v] => match lboolsOf S v with
    | some ns => .ok (.d (.bool (ns.all id))) S
    | none => .bad
  | _ => .bad
theorem k_all : OkN c W (rAll c.K) bAll := by
  intro σ B Z H S is vs Q s r p
  unfold bAll at p
  split at p
  · obtain ⟨x, rfl, rx⟩ := ris1 r
    split at p
    · rename_i ns hn
      obtain ⟨a, rfl, h1⟩ := lboolsOf_sq s rx hn
      exact ⟨a, ns, rfl, h1, p.ret s _ (.d (.bl _))⟩
    · exact p.elim
  · exact p.elim
@[simp] def bAny : FN := fun is S => match is with
  | [v] => match lboolsOf S v with
    | some ns => .ok (.d (.bool (ns.any id))) S
    | none => .bad
  | _ => .bad
/-! ### new lists, new tuples -/
theorem new_list {S : Sto} {ds : List PyData} {xs : List V} {Q : VK} {p : Addr} (s : SR c H B Z S) (r : RDs c.K H (B ++ Z) ds xs) (hp : H p = none) (q : Post c W B Z H σ (.ok (.d (.list ds)) S) (fun v S' B' H' => ∀ x, RI c H' B' Z v x → Q x H')) : Q (.ref p) (upd H p (.lst xs)) := by
  have e := Ev.new (o := HO.lst xs) s hp
  exact q B _ e (s.new hp) _ (.d (.lst upd_same (s.out hp) (r.ev e)))
theorem new_listM {S : Sto} {ds : List PyData} {xs : List V} {Q : VK} {p : Addr} (s : SR c H B Z S) (r : RDs c.K H (B ++ Z) ds xs) (hp : H p = none) (q : Post c W B Z H σ (.ok (.ref S.length) (S ++ [.lst ds])) (fun v S' B' H' => ∀ x, RI c H' B' Z v x → Q x H')) : Q (.ref p) (upd H p (.lst xs)) := by
  have e := Ev.push (o := HO.lst xs) s hp
  exact q (B ++ [p]) _ e (s.push hp ⟨xs, upd_same, r.ev e⟩) _ (.ref (by rw [← s.len]; simp))
theorem new_tup {S : Sto} {ds : List PyData} {xs : List V} {Q : VK} {p : Addr} {o : Obj} (s : SR c H B Z S) (r : RDs c.K H (B ++ Z) ds xs) (hp : H p = none) (to : TupO o) (q : Post c W B Z H σ (.ok (.d (.tuple ds)) S) (fun v S' B' H' => ∀ x, RI c H' B' Z v x → Q x H')) : Q (.ref p) (upd H p (.frz o (.tup xs))) := by
  have e := Ev.new (o := HO.frz o (.tup xs)) s hp
  exact q B _ e (s.new hp) _ (.d (.tup upd_same to (s.out hp) (r.ev e)))
@[simp] def bList : FN := fun is S => match is with
  | [v] => match seqOf S v with
    | some ds => .ok (.d (.list ds)) S
    | none => .bad
  | _ => .bad
@[simp] def bListM : FN := fun is S => match is with
  | [v] => match seqOf S v with
    | some ds => .ok (.ref S.length) (S ++ [.lst ds])
    | none => .bad
  | _ => .bad
abbrev rLst (K : PySem.W.Frag) : List V → Hp → VK → Prop := fun xs H Q => ∃ p ys, xs = [.ref p] ∧ (SqL K H p ys ∨ SqT K H p ys) ∧ ∀ l, H l = none → Q (.ref l) (upd H l (.lst ys))
theorem k_list : OkN c W (rLst c.K) bList := by
  intro σ B Z H S is vs Q s r p
  unfold bList at p
  split at p
  · obtain ⟨x, rfl, rx⟩ := ris1 r
    split at p
    · rename_i ds hn
      obtain ⟨a, xs, rfl, h1, h2⟩ := seqOf_sq s rx hn
      exact ⟨a, xs, rfl, h1, fun l hl => new_list s h2 hl p⟩
    · exact p.elim
  · exact p.elim
theorem k_listM : OkN c W (rLst c.K) bListM := by
  intro σ B Z H S is vs Q s r p
  unfold bListM at p
  split at p
  · obtain ⟨x, rfl, rx⟩ := ris1 r
    split at p
    · rename_i ds hn
      obtain ⟨a, xs, rfl, h1, h2⟩ := seqOf_sq s rx hn
      exact ⟨a, xs, rfl, h1, fun l hl => new_listM s h2 hl p⟩
    · exact p.elim
  · exact p.elim
@[simp] def bTup : FN := fun is S => match is with
  | [v] => match seqOf S v with
    | some ds => .ok (.d (.tuple ds)) S
    | none => .bad
  | _ => .bad
theorem tupOf_d {v : IV} {ds : List PyData} (h : tupOf v = some ds) : v = .d (.tuple ds) := by
  unfold tupOf at h
  split at h
  · cases h; rfl
  · cases h
theorem k_tup : OkN c W (fun xs H Q => ∃ p ys, xs = [.ref p] ∧ ((SqL c.K H p ys ∧ ∀ (l : Addr) (o : Obj), H l = none → TupO o → Q (.ref l) (upd H l (.frz o (.tup ys)))) ∨ (SqT c.K H p ys ∧ Q (.ref p) H))) bTup := by
  intro σ B Z H S is vs Q s r p
  unfold bTup at p
  split at p
  · obtain ⟨x, rfl, rx⟩ := ris1 r
    split at p
    · rename_i ds hn
      unfold seqOf at hn
      split at hn
      · rename_i es hq
        cases hn
        obtain ⟨a, xs, rfl, h1, h2⟩ := lstOf_sq s rx hq
        exact ⟨a, xs, rfl, .inl ⟨h1, fun l ol hl tol => new_tup s h2 hl tol p⟩⟩
      · obtain ⟨a, xs, rfl, h1, h2⟩ := tupOf_sq rx hn
        rw [tupOf_d hn] at rx
        exact ⟨a, xs, rfl, .inr ⟨h1, p.ret s _ rx⟩⟩
    · exact p.elim
  · exact p.elim
/-! ### sorted, of ints -/
def ins (x : Int) : List Int → List Int
  | [] => [x]
  | y :: t => if x ≤ y then x :: y :: t else y :: ins x t
def isort : List Int → List Int
  | [] => []
  | x :: t => ins x (isort t)
theorem ins_perm (x : Int) : ∀ l : List Int, (ins x l).Perm (x :: l)
  | [] => .refl _
  | y :: t => by
    unfold ins
    split
    · exact .refl _
    · exact ((ins_perm x t).cons y).trans (.swap x y t)
theorem ins_pw (x : Int) : ∀ l : List Int, l.Pairwise (· ≤ ·) → (ins x l).Pairwise (· ≤ ·)
  | [], _ => by unfold ins; simp
  | y :: t, h => by
    unfold ins
    have z := List.pairwise_cons.mp h
    split
    · rename_i hxy
      refine List.pairwise_cons.mpr ⟨fun a ha => ?_, h⟩
      rcases List.mem_cons.mp ha with ha | ha
      · rw [ha]; exact hxy
      · exact Int.le_trans hxy (z.1 a ha)
    · rename_i hxy
      refine List.pairwise_cons.mpr ⟨fun a ha => ?_, ins_pw x t z.2⟩
      rcases List.mem_cons.mp ((ins_perm x t).mem_iff.mp ha) with ha | ha
      · rw [ha]; omega
      · exact z.1 a ha
theorem isort_perm : ∀ l : List Int, (isort l).Perm l
  | [] => .refl _
  | x :: t => (ins_perm x (isort t)).trans ((isort_perm t).cons x)
theorem isort_pw : ∀ l : List Int, (isort l).Pairwise (· ≤ ·)
  | [] => .nil
  | x :: t => ins_pw x _ (isort_pw t)
theorem pw_unique : ∀ {l m : List Int}, l.Perm m → l.Pairwise (· ≤ ·) → m.Pairwise (· ≤ ·) → l = m
  | [], m, p, _, _ => by rw [List.nil_perm.mp p]
  | x :: t, [], p, _, _ => by have := p.length_eq; simp at this
  | x :: t, y :: u, p, h1, h2 => by
    have z1 := List.pairwise_cons.mp h1
    have z2 := List.pairwise_cons.mp h2
    have e : x = y := by
      have m1 : x ∈ y :: u := p.mem_iff.mp List.mem_cons_self
      have m2 : y ∈ x :: t := p.mem_iff.mpr List.mem_cons_self
      rcases List.mem_cons.mp m1 with q1 | q1
      · exact q1
      · rcases List.mem_cons.mp m2 with q2 | q2
        · exact q2.symm
        · have a1 := z2.1 x q1
          have a2 := z1.1 y q2
          omega
    subst e
    rw [pw_unique ((List.perm_cons x).mp p) z1.2 z2.2]
theorem isort_of {l m : List Int} (p : m.Perm l) (h : m.Pairwise (· ≤ ·)) : m = isort l := pw_unique (p.trans (isort_perm l).symm) h (isort_pw l)
@[simp] def bSortI : FN := fun is S => match is with
  | [v] => match lintsOf S v with
    | some ns => .ok (.d (.list ((isort ns).map .int))) S
    | none => .bad
  | _ => .bad
end
end MI
set_option maxRecDepth 100000
set_option maxHeartbeats 4000000
namespace MI
open PySem PySem.Spec L2
section
variable {c : Ct} {W : WX} {X : Cx} {B Z B1 : List Addr} {H H1 : Hp} {σ : L2.St} {α β : Type}
/-! ### isinstance, of a built-in type -/
@[simp] def tyOf : IV → Option String
  | .d .none => some "NoneType"
  | .d (.bool _) => some "bool"
  | .d (.int _) => some "int"
  | .d (.str _) => some "str"
  | .d (.list _) => some "list"
  | .d (.tuple _) => some "tuple"
  | .d (.dict _) => some "dict"
  | .tup _ => some "tuple"
  | .scr _ => some "list"
  | _ => none
@[simp] def tyOfS (S : Sto) : IV → Option String
  | .ref n => match S[n]? with
    | some (.lst _) => some "list"
    | some (.lsx _) => some "list"
    | _ => none
  | v => tyOf v
@[simp] def subTy (t T : String) : Bool := if t = T then true else if t = "bool" ∧ T = "int" then true else false
@[simp] def eIsa (T : String) (f : FE) : FE := fun r S => (f r S).bind fun v S1 => match tyOfS S1 v with
  | some t => .ok (.d (.bool (subTy t T))) S1
  | none => .bad
theorem ty_klst {K : PySem.W.Frag} {a : Addr} {xs : List V} (h : KLst K a xs) : ∃ o, K.lookup a = some o ∧ o.cls = .type "list" := by
  obtain ⟨o, _, _, h1, h2, _⟩ := h
  exact ⟨o, h1, h2⟩
theorem tyOf_x {S : Sto} {v : IV} {x : V} {t : String} (s : SR c H B Z S) (r : RI c H B Z v x) (h : tyOfS S v = some t) : TyX c.K H x (.type t) := by
  cases r with
  | d r =>
    cases r with
    | non => cases h; exact .base .non
    | bl => cases h; exact .base (.bl _)
    | int => cases h; exact .base (.int _)
    | str => cases h; exact .base (.str _)
    | lst h1 _ _ => cases h; exact .base (.lst h1)
    | tup h1 _ _ _ => cases h; exact .fTuple h1
    | tupK h1 _ _ => cases h; obtain ⟨o, _, _, a1, a2, _⟩ := h1; exact .kTuple a1 a2
    | dct h1 _ _ _ => cases h; exact .base (.dK h1)
  | ref hb =>
    rename_i k b
    have h : (match S[k]? with
      | some (IO.lst _) => some "list"
      | some (IO.lsx _) => some "list"
      | _ => none) = some t := h
    cases q : S[k]? with
    | none => rw [q] at h; cases h
    | some o =>
      have ob := s.ob k b _ hb q
      cases o with
      | lst es => rw [q] at h; cases h; obtain ⟨xs, h1, h2⟩ := ob; exact .base (.lst h1)
      | lsx es => rw [q] at h; cases h; obtain ⟨xs, h1, h2⟩ := ob; exact .base (.lst h1)
      | dct es => rw [q] at h; cases h
      | dcn es => rw [q] at h; cases h
      | dead => rw [q] at h; cases h
  | gl => cases h
  | lam => cases h
  | clo => cases h
  | exc => cases h
  | tup h1 _ _ _ => cases h; exact .fTuple h1
  | scr h1 hb =>
    cases h
    rcases h1 with h1 | ⟨o, h1⟩
    · exact .base (.lst h1)
    · exact .base (.frz h1)
  | scrK h1 => cases h; obtain ⟨o, a1, a2⟩ := ty_klst h1; exact .kList a1 a2
def isTys : List String := ["NoneType", "bool", "int", "str", "list", "tuple", "dict"]
theorem tyOf_in {S : Sto} {v : IV} {t : String} (h : tyOfS S v = some t) : t ∈ isTys := by
  unfold isTys
  cases v with
  | d x => cases x <;> first | (cases h; decide) | cases h
  | ref n =>
    have h : (match S[n]? with
      | some (IO.lst _) => some "list"
      | some (IO.lsx _) => some "list"
      | _ => none) = some t := h
    cases q : S[n]? with
    | none => rw [q] at h; cases h
    | some o =>
      cases o with
      | lst es => rw [q] at h; cases h; decide
      | lsx es => rw [q] at h; cases h; decide
      | dct es => rw [q] at h; cases h
      | dcn es => rw [q] at h; cases h
      | dead => rw [q] at h; cases h
  | gl _ => cases h
  | tup _ => cases h; decide
  | scr _ => cases h; decide
  | lam _ => cases h
  | clo _ _ => cases h
  | exc _ _ => cases h
theorem kit_tab (K : PySem.W.Frag) : ∀ t ∈ isTys, ∀ T ∈ ["int", "bool", "tuple", "list", "str"], PySem.W.kitOne K (.type t) (.type T) = some (subTy t T) := by
  intro t ht T hT
  simp only [isTys, List.mem_cons, List.mem_singleton, List.not_mem_nil, or_false] at ht hT
  rcases ht with rfl | rfl | rfl | rfl | rfl | rfl | rfl <;> rcases hT with rfl | rfl | rfl | rfl | rfl <;> (unfold PySem.W.kitOne PySem.W.kitCls PySem.W.subIn; rfl)
theorem s_isa {x y : Str} {p p2 pos : Pos} {e : Expr} {T : String} {f : FE} (cx : Cxg c W X) (hg : Gl X x) (hm : X.mg x = none) (hv : bootBuiltins x = some (.builtin "isinstance")) (hg2 : Gl X y) (hm2 : X.mg y = none) (hv2 : bootBuiltins y = some (.type T))
    (hT : T ∈ ["int", "bool", "tuple", "list", "str"]) (he : PE X e (TEx c W f)) (hn : x ≠ "__name__" := by decide) (hdb : (x == ("__debug__" : Str)) = false := by decide) (hn2 : y ≠ "__name__" := by decide) (hdb2 : (y == ("__debug__" : Str)) = false := by decide)
    (hs : starEach (e :: [.Name y p2]) X.env = (false, eval e X.env) :: starEach [.Name y p2] X.env := by rfl) (hs2 : starEach (.Name y p2 :: []) X.env = (false, eval (.Name y p2) X.env) :: starEach [] X.env := by rfl)
    (hpl : (backTo pos (starEach [.Name y p2] X.env)).any (·.1) = false := by rfl) : PE X (.Call (.Name x p) [e, .Name y p2] [] pos) (TEx c W (eIsa T f)) := by
  refine pe_imp (pe_callB call_isi hg hm hv (pa_cons he (pa_cons (pe_bltn (v := .ty T) hg2 hm2 hv2 rfl hn2 hdb2) pa_nil hs2) hs) hn hdb hs hpl) fun σ H Q ⟨B, Z, r, S, s, rr, q⟩ => ?_
  refine ⟨B, Z, r, S, s, rr, (Post.bind q).imp fun v S1 B1 H1 e1 s1 q x rx => ?_⟩
  cases h : tyOfS S1 v with
  | none => rw [h] at q; exact q.elim
  | some t =>
    rw [h] at q
    refine ⟨x, .ty T, .type t, .type T, subTy t T, rfl, .ty T, ?_, kit_tab _ t (tyOf_in h) T hT, q.ret s1 _ (.d (.bl _))⟩
    rw [cx.K]
    exact tyOf_x s1 rx h
/-! ### list(range(..)), tuple(range(..)) -/
abbrev RgF := Rho → Sto → Out (Int × Int)
@[simp] def rg1 (f : FE) : RgF := fun r S => (f r S).bind fun v S1 => match v with
  | .d (.int n) => .ok (0, n) S1
  | _ => .bad
@[simp] def rg2 (f g : FE) : RgF := fun r S => (f r S).bind fun v S1 => match v with
  | .d (.int i) => (g r S1).bind fun w S2 => match w with
    | .d (.int j) => .ok (i, j) S2
    | _ => .bad
  | _ => .bad
def TRg (c : Ct) (W : WX) (g : RgF) : L2.St → Hp → (Int → Int → Hp → Prop) → Prop := fun σ H Q => ∃ B Z r S, SR c H B Z S ∧ RR c H B Z r σ ∧ Post c W B Z H σ (g r S) fun v _ _ H' => Q v.1 v.2 H'
theorem prg_imp {e : Expr} {t t' : L2.St → Hp → (Int → Int → Hp → Prop) → Prop} (h : PRg X e t) (k : ∀ σ H Q, t' σ H Q → t σ H Q) : PRg X e t' := fun pins s σ H Q I q => h pins s σ H Q I (k σ H Q q)
theorem s_rg1 {a : Expr} {f : FE} {p pos : Pos} (hg : Gl X "range") (hm : X.mg "range" = none) (ha : PE X a (TEx c W f)) (na : starEach [a] X.env = (false, eval a X.env) :: starEach [] X.env := by rfl) : PRg X (.Call (.Name "range" p) [a] [] pos) (TRg c W (rg1 f)) :=
  prg_imp (prg_1 hg hm ha na) fun σ H Q ⟨B, Z, r, S, s, rr, q⟩ => ⟨B, Z, r, S, s, rr, (Post.bind q).imp fun v S1 B1 H1 e1 s1 q x rx => by
    split at q
    · cases rx with | d rx => cases rx; exact ⟨_, rfl, q.ret s1⟩
    · exact q.elim⟩
theorem s_rg2 {a b : Expr} {f g : FE} {p pos : Pos} (hg : Gl X "range") (hm : X.mg "range" = none) (ha : PE X a (TEx c W f)) (hb : PE X b (TEx c W g)) (na : starEach [a, b] X.env = (false, eval a X.env) :: starEach [b] X.env := by rfl)
    (nb : starEach [b] X.env = (false, eval b X.env) :: starEach [] X.env := by rfl) (hp : (backTo pos (starEach [b] X.env)).any (·.1) = false := by rfl) : PRg X (.Call (.Name "range" p) [a, b] [] pos) (TRg c W (rg2 f g)) :=
  prg_imp (prg_2 hg hm ha hb na nb hp) fun σ H Q ⟨B, Z, r, S, s, rr, q⟩ => ⟨B, Z, r, S, s, rr, (Post.bind q).imp fun v S1 B1 H1 e1 s1 q x rx => by
    split at q
    · cases rx with
      | d rx =>
        cases rx
        refine ⟨B1, Z, r, S1, s1, rr.ev e1, (Post.bind q).imp fun w S2 B2 H2 e2 s2 q y ry => ?_⟩
        split at q
        · cases ry with | d ry => cases ry; exact ⟨_, _, rfl, rfl, q.ret s2⟩
        · exact q.elim
    · exact q.elim⟩
def rgD (i j : Int) : List PyData := (List.range (j - i).toNat).map fun k => .int (i + (k : Nat))
theorem rds_rg (K : PySem.W.Frag) (H : Hp) (bd : List Addr) (i : Int) : ∀ l : List Nat, RDs K H bd (l.map fun k => .int (i + (k : Nat))) (l.map fun k => V.int (i + (k : Nat)))
  | [] => .nil
  | k :: l => .cons (.int _) (rds_rg K H bd i l)
theorem rds_rgV (K : PySem.W.Frag) (H : Hp) (bd : List Addr) (i j : Int) : RDs K H bd (rgD i j) (rgV i j) := rds_rg K H bd i _
def rgOk (i j : Int) : Bool := decide (i.natAbs < 2 ^ 23) && decide (j.natAbs < 2 ^ 23)
theorem rgOk_of {i j : Int} (h : rgOk i j = true) : RgOk i j := by
  unfold rgOk at h
  simp only [Bool.and_eq_true, decide_eq_true_eq] at h
  obtain ⟨h1, h2⟩ := h
  exact ⟨by omega, by omega, by omega, by omega, by omega⟩
@[simp] def eRgL (g : RgF) : FE := fun r S => (g r S).bind fun v S1 => if rgOk v.1 v.2 then .ok (.d (.list (rgD v.1 v.2))) S1 else .bad
@[simp] def eRgLM (g : RgF) : FE := fun r S => (g r S).bind fun v S1 => if rgOk v.1 v.2 then .ok (.ref S1.length) (S1 ++ [.lst (rgD v.1 v.2)]) else .bad
@[simp] def eRgT (g : RgF) : FE := fun r S => (g r S).bind fun v S1 => if rgOk v.1 v.2 then .ok (.d (.tuple (rgD v.1 v.2))) S1 else .bad
theorem s_rgL {e : Expr} {g : RgF} {p pos : Pos} (hc : X.calm = true) (hg : Gl X "list") (hm : X.mg "list" = none) (he : PRg X e (TRg c W g)) (na : starEach [e] X.env = (false, eval e X.env) :: starEach [] X.env := by rfl) : PE X (.Call (.Name "list" p) [e] [] pos) (TEx c W (eRgL g)) :=
  pe_imp (pe_listRg hc hg hm he na) fun σ H Q ⟨B, Z, r, S, s, rr, q⟩ => ⟨B, Z, r, S, s, rr, (Post.bind q).imp fun v S1 B1 H1 e1 s1 q => by
    by_cases h : rgOk v.1 v.2 = true
    · rw [if_pos h] at q
      exact ⟨rgOk_of h, fun l hl => new_list s1 (rds_rgV _ _ _ _ _) hl q⟩
    · rw [if_neg h] at q; exact q.elim⟩
theorem s_rgT {e : Expr} {g : RgF} {p pos : Pos} (hc : X.calm = true) (hg : Gl X "tuple") (hm : X.mg "tuple" = none) (he : PRg X e (TRg c W g)) (na : starEach [e] X.env = (false, eval e X.env) :: starEach [] X.env := by rfl) : PE X (.Call (.Name "tuple" p) [e] [] pos) (TEx c W (eRgT g)) :=
  pe_imp (pe_tupRgF hc hg hm he na) fun σ H Q ⟨B, Z, r, S, s, rr, q⟩ => ⟨B, Z, r, S, s, rr, (Post.bind q).imp fun v S1 B1 H1 e1 s1 q => by
    by_cases h : rgOk v.1 v.2 = true
    · rw [if_pos h] at q
      exact ⟨rgOk_of h, fun l ol hl tol => new_tup s1 (rds_rgV _ _ _ _ _) hl tol q⟩
    · rw [if_neg h] at q; exact q.elim⟩
/-! ### repr -/
def rPr (K : PySem.W.Frag) (A : Around) : List V → Hp → VK → Prop := fun xs H Q => ∃ x d, xs = [x] ∧ Dp K H x d ∧ d.showable = true ∧ d.hasDict = false ∧ A.units + (d.depth + 1) < cLine ∧ d.shown.length ≤ sizeLine ∧ Q (.str d.shown) H
theorem call_pr (hgu : X.A.guards = some []) : CallR X (.builtin "repr") (rPr X.K X.A) := by
  intro pins s σ H xs us Q I rv h
  obtain ⟨x, d, rfl, dp, hs, hd, hu, hz, q⟩ := h
  obtain ⟨u, rfl, rx⟩ := Vals.one rv
  cases dp with
  | non => cases rx; exact P.repr_of_none ⟨.str _, H, I.tok _, ⟨_, rfl⟩, q⟩
  | bl b => cases rx; exact P.repr_of_bool ⟨.str _, H, I.tok _, ⟨_, rfl⟩, by cases b <;> exact q⟩
  | int i => obtain ⟨t, rfl⟩ := rx; exact P.repr_of_int (of_decide_eq_true hs) ⟨.str _, H, I.tok _, ⟨_, rfl⟩, q⟩
  | str y => obtain ⟨t, rfl⟩ := rx; exact P.repr_of_str ⟨.str _, H, I.tok _, ⟨_, rfl⟩, q⟩ hz
  | lst h1 h2 =>
    cases rx
    obtain ⟨as, R⟩ := Dp.reads I _ _ _ (.lst h1 h2) rfl
    exact repr_of_reads' R hs (PyData.noDict_hsm hd) hgu hu (fun _ _ e => e) (fun h' t tk hk => ⟨.str _, H, I.kept (t' := tk) hk, ⟨_, rfl⟩, q⟩) hz
  | tup h1 h2 =>
    cases rx
    obtain ⟨as, R⟩ := Dp.reads I _ _ _ (.tup h1 h2) rfl
    exact repr_of_reads' R hs (PyData.noDict_hsm hd) hgu hu (fun _ _ e => e) (fun h' t tk hk => ⟨.str _, H, I.kept (t' := tk) hk, ⟨_, rfl⟩, q⟩) hz
theorem whole_rd {S : Sto} {v : IV} {x : V} {d : PyData} (s : SR c H B Z S) (r : RI c H B Z v x) (h : toD 0 S v = some d) : RD c.K H [] d x :=
  toD_rd s (fun _ m => by cases m) (fun _ _ _ _ m => by cases m) h r
def prOk (d : PyData) : Bool := d.showable && !d.hasDict && decide (d.depth ≤ 64) && decide (d.shown.length ≤ sizeLine)
@[simp] def bRepr : FN := fun is S => match is with
  | [v] => match toD 0 S v with
    | some d => if prOk d then .ok (.d (.str d.shown)) S else .bad
    | none => .bad
  | _ => .bad
end
end MI
set_option maxRecDepth 100000
set_option maxHeartbeats 4000000
namespace MI
open PySem PySem.Spec L2
section
variable {c : Ct} {W : WX} {X : Cx} {B Z B1 : List Addr} {H H1 : Hp} {σ : L2.St} {α β : Type}
/-! ### methods of built-in types -/
abbrev FM := IV → List IV → Sto → Out IV
@[simp] def tyOk (T : String) (S : Sto) : IV → Bool
  | .d (.list _) => T == "list"
  | .d (.str _) => T == "str"
  | .scr _ => T == "list"
  | .ref n => match S[n]? with
    | some (.lst _) => T == "list"
    | some (.lsx _) => T == "list"
    | _ => false
  | _ => false
theorem tyOk_v {T : String} {S : Sto} {v : IV} {x : V} (s : SR c H B Z S) (r : RI c H B Z v x) (h : tyOk T S v = true) : tyV c.K T x H := by
  cases r with
  | d r =>
    cases r with
    | lst h1 _ _ => exact .inl ⟨beq_iff_eq.mp h, _, .of h1⟩
    | str y => exact beq_iff_eq.mp h
    | non => cases h
    | bl => cases h
    | int => cases h
    | tup => cases h
    | tupK => cases h
    | dct => cases h
  | ref hb =>
    rename_i k b
    have h : (match S[k]? with
      | some (IO.lst _) => T == "list"
      | some (IO.lsx _) => T == "list"
      | _ => false) = true := h
    cases q : S[k]? with
    | none => rw [q] at h; cases h
    | some o =>
      have ob := s.ob k b _ hb q
      cases o with
      | lst es => rw [q] at h; obtain ⟨xs, h1, h2⟩ := ob; exact .inl ⟨beq_iff_eq.mp h, _, .of h1⟩
      | lsx es => rw [q] at h; obtain ⟨xs, h1, h2⟩ := ob; exact .inl ⟨beq_iff_eq.mp h, _, .of h1⟩
      | dct es => rw [q] at h; cases h
      | dcn es => rw [q] at h; cases h
      | dead => rw [q] at h; cases h
  | gl => cases h
  | lam => cases h
  | clo => cases h
  | exc => cases h
  | tup => cases h
  | scr h1 hb =>
    obtain ⟨a, e, q⟩ := RI.scrS (.scr h1 hb)
    cases e
    exact .inl ⟨beq_iff_eq.mp h, _, q⟩
  | scrK h1 =>
    obtain ⟨a, e, q⟩ := RI.scrS (B := B) (Z := Z) (H := H) (.scrK h1)
    cases e
    exact .inl ⟨beq_iff_eq.mp h, _, q⟩
def OkM (c : Ct) (W : WX) (r : V → List V → Hp → VK → Prop) (m : FM) : Prop := ∀ {σ : L2.St} {B Z : List Addr} {H : Hp} {S : Sto} {v : IV} {is : List IV} {x : V} {xs : List V} {Q : VK}, SR c H B Z S → RI c H B Z v x → RIs c H B Z is xs →
  Post c W B Z H σ (m v is S) (fun v S' B' H' => ∀ x, RI c H' B' Z v x → Q x H') → r x xs H Q
@[simp] def eMt (T : String) (m : FM) (fo : FE) (fa : FA) : FE := fun r S => (fo r S).bind fun v S1 => if tyOk T S1 v then (fa r S1).bind fun is S2 => m v is S2 else .bad
@[simp] def eMt0 (T : String) (m : FM) (fo : FE) : FE := fun r S => (fo r S).bind fun v S1 => if tyOk T S1 v then m v [] S1 else .bad
section
variable {o e : Expr} {es : List Expr} {fo : FE} {fa : FA} {name : Str} {apos cpos : Pos} {T id : String} {r : V → List V → Hp → VK → Prop} {m : FM}
theorem s_mt (cx : Cxg c W X) (k : OkM c W r m) (pa : PlainAttrs T) (slot : Slot T name id) (hty : typeOf (.builtin id) = pure (.type "method_descriptor")) (hm : MtR X id r) (ho : PE X o (TEx c W fo)) (ha : PA X (e :: es) (TAx c W fa))
    (hbase : attributeBase o name X.env (eval o X.env) = eval o X.env := by rfl)
    (hfew : ((backTo cpos (starEach (e :: es) X.env)).all (fun x => !x.1) && (backToKw cpos (keywordEach [] X.env)).all (fun x => x.1.isSome)
      && decide ((e :: es).length + ([] : List Keyword).length + (if ([] : List Keyword).isEmpty then 0 else 1) < 30)) = true := by rfl)
    (hline : (apos.endLine == cpos.line) = true := by rfl) (hs : starEach (e :: es) X.env = (false, eval e X.env) :: starEach es X.env := by rfl) (hplain : (backTo cpos (starEach es X.env)).any (·.1) = false := by rfl) :
    PE X (.Call (.Attribute o name apos) (e :: es) [] cpos) (TEx c W (eMt T m fo fa)) :=
  pe_imp (pe_bm pa slot hty hm ho ha hbase hfew hline hs hplain) fun σ H Q ⟨B, Z, r, S, s, rr, p⟩ => ⟨B, Z, r, S, s, rr, (Post.bind p).imp fun v S1 B1 H1 e1 s1 q x rx => by
    by_cases h : tyOk T S1 v = true
    · rw [if_pos h] at q
      refine ⟨by rw [cx.K]; exact tyOk_v s1 rx h, B1, Z, r, S1, s1, rr.ev e1, (Post.bind q).imp fun is S2 B2 H2 e2 s2 q xs rxs => k s2 (rx.ev e2) rxs q⟩
    · rw [if_neg h] at q; exact q.elim⟩
end
theorem ref_at {n : Nat} {x : V} (r : RI c H B Z (.ref n) x) : ∃ b, x = .ref b ∧ B[n]? = some b := by
  cases r with
  | ref hb => exact ⟨_, rfl, hb⟩
/-! append -/
@[simp] def mApp : FM := fun v is S => match v, is with
  | .ref n, [w] => match S[n]? with
    | some (.lst ds) => if ds.length < sizeLine then (match w with
      | .d y => .ok (.d .none) (S.set n (.lst (ds ++ [y])))
      | w => .ok (.d .none) (S.set n (.lsx (ds.map .d ++ [w])))) else .bad
    | some (.lsx ds) => if ds.length < sizeLine then .ok (.d .none) (S.set n (.lsx (ds ++ [w]))) else .bad
    | _ => .bad
  | _, _ => .bad
theorem k_app : OkM c W rAppend mApp := by
  intro σ B Z H S v is x xs Q s rv ra p
  unfold mApp at p
  split at p
  · rename_i n w
    obtain ⟨b, rfl, hb⟩ := ref_at rv
    obtain ⟨y, rfl, ry⟩ := ris1 ra
    cases q : S[n]? with
    | none => rw [q] at p; exact p.elim
    | some o =>
      rw [q] at p
      have ob := s.ob n b _ hb q
      have lsx : ∀ {vs : List IV} {zs : List V}, H b = some (.lst zs) → RIs c H B Z vs zs → Post c W B Z H σ (.ok (.d .none) (S.set n (.lsx (vs ++ [w])))) (fun v S' B' H' => ∀ x, RI c H' B' Z v x → Q x H') → Q .non (upd H b (.lst (zs ++ [y]))) := fun {vs zs} h1 h2 p => by
        have e := Ev.put (o := HO.lst (zs ++ [y])) s hb
        exact p B _ e (s.put hb ⟨_, upd_same, (h2.app (.cons ry .nil)).ev e⟩) _ (.d .non)
      cases o with
      | lst ds =>
        obtain ⟨zs, h1, h2⟩ := ob
        dsimp only at p
        by_cases hl : ds.length < sizeLine
        · rw [if_pos hl] at p
          refine ⟨b, zs, y, rfl, rfl, h1, by rw [← h2.length]; exact hl, ?_⟩
          cases w with
          | d d =>
            cases ry with
            | d ry =>
              have w := SR.putL s hb (h2.app (.cons ry .nil))
              exact p B _ w.2 w.1 _ (.d .non)
          | ref k => exact lsx h1 (RIs.ofDs h2) p
          | gl k => exact lsx h1 (RIs.ofDs h2) p
          | tup k => exact lsx h1 (RIs.ofDs h2) p
          | scr k => exact lsx h1 (RIs.ofDs h2) p
          | lam k => exact lsx h1 (RIs.ofDs h2) p
          | clo k j => exact lsx h1 (RIs.ofDs h2) p
          | exc k j => exact lsx h1 (RIs.ofDs h2) p
        · rw [if_neg hl] at p; exact p.elim
      | lsx ds =>
        obtain ⟨zs, h1, h2⟩ := ob
        dsimp only at p
        by_cases hl : ds.length < sizeLine
        · rw [if_pos hl] at p
          exact ⟨b, zs, y, rfl, rfl, h1, by rw [← h2.length]; exact hl, lsx h1 h2 p⟩
        · rw [if_neg hl] at p; exact p.elim
      | dead => exact p.elim
      | dct ds => exact p.elim
      | dcn ds => exact p.elim
  · exact p.elim
/-! extend -/
@[simp] def lst2 (S : Sto) : IV → Option (List PyData)
  | .d (.list es) => some es
  | .ref k => match S[k]? with
    | some (.lst es) => some es
    | _ => none
  | _ => none
theorem lst2_sq {S : Sto} {v : IV} {x : V} {ds : List PyData} (s : SR c H B Z S) (r : RI c H B Z v x) (h : lst2 S v = some ds) : ∃ p xs, x = .ref p ∧ H p = some (.lst xs) ∧ RDs c.K H (B ++ Z) ds xs := by
  cases r with
  | d r =>
    cases r with
    | lst h1 hb t => cases h; exact ⟨_, _, rfl, h1, t⟩
    | non => cases h
    | bl => cases h
    | int => cases h
    | str => cases h
    | tup => cases h
    | tupK => cases h
    | dct => cases h
  | ref hb =>
    rename_i n b
    have h : (match S[n]? with
      | some (IO.lst ds) => some ds
      | _ => none) = some ds := h
    cases q : S[n]? with
    | none => rw [q] at h; cases h
    | some o =>
      cases o with
      | lst es => rw [q] at h; cases h; obtain ⟨xs, h1, h2⟩ := s.ob n b _ hb q; exact ⟨b, xs, rfl, h1, h2⟩
      | lsx es => rw [q] at h; cases h
      | dct es => rw [q] at h; cases h
      | dcn es => rw [q] at h; cases h
      | dead => rw [q] at h; cases h
  | gl => cases h
  | lam => cases h
  | clo => cases h
  | exc => cases h
  | tup => cases h
  | scr h1 hb => cases h
  | scrK h1 => cases h
@[simp] def mExt : FM := fun v is S => match v, is with
  | .ref n, [w] => match S[n]?, lst2 S w with
    | some (.lst ds), some es => if ds.length + es.length ≤ sizeLine then .ok (.d .none) (S.set n (.lst (ds ++ es))) else .bad
    | _, _ => .bad
  | _, _ => .bad
theorem k_ext : OkM c W rExtend mExt := by
  intro σ B Z H S v is x xs Q s rv ra p
  unfold mExt at p
  split at p
  · rename_i n w
    obtain ⟨b, rfl, hb⟩ := ref_at rv
    obtain ⟨y, rfl, ry⟩ := ris1 ra
    split at p
    · rename_i ds es q1 q2
      obtain ⟨zs, h1, h2⟩ := s.ob n b _ hb q1
      obtain ⟨a, ys, rfl, h3, h4⟩ := lst2_sq s ry q2
      by_cases hl : ds.length + es.length ≤ sizeLine
      · rw [if_pos hl] at p
        have w := SR.putL s hb (h2.app h4)
        exact ⟨b, a, zs, ys, rfl, rfl, h1, h3, by rw [← h2.length, ← h4.length]; exact hl, p B _ w.2 w.1 _ (.d .non)⟩
      · rw [if_neg hl] at p; exact p.elim
    · exact p.elim
  · exact p.elim
/-! pop -/
@[simp] def mPop : FM := fun v is S => match v, is with
  | .ref n, [] => match S[n]? with
    | some (.lst ds) => match ds[ds.length - 1]? with
      | some y => .ok (.d y) (S.set n (.lst ds.dropLast))
      | none => .bad
    | _ => .bad
  | _, _ => .bad
theorem RDs.dropLast {K : PySem.W.Frag} {H : Hp} {bd : List Addr} {ds : List PyData} {xs : List V} (r : RDs K H bd ds xs) : RDs K H bd ds.dropLast xs.dropLast := by
  rw [List.dropLast_eq_take, List.dropLast_eq_take, ← r.length]
  exact r.take _
@[simp] def mPopA : FM := fun v is S => match v, is with
  | .ref n, [.d (.int i)] => match S[n]? with
    | some (.lst ds) => if i.natAbs < 2 ^ 63 then (match seqIndex? i ds.length with
      | some k => match ds[k]? with
        | some y => .ok (.d y) (S.set n (.lst (ds.eraseIdx k)))
        | none => .bad
      | none => .bad) else .bad
    | _ => .bad
  | _, _ => .bad
theorem k_popA : OkM c W rPopAt mPopA := by
  intro σ B Z H S v is x xs Q s rv ra p
  unfold mPopA at p
  split at p
  · rename_i n i
    obtain ⟨b, rfl, hb⟩ := ref_at rv
    obtain ⟨y, rfl, ry⟩ := ris1 ra
    cases ry with
    | d ry =>
    cases ry
    split at p
    · rename_i ds q1
      obtain ⟨zs, h1, h2⟩ := s.ob n b _ hb q1
      by_cases hi : i.natAbs < 2 ^ 63
      · rw [if_pos hi] at p
        split at p
        · rename_i k hk
          split at p
          · rename_i d hd
            obtain ⟨y, h3, h4⟩ := h2.get hd
            have w := SR.putL s hb (h2.erase k)
            exact ⟨b, zs, i, k, y, rfl, rfl, h1, by omega, by omega, by rw [← h2.length]; exact hk, h3, p B _ w.2 w.1 _ (.d (h4.ev w.2))⟩
          · exact p.elim
        · exact p.elim
      · rw [if_neg hi] at p; exact p.elim
    · exact p.elim
  · exact p.elim
/-! index -/
@[simp] def mIdx : FM := fun v is S => match is with
  | [w] => match lstOf S v, toD 0 S w with
    | some ds, some d => if SeqAt.shaped (.list ds) && SeqAt.shaped d then (match ds.findIdx? (fun z => PyData.eqv z d) with
      | some j => .ok (.d (.int (j : Nat))) S
      | none => .bad) else .bad
    | _, _ => .bad
  | _ => .bad
end
end MI
set_option maxRecDepth 100000
set_option maxHeartbeats 4000000
namespace MI
open PySem PySem.Spec L2 PyProof.Rows
/-! ## what is not read -/
section
variable {c : Ct} {W : WX} {X : Cx} {B Z B1 : List Addr} {H H1 : Hp} {σ : L2.St}
@[simp] def eRev (f : FE) : FE := fun r S => (f r S).bind fun v S1 => match lstOf S1 v with
  | some ds => .ok (.d (.list ds.reverse)) S1
  | none => match tupOf v with
    | some ds => .ok (.d (.tuple ds.reverse)) S1
    | none => .bad
end
end MI
set_option maxRecDepth 100000
set_option maxHeartbeats 4000000
namespace MI
open PySem PySem.Spec L2 PyProof.Rows
/-! ## set(list of ints) (turned from the worked walk of set(tuple)) -/
section
variable {P : Program} {w : World} {A : Around} {E : Value → Shared → Prop} {s : Shared}
theorem call_set_lstI {l : Addr} {items : Array Value} (ns : List Int) {Q : Value → Shared → Prop} (hh : A.handled = none) (zl : s.heap.IsList l items) (zit : IntsAre items.toList ns) (hb : ns.length + 1 < scanBound)
    (h : ∀ (h' : Heap) (tk c : Nat), SetR w h' s.heap.objs.size (fun j => decide (j ∈ ns)) c → c ≤ ns.length → (∀ b o, s.heap.get? b = some o → h'.get? b = some o) → Q (.ref s.heap.objs.size) { s with heap := h', toks := tk }) :
    wpAny (model P w) A (call (.type "set") [.ref l]) Q E s := by
  have nsz : items.size = ns.length := by
    have q := IntsAre.length zit
    rw [Array.length_toList] at q
    exact q
  obtain ⟨c, tl, mro1⟩ := F.called_set.mro
  have made1 := F.called_set.made
  have sub1 := F.called_set.sub
  refine wpAny_call (codeAny_of_tree ?_)
  show wpAny _ _ (callAny (.type "set") _) _ _ _
  refine wpAny_pure ⟨Code.quiet_builtin _ (by decide +kernel), codeAny_builtin F.entry_type_call ?_⟩
  rw [Around.under_plain (weight_type_call_type "set" [.ref l] []) rfl]
  have z1 := F.called_set.notType
  have z2 := F.called_set.canCreate
  have ct1 := F.typeCall_set_1 (.ref l)
  repeat (any_goals (first | assumption | wp_step))

  refine codeAny_mono (code_set_led1 (.ref l) (E := E) (Q₁ := fun obj s₁ => obj = .ref s.heap.objs.size ∧ s₁ = { s with heap := s.heap.push { cls := .type "set", dict := none, data := .set #[] 0 (.fresh 0 0 (!w.params.followText "set-order")) } }) ⟨rfl, rfl⟩) fun r s₁ hr => ?_
  cases r with
  | error e => exact hr
  | ok fl =>
    cases fl with
    | ret obj =>
      obtain ⟨rfl, rfl⟩ := hr
      have zS : (s.heap.push { cls := .type "set", dict := none, data := .set #[] 0 (.fresh 0 0 (!w.params.followText "set-order")) }).get? s.heap.objs.size = some { cls := .type "set", dict := none, data := .set #[] 0 (.fresh 0 0 (!w.params.followText "set-order")) } := Heap.get?_push_size _ rfl
      have zT : Shared.TypeIs { s with heap := s.heap.push { cls := .type "set", dict := none, data := .set #[] 0 (.fresh 0 0 (!w.params.followText "set-order")) } } (.ref s.heap.objs.size) "set" := ⟨_, zS, rfl⟩
      have zli := F.called_set.init.lookup
      have zbi := F.called_set.init.bind (.ref s.heap.objs.size)
      repeat (any_goals (first | assumption | wp_step))

      refine codeAny_mono (codeAny_call_builtin (R := wants (fun r s₂ => r = .none ∧ ∃ h' tk c, s₂ = { s with heap := h', toks := tk } ∧ SetR w h' s.heap.objs.size (fun j => decide (j ∈ ns)) c ∧ c ≤ ns.length ∧
          (∀ b o, s.heap.get? b = some o → h'.get? b = some o)) E) F.called_set.init.plain F.entry_set_init (check_set_init_1 zT ?_)) fun r₂ s₂ zr₂ => ?_
      · obtain ⟨ol, zol, zcl, nl, zdl⟩ := zl
        obtain ⟨ocls, odict, odata, oslots⟩ := ol
        simp only at zcl zdl
        subst zcl; subst zdl
        have zol' : (s.heap.push { cls := .type "set", dict := none, data := .set #[] 0 (.fresh 0 0 (!w.params.followText "set-order")) }).get? l = some { cls := .type "list", dict := odict, data := .seq items nl, slots := oslots } := Heap.get?_push_of_some _ zol
        have zsls := F.sub_list_set
        have zslf := F.sub_list_frozenset
        have zne : (Value.type "list" == Value.type "dict") = false := by decide
        have zl1 : (s.heap.push { cls := .type "set", dict := none, data := .set #[] 0 (.fresh 0 0 (!w.params.followText "set-order")) }).IsList l items := ⟨_, zol', rfl, nl, rfl⟩
        unfold Builtin.«set.__init__» noKeywords Builtin.Frozenset.updateFrom
        generalize zPI : pyIter = PI
        wp_walk
        subst zPI

        refine wpAny_pyIter_list zl1 ?_
        refine wpAny_bind (wpAny_runValue ?_)
        have zlS : l < s.heap.objs.size := Heap.lt_size zol
        have zh3 : A.in1.in1.in1.handled = none := by simp [hh]
        have zz1 : (s.heap.push { cls := .type "set", dict := none, data := .set #[] 0 (.fresh 0 0 (!w.params.followText "set-order")) }).objs.size = s.heap.objs.size + 1 := Heap.size_push ..
        have zneI : l ≠ (s.heap.push { cls := .type "set", dict := none, data := .set #[] 0 (.fresh 0 0 (!w.params.followText "set-order")) }).objs.size := by
          rw [Heap.size_push]; exact Nat.ne_of_lt (Nat.lt_succ_of_lt zlS)
        have zSf : s.heap.objs.size ∉ [(s.heap.push { cls := .type "set", dict := none, data := .set #[] 0 (.fresh 0 0 (!w.params.followText "set-order")) }).objs.size, l] := by
          rw [Heap.size_push]; simp only [List.mem_cons, List.mem_singleton, List.not_mem_nil, or_false, not_or]
          exact ⟨Nat.ne_of_lt (Nat.lt_succ_self _), Nat.ne_of_gt zlS⟩
        have zval : ∀ (i : Nat) (v : Value), items[i]? = some v → ∃ k t, ns[i]? = some k ∧ v = .int k t := fun i v zv => by
          have zi : i < ns.length := by rw [← nsz]; exact (Array.getElem?_eq_some_iff.mp zv).1
          obtain ⟨t, e⟩ := PyProof.Rows.IntsAre.int_at zit i v (by rw [Array.getElem?_toList]; exact zv)
          refine ⟨ns[i], t, List.getElem?_eq_getElem zi, ?_⟩
          rw [e, List.getD_eq_getElem?_getD, List.getElem?_eq_getElem zi] <;> rfl
        refine set_update_ints ((Walks.list zh3 _ l zneI items).toS) s.heap.objs.size
          zSf ns nsz hb zval (items.size - 0) 0 _ (by omega) (Nat.zero_le _)
          ⟨⟨_, Heap.get?_push_size _ rfl, rfl, rfl⟩, (zl1.push _)⟩ ?zS0 ?zR
        case zS0 =>
          have zget : ((s.heap.push { cls := .type "set", dict := none, data := .set #[] 0 (.fresh 0 0 (!w.params.followText "set-order")) }).push { cls := .type "list_iterator", data := .fields #[.ref l, .int 0 0] }).get? s.heap.objs.size
              = some { cls := .type "set", dict := none, data := .set #[] 0 (.fresh 0 0 (!w.params.followText "set-order")) } := Heap.get?_push_of_some _ zS
          exact ⟨0, Nat.le_refl 0, setR_new_at zget⟩
        case zR =>
          intro s' c' zm zc' zS'
          obtain ⟨h', g2, d', tk', os'⟩ := s'
          have eg : g2 = s.gens := zm.gens
          have ed : d' = s.drawn := zm.drawn
          have eo : os' = s.os := zm.os
          subst eg; subst ed; subst eo
          show wpAny _ _ _ _ _ _
          refine wpAny_pure ?_
          show wpAny _ _ (ret Value.none) _ _ _
          rw [nsz] at zc'
          refine wpAny_pure ⟨rfl, h', tk', c', rfl, zS', zc', fun b o e => ?_⟩
          have zb0 : b < s.heap.objs.size := Heap.lt_size e
          have zb1 : b ≠ s.heap.objs.size := Nat.ne_of_lt zb0
          have zb2 : b ≠ (s.heap.push { cls := .type "set", dict := none, data := .set #[] 0 (.fresh 0 0 (!w.params.followText "set-order")) }).objs.size := by
            rw [Heap.size_push]; exact Nat.ne_of_lt (Nat.lt_succ_of_lt zb0)
          exact zm.heap b o (by simp only [List.mem_cons, List.mem_singleton, List.not_mem_nil, or_false, not_or]; exact ⟨zb1, zb2⟩) (Heap.get?_push_of_some _ (Heap.get?_push_of_some _ e))

      · cases r₂ with
        | error e => exact zr₂
        | ok fl₂ =>
          cases fl₂ with
          | ret r =>
            obtain ⟨rfl, h', tk, c', rfl, zS', zc', hk'⟩ := zr₂
            repeat (any_goals (first | assumption | wp_step))
            exact h _ _ _ zS' zc' hk'
          | _ => exact zr₂.elim
    | _ => exact hr.elim
end
end MI
set_option maxRecDepth 100000
set_option maxHeartbeats 4000000
namespace MI
open PySem PySem.Spec L2 PyProof.Rows
section
variable {c : Ct} {W : WX} {X : Cx} {B Z B1 : List Addr} {H H1 : Hp} {σ : L2.St}
/-! ## sorted(set(..)) -/
def sins (x : Int) : List Int → List Int
  | [] => [x]
  | y :: t => if x < y then x :: y :: t else if x = y then y :: t else y :: sins x t
def dsort : List Int → List Int
  | [] => []
  | x :: t => sins x (dsort t)
theorem sins_mem (x k : Int) : ∀ l : List Int, k ∈ sins x l ↔ k = x ∨ k ∈ l
  | [] => by simp [sins]
  | y :: t => by
    unfold sins
    split
    · simp
    · split
      · rename_i h; subst h; simp
      · rw [List.mem_cons, sins_mem x k t, List.mem_cons]
        constructor
        · rintro (h | h | h)
          · exact .inr (.inl h)
          · exact .inl h
          · exact .inr (.inr h)
        · rintro (h | h | h)
          · exact .inr (.inl h)
          · exact .inl h
          · exact .inr (.inr h)
theorem dsort_mem (k : Int) : ∀ l : List Int, k ∈ dsort l ↔ k ∈ l
  | [] => by simp [dsort]
  | x :: t => by unfold dsort; rw [sins_mem, dsort_mem k t, List.mem_cons]
theorem sins_pw (x : Int) : ∀ l : List Int, l.Pairwise (· < ·) → (sins x l).Pairwise (· < ·)
  | [], _ => by unfold sins; simp
  | y :: t, h => by
    unfold sins
    have z := List.pairwise_cons.mp h
    split
    · rename_i hxy
      refine List.pairwise_cons.mpr ⟨fun a ha => ?_, h⟩
      rcases List.mem_cons.mp ha with ha | ha
      · rw [ha]; exact hxy
      · exact Int.lt_trans hxy (z.1 a ha)
    · split
      · exact h
      · rename_i h1 h2
        refine List.pairwise_cons.mpr ⟨fun a ha => ?_, sins_pw x t z.2⟩
        rcases (sins_mem x a t).mp ha with ha | ha
        · rw [ha]; omega
        · exact z.1 a ha
theorem dsort_pw : ∀ l : List Int, (dsort l).Pairwise (· < ·)
  | [] => .nil
  | x :: t => sins_pw x _ (dsort_pw t)
theorem slt_unique : ∀ {l m : List Int}, (∀ k, k ∈ l ↔ k ∈ m) → l.Pairwise (· < ·) → m.Pairwise (· < ·) → l = m
  | [], [], _, _, _ => rfl
  | [], y :: u, p, _, _ => by have := (p y).mpr List.mem_cons_self; cases this
  | x :: t, [], p, _, _ => by have := (p x).mp List.mem_cons_self; cases this
  | x :: t, y :: u, p, h1, h2 => by
    have z1 := List.pairwise_cons.mp h1
    have z2 := List.pairwise_cons.mp h2
    have e : x = y := by
      rcases List.mem_cons.mp ((p x).mp List.mem_cons_self) with q1 | q1
      · exact q1
      · rcases List.mem_cons.mp ((p y).mpr List.mem_cons_self) with q2 | q2
        · exact q2.symm
        · have a1 := z2.1 x q1
          have a2 := z1.1 y q2
          omega
    subst e
    rw [slt_unique (fun k => ⟨fun hk => ?_, fun hk => ?_⟩) z1.2 z2.2]
    · rcases List.mem_cons.mp ((p k).mp (List.mem_cons_of_mem _ hk)) with q | q
      · have := z1.1 k hk; omega
      · exact q
    · rcases List.mem_cons.mp ((p k).mpr (List.mem_cons_of_mem _ hk)) with q | q
      · have := z2.1 k hk; omega
      · exact q
def TSrtSet (K : PySem.W.Frag) (ta : TE) : TE := fun σ H Q => ta σ H fun x H1 => ∃ (l : Addr) (ns : List Int), x = .ref l ∧ SqL K H1 l (ns.map V.int) ∧ ns.length < 64 ∧ ∀ p, H1 p = none → Q (.ref p) (upd H1 p (.lst ((dsort ns).map V.int)))
theorem pe_srtSet {a : Expr} {ta : TE} {p p2 q pos : Pos} (hg : Gl X "sorted") (hm : X.mg "sorted" = none) (hg2 : Gl X "set") (hm2 : X.mg "set" = none) (ha : PE X a ta) (hc : X.calm = true)
    (na : starEach [a] X.env = (false, eval a X.env) :: starEach [] X.env := by rfl) (nb : starEach [.Call (.Name "set" p2) [a] [] q] X.env = (false, eval (.Call (.Name "set" p2) [a] [] q) X.env) :: starEach [] X.env := by rfl) : PE X (.Call (.Name "sorted" p) [.Call (.Name "set" p2) [a] [] q] [] pos) (TSrtSet X.K ta) := by
  refine ⟨fun pins s σ H Q I h => ?_⟩
  refine Call_ (ld_blt I hg hm (by decide +kernel : bootBuiltins "sorted" = some (.builtin "sorted")) ?_)
  refine PyProof.Rows.callWith_builtin1 (PyProof.Rows.args_cons ?_ nb) nb rfl
  refine Call_ (ld_blt I hg2 hm2 boot_set ?_)
  refine PyProof.Rows.callWith_type1 (PyProof.Rows.args_cons (thn (ha.run pins s σ H _ I h) fun v s1 ⟨x, H1, I1, r1, q1⟩ => PyProof.Rows.args_nil ?_) na) na rfl
  obtain ⟨l, ns, rfl, hq, h64, q1⟩ := q1
  cases r1
  obtain ⟨its, r, pl, hz⟩ := I1.list hq
  refine call_set_lstI (P := X.prog) (w := X.w) ns (I1.ok.hd hc) pl.isList (by simpa using RZ.intsAre_vals r) (by unfold scanBound; omega) fun h' tk c hS hc' hk => ?_
  refine PyProof.Rows.args_nil ?_
  have I2 : Inv X pins σ H1 { s1 with heap := h', toks := tk } := I1.kept hk
  refine sorted_set (s := { s1 with heap := h', toks := tk }) hS (I2.ok.hd hc) (by omega) fun s' p out c ms k g o hp hg hi hs hm hl => ?_
  have em : ms = dsort ns := slt_unique (fun k => by rw [hm k, dsort_mem]; simp) hs (dsort_pw ns)
  subst em
  have hlen : ((dsort ns).map V.int).length ≤ sizeLine := by rw [List.length_map, hl, sizeLine_eq]; omega
  have hn : H1 p = none := I2.hok.fresh hp
  have J : Inv X pins σ (upd H1 p (.lst ((dsort ns).map V.int))) { ({ s1 with heap := h', toks := tk } : Shared) with heap := s'.heap, gens := s'.gens, drawn := s'.drawn, toks := s'.toks } :=
    I2.call (ch := []) (Un.laid k hp hn) (I2.hok.laid k hp ⟨hlen, out.toList, _, vals_of_ints hi, hg⟩) (by rw [g]; exact I2.bare) (fun _ z => nomatch z)
  have e : s' = { s1 with heap := s'.heap, gens := s'.gens, drawn := s'.drawn, toks := s'.toks } := by
    cases s'
    cases o
    rfl
  rw [e]
  exact ⟨.ref p, _, J, rfl, q1 p hn⟩
@[simp] def eSrtSet (f : FE) : FE := fun r S => (f r S).bind fun v S1 => match lintsOf S1 v with
  | some ns => if ns.length < 64 then .ok (.d (.list ((dsort ns).map .int))) S1 else .bad
  | none => .bad
theorem s_srtSet {a : Expr} {f : FE} {p p2 q pos : Pos} (cx : Cxg c W X) (hg : Gl X "sorted") (hm : X.mg "sorted" = none) (hg2 : Gl X "set") (hm2 : X.mg "set" = none) (ha : PE X a (TEx c W f)) (hc : X.calm = true)
    (na : starEach [a] X.env = (false, eval a X.env) :: starEach [] X.env := by rfl) (nb : starEach [.Call (.Name "set" p2) [a] [] q] X.env = (false, eval (.Call (.Name "set" p2) [a] [] q) X.env) :: starEach [] X.env := by rfl) : PE X (.Call (.Name "sorted" p) [.Call (.Name "set" p2) [a] [] q] [] pos) (TEx c W (eSrtSet f)) :=
  pe_imp (pe_srtSet hg hm hg2 hm2 ha hc na nb) fun σ H Q ⟨B, Z, r, S, s, rr, p⟩ => ⟨B, Z, r, S, s, rr, (Post.bind p).imp fun v S1 B1 H1 e1 s1 q x rx => by
    cases h : lintsOf S1 v with
    | none => rw [h] at q; exact q.elim
    | some ns =>
      rw [h] at q
      dsimp only at q
      obtain ⟨a, rfl, h1⟩ := lintsOf_sq s1 rx h
      by_cases hl : ns.length < 64
      · rw [if_pos hl] at q
        exact ⟨a, ns, rfl, by rw [cx.K]; exact h1, hl, fun p hp => new_list s1 (rds_ints _) hp q⟩
      · rw [if_neg hl] at q; exact q.elim⟩
end
end MI
set_option maxRecDepth 100000
set_option maxHeartbeats 4000000
namespace MI
open PySem PySem.Spec PyProof.Rows L2 LamX
/-! ## the end: the law's run (turned from the worked one, over the promise with guards) -/
theorem law_callT {P : Program} {w : World} {K : PySem.W.Frag} {mg mb : Str → Option Value} {k : Nat} {fa a : Addr} {cs : List (Addr × Addr)} {nq : Addr → Str} {lam : Nat → Option LI} {fd : FuncData} {x : Str} {g : FN} {s₁ : Shared} {vs : List Value} {ns : List Int}
    (KX : K.In s₁.heap) (nsG : s₁.heap.Ns mainGlobals mg) (nsB : s₁.heap.Ns builtinsNs mb) (bltB : ∀ x : Str, x ≠ "__name__" → mb x = bootBuiltins x) (noL : s₁.heap.NoLimit) (gen0 : s₁.gens = #[])
    (tabE : ∀ p ∈ cs, s₁.heap.get? p.2 = some { cls := .none, data := .fields #[] }) (tabN : ∀ p ∈ cs, K.lookup p.2 = none) (codeA : ∀ p ∈ cs, PySem.W.CodeHd s₁.heap p.1 p.2)
    (bltM : ∃ (bm : Addr) (ob : Obj), mg "__builtins__" = some (.ref bm) ∧ bm ≠ builtinsNs ∧ s₁.heap.get? bm = some ob ∧ ob.cls = .type "module" ∧ ob.dict = some builtinsNs ∧ ob.data = .plain)
    (atA : s₁.heap.get? a = some { cls := .type "list", data := .seq vs.toArray }) (hi : IntsAre vs ns) (lenA : ns.length ≤ sizeLine) (room : Room k callerA)
    (F : ∀ base : Heap, K.In base → base.Ns mainGlobals mg → (∀ p ∈ cs, TabB base mg p.1 p.2) → FnG P w ⟨K, mg, cs.map fun p => (p.2, nq p.2), lam, []⟩ base k fa fd [x] g) (bnd : ∀ (s : Shared) (u : Value), BindsTo s fd ⟨[u], []⟩ [(x, u)])
    (ans : ∃ S, g [.scr ns] [] = .ok (.d (.bool true)) S) :
    codeAny (model P w) callerA (.call (.ref fa) ⟨[.ref a], []⟩) (fun r s' => r = .ok (.ret (.bool true)) ∧ OldK s₁.heap s'.heap ∧ s'.os = s₁.os ∧ AllBare s'.gens) s₁ := by
  have rvs := vals_ints hi
  have lenVs := hi.length
  have isTab : ∀ b : Addr, b ∈ cs.map (·.2) → s₁.heap.get? b = some { cls := .none, data := .fields #[] } := fun b nsB => by
    obtain ⟨p, zp, e⟩ := List.mem_map.mp nsB
    rw [← e]
    exact tabE p zp
  have notT : a ∉ cs.map (·.2) := fun z => by
    have q := isTab a z
    rw [atA] at q
    have z' : Data.seq vs.toArray _ = Data.fields #[] := congrArg Obj.data (Option.some.inj q)
    cases z'
  have memTab : ∀ p ∈ cs, p.2 ∈ cs.map (·.2) := fun p zp => List.mem_map.mpr ⟨p, zp, rfl⟩
  -- from an abstract heap in which nothing but the script and the tables may be tracked
  have coreG : ∀ H : Hp, (∀ p ∈ cs, H p.2 = some (.tbl #[])) → (∀ b, H b = none ∨ b ∈ cs.map (·.2) ∨ ∃ o xs, H b = some (.frz o (.lst xs))) → SqL K H a (ns.map V.int) → HOk P w H s₁.heap → (∀ b, H b ≠ none → b = a ∨ b ∈ cs.map (·.2)) → (H a ≠ none → K.lookup a = none) →
      codeAny (model P w) callerA (.call (.ref fa) ⟨[.ref a], []⟩) (fun r s' => r = .ok (.ret (.bool true)) ∧ OldK s₁.heap s'.heap ∧ s'.os = s₁.os ∧ AllBare s'.gens) s₁ := by
    intro H atT onlyH sqH okH ownA keyA
    have baseOf : ∀ {b : Addr} {o : Obj}, s₁.heap.get? b = some o → H b = none → (hidT s₁.heap H).get? b = some o := fun e n => hidT_get e n
    have noData : ∀ {b : Addr} {o : Obj}, s₁.heap.get? b = some o → (∀ vs n, o.data ≠ .seq vs n) → o.data ≠ .fields #[] → H b = none := fun {b o} e h1 h2 => by
      cases q : H b with
      | none => rfl
      | some u =>
        rcases ownA b (by rw [q]; simp) with e' | e'
        · rw [e', atA] at e
          cases e
          exact (h1 _ _ rfl).elim
        · rw [isTab b e'] at e
          cases e
          exact (h2 rfl).elim
    have noDict : ∀ {b : Addr} {o : Obj} {es : Array DictEntry} {ep : Nat}, s₁.heap.get? b = some o → o.data = .dict es ep → H b = none := fun {b o es ep} e d => by
      refine noData e (fun vs n z => ?_) fun z => ?_
      · rw [d] at z
        cases z
      · rw [d] at z
        cases z
    have nsOf : ∀ {b : Addr} {m : Str → Option Value}, s₁.heap.Ns b m → (hidT s₁.heap H).Ns b m := fun {b m} ⟨o, es, ep, e, d, r⟩ => ⟨o, es, ep, baseOf e (noDict e d), d, r⟩
    have inB : K.In (hidT s₁.heap H) := fun b o e => baseOf (KX b o e) (by
      cases q : H b with
      | none => rfl
      | some u =>
        rcases ownA b (by rw [q]; simp) with e' | e'
        · rw [e'] at e q
          rw [keyA (by rw [q]; simp)] at e
          cases e
        · obtain ⟨p, zp, ep⟩ := List.mem_map.mp e'
          rw [← ep, tabN p zp] at e
          cases e)
    have modB : L2.Mod K mg (hidT s₁.heap H) := ⟨inB, nsOf nsG, ⟨mb, nsOf nsB, bltB⟩, let ⟨mc, h1, h2⟩ := noL; ⟨mc, nsOf h1, h2⟩⟩
    have tabB : ∀ p ∈ cs, TabB (hidT s₁.heap H) mg p.1 p.2 := fun p zp => by
      have tabP := tabE p zp
      refine ⟨?_, ?_, fun z => ?_⟩
      · obtain ⟨o, us, file, tf, flags, tg, inF, text, tt, e1, r1, r2, r3, r4, r5, r6, r7, r8, zne⟩ := codeA p zp
        refine ⟨o, us, file, tf, flags, tg, inF, text, tt, baseOf e1 (noData e1 (fun vs n z => ?_) fun z => ?_), r1, r2, r3, r4, r5, r6, r7, r8, zne⟩
        · rw [r2] at z
          cases z
        · rw [r2] at z
          cases z
          simp at r3
      · obtain ⟨bm, ob, b1, b2, b3, b4, b5, b6⟩ := bltM
        have nG : bm ≠ mainGlobals := fun q => by
          obtain ⟨o, es, ep, e, zd, _⟩ := nsG
          rw [q, e] at b3
          cases b3
          rw [zd] at b6
          cases b6
        have nP : bm ≠ p.2 := fun q => by
          rw [q, tabP] at b3
          cases b3
          cases b6
        refine ⟨bm, ob, b1, b2, nG, nP, baseOf b3 (noData b3 (fun vs n z => ?_) fun z => ?_), b4, b5, b6⟩
        · rw [b6] at z
          cases z
        · rw [b6] at z
          cases z
      · obtain ⟨o, es, ep, e, zd, _⟩ := nsG
        rw [z, tabP] at e
        cases e
        cases zd
    have env0 : Env0 P w K mg (hidT s₁.heap H) callerA [] s₁ H := ⟨rfl, modB, fun b o e => of_hidT e, Nat.le_of_eq (hidT_size _ _), trivial, fun b nsB => absurd (show b ∈ ([] : List Addr) from nsB) (by simp), okH, .of_eq gen0⟩
    have srT : Tabs (cs.map fun p => (p.2, nq p.2)) H := fun q hq => by
      obtain ⟨p, hp, rfl⟩ := List.mem_map.mp hq
      exact TabS.nil (atT p hp)
    have srN : SR ⟨K, mg, cs.map fun p => (p.2, nq p.2), lam, []⟩ H [] [] [] := ⟨rfl, .nil, fun _ m => (nomatch m), fun _ m => (nomatch m), fun n b o q => by simp at q, srT⟩
    have riN : RI ⟨K, mg, cs.map fun p => (p.2, nq p.2), lam, []⟩ H [] [] (.scr ns) (.ref a) := by
      rcases sqH with q | q
      · exact .scr q (by simp)
      · exact .scrK q
    have post : Post ⟨K, mg, cs.map fun p => (p.2, nq p.2), lam, []⟩ (fun cls d _ H => (fun _ _ _ => False : XK) cls d H) [] [] H [] (g [.scr ns] []) (fun v _ B' H' => ∀ x, RI ⟨K, mg, cs.map fun p => (p.2, nq p.2), lam, []⟩ H' B' [] v x → (fun v _ => v = .bl true : VK) x H') := by
      obtain ⟨S, e⟩ := ans
      rw [e]
      intro B' H' _ _ x r
      cases r with
      | d r => cases r; rfl
    refine codeAny_mono ((F _ inB (nsOf nsG) tabB).run callerA [] s₁ H ⟨[.ref a], []⟩ [.ref a] [.ref a] (fun v _ => v = .bl true) (fun _ _ _ => False) [] [] [] [.scr ns] room rfl env0 (bnd s₁ (.ref a)) (.cons rfl .nil) rfl srN (.cons riN .nil) post) fun r s' h => ?_
    cases r with
    | error e => obtain ⟨_, _, _, _, _, _, _, _, _, _, _, _, z⟩ := h; exact z.elim
    | ok fl =>
      cases fl with
      | next => exact False.elim h
      | brk => exact False.elim h
      | cont => exact False.elim h
      | ret u =>
        obtain ⟨v, H', os, bare2, un, okH', r', q⟩ := h
        have q' : v = .bl true := q
        subst q'
        obtain rfl : u = Value.bool true := r'
        have key : ∀ b o, b ∉ cs.map (·.2) → s₁.heap.get? b = some o → s'.heap.get? b = some o := fun b o nb e => by
          cases q : H b with
          | none => exact un.keep b o e q (by intro z; exact absurd (show b ∈ ([] : List Addr) from z) (by simp)) (by simp)
          | some u =>
            rcases onlyH b with z | z | ⟨ob, xs, z⟩
            · rw [q] at z; cases z
            · exact absurd z nb
            · have z2 := un.frzs b ob _ z
              obtain ⟨e1, _⟩ := okH b _ z
              obtain ⟨e2, _⟩ := okH' b _ z2
              rw [e] at e1; cases e1
              exact e2
        have grown : ∀ p ∈ cs, ∃ more : Array Value, s'.heap.get? p.2 = some { cls := .none, data := .fields more } := fun p zp => by
          obtain ⟨more, z⟩ := un.tbls p.2 #[] (atT p zp)
          exact ⟨_, okH' p.2 _ z⟩
        refine ⟨rfl, ⟨fun b o e => ?_, fun b o e => ?_⟩, os, bare2⟩
        · by_cases nsB : b ∈ cs.map (·.2)
          · obtain ⟨p, zp, ep⟩ := List.mem_map.mp nsB
            obtain ⟨more, zm⟩ := grown p zp
            rw [← ep] at e ⊢
            rw [tabE p zp] at e
            cases e
            exact .inr (.inl ⟨((codeA p zp).tab (tabE p zp)).isCodeTable, rfl, #[], more, rfl, by rw [Array.empty_append]; exact zm⟩)
          · exact .inl (key b o nsB e)
        · by_cases nsB : b ∈ cs.map (·.2)
          · obtain ⟨p, zp, ep⟩ := List.mem_map.mp nsB
            obtain ⟨more, zm⟩ := grown p zp
            rw [← ep]
            exact ⟨_, zm⟩
          · exact ⟨o, key b o nsB e⟩
  cases zk : K.lookup a with
  | some o =>
    have e := KX a o zk
    rw [atA] at e
    cases e
    refine coreG (fun b => if b ∈ cs.map (·.2) then some (.tbl #[]) else none) (fun p zp => if_pos (memTab p zp)) (fun b => ?_) (.inr ⟨_, vs.toArray, _, zk, rfl, rfl, rfl, by rw [List.size_toArray, lenVs]; exact lenA, by simpa using rvs⟩) (fun b u z => ?_) (fun b z => ?_) fun z => absurd (show (if a ∈ cs.map (·.2) then some (HO.tbl #[]) else none) = none from if_neg notT) z
    · by_cases nsB : b ∈ cs.map (·.2)
      · exact .inr (.inl nsB)
      · exact .inl (if_neg nsB)
    · by_cases nsB : b ∈ cs.map (·.2)
      · have z' := (if_pos nsB).symm.trans z
        cases z'
        exact isTab b nsB
      · have z' := (if_neg nsB).symm.trans z
        cases z'
    · by_cases nsB : b ∈ cs.map (·.2)
      · exact .inr nsB
      · exact absurd (if_neg nsB) z
  | none =>
    refine coreG (fun b => if b = a then some (.frz { cls := .type "list", data := .seq vs.toArray } (.lst (ns.map V.int))) else if b ∈ cs.map (·.2) then some (.tbl #[]) else none) (fun p zp => (if_neg (show ¬ p.2 = a from fun z => notT (by rw [← z]; exact memTab p zp))).trans (if_pos (memTab p zp))) (fun b => ?_)
      (.inl (.inr ⟨{ cls := .type "list", data := .seq vs.toArray }, if_pos rfl⟩)) (fun b u z => ?_) (fun b z => ?_) fun _ => zk
    · by_cases nsB : b = a
      · exact .inr (.inr ⟨_, _, if_pos nsB⟩)
      · by_cases hb2 : b ∈ cs.map (·.2)
        · exact .inr (.inl hb2)
        · exact .inl ((if_neg nsB).trans (if_neg hb2))
    · by_cases nsB : b = a
      · have z' := (if_pos nsB).symm.trans z
        cases z'
        rw [nsB]
        exact ⟨atA, by rw [List.length_map]; exact lenA, vs, _, rvs, atA⟩
      · have z1 := (if_neg nsB).symm.trans z
        by_cases hb2 : b ∈ cs.map (·.2)
        · have z' := (if_pos hb2).symm.trans z1
          cases z'
          exact isTab b hb2
        · have z' := (if_neg hb2).symm.trans z1
          cases z'
    · by_cases nsB : b = a
      · exact .inl nsB
      · by_cases hb2 : b ∈ cs.map (·.2)
        · exact .inr hb2
        · exact absurd ((if_neg nsB).trans (if_neg hb2)) z
/-- what is known of the law's promise at the head's heap h -/
def LawT (l : PySem.W.OpenLaw) (w : World) (k : Nat) (x : Str) (g : FN) (mg : Str → Option Value) (fa : Addr) (h : Heap) : Prop :=
  ∃ (K : PySem.W.Frag) (fd : FuncData) (cs : List (Addr × Addr)) (nq : Addr → Str) (lam : Nat → Option LI), K.In h ∧ (∀ p ∈ cs, h.get? p.2 = some { cls := .none, data := .fields #[] }) ∧ (∀ p ∈ cs, K.lookup p.2 = none) ∧ (∀ p ∈ cs, PySem.W.CodeHd h p.1 p.2) ∧
    (∀ (s : Shared) (u : Value), BindsTo s fd ⟨[u], []⟩ [(x, u)]) ∧ ∀ base : Heap, K.In base → base.Ns mainGlobals mg → (∀ p ∈ cs, TabB base mg p.1 p.2) → FnG l.prog w ⟨K, mg, cs.map fun p => (p.2, nq p.2), lam, []⟩ base k fa fd [x] g
theorem walk_G {l : PySem.W.OpenLaw} {n k : Nat} {q : Program} {loose : List Str} {XP : (Str → Option Value) → Heap → Prop} {YP : World → Heap → Prop} {d : DefRec} {x : Str} {g : FN}
    (most : l.most = some n) (fits : n ≤ sizeLine) (noDef : d.params.defaults = []) (room : Room k callerA)
    (F : ∀ (w : World) (mg : Str → Option Value) (fa : Addr) (h : Heap), YP w h → h.Ns mainGlobals mg → mg d.name = some (.ref fa) → LawT l w k x g mg fa h)
    (ans : ∀ ns : List Int, ns.length ≤ n → ∃ S, g [.scr ns] [] = .ok (.d (.bool true)) S) :
    PySem.W.WalkO q loose XP YP l.row.toRowW d [] (fun f vs => PySem.call f vs) := by
  refine Att.attach_call most noDef fun w s₀ s₁ mg mb fa o pm cd doc a vs ns G Y ho hd hcd hmg hobj hints hlen hg => ?_
  obtain ⟨K, fd, cs, nq, lam, KX, c1, c2, c3, hb, hF⟩ := F w mg fa _ Y G.T.g hmg
  exact law_callT KX G.T.g G.T.b G.T.builtins G.T.nolimit hg c1 c2 c3 G.T.bmain hobj hints (Nat.le_trans hlen fits) room hF hb (ans ns hlen)
section
variable {P : Program} {w : World} {c : Ct} {base : Heap} {x qual : Str} {params : Arguments} {body : List Stmt} {scope : Scope} {kws : List (Str × V)} {f : Addr} {fd : FuncData}
/-- a def's promise, from its body's reading -/
theorem fun_okG {N ps : List Str} {k : Nat} {fs : FS} (F : FunD c.K x qual params body scope [] kws f fd) (S : FnScope N ps scope)
    (hbody : ∀ (cdv : Value) (A : Around) (outer : List Env) (s : Shared) (H : Hp) (E : XK), Room k (A.deeper (envOfC qual scope s.heap.objs.size f cdv)) → A.guards = some [] →
      PSs (cxOf (L2.CX P w) P w c.K c.mg base N qual scope f cdv A outer s H E) body (TSx c (fun cls d _ H => E cls d H) fs)) : FnG P w c base (k + 1) f fd ps (fnB N.length fs) := by
  obtain ⟨oc, od, dV, kV, doc, pm, an, cdv, ct, osl, rfl, lk, hcd, _, _⟩ := F.ex
  exact fn_ofG lk hcd S fun A outer s H E hr hgu => hbody cdv A outer s H E hr hgu
/-- the standing facts of a body -/
theorem cxg_of {N : List Str} {cdv : Value} {A : Around} {outer : List Env} {s : Shared} {H : Hp} {E : XK} (hgu : A.guards = some []) : Cxg c (fun cls d _ H => E cls d H) (cxOf (L2.CX P w) P w c.K c.mg base N qual scope f cdv A outer s H E) :=
  ⟨rfl, rfl, hgu, takes_of rfl rfl rfl rfl⟩
end
end MI
set_option maxRecDepth 100000
set_option maxHeartbeats 4000000
namespace MI
open PySem PySem.Spec PyProof.Rows L2
section
variable {c : Ct} {W : WX} {X : Cx} {B Z : List Addr} {H : Hp} {σ : L2.St} {k : Nat}
/-! ## what a body leans on, said once -/
theorem Cxg.blk {s : Shared} {H : Hp} {scope : Scope} {cenv : Env} {fp : List Addr} (cx : Cxg c W X) : Cxg c W0 (X.blk s H scope cenv fp) :=
  ⟨cx.K, cx.mg, cx.gu, fun u s' x => by
    obtain ⟨_, _, _, _, _, _, _, _, _, _, _, _, _, _, _, _, z⟩ := x
    exact z.elim⟩
def visC (sc : Scope) (x : Str) : Bool := match sc.names.lookup x with
  | some .local => true
  | some .cell => true
  | some .free => true
  | _ => false
theorem vis_by {sc : Scope} {x : Str} (h : visC sc x = true) : Vis sc x := by
  unfold visC at h
  split at h
  · exact .inl (by assumption)
  · exact .inr (.inl (by assumption))
  · exact .inr (.inr (by assumption))
  · cases h
def locC (sc : Scope) (x : Str) : Bool := match sc.names.lookup x with
  | some .local => true
  | some .cell => true
  | _ => false
theorem loc_by {sc : Scope} {x : Str} (h : locC sc x = true) : Loc sc x := by
  unfold locC at h
  split at h
  · exact .inl (by assumption)
  · exact .inr (by assumption)
  · cases h
theorem v_v (i : Nat) {x : Str} {pos : Pos} (hN : X.N[i]? = some x) (hv : visC X.env.scope x = true) (hd : (x == ("__debug__" : Str)) = false := by decide) (hcd : (x == ("__classdict__" : Str)) = false := by decide) : PE X (.Name x pos) (TEx c W (eVar i)) :=
  s_var (pe_var hN (vis_by hv) hd hcd)
section
variable {a b d e : Expr} {f g h : FE} {pos : Pos}
theorem v_add (cx : Cxg c W X) (ha : PE X a (TEx c W f)) (hb : PE X b (TEx c W g)) : PE X (.BinOp a .Add b pos) (TEx c W (eOp2 oAdd f g)) := by
  have z : OpR X (binaryOp .Add) (rAddA X.K) := op_addA
  rw [cx.K] at z
  exact s_op z k_add ha hb
theorem v_sub (ha : PE X a (TEx c W f)) (hb : PE X b (TEx c W g)) : PE X (.BinOp a .Sub b pos) (TEx c W (eOp2 (oInt gSub) f g)) := s_op op_subC k_sub ha hb
theorem v_mul (ha : PE X a (TEx c W f)) (hb : PE X b (TEx c W g)) : PE X (.BinOp a .Mult b pos) (TEx c W (eOp2 (oInt gMul) f g)) := s_op op_mulW k_mul ha hb
theorem v_div (ha : PE X a (TEx c W f)) (hb : PE X b (TEx c W g)) : PE X (.BinOp a .FloorDiv b pos) (TEx c W (eOp2 (oInt gDiv) f g)) := s_op op_fdivW k_div ha hb
theorem v_mod (ha : PE X a (TEx c W f)) (hb : PE X b (TEx c W g)) : PE X (.BinOp a .Mod b pos) (TEx c W (eOp2 (oInt gMod) f g)) := s_op op_mod k_mod ha hb
/-- powers, wide -/
@[simp] def gPw (i j : Int) : Option Int := if 0 ≤ j ∧ j ≤ 1000 ∧ i.natAbs < 2 ^ 1000 then some (i ^ j.toNat) else none
theorem bits1000 {i j : Int} (h0 : 0 ≤ j) (h1 : j ≤ 1000) (h2 : i.natAbs < 2 ^ 1000) : (Builtin.Int.intBits i : Int) * j ≤ 2 ^ 27 := by
  have hb : Builtin.Int.intBits i ≤ 1000 := by
    unfold Builtin.Int.intBits
    split
    · omega
    · rename_i hz
      have hz' : i.natAbs ≠ 0 := by simpa using hz
      have := (Nat.log2_lt hz').mpr h2
      omega
  calc (Builtin.Int.intBits i : Int) * j ≤ 1000 * j := Int.mul_le_mul_of_nonneg_right (by omega) h0
    _ ≤ 1000 * 1000 := Int.mul_le_mul_of_nonneg_left h1 (by omega)
    _ ≤ 2 ^ 27 := by decide
theorem op_pw : OpR X (binaryOp .Pow) (rI (fun i j => 0 ≤ j ∧ j ≤ 1000 ∧ i.natAbs < 2 ^ 1000) fun i j => .int (i ^ j.toNat)) := opI fun i j t u s Q E hc q => pow_int hc.1 (bits1000 hc.1 hc.2.1 hc.2.2) q
theorem v_pow (ha : PE X a (TEx c W f)) (hb : PE X b (TEx c W g)) : PE X (.BinOp a .Pow b pos) (TEx c W (eOp2 (oInt gPw) f g)) := s_op op_pw (k_int fun i j k e => by
  unfold gPw at e
  split at e
  · exact ⟨by assumption, (Option.some.inj e).symm⟩
  · cases e) ha hb
theorem v_neg (ha : PE X a (TEx c W f)) : PE X (.UnaryOp .USub a pos) (TEx c W (eOp1 oNeg f)) := s_un un_neg k_neg ha
theorem v_ix (cx : Cxg c W X) (ha : PE X a (TEx c W f)) (hb : PE X b (TEx c W g)) (hs : PlainIx b := by intro _ _; rfl) : PE X (.Subscript a b pos) (TEx c W (eOp2 oIx f g)) := s_ix cx.K.symm ha hb hs
theorem v_sl {lo hi : Option Expr} {l h : FO} {p2 : Pos} (cx : Cxg c W X) (he : PE X e (TEx c W f)) (hl : PO X lo (TOx c W l)) (hh : PO X hi (TOx c W h)) : PE X (.Subscript e (.Slice lo hi none p2) pos) (TEx c W (eSl f l h)) := s_sl cx.K.symm he hl hh
/-! comparisons: the operation's rule and its reading -/
structure Cm (c : Ct) (W : WX) (X : Cx) (op : CmpOp) (o : O2) : Prop where
  ex : ∃ r, OpR X (compareOp op) r ∧ Ok2 c W r o
theorem m_lt : Cm c W X .Lt (cInt gLt) := ⟨_, op_lt, k_cint⟩
theorem m_le : Cm c W X .LtE (cInt gLe) := ⟨_, op_le, k_cint⟩
theorem m_gt : Cm c W X .Gt (cInt gGt) := ⟨_, op_gt, k_cint⟩
theorem m_ge : Cm c W X .GtE (cInt gGe) := ⟨_, op_ge, k_cint⟩
theorem v_cmp {op : CmpOp} {o : O2} (m : Cm c W X op o) (ha : PE X a (TEx c W f)) (hb : PE X b (TEx c W g)) (hm : behindInMarks op b = false := by rfl) : PE X (.Compare a [op] [b] pos) (TEx c W (eOp2 o f g)) := by
  obtain ⟨r, h1, h2⟩ := m.ex
  exact s_cmp h1 h2 ha hb hm
theorem v_tcmp {op : CmpOp} {o : O2} (m : Cm c W X op o) (ha : PE X a (TEx c W f)) (hb : PE X b (TEx c W g)) (hm : behindInMarks op b = false := by rfl) : PT X (.Compare a [op] [b] pos) (TTx c W (tE (eOp2 o f g))) := by
  obtain ⟨r, h1, h2⟩ := m.ex
  exact s_tcmp h1 h2 ha hb hm
theorem v_chain {op op' : CmpOp} {o o' : O2} (m : Cm c W X op o) (m' : Cm c W X op' o') (ha : PE X a (TEx c W f)) (hb : PE X b (TEx c W g)) (hd : PE X d (TEx c W h)) (hm : lastMarks [op, op'] [b, d] = false := by with_unfolding_all rfl) : PE X (.Compare a [op, op'] [b, d] pos) (TEx c W (eCh o o' f g h)) := by
  obtain ⟨r, h1, h2⟩ := m.ex
  obtain ⟨r', h3, h4⟩ := m'.ex
  exact s_chain h1 h3 h2 h4 ha hb hd hm
theorem v_tchain {op op' : CmpOp} {o o' : O2} (m : Cm c W X op o) (m' : Cm c W X op' o') (ha : PE X a (TEx c W f)) (hb : PE X b (TEx c W g)) (hd : PE X d (TEx c W h)) (hm : lastMarks [op, op'] [b, d] = false := by with_unfolding_all rfl) : PT X (.Compare a [op, op'] [b, d] pos) (TTx c W (tE (eCh o o' f g h))) := by
  obtain ⟨r, h1, h2⟩ := m.ex
  obtain ⟨r', h3, h4⟩ := m'.ex
  exact s_tchain h1 h3 h2 h4 ha hb hd hm
end
/-! built-ins: the rule and its reading -/
structure Bf (c : Ct) (W : WX) (X : Cx) (v : Value) (o : FN) : Prop where
  ex : ∃ r, CallR X v r ∧ OkN c W r o
section
variable {x : Str} {p pos : Pos} {e : Expr} {es : List Expr} {fa : FA} {o : FN} {id T : String}
theorem v_blt (b : Bf c W X (.builtin id) o) (hg : Gl X x) (hm : X.mg x = none) (hv : bootBuiltins x = some (.builtin id)) (ha : PA X (e :: es) (TAx c W fa)) (hn : x ≠ "__name__" := by decide) (hdb : (x == ("__debug__" : Str)) = false := by decide)
    (hs : starEach (e :: es) X.env = (false, eval e X.env) :: starEach es X.env := by rfl) (hpl : (backTo pos (starEach es X.env)).any (·.1) = false := by rfl) : PE X (.Call (.Name x p) (e :: es) [] pos) (TEx c W (eApp o fa)) := by
  obtain ⟨r, h1, h2⟩ := b.ex
  exact s_blt h2 h1 hg hm hv ha hn hdb hs hpl
theorem v_bty (b : Bf c W X (.type T) o) (hg : Gl X x) (hm : X.mg x = none) (hv : bootBuiltins x = some (.type T)) (ha : PA X (e :: es) (TAx c W fa)) (hn : x ≠ "__name__" := by decide) (hdb : (x == ("__debug__" : Str)) = false := by decide)
    (hs : starEach (e :: es) X.env = (false, eval e X.env) :: starEach es X.env := by rfl) (hpl : (backTo pos (starEach es X.env)).any (·.1) = false := by rfl) : PE X (.Call (.Name x p) (e :: es) [] pos) (TEx c W (eApp o fa)) := by
  obtain ⟨r, h1, h2⟩ := b.ex
  exact s_bty h2 h1 hg hm hv ha hn hdb hs hpl
end
theorem f_len (cx : Cxg c W X) : Bf c W X (.builtin "len") bLen := ⟨_, cx.K ▸ call_len, k_len⟩
theorem f_abs : Bf c W X (.builtin "abs") bAbs := ⟨_, call_abs, k_abs⟩
theorem f_max2 (hc : X.calm = true) : Bf c W X (.builtin "max") bMax2 := ⟨_, call_max2 hc, k_max2⟩
theorem f_min2 (hc : X.calm = true) : Bf c W X (.builtin "min") bMin2 := ⟨_, call_min2 hc, k_min2⟩
theorem f_sum (cx : Cxg c W X) (hc : X.calm = true) : Bf c W X (.builtin "sum") bSum := ⟨_, cx.K ▸ cr_sum hc, k_sum⟩
theorem f_all (cx : Cxg c W X) (hc : X.calm = true) : Bf c W X (.builtin "all") bAll := ⟨_, cx.K ▸ cr_all hc, k_all⟩
theorem f_int : Bf c W X (.type "int") bInt := ⟨_, call_int1, k_toint⟩
theorem f_list (cx : Cxg c W X) : Bf c W X (.type "list") bList := ⟨_, cx.K ▸ call_list_of, k_list⟩
theorem f_listM (cx : Cxg c W X) : Bf c W X (.type "list") bListM := ⟨_, cx.K ▸ call_list_of, k_listM⟩
theorem f_tuple (cx : Cxg c W X) : Bf c W X (.type "tuple") bTup := ⟨_, cx.K ▸ call_tuple_ofF, k_tup⟩
/-! methods -/
structure Mf (c : Ct) (W : WX) (X : Cx) (T : String) (name : Str) (id : String) (m : FM) : Prop where
  pa : PlainAttrs T
  slot : Slot T name id
  ty : typeOf (.builtin id) = pure (.type "method_descriptor")
  ex : ∃ r, MtR X id r ∧ OkM c W r m
section
variable {o e : Expr} {es : List Expr} {fo : FE} {fa : FA} {name : Str} {apos cpos : Pos} {T id : String} {m : FM}
theorem v_mt (cx : Cxg c W X) (M : Mf c W X T name id m) (ho : PE X o (TEx c W fo)) (ha : PA X (e :: es) (TAx c W fa)) (hbase : attributeBase o name X.env (eval o X.env) = eval o X.env := by rfl)
    (few : ((backTo cpos (starEach (e :: es) X.env)).all (fun x => !x.1) && (backToKw cpos (keywordEach [] X.env)).all (fun x => x.1.isSome) && decide ((e :: es).length + ([] : List Keyword).length + (if ([] : List Keyword).isEmpty then 0 else 1) < 30)) = true := by rfl)
    (line : (apos.endLine == cpos.line) = true := by rfl) (hs : starEach (e :: es) X.env = (false, eval e X.env) :: starEach es X.env := by rfl) (plain : (backTo cpos (starEach es X.env)).any (·.1) = false := by rfl) :
    PE X (.Call (.Attribute o name apos) (e :: es) [] cpos) (TEx c W (eMt T m fo fa)) := by
  obtain ⟨r, h1, h2⟩ := M.ex
  exact s_mt cx h2 M.pa M.slot M.ty h1 ho ha hbase few line hs plain
end
theorem d_append : Mf c W X "list" "append" "list.append" mApp := ⟨F.plainAttrs_list, F.slot_list_append, F.type_list_append, _, mt_append, k_app⟩
theorem d_extend : Mf c W X "list" "extend" "list.extend" mExt := ⟨F.plainAttrs_list, F.slot_list_extend, by show builtinType _ = _; rw [builtinType_eq_fast]; kernel_rfl, _, mt_extend, k_ext⟩
theorem d_popA : Mf c W X "list" "pop" "list.pop" mPopA := ⟨F.plainAttrs_list, F.slot_list_pop, by show builtinType _ = _; rw [builtinType_eq_fast]; kernel_rfl, _, mt_popAt, k_popA⟩
/-! ## a def that is known -/
structure Kn (P : Program) (w : World) (c : Ct) (base : Heap) (k : Nat) (x : Str) (n : Nat) (g : FN) : Prop where
  ex : ∃ f fd ps, FnG P w c base k f fd ps g ∧ c.mg x = some (.ref f) ∧ PySem.W.keepIn c.K (.ref f) = true ∧ Binds c.K fd ps [] ∧ n = ps.length
theorem v_kn {k j n : Nat} {g : FN} {x : Str} {p pos : Pos} {e : Expr} {es : List Expr} {fa : FA} (cx : Cxg c W X) (hr : Room k X.A) (kn : Kn X.prog X.w c X.base j x n g) (hj : j ≤ k) (hg : Gl X x) (ha : PA X (e :: es) (TAx c W fa)) (hdb : (x == ("__debug__" : Str)) = false := by decide)
    (he : starEach (e :: es) X.env = (false, eval e X.env) :: starEach es X.env := by rfl) (hpl : (backTo pos (starEach es X.env)).any (·.1) = false := by rfl) : PE X (.Call (.Name x p) (e :: es) [] pos) (TEx c W (eApp (callN n g) fa)) := by
  obtain ⟨f, fd, ps, h1, h2, h3, h4, h5⟩ := kn.ex
  exact s_call cx h1 (hr.mono hj) hg (by rw [cx.mg]; exact h2) (by rw [cx.K]; exact h3) (by rw [cx.K]; exact h4) h5 ha hdb he hpl
theorem v_knM {k j n : Nat} {g : FN} {x : Str} {p pos : Pos} {e : Expr} {es : List Expr} {fa : FA} (cx : Cxg c W X) (hr : Room k X.A) (kn : Kn X.prog X.w c X.base j x n g) (hj : j ≤ k) (hg : Gl X x) (ha : PA X (e :: es) (TAx c W fa)) (hdb : (x == ("__debug__" : Str)) = false := by decide)
    (he : starEach (e :: es) X.env = (false, eval e X.env) :: starEach es X.env := by rfl) (hpl : (backTo pos (starEach es X.env)).any (·.1) = false := by rfl) : PE X (.Call (.Name x p) (e :: es) [] pos) (TEx c W (eApp (callNM n g) fa)) := by
  obtain ⟨f, fd, ps, h1, h2, h3, h4, h5⟩ := kn.ex
  exact s_callM cx h1 (hr.mono hj) hg (by rw [cx.mg]; exact h2) (by rw [cx.K]; exact h3) (by rw [cx.K]; exact h4) h5 ha hdb he hpl
end
end MI
set_option maxRecDepth 100000
set_option maxHeartbeats 4000000
namespace MI
open PySem L2
/-! ## evaluation by simp -/
@[simp] theorem bind_ok_ {α β : Type} (v : α) (S : Sto) (f : α → Sto → Out β) : (Out.ok v S).bind f = f v S := rfl
@[simp] theorem bind_bad_ {α β : Type} (f : α → Sto → Out β) : (Out.bad : Out α).bind f = .bad := rfl
@[simp] theorem to_ok_ {α : Type} (v : α) (S : Sto) (r : Rho) (f : α → Sto → SOut) : (Out.ok v S).to r f = f v S := rfl
@[simp] theorem to_bad_ {α : Type} (r : Rho) (f : α → Sto → SOut) : (Out.bad : Out α).to r f = .bad := rfl
@[simp] theorem seq_nx_ (r : Rho) (S : Sto) (f : Rho → Sto → SOut) : (SOut.nx r S).seq f = f r S := rfl
@[simp] theorem seq_ret_ (v : IV) (S : Sto) (f : Rho → Sto → SOut) : (SOut.ret v S).seq f = .ret v S := rfl
@[simp] theorem seq_brk_ (r : Rho) (S : Sto) (f : Rho → Sto → SOut) : (SOut.brk r S).seq f = .brk r S := rfl
@[simp] theorem seq_ct_ (r : Rho) (S : Sto) (f : Rho → Sto → SOut) : (SOut.ct r S).seq f = .ct r S := rfl
@[simp] theorem seq_bad_ (f : Rho → Sto → SOut) : SOut.bad.seq f = .bad := rfl
@[simp] theorem fin_nx_ (r : Rho) (S : Sto) : (SOut.nx r S).fin = .ok (.d .none) S := rfl
@[simp] theorem fin_ret_ (v : IV) (S : Sto) : (SOut.ret v S).fin = .ok v S := rfl
@[simp] theorem nox_ok_ {α : Type} (v : α) (S : Sto) : (Out.ok v S).nox = .ok v S := rfl
@[simp] theorem fnB1 (n : Nat) (fs : FS) (a : IV) (S : Sto) (h : 1 ≤ n) : fnB n fs [a] S = (fs (some a :: List.replicate (n - 1) none) S).fin := by
  unfold fnB; rw [if_pos (by simpa using h)]; rfl
@[simp] theorem fnB2 (n : Nat) (fs : FS) (a b : IV) (S : Sto) (h : 2 ≤ n) : fnB n fs [a, b] S = (fs (some a :: some b :: List.replicate (n - 2) none) S).fin := by
  unfold fnB; rw [if_pos (by simpa using h)]; rfl
@[simp] theorem fnB3 (n : Nat) (fs : FS) (a b d : IV) (S : Sto) (h : 3 ≤ n) : fnB n fs [a, b, d] S = (fs (some a :: some b :: some d :: List.replicate (n - 3) none) S).fin := by
  unfold fnB; rw [if_pos (by simpa using h)]; rfl
/-- calls: the usual borrowings -/
def dV : IV → Bool
  | .d _ => true
  | .scr _ => true
  | .gl _ => true
  | .clo _ _ => true
  | .exc _ _ => true
  | _ => false
theorem dv_brw : ∀ l : List IV, l.all dV = true → brw l = [] ∧ ∀ ns, inAs ns l = some l
  | [], _ => ⟨rfl, fun _ => rfl⟩
  | a :: t, h => by
    rw [List.all_cons, Bool.and_eq_true] at h
    obtain ⟨i1, i2⟩ := dv_brw t h.2
    have h1 := h.1
    cases a with
    | d x => exact ⟨i1, fun ns => by simp [inAs, inA, i2]⟩
    | gl x => exact ⟨i1, fun ns => by simp [inAs, inA, i2]⟩
    | scr x => exact ⟨i1, fun ns => by simp [inAs, inA, i2]⟩
    | ref n => cases h1
    | tup n => cases h1
    | lam n => cases h1
    | clo n m => exact ⟨i1, fun ns => by simp [inAs, inA, i2]⟩
    | exc n m => exact ⟨i1, fun ns => by simp [inAs, inA, i2]⟩
theorem dv_out {v : IV} (h : dV v = true) (ns : List Nat) (T : Sto) : outV ns T v = some v := by
  cases v with
  | d x => simp [outV, toD]
  | gl x => simp [outV]
  | scr x => simp [outV]
  | ref n => cases h
  | tup n => cases h
  | lam n => cases h
  | clo n m => simp [outV]
  | exc n m => simp [outV]
theorem call_pure {g : FN} {is : List IV} {S T : Sto} {v : IV} (h : is.all dV = true) (hg : g is [] = .ok v T) (hv : dV v = true) : callW backW g is S = .ok v S := by
  obtain ⟨n1, n2⟩ := dv_brw is h
  unfold callW
  rw [n1, n2]
  simp only [inS]
  rw [hg]
  simp [backW, outS, dv_out hv]
/-- a new list, frozen -/
theorem call_new {g : FN} {is : List IV} {S T : Sto} {n : Nat} {ds : List PyData} (h : is.all dV = true) (hg : g is [] = .ok (.ref n) T) (hT : T[n]? = some (.lst ds)) : callW backW g is S = .ok (.d (.list ds)) S := by
  obtain ⟨n1, n2⟩ := dv_brw is h
  unfold callW
  rw [n1, n2]
  simp only [inS]
  rw [hg]
  simp [backW, outS, outV, toD, hT]
/-- a new list, kept to be changed -/
theorem call_newM {g : FN} {is : List IV} {S T : Sto} {n : Nat} {ds : List PyData} (h : is.all dV = true) (hg : g is [] = .ok (.ref n) T) (hT : T[n]? = some (.lst ds)) : callW backN g is S = .ok (.ref S.length) (S ++ [.lst ds]) := by
  obtain ⟨n1, n2⟩ := dv_brw is h
  unfold callW
  rw [n1, n2]
  simp only [inS]
  rw [hg]
  simp [backN, backM, outS, toD, hT]
/-- the first argument is a list of the store that the callee may change -/
theorem call_pot {g : FN} {is : List IV} {S T : Sto} {v : IV} {n : Nat} {ds es : List PyData} (h : is.all dV = true) (hS : S[n]? = some (.lst ds)) (hg : g (.ref 0 :: is) [.lst ds] = .ok v (.lst es :: T)) (hv : dV v = true) :
    callW backW g (.ref n :: is) S = .ok v (S.set n (.lst es)) := by
  obtain ⟨n1, n2⟩ := dv_brw is h
  unfold callW
  have e1 : brw (.ref n :: is) = [n] := by simp [brw, n1]
  rw [e1]
  simp only [inAs, inA, n2, inS, hS, List.mem_singleton, lendb, if_true, List.idxOf_cons_self]
  rw [hg]
  simp [backW, outS, dv_out hv]
/-- the same, a new list comes back -/
theorem call_potN {g : FN} {is : List IV} {S T : Sto} {n k : Nat} {ds es fs : List PyData} (h : is.all dV = true) (hS : S[n]? = some (.lst ds)) (hg : g (.ref 0 :: is) [.lst ds] = .ok (.ref (k + 1)) (.lst es :: T)) (hk : T[k]? = some (.lst fs)) :
    callW backW g (.ref n :: is) S = .ok (.d (.list fs)) (S.set n (.lst es)) := by
  obtain ⟨n1, n2⟩ := dv_brw is h
  unfold callW
  have e1 : brw (.ref n :: is) = [n] := by simp [brw, n1]
  rw [e1]
  simp only [inAs, inA, n2, inS, hS, List.mem_singleton, lendb, if_true, List.idxOf_cons_self]
  rw [hg]
  simp [backW, outS, outV, toD, hk]
end MI
set_option maxRecDepth 100000
set_option maxHeartbeats 4000000
namespace MI
open PySem L2
/-! ## loops, comprehensions: general laws -/
theorem forL_inv {g : FG} {b : FS} {ds : List PyData} (P : Nat → Rho → Sto → Prop) (step : ∀ (i : Nat) (r : Rho) (S : Sto) (d : PyData), ds[i]? = some d → P i r S → ∃ r' S', (g (.d d) r S).seq b = .nx r' S' ∧ P (i + 1) r' S') {r : Rho} {S : Sto} (h0 : P 0 r S) :
    ∃ r' S', forL g b ds r S = .nx r' S' ∧ P ds.length r' S' := by
  have go : ∀ (es : List PyData) (k : Nat) (r : Rho) (S : Sto), es = ds.drop k → k ≤ ds.length → P k r S → ∃ r' S', forL g b es r S = .nx r' S' ∧ P ds.length r' S' := by
    intro es
    induction es with
    | nil =>
      intro k r S e hk p
      have : ds.length ≤ k := List.drop_eq_nil_iff.mp e.symm
      have : k = ds.length := by omega
      subst this
      exact ⟨r, S, rfl, p⟩
    | cons d es ih =>
      intro k r S e hk p
      have hlt : k < ds.length := by
        by_cases h : k < ds.length
        · exact h
        · rw [List.drop_eq_nil_of_le (by omega)] at e; cases e
      rw [List.drop_eq_getElem_cons hlt] at e
      injection e with e1 e2
      obtain ⟨r1, S1, h1, h2⟩ := step k r S d (by rw [List.getElem?_eq_getElem hlt, ← e1]) p
      obtain ⟨r2, S2, h3, h4⟩ := ih (k + 1) r1 S1 e2 hlt h2
      refine ⟨r2, S2, ?_, h4⟩
      unfold forL
      rw [h1]
      exact h3
  exact go ds 0 r S rfl (Nat.zero_le _) h0
/-- a loop whose body may end by return: the answer is the same where it does not -/
theorem lcL_inv {g : FG} {t : FT} {e : FE} {r0 : Rho} {ds : List PyData} (P : Nat → List PyData → Sto → Prop) (step : ∀ (i : Nat) (acc : List PyData) (S : Sto) (d : PyData), ds[i]? = some d → P i acc S → ∃ r1 S1 k S2, g (.d d) r0 S = .nx r1 S1 ∧ t r1 S1 = .ok k S2 ∧
      if k = true then ∃ x S3, e r1 S2 = .ok (.d x) S3 ∧ P (i + 1) (acc ++ [x]) S3 else P (i + 1) acc S2) {S : Sto} (h0 : P 0 [] S) :
    ∃ all S', lcL g t e r0 ds S = .ok all S' ∧ P ds.length all S' := by
  have go : ∀ (es : List PyData) (k : Nat) (acc : List PyData) (S : Sto), es = ds.drop k → k ≤ ds.length → P k acc S → ∃ more S', lcL g t e r0 es S = .ok more S' ∧ P ds.length (acc ++ more) S' := by
    intro es
    induction es with
    | nil =>
      intro k acc S q hk p
      have : ds.length ≤ k := List.drop_eq_nil_iff.mp q.symm
      have : k = ds.length := by omega
      subst this
      exact ⟨[], S, rfl, by rw [List.append_nil]; exact p⟩
    | cons d es ih =>
      intro k acc S q hk p
      have hlt : k < ds.length := by
        by_cases h : k < ds.length
        · exact h
        · rw [List.drop_eq_nil_of_le (by omega)] at q; cases q
      rw [List.drop_eq_getElem_cons hlt] at q
      injection q with e1 e2
      obtain ⟨r1, S1, b, S2, h1, h2, h3⟩ := step k acc S d (by rw [List.getElem?_eq_getElem hlt, ← e1]) p
      cases b with
      | true =>
        rw [if_pos rfl] at h3
        obtain ⟨x, S3, h4, h5⟩ := h3
        obtain ⟨more, S4, h6, h7⟩ := ih (k + 1) _ S3 e2 hlt h5
        refine ⟨x :: more, S4, ?_, by rw [List.append_assoc] at h7; exact h7⟩
        unfold lcL
        rw [h1]
        dsimp only
        rw [h2]
        simp [h4, h6]
      | false =>
        rw [if_neg Bool.false_ne_true] at h3
        obtain ⟨more, S4, h6, h7⟩ := ih (k + 1) _ S2 e2 hlt h3
        refine ⟨more, S4, ?_, h7⟩
        unfold lcL
        rw [h1]
        dsimp only
        rw [h2]
        simp [h6]
  obtain ⟨all, S', h1, h2⟩ := go ds 0 [] S rfl (Nat.zero_le _) h0
  exact ⟨all, S', h1, by simpa using h2⟩
/-- a comprehension that changes nothing -/
theorem lcL_filter {g : FG} {t : FT} {e : FE} {r0 : Rho} {S : Sto} {ds : List PyData} (p : PyData → Bool) (φ : PyData → PyData) (h : ∀ d, d ∈ ds → ∃ r1, g (.d d) r0 S = .nx r1 S ∧ t r1 S = .ok (p d) S ∧ (p d = true → e r1 S = .ok (.d (φ d)) S)) :
    lcL g t e r0 ds S = .ok ((ds.filter p).map φ) S := by
  induction ds with
  | nil => rfl
  | cons d ds ih =>
    obtain ⟨r1, h1, h2, h3⟩ := h d List.mem_cons_self
    have ih := ih fun x m => h x (List.mem_cons_of_mem _ m)
    unfold lcL
    rw [h1]
    dsimp only
    rw [h2]
    by_cases hp : p d = true
    · simp [hp, h3 hp, ih, List.filter_cons_of_pos hp]
    · simp [hp, ih, List.filter_cons_of_neg hp]
theorem lcL_map {g : FG} {e : FE} {r0 : Rho} {S : Sto} {ds : List PyData} (φ : PyData → PyData) (h : ∀ d, d ∈ ds → ∃ r1, g (.d d) r0 S = .nx r1 S ∧ e r1 S = .ok (.d (φ d)) S) :
    lcL g tYe e r0 ds S = .ok (ds.map φ) S := by
  have := lcL_filter (g := g) (t := tYe) (e := e) (r0 := r0) (S := S) (ds := ds) (fun _ => true) φ fun d m => by
    obtain ⟨r1, h1, h2⟩ := h d m
    exact ⟨r1, h1, rfl, fun _ => h2⟩
  rw [this, List.filter_eq_self.mpr fun _ _ => rfl]
/-- over ints -/
theorem lcL_ints {g : FG} {e : FE} {r0 : Rho} {S : Sto} {ns : List Int} (φ : Int → PyData) (h : ∀ n, n ∈ ns → ∃ r1, g (.d (.int n)) r0 S = .nx r1 S ∧ e r1 S = .ok (.d (φ n)) S) :
    lcL g tYe e r0 (ns.map .int) S = .ok (ns.map φ) S := by
  have := lcL_map (g := g) (e := e) (r0 := r0) (S := S) (ds := ns.map PyData.int) (fun d => match d with | .int n => φ n | d => d) fun d m => by
    obtain ⟨n, hn, rfl⟩ := List.mem_map.mp m
    exact h n hn
  rw [this, List.map_map]
  rfl
theorem lcL_intsF {g : FG} {t : FT} {e : FE} {r0 : Rho} {S : Sto} {ns : List Int} (p : Int → Bool) (φ : Int → PyData) (h : ∀ n, n ∈ ns → ∃ r1, g (.d (.int n)) r0 S = .nx r1 S ∧ t r1 S = .ok (p n) S ∧ (p n = true → e r1 S = .ok (.d (φ n)) S)) :
    lcL g t e r0 (ns.map .int) S = .ok ((ns.filter p).map φ) S := by
  have := lcL_filter (g := g) (t := t) (e := e) (r0 := r0) (S := S) (ds := ns.map PyData.int) (fun d => match d with | .int n => p n | _ => true) (fun d => match d with | .int n => φ n | d => d) fun d m => by
    obtain ⟨n, hn, rfl⟩ := List.mem_map.mp m
    exact h n hn
  rw [this]
  congr 1
  rw [List.filter_map, List.map_map]
  rfl
/-- the ints i .. j - 1 -/
def rgI (i j : Int) : List Int := (List.range (j - i).toNat).map fun (k : Nat) => i + (k : Nat)
theorem rngD_rg (i j : Int) : rngD i j = (rgI i j).map .int := by unfold rngD rgI; rw [List.map_map]; rfl
theorem rgD_rg (i j : Int) : rgD i j = (rgI i j).map .int := by unfold rgD rgI; rw [List.map_map]; rfl
theorem mem_rgI {i j k : Int} : k ∈ rgI i j ↔ i ≤ k ∧ k < j := by
  unfold rgI
  rw [List.mem_map]
  constructor
  · rintro ⟨n, hn, rfl⟩
    rw [List.mem_range] at hn
    omega
  · rintro ⟨h1, h2⟩
    exact ⟨(k - i).toNat, by rw [List.mem_range]; omega, by omega⟩
theorem len_rgI (i j : Int) : (rgI i j).length = (j - i).toNat := by unfold rgI; simp
theorem at_rgI {i j : Int} {k : Nat} (h : k < (j - i).toNat) : (rgI i j)[k]? = some (i + k) := by unfold rgI; simp [h]
theorem iR1_ok {f : FE} {r : Rho} {S S' : Sto} {j : Int} (h : f r S = .ok (.d (.int j)) S') (h0 : j.natAbs < 2 ^ 24) : iR1 f r S = .ok (rngD 0 j) S' := by
  simp only [iR1, h, bind_ok_]
  rw [if_pos h0]
end MI
set_option maxRecDepth 100000
set_option maxHeartbeats 4000000
namespace MI
open PySem L2
/-! ## data of ints -/
abbrev ti (xs : List Int) : IV := .d (.tuple (xs.map .int))
abbrev li (xs : List Int) : IV := .d (.list (xs.map .int))
theorem depth_ints : ∀ xs : List Int, PyData.depthAll (xs.map .int) = 0
  | [] => rfl
  | x :: t => by simp [PyData.depthAll, PyData.depth, depth_ints t]
theorem lay_ints : ∀ xs : List Int, PyData.canLayAll0 (xs.map .int) = true
  | [] => rfl
  | x :: t => by simp [PyData.canLayAll0, PyData.canLay0, lay_ints t]
theorem shp_tup (xs : List Int) : shp (.tuple (xs.map .int)) = true := by
  simp [shp, SeqAt.shaped, PyData.canLay0, PyData.depth, depth_ints, lay_ints]
theorem shp_lst (xs : List Int) : shp (.list (xs.map .int)) = true := by
  simp [shp, SeqAt.shaped, PyData.canLay0, PyData.depth, depth_ints, lay_ints]
theorem shp_int (i : Int) : shp (.int i) = true := by simp [shp, SeqAt.shaped, PyData.canLay0, PyData.depth]
theorem eqv_ints : ∀ xs ys : List Int, PyData.eqvAll (xs.map .int) (ys.map .int) = decide (xs = ys)
  | [], [] => rfl
  | [], _ :: _ => rfl
  | _ :: _, [] => rfl
  | x :: xs, y :: ys => by
    simp only [List.map_cons, PyData.eqvAll, PyData.eqv, eqv_ints xs ys, List.cons.injEq]
    by_cases h : x = y <;> by_cases h2 : xs = ys <;> simp [h, h2]
theorem eqv_tup (xs ys : List Int) : PyData.eqv (.tuple (xs.map .int)) (.tuple (ys.map .int)) = decide (xs = ys) := by simp only [PyData.eqv]; exact eqv_ints xs ys
theorem eqv_lst (xs ys : List Int) : PyData.eqv (.list (xs.map .int)) (.list (ys.map .int)) = decide (xs = ys) := by simp only [PyData.eqv]; exact eqv_ints xs ys
theorem cEq_tup (xs ys : List Int) (S : Sto) : cEq (ti xs) (ti ys) S = .ok (.d (.bool (decide (xs = ys)))) S := by
  show (if shp (.tuple (xs.map .int)) = true ∧ shp (.tuple (ys.map .int)) = true then Out.ok (IV.d (.bool (PyData.eqv (.tuple (xs.map .int)) (.tuple (ys.map .int))))) S else .bad) = _
  rw [if_pos ⟨shp_tup xs, shp_tup ys⟩, eqv_tup]
theorem cEq_lst (xs ys : List Int) (S : Sto) : cEq (li xs) (li ys) S = .ok (.d (.bool (decide (xs = ys)))) S := by
  show (if shp (.list (xs.map .int)) = true ∧ shp (.list (ys.map .int)) = true then Out.ok (IV.d (.bool (PyData.eqv (.list (xs.map .int)) (.list (ys.map .int))))) S else .bad) = _
  rw [if_pos ⟨shp_lst xs, shp_lst ys⟩, eqv_lst]
theorem isIn_ints (x : Int) (ys : List Int) : isIn (.int x) (ys.map .int) = decide (x ∈ ys) := by
  unfold isIn
  induction ys with
  | nil => rfl
  | cons y t ih =>
    rw [List.map_cons, List.any_cons, ih]
    simp only [PyData.eqv, List.mem_cons]
    by_cases h : y = x
    · simp [h]
    · have h' : ¬ x = y := fun q => h q.symm
      have hb : (y == x) = false := by simp [h]
      rw [hb]
      by_cases h2 : x ∈ t <;> simp [h', h2]
/-! comprehensions over data -/
theorem eLc_map {it : FI} {g : FG} {e : FE} {vs : List Nat} {r : Rho} {S S1 : Sto} {ds : List PyData} (φ : PyData → PyData) (hi : it r S = .ok ds S1) (hl : ds.length ≤ 1000000)
    (h : ∀ d, d ∈ ds → ∃ r1, g (.d d) (wipeR r vs) S1 = .nx r1 S1 ∧ e r1 S1 = .ok (.d (φ d)) S1) : eLc it g tYe e vs r S = .ok (.d (.list (ds.map φ))) S1 := by
  unfold eLc lcR
  rw [hi]
  show ((if ds.length ≤ 1000000 then (lcL g tYe e (wipeR r vs) ds S1).nox else .bad : Out (List PyData)).bind _) = _
  rw [if_pos hl, lcL_map φ h]
  rfl
theorem eLc_i {it : FI} {g : FG} {e : FE} {vs : List Nat} {r : Rho} {S S1 : Sto} {ns : List Int} (φ : Int → PyData) (hi : it r S = .ok (ns.map .int) S1) (hl : ns.length ≤ 1000000)
    (h : ∀ d, d ∈ ns → ∃ r1, g (.d (.int d)) (wipeR r vs) S1 = .nx r1 S1 ∧ e r1 S1 = .ok (.d (φ d)) S1) : eLc it g tYe e vs r S = .ok (.d (.list (ns.map φ))) S1 := by
  unfold eLc lcR
  rw [hi]
  show ((if (ns.map PyData.int).length ≤ 1000000 then (lcL g tYe e (wipeR r vs) (ns.map PyData.int) S1).nox else .bad : Out (List PyData)).bind _) = _
  rw [if_pos (by rw [List.length_map]; exact hl), lcL_ints φ h]
  rfl
theorem eLc_iF {it : FI} {g : FG} {t : FT} {e : FE} {vs : List Nat} {r : Rho} {S S1 : Sto} {ns : List Int} (p : Int → Bool) (φ : Int → PyData) (hi : it r S = .ok (ns.map .int) S1) (hl : ns.length ≤ 1000000)
    (h : ∀ d, d ∈ ns → ∃ r1, g (.d (.int d)) (wipeR r vs) S1 = .nx r1 S1 ∧ t r1 S1 = .ok (p d) S1 ∧ (p d = true → e r1 S1 = .ok (.d (φ d)) S1)) : eLc it g t e vs r S = .ok (.d (.list ((ns.filter p).map φ))) S1 := by
  unfold eLc lcR
  rw [hi]
  show ((if (ns.map PyData.int).length ≤ 1000000 then (lcL g t e (wipeR r vs) (ns.map PyData.int) S1).nox else .bad : Out (List PyData)).bind _) = _
  rw [if_pos (by rw [List.length_map]; exact hl), lcL_intsF p φ h]
  rfl
theorem iSeq_ok {f : FE} {r : Rho} {S S' : Sto} {v : IV} {ds : List PyData} (h : f r S = .ok v S') (hf : frozen v = some ds) (hl : ds.length < sizeLine) : iSeq f r S = .ok ds S' := by
  simp only [iSeq, h, bind_ok_, hf]
  rw [if_pos hl]
theorem all_ok (xs : List Bool) (S : Sto) : bAll [.d (.list (xs.map .bool))] S = .ok (.d (.bool (xs.all id))) S := by
  simp only [bAll, lboolsOf, lstOf, boolsOf_map]
theorem rgL_ok {g : RgF} {r : Rho} {S S' : Sto} {i j : Int} (h : g r S = .ok (i, j) S') (hb : rgOk i j = true) : eRgL g r S = .ok (li (rgI i j)) S' := by
  simp only [eRgL, h, bind_ok_]
  rw [if_pos hb, rgD_rg]
theorem rgOk_s {i j : Int} (h0 : 0 ≤ i) (h1 : i < 2 ^ 20) (h2 : 0 ≤ j) (h3 : j < 2 ^ 20) : rgOk i j = true := by
  unfold rgOk
  simp only [Bool.and_eq_true, decide_eq_true_eq]
  exact ⟨by omega, by omega⟩
end MI
set_option maxRecDepth 100000
set_option maxHeartbeats 4000000
namespace MI
open PySem L2
/-! ## repr of data without texts: its size -/
mutual
def nd : PyData → Nat
  | .list xs => 1 + nds xs
  | .tuple xs => 1 + nds xs
  | _ => 1
def nds : List PyData → Nat
  | [] => 0
  | x :: t => nd x + nds t
end
mutual
def noS : PyData → Bool
  | .str _ => false
  | .dict _ => false
  | .list xs => noSs xs
  | .tuple xs => noSs xs
  | .int i => decide (i.natAbs.log2 < 1920)
  | .none => true
  | .bool _ => true
def noSs : List PyData → Bool
  | [] => true
  | x :: t => noS x && noSs t
end
theorem tupT_len (ts : List Str) : (tupleText ts).length ≤ piled ts + 3 := by
  unfold tupleText
  rw [strLen_append, strLen_append]
  have e1 : ((("(" : String) : Str)).length = 1 := rfl
  have e3 : (((if ts.length == 1 then ",)" else ")" : String) : Str)).length ≤ 2 := by split <;> decide
  rw [e1]
  by_cases h : ts = []
  · subst h
    have : (Str.join ", " ([] : List Str)).length = 0 := rfl
    omega
  · have := join_length_add ts h
    omega
theorem lstT_len : ∀ ts : List Str, (listText ts).length ≤ piled ts + 3
  | [] => by decide
  | t :: r => by
    have h := textFrom_length_pos r 1 (("[" : Str) ++ (if (0 : Nat) > 0 then ", " else "" : String) ++ t) (Nat.succ_pos 0)
    have e : ((("[" : Str) ++ (if (0 : Nat) > 0 then ", " else "" : String) ++ t)).length = 1 + t.length := by
      rw [strLen_append, strLen_append] <;> rfl
    have x1 : (listText (t :: r)).length = (textFrom 0 "[" (t :: r)).length + 1 := by
      show (textFrom 0 "[" (t :: r) ++ "]").length = _
      rw [strLen_append] <;> rfl
    have x2 : (textFrom 0 "[" (t :: r)).length = (textFrom 1 (("[" : Str) ++ (if (0 : Nat) > 0 then ", " else "" : String) ++ t) r).length := rfl
    rw [x1, x2, h, e, piled_cons]
    omega
theorem noS_ints : ∀ xs : List Int, (∀ x ∈ xs, x.natAbs < 2 ^ 1000) → noSs (xs.map .int) = true
  | [], _ => rfl
  | x :: t, h => by
    show (decide (x.natAbs.log2 < 1920) && noSs (t.map .int)) = true
    rw [noS_ints t fun y m => h y (List.mem_cons_of_mem _ m), Bool.and_true, decide_eq_true_eq]
    have hx := h x List.mem_cons_self
    by_cases h0 : x.natAbs = 0
    · rw [h0]; decide
    · have := (Nat.log2_lt h0).mpr hx
      omega
end MI
set_option maxRecDepth 100000
set_option maxHeartbeats 4000000
namespace MI
open PySem PySem.Spec PyProof.Rows L2
section
variable {c : Ct} {W : WX} {X : Cx} {B Z B1 : List Addr} {H H1 : Hp} {σ : L2.St} {α : Type}
/-! ## dict displays -/
abbrev FP := Rho → Sto → Out (List (Key × PyData))
@[simp] def pNil : FP := fun _ S => .ok [] S
@[simp] def pCons (k : Key) (f : FE) (t : FP) : FP := fun r S => (f r S).bind fun v S1 => match v with
  | .d x => (t r S1).bind fun l S2 => .ok ((k, x) :: l) S2
  | _ => .bad
@[simp] def eDisp (t : FP) : FE := fun r S => (t r S).bind fun l S' => if (l.map (·.1)).Nodup ∧ l.length ≤ 15 then .ok (.d (.dict (l.map fun p => (kD p.1, p.2)))) S' else .bad
theorem merge_nd : ∀ (more acc : List (Key × V)), ((acc ++ more).map (·.1)).Nodup → mergeK acc more = acc ++ more
  | [], acc, _ => by simp [mergeK]
  | p :: t, acc, h => by
    have hv : valV acc p.1 = none := by
      unfold valV
      rw [Option.map_eq_none_iff, List.find?_eq_none]
      intro q hq
      rw [List.map_append, List.nodup_append] at h
      have := h.2.2 q.1 (List.mem_map.mpr ⟨q, hq, rfl⟩) p.1 (by simp)
      simpa using this
    have e : mergeK acc (p :: t) = mergeK (putK acc p.1 p.2) t := rfl
    rw [e, putK_new p.2 hv, merge_nd t _ (by simpa using h)]
    simp
end
end MI
set_option maxRecDepth 100000
set_option maxHeartbeats 4000000
namespace MI
open PySem PySem.Spec PyProof.Rows L2
section
variable {c : Ct} {W : WX} {X : Cx} {B Z B1 : List Addr} {H H1 : Hp} {σ : L2.St}
/-! ## len(set(..)) of ints -/
@[simp] def sintsOf (S : Sto) (v : IV) : Option (List Int) := match seqOf S v with
  | some ds => intsOf ds
  | none => none
@[simp] def eLenSet (f : FE) : FE := fun r S => (f r S).bind fun v S1 => match sintsOf S1 v with
  | some ns => if ns.length < 64 then .ok (.d (.int ((dsort ns).length : Nat))) S1 else .bad
  | none => .bad
/-! ## str(int) -/
@[simp] def bStrI : FN := fun is S => match is with
  | [.d (.int i)] => if i.natAbs.log2 < 1920 then .ok (.d (.str (toString i))) S else .bad
  | _ => .bad
/-! ## a def that calls itself -/
theorem FnG.bad {P : Program} {w : World} {base : Heap} {k : Nat} {f : Addr} {fd : FuncData} {ps : List Str} : FnG P w c base k f fd ps (fun _ _ => .bad) := ⟨fun A outer s H args us vs Q E B Z S is hr hgu e0 hb rv hlen sr ri hp => hp.elim⟩
end
end MI
set_option maxRecDepth 100000
set_option maxHeartbeats 4000000
namespace MI
open PySem PySem.Spec PyProof.Rows L2
section
variable {prog : Program} {w : World} {A : Around} {E : Value → Shared → Prop} {s : Shared}
/-! ## sorted(tuple of ints) (the worked walk of a list, turned to tuples) -/
theorem collect_tup {l : Addr} {us : List Value} {Q : List Value → Shared → Prop} (tl : s.heap.IsTuple l us.toArray)
    (q : Q us { s with heap := (s.heap.push (seqObj "list" #[] 0)).update s.heap.objs.size (Obj.mapSeq (· ++ us.toArray)) }) (sz : us.length ≤ sizeLine) : wpAny (model prog w) A (collect (.ref l)) Q E s := by
  obtain ⟨o, oT, cT, n, dT⟩ := id tl
  unfold collect
  refine wpAny_bind (wpAny_runValue (codeAny_builtin entry_proto_collect' ?_)); show wpAny _ _ (do again (.builtin "list.__iadd__" ⟨[← newList [], .ref l], []⟩)) _ _ s
  refine wpAny_bind (wpAny_newList (wpAny_pure ⟨Code.quiet_builtin _ (by decide +kernel), codeAny_builtin entry_list_iadd' ?_⟩)); show wpAny _ _ (Builtin.List.listExtendWith (.ref s.heap.objs.size) (.ref l) (.ref s.heap.objs.size)) _ _ { s with heap := s.heap.push (seqObj "list" #[] 0) }
  unfold Builtin.List.listExtendWith
  have oT' : (s.heap.push (seqObj "list" #[] 0)).get? l = some o := Heap.get?_push_of_some _ oT
  refine wpAny_bind (wpAny_typeOf (T := "tuple") ⟨o, oT', cT⟩ ?_)
  have ct : (Value.type "tuple" == Value.type "tuple") = true := by rfl
  rw [if_pos (by rw [ct]; simp)]
  refine wpAny_bind (listItems_at oT' dT ?_); refine wpAny_bind (listItems_at (xs := #[]) (n := 0) (Heap.get?_push_size _ rfl) rfl ?_)
  rw [if_neg (by simp)]
  refine wpAny_bind (listUpdate_at (n := 0) (xs := #[]) (Heap.get?_push_size _ rfl) rfl ?_ (Nat.zero_le _) (by show (#[] ++ us.toArray).size ≤ sizeLine + 1; simp only [Array.size_append, List.size_toArray, List.length_nil]; omega))
  refine wpAny_pure ?_
  show wpAny (model prog w) A (do
      let o ← load s.heap.objs.size; match o.data with
      | .seq xs _ => pure xs.toList
      | _ => unsupported "internal:collect") Q E { s with heap := (s.heap.push (seqObj "list" #[] 0)).update s.heap.objs.size (Obj.mapSeq (· ++ us.toArray)) }
  refine wpAny_bind (wpAny_load (get?_update_seq (Heap.get?_push_size _ rfl) _) ?_); show wpAny _ _ (pure ((#[] : Array Value) ++ us.toArray).toList) Q E _
  have e : ((#[] : Array Value) ++ us.toArray).toList = us := by simp
  rw [e]
  exact wpAny_pure q
theorem sorted_ordT {l : Addr} {us : List Value} {ltv : Value → Value → Bool} {Q : Value → Shared → Prop} (O : SrtO.Swo ltv) (tl : s.heap.IsTuple l us.toArray) (sz : us.length ≤ sizeLine)
    (zS : 2 ≤ us.length → ∀ (h₁ : Heap) (a : Addr), h₁.get? a = some (seqObj "list" us.toArray 0) → (∀ b o, s.heap.get? b = some o → b ≠ a ∧ h₁.get? b = some o) → SrtO.SortableO prog w A.in1.in1 { s with heap := h₁ } a us ltv)
    (q : ∀ out : List Value, SrtO.Srtd ltv out → SrtO.Stb ltv out us → Q (.ref (s.heap.objs.size + 1)) { s with heap := sortedAll s.heap us out.toArray }) : wpAny (model prog w) A (call (.builtin "sorted") [.ref l]) Q E s := by
  refine Calls.call_function_entry kind_sorted plain_sorted entry_sorted (args_sorted1 _) ?_; unfold Builtin.«sorted»
  refine wpAny_bind (wpAny_pure ?_ : wpAny _ _ (checkCount "sorted" 1 1 _) _ _ _)
  refine wpAny_bind (collect_tup tl ?_ sz); refine wpAny_bind (wpAny_newList ?_ sz)
  have zsz : ((s.heap.push (seqObj "list" #[] 0)).update s.heap.objs.size (Obj.mapSeq (· ++ us.toArray))).objs.size = s.heap.objs.size + 1 := by rw [Heap.size_update, size_push']
  have zL : (((s.heap.push (seqObj "list" #[] 0)).update s.heap.objs.size (Obj.mapSeq (· ++ us.toArray))).push (seqObj "list" us.toArray 0)).get? (s.heap.objs.size + 1) = some (seqObj "list" us.toArray 0) := by
    rw [← zsz]; exact Heap.get?_push_size _ rfl
  have zk : ∀ b o, s.heap.get? b = some o → b ≠ s.heap.objs.size + 1 ∧ (((s.heap.push (seqObj "list" #[] 0)).update s.heap.objs.size (Obj.mapSeq (· ++ us.toArray))).push (seqObj "list" us.toArray 0)).get? b = some o := fun b o q => by
    have zlt : b < s.heap.objs.size := Heap.lt_size q
    refine ⟨Nat.ne_of_lt (Nat.lt_succ_of_lt zlt), Heap.get?_push_of_some _ ?_⟩; rw [Heap.get?_update_ne _ _ _ _ (Nat.ne_of_lt zlt)]
    exact Heap.get?_push_of_some _ q
  show wpAny _ _ _ _ _ { s with heap := ((s.heap.push (seqObj "list" #[] 0)).update s.heap.objs.size (Obj.mapSeq (· ++ us.toArray))).push (seqObj "list" us.toArray 0) }
  rw [zsz]
  refine wpAny_bind (wpAny_holding (wpAny_call_entry slot_list_sort ⟨_, zL, rfl⟩ entry_list_sort (SrtO.list_sort_ord O zL sz (fun h2 => zS h2 _ _ zL zk) fun out hs hb => ⟨_, rfl, ?_⟩) (args_list_sort _)))
  exact wpAny_pure ⟨_, rfl, q out hs hb⟩
end
section
variable {c : Ct} {W : WX} {X : Cx}
def rSortedIT (K : PySem.W.Frag) : List V → Hp → VK → Prop := fun vs H Q => ∃ (a : Addr) (ns : List Int), vs = [V.ref a] ∧ (SqL K H a (ns.map V.int) ∨ SqT K H a (ns.map V.int)) ∧
  ∀ (ms : List Int) (p : Addr), ms.Perm ns → ms.Pairwise (· ≤ ·) → H p = none → Q (.ref p) (upd H p (.lst (ms.map V.int)))
theorem cr_sortedIT : CallR X (.builtin "sorted") (rSortedIT X.K) := by
  intro pins s σ H vs us Q I r h
  obtain ⟨a, ns, rfl, hs, q⟩ := h
  rcases hs with hs | hs
  · exact cr_sortedI pins s σ H _ us Q I r ⟨a, ns, rfl, hs, q⟩
  · obtain ⟨its, rv, hl, hz⟩ := I.tuple hs
    rw [Vals.ref1 r]
    have hi := rv.ints
    have hz' : its.length ≤ sizeLine := by
      first
        | (rw [← rv.length]; exact hz)
        | simpa using hz
    refine sorted_ordT SrtO.swo_int (show s.heap.IsTuple a its.toArray from hl) hz' (fun h2 h₁ a' _ _ => SrtO.ints_sortable hi h2) fun out h1 h2 => ?_
    obtain ⟨k1, k2, k3⟩ := SrtO.ints_out hi h1 h2
    obtain ⟨ep, e'⟩ := PyProof.Rows.sortedAll_at s.heap its out.toArray
    have zl : ((out.map SrtO.iv).map V.int).length ≤ sizeLine := by
      have e1 := rv.length
      rw [List.length_map] at e1
      rw [List.length_map, k2.length_eq, e1]
      exact hz'
    exact ⟨.ref _, _, I.laid (a := s.heap.objs.size + 1) (t' := s.toks) (o := .lst ((out.map SrtO.iv).map V.int)) (fun _ _ => PyProof.Rows.sortedAll_old) (Nat.le_succ _) ⟨zl, out, ep, vals_of_ints k1, e'⟩, rfl, q _ _ k2 k3 (I.hok.fresh (Nat.le_succ _))⟩
@[simp] def bSortS : FN := fun is S => match is with
  | [v] => match sintsOf S v with
    | some ns => .ok (.d (.list ((isort ns).map .int))) S
    | none => .bad
  | _ => .bad
theorem sintsOf_sq {B Z : List Addr} {H : Hp} {S : Sto} {v : IV} {x : V} {ns : List Int} (s : SR c H B Z S) (rx : RI c H B Z v x) (h : sintsOf S v = some ns) : ∃ a, x = .ref a ∧ (SqL c.K H a (ns.map V.int) ∨ SqT c.K H a (ns.map V.int)) := by
  unfold sintsOf at h
  cases hs : seqOf S v with
  | none => rw [hs] at h; cases h
  | some ds =>
    rw [hs] at h
    obtain ⟨a, xs, rfl, h1, h2⟩ := seqOf_sq s rx hs
    have e := intsOf_eq h
    subst e
    rw [h2.ints] at h1
    exact ⟨a, rfl, h1⟩
end
end MI
set_option maxRecDepth 100000
set_option maxHeartbeats 4000000
namespace MI
open PySem PySem.Spec PyProof.Rows L2 LamX NdefX
/-! ## own exceptions: __init__ says super().__init__(value) and keeps the value -/
/-- what the written part says of the class at C, whose __init__ is D's -/
structure ErC (K : PySem.W.Frag) (D C : Addr) : Prop where
  oex : OexC K C
  mro : PySem.W.mroIn K C (.ref D) = some true
  sup : PySem.W.ks_superIn K C D "__init__" = some (some (.builtin "ValueError.__init__"))
  isV : PySem.W.subIn K (.ref C) (.type "ValueError") = some true
  nov : PySem.W.findIn K (.ref C) "value" = some none
/-- of the def __init__ at f -/
structure InD (P : Program) (K : PySem.W.Frag) (D f : Addr) (params : Arguments) (body : List Stmt) (scope : Scope) (qual : Str) (fd : FuncData) : Prop where
  ex : ∃ (cc cda : Addr) (doc pm ctv oc : Value) (od : Option Addr) (osl : Array (Option Value)), fd = PySem.W.ksFn "__init__" qual params body scope .none .none doc pm none (.ref cda) ctv cc ∧ K.lookup f = some ⟨oc, od, .func fd, osl⟩ ∧ PySem.W.codeIn K (.ref cda) qual = true ∧
    (∃ ccl cdd vs ccs file tf, K.lookup cda = some ⟨ccl, cdd, .fields vs, ccs⟩ ∧ vs[2]? = some (.str file tf) ∧ ((P.main.file : Str) == file) = true) ∧ (∃ cl cld csl, K.lookup cc = some ⟨cl, cld, .cell (some (.ref D)), csl⟩)
  dcl : ∃ cd, PySem.W.clsIn K D = some cd
  op : PySem.W.nsIn K cStatics "thirdparty.any" = some none
def spI (K : PySem.W.Frag) (D : Addr) : Sp := fun vs H Q E => ∃ a C y, vs = [.ref a, y] ∧ ErC K D C ∧ H a = some (exo a C none) ∧ ∀ dx, H dx = none → dx ≠ a → Q .non (upd (upd H dx (exd dx [("value", y)])) a (exo a C (some dx)))
section
variable {P : Program} {w : World} {K : PySem.W.Frag} {mg : Str → Option Value} {base : Heap} {D f : Addr} {fd : FuncData} {scope : Scope} {qual : Str} {params : Arguments} {k : Nat}
/-- ValueError.__init__ bound to the object, called -/
theorem mw_call {A : Around} {E : Value → Shared → Prop} {h : Heap} {g : Array GenState} {d : Drawn} {t : Nat} {os : OsState} {nm q : Str} {C N e u t0 : Addr} {bs bm : List Value} {hdct : Bool} {sn : List Str} {sub : List Value} {ab : Bool} {col : Option Bool} {dd : Option Addr} {k0 k1 k2 k3 k5 : Option Value} {rest : List Value} {Q : Value → Shared → Prop}
    (zC : h.get? C = some (excClassObj nm q C N bs bm hdct sn sub ab col dd k0 k1 k2 k3 k5 "ValueError.__new__")) (ze : h.get? e = some (PySem.W.excObj C t0 none .none)) (zu : h.get? u = some (PySem.W.kxs_mw "ValueError.__init__" e)) (zr : rest.length ≤ sizeLine)
    (zq : ∀ h' t1, (∀ b o, b ≠ e → h.get? b = some o → h'.get? b = some o) → h'.get? e = some (PySem.W.excObj C t1 none .none) → Q .none ⟨h', g, d, t, os⟩) : wpAny (model P w) A (call (.ref u) rest) Q E ⟨h, g, d, t, os⟩ := by
  refine wpAny_call (codeAny_of_tree ?_); show wpAny _ A.in1 (callAny (.ref u) ⟨rest, []⟩) _ _ _
  simp only [callAny]; refine wpAny_bind (wpAny_load zu ?_)
  simp only [PySem.W.kxs_mw, show (Value.type "method-wrapper" == Value.type "method" || Value.type "method-wrapper" == Value.type "builtin_function_or_method" || Value.type "method-wrapper" == Value.type "method-wrapper") = true by decide, if_true]
  refine PySem.W.KFB.if_so (by decide) (wpAny_bind (PySem.W.check_bound_init F.excBase_ValueError.toExcCallFacts zC ze rfl ?_)); refine wpAny_bind (wpAny_pure (wpAny_pure ?_))
  refine ⟨plainId_quiet F.excBase_ValueError.init.plain _, codeAny_builtin F.excBase_ValueError.initEntry ?_⟩
  exact PySem.W.exc_init_tree (cls := .ref C) (t0 := t0) (dv := none) (c2 := .none) (c3 := .none) (b4 := .bool false) ze zr fun h' z1 z2 z3 => zq h' _ z1 z2
/-- the def __init__ keeps spI -/
theorem init_fn {p0 p1 p2 p3 p4 p5 q1 q2 q3 q4 : Pos} {body : List Stmt} {CX : CXT} (I0 : InD P K D f params body scope qual fd) (hbody : body = [.Expr (.Call (.Attribute (.Call (.Name "super" p0) [] [] p1) "__init__" p2) [.Name "value" p3] [] p4) p5, .Assign [.Attribute (.Name "self" q1) "value" q2] (.Name "value" q3) q4])
    (S : NScope ["self", "value", "__class__"] ["self", "value"] ["__class__"] scope) (hsu : scope.names.lookup ("super" : Str) = some .globalImplicit) (hmg : mg "super" = none) (hpar : (params.posonlyargs ++ params.args).head?.map (·.arg) = some ("self" : Str)) (htop : (P.main.scope.names.lookup ("super" : Str)).isSome = false)
    (hev : ∀ env : Env, ∃ pl : Sem Bool, eval (.Call (.Attribute (.Call (.Name "super" p0) [] [] p1) "__init__" p2) [.Name "value" p3] [] p4) env = (do
      let ov ← attributeBase (.Call (.Name "super" p0) [] [] p1) "__init__" env (eval (.Call (.Name "super" p0) [] [] p1) env); standAt p2.atName
      let (f, first) ← holding [ov] (getMethod ov "__init__" pl); callWith p4 f first (backTo p4 (starEach [.Name "value" p3] env)) [])) :
    FnOk P w K mg base CX (k + 1) f fd ["self", "value"] (spI K D) := by
  refine ⟨fun vs H Q E ⟨a, C, y, e, _⟩ => by rw [e]; rfl, fun A outer s H args us vs Q E hr e0 hb rv hsp => ?_⟩
  obtain ⟨cc, cda, doc, pm, ctv, oc, od, osl, rfl, lk, hcd, ⟨ccl, cdd, cvs, ccs, file, tf, lcd, hvs, hfile⟩, cl, cld, csl, lcc⟩ := I0.ex
  obtain ⟨cdD, hD⟩ := I0.dcl
  obtain ⟨a, C, y, rfl, ec, ea, q⟩ := hsp
  have KX : K.In s.heap := e0.mod.kin.keeps fun b o e => (e0.bs b o e).1
  have lim : s.heap.NoLimit := e0.mod.nolimit.keeps fun b o e => (e0.bs b o e).1
  obtain ⟨u0, u1, rfl⟩ : ∃ u0 u1, us = [u0, u1] := by
    have hl := rv.length
    match us, hl with
    | [x, z], _ => exact ⟨x, z, rfl⟩
  cases rv with
  | cons r0 rv =>
  cases rv with
  | cons r1 rv =>
  obtain rfl : u0 = Value.ref a := r0
  have hcn : H cc = none := (e0.bs cc _ (e0.mod.kin _ _ lcc)).2
  let F : NF := ⟨"__init__", qual, params, body, scope, [("__class__", cc)], cda⟩
  have CA : CellsAt F.cl ["__class__"] [some (.ref D)] s.heap H := by
    refine ⟨rfl, fun y c e => ?_, fun x y c e1 e2 => ?_, fun i y e => ?_⟩
    · have e : ([("__class__", cc)] : List (Str × Addr)).lookup y = some c := e
      rw [List.lookup_cons] at e
      split at e
      · cases e
        exact ⟨hcn, _, _, KX _ _ lcc, rfl⟩
      · cases e
    · have e1 : ([("__class__", cc)] : List (Str × Addr)).lookup x = some c := e1
      have e2 : ([("__class__", cc)] : List (Str × Addr)).lookup y = some c := e2
      rw [List.lookup_cons] at e1 e2
      split at e1
      · rename_i z1
        split at e2
        · rename_i z2
          exact (eq_of_beq z1).trans (eq_of_beq z2).symm
        · cases e2
      · cases e1
    · match i, e with
      | 0, e =>
        cases e
        exact ⟨cc, rfl, fun v ev => by cases ev; exact ⟨.ref D, rfl, _, KX _ _ lcc, rfl⟩⟩
  refine PySem.ks_codeAny_call_defAt hr.depth (KX _ _ lk) rfl lim (PySem.W.codeRec_of KX hcd) rfl hb (fun x hx => S.nocell x hx) (fun ⟨n, _⟩ hy => S.par n (List.of_mem_zip hy).1) (fun h₁ hns kp => ?_) S.co S.gen S.kind
  have I : Inv (ncx CX P w K mg base ["self", "value", "__class__"] F f A outer s H E) [] (startF ["self", "value", "__class__"] [.ref a, y] [some (.ref D)]) H { s with heap := h₁, toks := s.toks + (([("self" : Str), "value"]).zip [Value.ref a, u1]).length } :=
    inv_startN S hr.hd e0 rfl (.cons rfl (.cons r1 .nil)) CA hns kp
  have KX1 : K.In h₁ := KX.keeps kp
  have ls : (fun x => (([("self" : Str), "value"]).zip [Value.ref a, u1]).reverse.lookup x) ("self" : Str) = some (.ref a) := rfl
  have lv : (fun x => (([("self" : Str), "value"]).zip [Value.ref a, u1]).reverse.lookup x) ("value" : Str) = some u1 := rfl
  obtain ⟨ar, har, hself⟩ : ∃ ar, (params.posonlyargs ++ params.args).head? = some ar ∧ ar.arg = "self" := by
    cases e : (params.posonlyargs ++ params.args).head? with
    | none => rw [e] at hpar; cases hpar
    | some ar => rw [e] at hpar; exact ⟨ar, rfl, Option.some.inj hpar⟩
  obtain ⟨oD, hD1, hD2⟩ : ∃ oD, h₁.get? D = some oD ∧ oD.data = .cls cdD := by
    unfold PySem.W.clsIn at hD
    split at hD
    · rename_i c d cd' sl ho
      cases hD
      exact ⟨_, KX1 _ _ ho, rfl⟩
    · cases hD
  obtain ⟨t1, hea⟩ := exo_at I.hok ea
  have kself := S.par "self" List.mem_cons_self
  have kvalue := S.par "value" (List.mem_cons_of_mem _ List.mem_cons_self)
  have kclass := S.frk "__class__" List.mem_cons_self
  obtain ⟨mb, b1, b2⟩ := e0.mod.blt
  have bk1 : ∀ b o, base.get? b = some o → h₁.get? b = some o := fun b o e => kp b o (e0.bs b o e).1
  obtain ⟨nm, qn, N, bs, bm, sn, sub, ab, col, dd, k0, k1, k2, k3, k5, hC, hbm⟩ := ec.oex.cls
  have hcl : PySem.W.clsIn K C = some { name := nm, bases := bs, mro := .ref C :: bm, ns := N, qualname := qn, hasDict := true, slotNames := sn, subclasses := sub, abstract := ab, collection := col, hasDel := false } := by unfold PySem.W.clsIn; rw [hC] <;> rfl
  have IA : PySem.W.InstAt h₁ a (PySem.W.excObj C t1 none .none) C none := ⟨hea, rfl, rfl, trivial⟩
  subst hbody
  obtain ⟨pl, hpl⟩ := hev (callEnv (PySem.W.ksFn "__init__" qual params [.Expr (.Call (.Attribute (.Call (.Name "super" p0) [] [] p1) "__init__" p2) [.Name "value" p3] [] p4) p5, .Assign [.Attribute (.Name "self" q1) "value" q2] (.Name "value" q3) q4] scope .none .none doc pm none (.ref cda) ctv cc) s.heap.objs.size f)
  refine PySem.ks_wpAt_execs_cons (PySem.ks_wpAt_Expr_any (PySem.ks_wpAt_MethodCall (pl := pl) (PySem.ks_wpAt_super_base (f := f) (cc := cda) hsu kclass (by decide) rfl (KX1 _ _ lk) rfl har rfl (KX1 _ _ lcd) rfl hvs hfile htop ?_) hpl) (hi := by show (scope.kind == .module && _) = false; rw [S.kind]; rfl))
  rw [hself]
  refine PySem.W.ks_loadName_global S.kind hsu (Calls.loadGlobal_builtin (e0.mod.glob.keeps bk1) hmg (b1.keeps bk1) ((b2 "super" (by decide)).trans (by decide +kernel : bootBuiltins "super" = some (.type "super"))) ⟨rfl, ?_⟩)
  refine wpAny_loadName_free S.kind kclass rfl ⟨_, KX1 _ _ lcc, rfl⟩ ?_
  refine wpAny_loadName_local S.kind kself hns ls ?_
  refine PySem.ks_wpAny_isType_cls hD1 hD2 ⟨rfl, ?_⟩
  refine PySem.ks_wpAny_call_super hD1 hD2 IA.at_ IA.cls (fun c e => by cases e) (PySem.W.looks_mroIn KX1 ec.mro) (fun h2 so2 k2 => ?_)
  have KX2 : K.In h2 := KX1.keeps k2
  have IA2 : PySem.W.InstAt h2 a (PySem.W.excObj C t1 none .none) C none := ⟨k2 _ _ hea, rfl, rfl, trivial⟩
  have sup : PySem.W.alongIn K "__init__" (((Value.ref C :: bm).dropWhile (· != .ref D)).drop 1) = some (some (.builtin "ValueError.__init__")) := by
    have z := ec.sup
    unfold PySem.W.ks_superIn at z
    rw [hcl] at z
    exact z
  refine PySem.W.kxs_getMethod PySem.W.kxs_ValueError so2 (PySem.W.looks_opaque KX2 I0.op) (l₀ := .ref C :: bm) (fun A Q E s k q => wpAny_bind ((PySem.W.looks_clsIn KX2 hcl) A _ E s k (wpAny_pure q))) rfl KX2 sup (IA2.type.andThen (PySem.W.looks_subIn KX2 ec.isV)) (PySem.W.ks_ne KX2 IA2 hcl) (by decide) ?_
  have hns2 : h2.Ns s.heap.objs.size fun x => (([("self" : Str), "value"]).zip [Value.ref a, u1]).reverse.lookup x := by
    obtain ⟨o, es, ep, e1, r⟩ := hns
    exact ⟨o, es, ep, k2 _ _ e1, r⟩
  have k3' : ∀ b o, h2.get? b = some o → (h2.push (PySem.W.kxs_mw "ValueError.__init__" a)).get? b = some o := fun b o e => Heap.get?_push_of_some _ e
  have hns3 : (h2.push (PySem.W.kxs_mw "ValueError.__init__" a)).Ns s.heap.objs.size fun x => (([("self" : Str), "value"]).zip [Value.ref a, u1]).reverse.lookup x := by
    obtain ⟨o, es, ep, e1, r⟩ := hns2
    exact ⟨o, es, ep, k3' _ _ e1, r⟩
  have hmw : (h2.push (PySem.W.kxs_mw "ValueError.__init__" a)).get? h2.objs.size = some (PySem.W.kxs_mw "ValueError.__init__" a) := Heap.get?_push_size _ rfl
  refine PySem.W.kxs_callWith (i := "ValueError.__init__") (x := a) (by rfl) (Calls.evalArgs_plain ?_)
  refine Calls.spliced_cons (wpAny_Name (wpAny_loadName_local S.kind kvalue hns3 lv ?_) (by decide))
  refine Calls.spliced_nil ⟨hmw, ?_⟩
  refine mw_call (KX2.keeps k3' _ _ hC) (k3' _ _ (k2 _ _ hea)) hmw (by show 1 ≤ sizeLine; rw [sizeLine_eq]; omega) fun h4 t4 k4 e4 => ?_
  have k14 : ∀ b o, b ≠ a → h₁.get? b = some o → h4.get? b = some o := fun b o hb e => k4 b o hb (k3' _ _ (k2 _ _ e))
  have J0 := I.write (t' := s.toks + (([("self" : Str), "value"]).zip [Value.ref a, u1]).length + 1) (x := a) (e := a) (o := exo a C none) (by rw [ea]; exact True.intro) (.inl rfl) k14 ⟨_, e4⟩ (exo_ok e4)
  have eu : upd H a (exo a C none) = H := by
    funext b
    by_cases hb : b = a
    · rw [hb, upd_same, ea]
    · rw [upd_ne hb]
  rw [eu] at J0
  have J : Inv (ncx CX P w K mg base ["self", "value", "__class__"] F f A outer s H E) [] (startF ["self", "value", "__class__"] [.ref a, y] [some (.ref D)]) H { s with heap := h4, toks := s.toks + (([("self" : Str), "value"]).zip [Value.ref a, u1]).length + 1 } := J0
  have ps : PSs (ncx CX P w K mg base ["self", "value", "__class__"] F f A outer s H E) [.Assign [.Attribute (.Name "self" q1) "value" q2] (.Name "value" q3) q4] _ :=
    pss_one (ps_ost (pe_var (i := 0) rfl (.inl kself)) (pe_var (i := 1) rfl (.inl kvalue)))
  refine wpAt_of_wpAny (wpAny_mono (ps.run [] _ _ H { nx := fun _ H' => Q .non H', rt := Q } J ?_) (fun fl s' hs => ?_) fun e s' hs => hs)
  · exact ⟨y, rfl, .ref a, rfl, a, C, rfl, ec.oex, ec.nov, .inl ⟨ea, q⟩⟩
  · have fin : ∀ {σ' : L2.St} {H' : Hp} {v : V} {u : Value}, Inv (ncx CX P w K mg base ["self", "value", "__class__"] F f A outer s H E) [] σ' H' s' → L2.RelV v u → Q v H' → CE outer P w H s Q u s' :=
      fun {σ' H' v u} J rv q => ⟨v, H', J.os, J.bare, J.base, J.hok, rv, q⟩
    cases fl with
    | ret u => obtain ⟨v, σ', H', J, rv, q⟩ := hs; exact fin J rv q
    | next => obtain ⟨σ', H', J, q⟩ := hs; exact fin (v := V.non) (u := Value.none) J rfl q
    | brk => obtain ⟨_, _, _, q⟩ := hs; exact False.elim q
    | cont => obtain ⟨_, _, _, q⟩ := hs; exact False.elim q
end
end MI
set_option maxRecDepth 100000
set_option maxHeartbeats 4000000
namespace MI
open PySem PySem.Spec PyProof.Rows L2 LamX NdefX
/-! ## raise C(e) -/
/-- what a body leans on to raise: the class x's own __init__ is known -/
structure KnE (P : Program) (w : World) (c : Ct) (base : Heap) (k : Nat) (x : Str) : Prop where
  ex : ∃ (C D fI : Addr) (fd : FuncData), c.mg x = some (.ref C) ∧ ErC c.K D C ∧ PySem.W.findIn c.K (.ref C) "__init__" = some (some (.ref fI)) ∧ PySem.W.typeIn c.K (.ref fI) = some (.type "function") ∧
    FnOk P w c.K c.mg base (L2.CX P w) k fI fd ["self", "value"] (spI c.K D) ∧ Binds c.K fd ["self", "value"] []
section
variable {c : Ct} {W : WX} {X : Cx} {B Z : List Addr} {H : Hp} {σ : L2.St} {k j : Nat}
theorem passes0 {P : Program} {w : World} : Passes (L2.CX P w) X (fun _ _ _ => False) := fun _ _ _ _ _ _ _ z => by
  obtain ⟨_, _, _, _, _, _, _, _, _, _, _, _, z⟩ := z
  exact z.elim
@[simp] def sRaise (x : Str) (f : FE) : FS := fun r S => (f r S).to r fun v S' => match v with
  | .d y => .exn x y r S'
  | _ => .bad
theorem s_raise {x : Str} {e : Expr} {f : FE} {p pos pos2 : Pos} (cx : Cxg c W X) (hr : Room k X.A) (kn : KnE X.prog X.w c X.base j x) (hj : j + 1 ≤ k) (hc : X.calm = true) (hg : Gl X x) (he : PE X e (TEx c W f))
    (hdb : (x == ("__debug__" : Str)) = false := by decide) (hs : starEach [e] X.env = (false, eval e X.env) :: starEach [] X.env := by rfl) : PS X (.Raise (some (.Call (.Name x p) [e] [] pos)) none pos2) (TSx c W (sRaise x f)) := by
  obtain ⟨C, D, fI, fd, h1, h2, h3, h4, h5, h6⟩ := kn.ex
  refine ps_imp (ps_raise hc cx.tk (pmk_oex (X := X) (CX := L2.CX X.prog X.w) (x := x) (C := C) (fI := fI) (k := j) (fd := fd) (ps := ["self", "value"]) (sp := spI c.K D) (ds := []) (dvs := []) (es := []) (p := p) (pos := pos)
    (by rw [cx.K]; exact h2.oex) (by rw [cx.K]; exact h3) (by rw [cx.K]; exact h4) (by rw [cx.K, cx.mg]; exact h5) (hr.mono hj) (by rw [cx.K]; exact h6) .nil passes0 hg (by rw [cx.mg]; exact h1) (pa_cons he pa_nil hs) hdb hs (by rfl))) ?_
  rintro Dn σ H ⟨B, Z, r, S, s, rr, q⟩
  refine ⟨B, Z, r, S, s, rr, (Post.to rr q).imp fun v S1 B1 H1 e1 s1 q1 y hy => ?_⟩
  refine ⟨by simp, fun a ha => ⟨a, C, y, rfl, h2, upd_same, fun d hd hda => ?_⟩⟩
  have hd1 : H1 d = none := by rw [upd_ne hda] at hd; exact hd
  refine ⟨rfl, d, [("value", y)], upd_same, by rw [upd_ne hda, upd_same], hd1, ?_⟩
  have eH : upd (del (upd (upd (upd H1 a (exo a C none)) d (exd d [("value", y)])) a (exo a C (some d))) a) d (.xd [("value", y)]) = upd H1 d (.xd [("value", y)]) := by
    funext b
    by_cases hb : b = d
    · rw [hb, upd_same, upd_same]
    · rw [upd_ne hb, upd_ne hb]
      by_cases hba : b = a
      · rw [hba, del_same, ha]
      · rw [del_ne hba, upd_ne hba, upd_ne hb, upd_ne hba]
  rw [eH]
  split at q1
  · cases hy with
    | d hy => exact q1 (.ref C) (some d) σ B1 _ (Ev.new s1 hd1) (s1.new hd1) ((rr.ev e1).ev (Ev.new s1 hd1)) ⟨C, d, y, h1, rfl, rfl, upd_same, s1.out hd1, hy.ev (Ev.new s1 hd1)⟩
  · exact q1.elim
end
end MI
set_option maxRecDepth 100000
set_option maxHeartbeats 4000000
namespace MI
open PySem PySem.Spec PyProof.Rows L2 LamX NdefX
/-! ## try .. except C as n, the exception being tracked in the suite and behind it (the worked rule, turned) -/
end MI
set_option maxRecDepth 100000
set_option maxHeartbeats 4000000
namespace MI
open PySem PySem.Spec PyProof.Rows L2 LamX NdefX
section
variable {c : Ct} {W : WX} {X : Cx} {B Z : List Addr} {H : Hp} {σ : L2.St} {k j : Nat}
def unseti (i : Nat) : SOut → SOut
  | .nx r S => .nx (r.set i none) S
  | .brk r S => .brk (r.set i none) S
  | .ct r S => .ct (r.set i none) S
  | .ret v S => .ret v S
  | _ => .bad
@[simp] def sTryAs (sub : Str → Option Bool) (i : Nat) (b h : FS) : FS := fun r S => match b r S with
  | .exn n v r1 S1 => (match sub n with
    | some true => unseti i (h (r1.set i (some (.exc n v))) S1)
    | some false => .exn n v r1 S1
    | none => .bad)
  | o => o
end
end MI
set_option maxRecDepth 100000
set_option maxHeartbeats 4000000
namespace PySem.W
open PySem PySem.Spec PySem.Calls PyProof.Rows
end PySem.W
namespace MI
open PySem PySem.Spec PyProof.Rows L2 LamX NdefX
end MI
set_option maxRecDepth 100000
set_option maxHeartbeats 4000000
namespace MI
open PySem PySem.Spec PyProof.Rows L2 LamX NdefX
/-! ## a lambda is made: its object and its code object are known from then on -/
section
variable {c : Ct} {W : WX} {X : Cx} {pins : List (Addr × Obj)} {B Z : List Addr} {σ : L2.St} {H : Hp} {s : Shared}
@[simp] def eLam (k : Nat) : FE := fun _ S => .ok (.lam k) S
end
end MI
set_option maxRecDepth 100000
set_option maxHeartbeats 4000000
namespace MI
open PySem PySem.Spec PyProof.Rows L2 LamX NdefX
/-! ## cells held still: H with the cells q tracked, and without them -/
section
variable {H H' : Hp} {q : Addr → Option Obj} {b : Addr} {o : Obj}
/-- q are cells of the heap h; H doesn't track them -/
structure CSet (q : Addr → Option Obj) (H : Hp) (h : Heap) : Prop where
  at_ : ∀ b o, q b = some o → h.get? b = some o ∧ ∃ u, o.data = .cell u
  no : ∀ b o, q b = some o → H b = none
theorem CSet.sub (k : CSet q H h) : ∀ a u, H a = some u → q a = none := fun a u e => by
  cases z : q a with
  | none => rfl
  | some o => rw [k.no a o z] at e; cases e
end
end MI
set_option maxRecDepth 100000
set_option maxHeartbeats 4000000
namespace MI
open PySem PySem.Spec PyProof.Rows L2 LamX NdefX
/-! ## a lambda handed on: what it has captured is data -/
end MI
set_option maxRecDepth 100000
set_option maxHeartbeats 4000000
namespace MI
open PySem PySem.Spec PyProof.Rows L2 LamX NdefX
/-! ## a def called with lambdas of the running frame: it sees data alone beside them -/
end MI
set_option maxRecDepth 100000
set_option maxHeartbeats 4000000
namespace MI
open PySem PySem.Spec PyProof.Rows L2 LamX NdefX
/-! ## a comprehension over lambdas of the running frame (the library's rule, turned: its block runs beside the held cells) -/
end MI
set_option maxRecDepth 100000
set_option maxHeartbeats 4000000
namespace MI
open PySem PySem.Spec PyProof.Rows L2 LamX NdefX
/-! ## the reading of a comprehension over lambdas -/
end MI
set_option maxRecDepth 100000
set_option maxHeartbeats 4000000
namespace MI
open PySem PySem.Spec PyProof.Rows L2 LamX NdefX
/-! ## a handed lambda is called: its body runs, its cells let go meanwhile -/
end MI
set_option maxRecDepth 100000
set_option maxHeartbeats 4000000
namespace MI
open PySem PySem.Spec PyProof.Rows L2 LamX NdefX
/-! ## a def that makes lambdas -/
def plainI : IV → Bool
  | .d _ => true
  | .ref _ => true
  | .gl _ => true
  | .scr _ => true
  | _ => false
def plainO : IO → Bool
  | .lsx _ => false
  | _ => true
def killO : IO → IO
  | .lsx _ => .dead
  | o => o
def killW : Out IV → Out IV
  | .ok (.d x) T => .ok (.d x) (T.map killO)
  | .exn n v T => .exn n v (T.map killO)
  | _ => .bad
section
variable {c c' : Ct} {B Z : List Addr} {H : Hp} {S : Sto}
structure SameCt (c c' : Ct) : Prop where
  K : c'.K = c.K
  mg : c'.mg = c.mg
  T : c'.T = c.T
theorem RI.own (k : SameCt c c') {v : IV} {x : V} (h : plainI v = true) (r : RI c H B Z v x) : RI c' H B Z v x := by
  cases r with
  | d r => exact .d (by rw [k.K]; exact r)
  | ref r => exact .ref r
  | gl r => exact .gl (by rw [k.mg]; exact r)
  | scr r hb => exact .scr r hb
  | scrK r => exact .scrK (by rw [k.K]; exact r)
  | _ => cases h
theorem RIs.own (k : SameCt c c') : ∀ {v : List IV} {x : List V}, v.all plainI = true → RIs c H B Z v x → RIs c' H B Z v x
  | _, _, _, .nil => .nil
  | _, _, h, .cons r t => by
    rw [List.all_cons, Bool.and_eq_true] at h
    exact .cons (r.own k h.1) (RIs.own k h.2 t)
theorem SR.own (k : SameCt c c') (h : S.all plainO = true) (s : SR c H B Z S) : SR c' H B Z S := by
  refine ⟨s.len, s.nd, s.zt, s.zb, fun n b o hb ho => ?_, by rw [k.T]; exact s.tb⟩
  have r := s.ob n b o hb ho
  have z := List.all_eq_true.mp h o (List.mem_of_getElem? ho)
  cases o with
  | lst ds => obtain ⟨xs, h1, h2⟩ := r; exact ⟨xs, h1, by rw [k.K]; exact h2⟩
  | lsx ds => cases z
  | dct _ => obtain ⟨xs, h1, h2, h3⟩ := r; exact ⟨xs, h1, h2, by rw [k.K]; exact h3⟩
  | dcn _ => obtain ⟨ob, xs, h1, hs, h2, h3⟩ := r; exact ⟨ob, xs, h1, hs, h2, by rw [k.K]; exact h3⟩
  | dead => exact r
theorem SR.kill (k : SameCt c c') (s : SR c' H B Z S) : SR c H B Z (S.map killO) := by
  refine ⟨by rw [List.length_map]; exact s.len, s.nd, s.zt, s.zb, fun n b o hb ho => ?_, by rw [← k.T]; exact s.tb⟩
  rw [List.getElem?_map] at ho
  cases hn : S[n]? with
  | none => rw [hn] at ho; cases ho
  | some o' =>
    rw [hn] at ho
    cases ho
    have r := s.ob n b o' hb hn
    cases o' with
    | lst ds => obtain ⟨xs, h1, h2⟩ := r; exact ⟨xs, h1, by rw [← k.K]; exact h2⟩
    | lsx ds => obtain ⟨xs, h1, h2⟩ := r; exact ⟨xs, h1⟩
    | dct _ => obtain ⟨xs, h1, h2, h3⟩ := r; exact ⟨xs, h1, h2, by rw [← k.K]; exact h3⟩
    | dcn _ => obtain ⟨ob, xs, h1, hs, h2, h3⟩ := r; exact ⟨ob, xs, h1, hs, h2, by rw [← k.K]; exact h3⟩
    | dead => exact r
theorem Post.own (k : SameCt c c') {W : WX} {σ : L2.St} {o : Out IV} {Q : VK} (h : Post c W B Z H σ (killW o) fun v _ B' H' => ∀ x, RI c H' B' Z v x → Q x H') : Post c' W B Z H σ o fun v _ B' H' => ∀ x, RI c' H' B' Z v x → Q x H' := by
  cases o with
  | bad => exact h
  | exn n v T =>
    have h : Post c W B Z H σ (.exn n v (T.map killO)) (fun v _ B' H' => ∀ x, RI c H' B' Z v x → Q x H') := h
    intro cls dd B' H' e s rx
    refine h cls dd B' H' e (s.kill k) ?_
    obtain ⟨C, dx, y, a1, a2, a3, a4, a5, a6⟩ := rx
    exact ⟨C, dx, y, by rw [← k.mg]; exact a1, a2, a3, a4, a5, by rw [← k.K]; exact a6⟩
  | ok v T =>
    cases v with
    | d y =>
      have h : Post c W B Z H σ (.ok (.d y) (T.map killO)) (fun v _ B' H' => ∀ x, RI c H' B' Z v x → Q x H') := h
      intro B' H' e s x r
      refine h B' H' e (s.kill k) x ?_
      cases r with
      | d r => exact .d (by rw [← k.K]; exact r)
    | _ => exact h.elim
end
end MI
set_option maxRecDepth 100000
set_option maxHeartbeats 4000000
namespace MI
open PySem PySem.Spec PyProof.Rows L2 LamX NdefX
/-! ## own exception classes, by one Bool -/
def oexB (K : PySem.W.Frag) (C : Addr) : Bool := match K.lookup C with
  | some ⟨.type t, _, .cls cd, sl⟩ => decide (t = "type") && (match cd.mro, sl.toList with
    | .ref C' :: bm, [_, _, _, _, some (.builtin n), _] => decide (C' = C) && (decide (n = "ValueError.__new__") && (!cd.hasDel && (cd.hasDict && PySem.HandSPX.refsVE bm)))
    | _, _ => false)
  | _ => false
theorem oexB_ok {K : PySem.W.Frag} {C : Addr} (h : oexB K C = true) : ∃ nm q N bs bm sn sub ab col dd k0 k1 k2 k3 k5, K.lookup C = some (excClassObj nm q C N bs bm true sn sub ab col dd k0 k1 k2 k3 k5 "ValueError.__new__") ∧ PySem.HandSPX.refsVE bm = true := by
  unfold oexB at h
  split at h
  · rename_i t dd cd sl ho
    rw [Bool.and_eq_true] at h
    obtain ⟨h0, h⟩ := h
    split at h
    · rename_i C' bm k0 k1 k2 k3 n k5 hm hs
      simp only [Bool.and_eq_true, decide_eq_true_eq, Bool.not_eq_true'] at h h0
      obtain ⟨rfl, rfl, hdel, hhd, ht⟩ := h
      subst h0
      obtain ⟨nm, bs, mro, ns, qn, hd, sn, sub, ab, col, del⟩ := cd
      dsimp only at hm hdel hhd
      subst hm hdel hhd
      have hsl : sl = #[k0, k1, k2, k3, some (.builtin "ValueError.__new__"), k5] := by
        obtain ⟨l⟩ := sl
        simp only at hs
        rw [hs]
      subst hsl
      exact ⟨nm, qn, ns, bs, bm, sn, sub, ab, col, dd, k0, k1, k2, k3, k5, ho, ht⟩
    · cases h
  · cases h
/-- the class C, its __init__ being D's at fI -/
structure ExF (K : PySem.W.Frag) (D fI C : Addr) : Prop where
  er : ErC K D C
  xc : L2.ExcC K C
  xf : XfC K C
  exm : PySem.W.exmOne K (.ref C) (.ref D) = some true
  ini : PySem.W.findIn K (.ref C) "__init__" = some (some (.ref fI))
def exB (K : PySem.W.Frag) (D fI C : Addr) : Bool :=
  oexB K C && (decide (PySem.W.findIn K (.ref C) "__setattr__" = some (some (.builtin "object.__setattr__"))) && (decide (PySem.W.subIn K (.ref C) (.type "BaseException") = some true) && (decide (PySem.W.typeIn K (.ref C) = some (.type "type")) && (PySem.W.keepIn K (.ref C) &&
  (decide (PySem.W.mroIn K C (.ref D) = some true) && (decide (PySem.W.ks_superIn K C D "__init__" = some (some (.builtin "ValueError.__init__"))) && (decide (PySem.W.subIn K (.ref C) (.type "ValueError") = some true) && (decide (PySem.W.findIn K (.ref C) "value" = some none) &&
  (decide (PySem.W.findIn K (.ref C) "__getattribute__" = some (some (.builtin "BaseException.__getattribute__"))) && (decide (PySem.W.findIn K (.ref C) "__getattr__" = some none) && (PySem.W.hasDictIn K C && (decide (PySem.W.findIn K (.ref C) "__class__" = some (some (.builtin "object.__class__"))) &&
  (decide (PySem.W.specialIn K (.builtin "object.__class__") "__get__" = some (some (.builtin "getset_descriptor.__get__"))) && (decide (PySem.W.takesIn K (.builtin "object.__class__") = some true) && (decide (PySem.W.mroIn K C (.type "object") = some true) &&
  (decide (PySem.W.exmOne K (.ref C) (.ref D) = some true) && decide (PySem.W.findIn K (.ref C) "__init__" = some (some (.ref fI)))))))))))))))))))
theorem exB_ok {K : PySem.W.Frag} {D fI C : Addr} (h : exB K D fI C = true) : ExF K D fI C := by
  unfold exB at h
  simp only [Bool.and_eq_true, decide_eq_true_eq] at h
  obtain ⟨h1, h2, h3, h4, h5, h6, h7, h8, h9, h10, h11, h12, h13, h14, h15, h16, h17, h18⟩ := h
  exact ⟨⟨⟨oexB_ok h1, h2, h3, h4, h5⟩, h6, h7, h8, h9⟩, ⟨h10, h11, h3, h12, h13, h14, h15, h16⟩, ⟨h10, h11, h3, h12⟩, h17, h18⟩
/-- the def __init__ of the class at D -/
def iniB (file : Str) (K : PySem.W.Frag) (D f : Addr) : Bool := match K.lookup f with
  | some ⟨_, _, .func fd, _⟩ => decide (fd.defaults = .none) && (decide (fd.kwdefaults = .none) && (decide (fd.annotations = none) && ((match fd.closure with
      | [(_, cc)] => (match K.lookup cc with
        | some ⟨_, _, .cell (some (.ref d)), _⟩ => decide (d = D)
        | _ => false)
      | _ => false) && (PySem.W.codeIn K fd.code fd.qualname && ((match fd.code with
        | .ref cda => (match K.lookup cda with
          | some ⟨_, _, .fields vs, _⟩ => (match (vs[2]? : Option Value) with
            | some (Value.str fl _) => file == fl
            | _ => false)
          | _ => false)
        | _ => false) && ((PySem.W.clsIn K D).isSome && (decide (PySem.W.nsIn K cStatics "thirdparty.any" = some none) && decide (PySem.W.typeIn K (.ref f) = some (.type "function")))))))))
  | _ => false
abbrev FnZ : Type := Option (Str × Str × Arguments × FuncBody × Scope × Addr × List Str × Addr)
def fnZ (K : PySem.W.Frag) (f : Addr) : FnZ := match K.lookup f with
  | some ⟨_, _, .func fd, _⟩ => some (fd.name, fd.qualname, fd.params, fd.body, fd.scope, fd.globals, fd.closure.map (·.1), fd.builtins)
  | _ => none
theorem ini_ok {P : Program} {K : PySem.W.Frag} {D f : Addr} {params : Arguments} {body : List Stmt} {scope : Scope} {qual : Str} (e : fnZ K f = (some (("__init__" : Str), qual, params, FuncBody.stmts body, scope, mainGlobals, [("__class__" : Str)], builtinsNs) : FnZ)) (h : iniB P.main.file K D f = true) :
    ∃ fd, InD P K D f params body scope qual fd := by
  unfold fnZ at e
  unfold iniB at h
  cases q : K.lookup f with
  | none => rw [q] at e; cases e
  | some o =>
    obtain ⟨oc, od, dt, osl⟩ := o
    rw [q] at e h
    cases dt with
    | func fd =>
      obtain ⟨n1, n2, n3, n4, n5, n6, n7, n8, n9, n10, n11, n12, n13, n14, n15⟩ := fd
      have e2 : (some (n1, n2, n3, n4, n5, n6, n7.map (·.1), n15) : FnZ) = (some (("__init__" : Str), qual, params, FuncBody.stmts body, scope, mainGlobals, [("__class__" : Str)], builtinsNs) : FnZ) := e
      simp only [Option.some.injEq, Prod.mk.injEq] at e2
      obtain ⟨h1, h2, h3, h4, h5, h6, h7, h8⟩ := e2
      subst h1 h2 h3 h4 h5 h6 h8
      dsimp only at h
      simp only [Bool.and_eq_true, decide_eq_true_eq] at h
      obtain ⟨g1, g2, g3, g4, g5, g6, g7, g8, g9⟩ := h
      subst g1 g2 g3
      match n7, h7, g4 with
      | [(y, cc)], h7, g4 =>
        simp at h7
        subst h7
        have cell : ∃ cl cld csl, K.lookup cc = some ⟨cl, cld, .cell (some (.ref D)), csl⟩ := by
          dsimp only at g4
          split at g4
          · rename_i a b d e hc
            have := of_decide_eq_true g4
            subst this
            exact ⟨a, b, e, hc⟩
          · cases g4
        obtain ⟨cda, rfl⟩ : ∃ cda, n13 = .ref cda := by
          cases n13 with
          | ref c => exact ⟨c, rfl⟩
          | _ => cases g5
        have file : ∃ ccl cdd vs ccs file tf, K.lookup cda = some ⟨ccl, cdd, .fields vs, ccs⟩ ∧ vs[2]? = some (.str file tf) ∧ ((P.main.file : Str) == file) = true := by
          dsimp only at g6
          split at g6
          · rename_i a b vs d hc
            split at g6
            · rename_i fl t hv
              exact ⟨a, b, vs, d, fl, t, hc, hv, g6⟩
            · cases g6
          · cases g6
        exact ⟨_, ⟨cc, cda, n10, n11, n14, oc, od, osl, rfl, q, g5, file, cell⟩, Option.isSome_iff_exists.mp g7, g8⟩
    | _ => cases e
/-! ## readings -/
structure KxF (c : Ct) (ns : List Str) : Prop where
  ex : ∃ D fI, ∀ n, n ∈ ns → ∃ C, c.mg n = some (.ref C) ∧ ExF c.K D fI C
  kit : ∀ n y C E, n ∈ ns → y ∈ ns → c.mg n = some (.ref C) → c.mg y = some (.ref E) → PySem.W.kitOne c.K (.ref C) (.ref E) = some (decide (n = y))
end MI
set_option maxRecDepth 100000
set_option maxHeartbeats 4000000
/-! ## the head: facts, defs, the makers' tables, one Bool, one method with a closure -/
namespace He
open PySem PySem.Spec PyProof.Rows L2 MI
/-! what is taken in, no address twice: the known ones as the bits of a number -/
def pickM {α : Type} : List Addr → Nat → List Addr → List Addr → (Nat → List Addr → List Addr → α) → α
  | [], m, f, as, k => k m f as
  | a :: r, m, f, as, k => HandSHeadRun.frNat a fun a => match Nat.beq (Nat.land (Nat.shiftRight m a) 1) 0 with
    | true => HandSHeadRun.frNat (Nat.lor m (Nat.shiftLeft 1 a)) fun m => pickM r m (a :: f) (a :: as) k
    | false => pickM r m f as k
def refsG (g : Addr → Option Obj) (a : Addr) : List Addr := match g a with
  | some o => refsD o
  | none => []
def bfsM (g : Addr → Option Obj) : Nat → List Addr → Nat → List Addr → List Addr
  | 0, _, _, as => as.reverse
  | n + 1, f, m, as => pickM (f.flatMap (refsG g)) m [] as fun m f as => bfsM g n f m as
/-- what is taken in: all that the module's names reach in n steps, and the statics -/
def asS (g : Addr → Option Obj) (n : Nat) : List Addr := pickM [mainGlobals, cStatics] 0 [] [] fun m f as => bfsM g n f m as
def frC {α : Type} (g : Addr → Option Obj) : List Addr → PySem.W.Frag → (PySem.W.Frag → α) → α
  | [], K, k => k K.reverse
  | a :: r, K, k => match g a with
    | none => frC g r K k
    | some o => match emptyTab o with
      | true => frC g r K k
      | false => frC g r ((a, o) :: K) k
theorem frC_eq {α : Type} {g : Addr → Option Obj} {k : PySem.W.Frag → α} : ∀ {as : List Addr} {K : PySem.W.Frag}, frC g as K k = k (K.reverse ++ frT g as)
  | [], K => by simp [frC, frT, frG]
  | a :: r, K => by
    unfold frC
    have e : frT g (a :: r) = (match g a with
      | none => frT g r
      | some o => match emptyTab o with
        | true => frT g r
        | false => (a, o) :: frT g r) := by
      unfold frT frG
      rw [List.filterMap_cons]
      cases g a with
      | none => rfl
      | some o => cases h : emptyTab o <;> simp [h]
    rw [e]
    cases g a with
    | none => exact frC_eq
    | some o =>
      cases h : emptyTab o with
      | true => simp only [h]; exact frC_eq
      | false => simp only [h]; rw [frC_eq]; simp
def obsK (fa : List Fa) (fn : List DefD) (tf : List Defn) (ex : PySem.W.Frag → Bool) (ini : PySem.W.Frag → Addr) (g : Addr → Option Obj) (K : PySem.W.Frag) : AlX × FnZ := ((obsT fa fn [] K, ex K && tabsB g tf K), fnZ K (ini K))
def obsI (n : Nat) (fa : List Fa) (fn : List DefD) (tf : List Defn) (ex : PySem.W.Frag → Bool) (ini : PySem.W.Frag → Addr) (g : Addr → Option Obj) : AlX × FnZ := frC g (asS g n) [] (obsK fa fn tf ex ini g)
theorem obsI_K {n : Nat} {fa : List Fa} {fn : List DefD} {tf : List Defn} {ex : PySem.W.Frag → Bool} {ini : PySem.W.Frag → Addr} {g : Addr → Option Obj} : obsI n fa fn tf ex ini g = obsK fa fn tf ex ini g (frT g (asS g n)) := by
  unfold obsI
  rw [frC_eq]
  rfl
theorem saysI_of {as : List Addr} {fa : List Fa} {fn : List DefD} {tf : List Defn} {ex : PySem.W.Frag → Bool} {w : World} {h : Heap} (e : ((obsT fa fn [] (frT h.get? as), ex (frT h.get? as) && tabsB h.get? tf (frT h.get? as)) : AlX) = valX fn [] w) : SaysX fa fn [] tf ex w h (frT h.get? as) := by
  have e1 : obsT fa fn [] (frT h.get? as) = valT fn [] w := congrArg (fun z : AlX => z.1) e
  have e2 : (ex (frT h.get? as) && tabsB h.get? tf (frT h.get? as)) = true := congrArg (fun z : AlX => z.2) e
  obtain ⟨h1, h2⟩ := ba e2
  have tab : ∀ p ∈ tf, PySem.W.codeHdIn (frT h.get? as) (cT (frT h.get? as) p).1 (cT (frT h.get? as) p).2 = true ∧ ∃ o, h.get? (cT (frT h.get? as) p).2 = some o ∧ emptyTab o = true := fun p hp => by
    obtain ⟨h3, h4⟩ := ba (List.all_eq_true.mp h2 p hp)
    cases q : h.get? (cT (frT h.get? as) p).2 with
    | none => rw [q] at h4; cases h4
    | some o => rw [q] at h4; exact ⟨h3, o, rfl, h4⟩
  refine ⟨e1, h1, fun p hp => (tab p hp).1, fun p hp => ?_, fun p hp => ?_⟩
  · obtain ⟨_, o, q, z⟩ := tab p hp
    exact frT_none q z
  · obtain ⟨_, o, q, z⟩ := tab p hp
    rw [q, emptyTab_eq z]
def hookI (n : Nat) (fa : List Fa) (fn : List DefD) (tf : List Defn) (ex : PySem.W.Frag → Bool) (ini : PySem.W.Frag → Addr) (z : FnZ) : PySem.W.Hook where
  α := AlX × FnZ
  obs := fun s => obsI n fa fn tf ex ini s.heap.get?
  val := fun w => (valX fn [] w, z)
  says := fun w h => ∃ K : PySem.W.Frag, K.In h ∧ SaysX fa fn [] tf ex w h K ∧ fnZ K (ini K) = z
  of := fun _ _ e => ⟨_, frT_in, saysI_of (congrArg Prod.fst (obsI_K.symm.trans e)), congrArg Prod.snd (obsI_K.symm.trans e)⟩
  keeps := fun _ _ _ ⟨K, hK, c, e⟩ k => ⟨K, PySem.W.Frag.In.keeps hK k, ⟨c.t, c.more, c.hd, c.out, fun p hp => k _ _ (c.empty p hp)⟩, e⟩
theorem obsI_eq {n : Nat} {fa : List Fa} {fn : List DefD} {tf : List Defn} {ex : PySem.W.Frag → Bool} {ini : PySem.W.Frag → Addr} {z : FnZ} {g : Addr → Option Obj} {s : Shared} (h : ∀ a, g a = s.heap.get? a) : obsI n fa fn tf ex ini g = (hookI n fa fn tf ex ini z).obs s := by
  have e : g = s.heap.get? := funext h
  rw [e] <;> rfl
end He
namespace MI
open PySem PySem.Spec PyProof.Rows L2 LamX NdefX
/-- a class whose instances are raised -/
theorem kne_of {P : Program} {w : World} {c : Ct} {base : Heap} {D fI : Addr} {fd : FuncData} {x : Str} {k : Nat} (ex : ∃ C, c.mg x = some (.ref C) ∧ ExF c.K D fI C) (ty : PySem.W.typeIn c.K (.ref fI) = some (.type "function")) (F : FnOk P w c.K c.mg base (L2.CX P w) k fI fd ["self", "value"] (spI c.K D)) (b : Binds c.K fd ["self", "value"] []) :
    KnE P w c base k x := by
  obtain ⟨C, h1, h2⟩ := ex
  exact ⟨C, D, fI, fd, h1, h2.er, h2.ini, ty, F, b⟩
end MI
set_option maxRecDepth 100000
set_option maxHeartbeats 4000000
namespace MI
open PySem PySem.Spec PyProof.Rows L2 LamX NdefX
/-! ## wrappers for printed proofs -/
section
variable {c : Ct} {W : WX} {X : Cx} {B Z : List Addr} {H : Hp} {σ : L2.St} {k j : Nat}
structure RtF (c : Ct) (ns : List Str) (root : Str) : Prop where
  ex : ∃ D fI, c.mg root = some (.ref D) ∧ ∀ n, n ∈ ns → ∃ C, c.mg n = some (.ref C) ∧ ExF c.K D fI C
end
end MI
set_option maxRecDepth 100000
set_option maxHeartbeats 4000000
namespace MI
open PySem PySem.Spec PyProof.Rows L2 LamX NdefX
/-! ## a op b op c op d -/
section
variable {c : Ct} {W : WX} {X : Cx} {B Z : List Addr} {H : Hp} {σ : L2.St} {k j : Nat} {a b d e : Expr} {ta tb tc td : TE} {f g h u : FE} {pos : Pos} {op op' op2 : CmpOp} {r r' r2 : R2} {o o' o2 : O2}
@[simp] def eCh3 (o o' o2 : O2) (f g h u : FE) : FE := fun r S => (f r S).bind fun v S1 => (g r S1).bind fun w S2 => (o v w S2).bind fun z S3 => match z with
  | .d (.bool true) => (h r S3).bind fun t S4 => (o' w t S4).bind fun z' S5 => (match z' with
    | .d (.bool true) => (u r S5).bind fun t' S6 => o2 t t' S6
    | .d (.bool false) => .ok (.d (.bool false)) S5
    | _ => .bad)
  | .d (.bool false) => .ok (.d (.bool false)) S3
  | _ => .bad
/-! ## l.count(x), l of bools or of ints -/
end
end MI
set_option maxRecDepth 100000
set_option maxHeartbeats 4000000
namespace MI
open PySem PySem.Spec PyProof.Rows L2 LamX NdefX
/-! ## the head's facts, as the readings ask -/
instance : Inhabited LI := ⟨⟨default, default, default, default, []⟩⟩
theorem ini_ty {file : Str} {K : PySem.W.Frag} {D f : Addr} (h : iniB file K D f = true) : PySem.W.typeIn K (.ref f) = some (.type "function") := by
  unfold iniB at h
  split at h
  · simp only [Bool.and_eq_true, decide_eq_true_eq] at h
    exact h.2.2.2.2.2.2.2.2
  · cases h
theorem ini_binds {P : Program} {K : PySem.W.Frag} {D f : Addr} {params : Arguments} {body : List Stmt} {scope : Scope} {qual : Str} {fd : FuncData} {ps : List Str} (I : InD P K D f params body scope qual fd)
    (h : ∀ (cc cda : Addr) (doc pm ctv : Value) (us : List Value), us.length = ps.length → bindArgs (PySem.W.ksFn "__init__" qual params body scope .none .none doc pm none (.ref cda) ctv cc) ⟨us, []⟩ = pure (ps.zip us)) : Binds K fd ps [] := by
  obtain ⟨cc, cda, doc, pm, ctv, oc, od, osl, rfl, _⟩ := I.ex
  exact .all fun us hl => h cc cda doc pm ctv us hl
end MI
set_option maxRecDepth 100000
set_option maxHeartbeats 4000000
namespace MI
open PySem PySem.Spec PyProof.Rows L2 LamX NdefX
/-! ## lists of ints in their lexical sequence -/
def lexL : List Int → List Int → Bool
  | _, [] => false
  | [], _ :: _ => true
  | a :: as, b :: bs => if a = b then lexL as bs else decide (a < b)
theorem lexL_nn {x : List Int} : lexL x [] = false := by cases x <;> rfl
theorem lexL_cc {a b : Int} {x y : List Int} : lexL (a :: x) (b :: y) = if a = b then lexL x y else decide (a < b) := rfl
theorem lexL_asym : ∀ {x y : List Int}, lexL x y = true → lexL y x = false
  | _, [], h => by rw [lexL_nn] at h; cases h
  | [], b :: bs, _ => rfl
  | a :: as, b :: bs, h => by
    rw [lexL_cc] at h ⊢
    by_cases e : a = b
    · rw [if_pos e] at h
      rw [if_pos e.symm]
      exact lexL_asym h
    · rw [if_neg e, decide_eq_true_eq] at h
      rw [if_neg fun z => e z.symm, decide_eq_false_iff_not]
      omega
theorem lexL_tr : ∀ {x y z : List Int}, lexL y x = false → lexL z y = false → lexL z x = false
  | [], _, z, _, _ => lexL_nn
  | a :: as, [], _, h, _ => by cases h
  | a :: as, b :: bs, [], _, h => by cases h
  | a :: as, b :: bs, d :: ds, h1, h2 => by
    rw [lexL_cc] at h1 h2 ⊢
    by_cases e1 : b = a
    · rw [if_pos e1] at h1
      by_cases e2 : d = b
      · rw [if_pos e2] at h2
        rw [if_pos (e2.trans e1)]
        exact lexL_tr h1 h2
      · rw [if_neg e2, decide_eq_false_iff_not] at h2
        rw [if_neg (by rw [← e1]; exact e2), decide_eq_false_iff_not]
        omega
    · rw [if_neg e1, decide_eq_false_iff_not] at h1
      by_cases e2 : d = b
      · rw [if_neg (by rw [e2]; exact e1), decide_eq_false_iff_not]
        omega
      · rw [if_neg e2, decide_eq_false_iff_not] at h2
        have : ¬ d = a := by omega
        rw [if_neg this, decide_eq_false_iff_not]
        omega
theorem lexL_anti : ∀ {x y : List Int}, lexL x y = false → lexL y x = false → x = y
  | [], [], _, _ => rfl
  | [], b :: bs, h, _ => by cases h
  | a :: as, [], _, h => by cases h
  | a :: as, b :: bs, h1, h2 => by
    rw [lexL_cc] at h1 h2
    by_cases e : a = b
    · rw [if_pos e] at h1
      rw [if_pos e.symm] at h2
      rw [e, lexL_anti h1 h2]
    · rw [if_neg e, decide_eq_false_iff_not] at h1
      rw [if_neg fun z => e z.symm, decide_eq_false_iff_not] at h2
      omega
def insL (x : List Int) : List (List Int) → List (List Int)
  | [] => [x]
  | y :: t => if lexL y x = true then y :: insL x t else x :: y :: t
def lsort : List (List Int) → List (List Int)
  | [] => []
  | x :: t => insL x (lsort t)
theorem insL_perm (x : List Int) : ∀ t, (insL x t).Perm (x :: t)
  | [] => .refl _
  | y :: t => by
    unfold insL
    split
    · exact ((insL_perm x t).cons y).trans (.swap x y t)
    · exact .refl _
theorem insL_pw (x : List Int) : ∀ t, t.Pairwise (fun a b => lexL b a = false) → (insL x t).Pairwise (fun a b => lexL b a = false)
  | [], _ => List.pairwise_singleton _ _
  | y :: t, h => by
    have z := List.pairwise_cons.mp h
    unfold insL
    split
    · rename_i hy
      refine List.pairwise_cons.mpr ⟨fun a ha => ?_, insL_pw x t z.2⟩
      rcases List.mem_cons.mp ((insL_perm x t).mem_iff.mp ha) with ha | ha
      · rw [ha]; exact lexL_asym hy
      · exact z.1 a ha
    · rename_i hy
      have hy : lexL y x = false := by simpa using hy
      refine List.pairwise_cons.mpr ⟨fun a ha => ?_, h⟩
      rcases List.mem_cons.mp ha with ha | ha
      · rw [ha]; exact hy
      · exact lexL_tr hy (z.1 a ha)
theorem lsort_perm : ∀ l, (lsort l).Perm l
  | [] => .refl _
  | x :: t => (insL_perm x (lsort t)).trans ((lsort_perm t).cons x)
theorem lsort_pw : ∀ l, (lsort l).Pairwise (fun a b => lexL b a = false)
  | [] => .nil
  | x :: t => insL_pw x _ (lsort_pw t)
theorem lexL_uniq : ∀ {l m : List (List Int)}, l.Perm m → l.Pairwise (fun a b => lexL b a = false) → m.Pairwise (fun a b => lexL b a = false) → l = m
  | [], m, p, _, _ => by rw [List.nil_perm.mp p]
  | x :: t, [], p, _, _ => by have := p.length_eq; simp at this
  | x :: t, y :: u, p, h1, h2 => by
    have z1 := List.pairwise_cons.mp h1
    have z2 := List.pairwise_cons.mp h2
    have e : x = y := by
      have m1 : x ∈ y :: u := p.mem_iff.mp List.mem_cons_self
      have m2 : y ∈ x :: t := p.mem_iff.mpr List.mem_cons_self
      rcases List.mem_cons.mp m1 with q1 | q1
      · exact q1
      · rcases List.mem_cons.mp m2 with q2 | q2
        · exact q2.symm
        · exact lexL_anti (z2.1 x q1) (z1.1 y q2)
    subst e
    rw [lexL_uniq ((List.perm_cons x).mp p) z1.2 z2.2]
theorem lsort_of {l m : List (List Int)} (p : m.Perm l) (h : m.Pairwise (fun a b => lexL b a = false)) : m = lsort l := lexL_uniq (p.trans (lsort_perm l).symm) h (lsort_pw l)
/-! ## sorted(l), l of tuples of ints, none of them empty -/
section
variable {prog : Program} {w : World} {A : Around} {E : Value → Shared → Prop} {s : Shared}
theorem lex_any {b fin : Bool} {Q : Bool → Shared → Prop} {xs ys : List Value} {ns ms : List Int} (i : Nat) (hx : IntsAre xs ns) (hy : IntsAre ys ms) (hf : fin = decide (ns.length < ms.length)) (h : Q (lexL ns ms) s) : PySem.W.KatLex prog w A b fin Q (xs.zip ys) i s := by
  induction hx generalizing ys ms i with
  | nil =>
    cases hy with
    | nil => refine PySem.W.kat_nil ?_; rw [hf]; exact h
    | cons m u hy => refine PySem.W.kat_nil ?_; rw [hf]; exact h
  | cons n t hx ih =>
    cases hy with
    | nil =>
      refine PySem.W.kat_nil ?_
      have e : fin = false := by rw [hf]; simp
      rw [e]
      exact h
    | cons m u hy =>
      refine PySem.W.kat_cons (SeqAt.EqAt.int_int n t m u prog w _ _ ?_)
      refine PySem.W.kat_go (fun e1 => ?_) (fun e1 => ?_)
      · have ex : n = m := by simpa using e1
        refine PySem.W.kat_yes (ih (i + 1) hy (by rw [hf]; simp) ?_)
        rw [lexL_cc, if_pos ex] at h
        exact h
      · have ex : ¬ n = m := by simpa using e1
        rw [lexL_cc, if_neg ex] at h
        exact PySem.W.kat_no (TS.oneLt_ints _ h)
theorem firstsL {h : Heap} {k : Value → List Int} : ∀ vs : List Value, (∀ v ∈ vs, TS.TupInts h v (k v) ∧ k v ≠ []) → ∃ fs, PySem.W.KatTups h vs fs ∧ fs.length = vs.length ∧ ∀ f, f ∈ fs → ∃ n t, f = Value.int n t
  | [], _ => ⟨[], PySem.W.KatTups.nil, rfl, fun f hf => by simp at hf⟩
  | v :: vs, x => by
    obtain ⟨fs, k1, hl, hi⟩ := firstsL vs fun u hu => x u (List.mem_cons_of_mem _ hu)
    obtain ⟨⟨a, xs, rfl, ⟨o, ho, hc, n, hdt⟩, i⟩, hne⟩ := x v List.mem_cons_self
    obtain ⟨y, ys, e⟩ : ∃ y ys, xs.toList = y :: ys := by
      cases q : xs.toList with
      | nil =>
        rw [q] at i
        have l := i.length
        exact absurd (List.length_eq_zero_iff.mp l.symm) hne
      | cons y ys => exact ⟨y, ys, rfl⟩
    obtain ⟨m, t, hy⟩ := i.all y (by rw [e]; exact List.mem_cons_self)
    refine ⟨y :: fs, PySem.W.KatTups.cons ho hc hdt ?_ k1, by simp [hl], fun f hf => ?_⟩
    · have : xs = (y :: ys).toArray := by rw [← e]
      rw [this]; rfl
    · rcases List.mem_cons.mp hf with rfl | hf
      · exact ⟨m, t, hy⟩
      · exact hi f hf
theorem tups_sortable {a : Addr} {vs : List Value} {k : Value → List Int} (h0 : 0 < vs.length) (hp : ∀ v ∈ vs, TS.TupInts s.heap v (k v) ∧ k v ≠ []) (ha : ∀ o, s.heap.get? a = some o → o.cls ≠ .type "tuple") : SrtO.SortableO prog w A s a vs fun v u => lexL (k v) (k u) := by
  intro h' keep
  have hp' : ∀ v ∈ vs, TS.TupInts h' v (k v) ∧ k v ≠ [] := fun v hm => ⟨(hp v hm).1.keeps fun b o e c => keep b o (fun z => by subst z; exact ha o e c) e, (hp v hm).2⟩
  obtain ⟨fs, h1, h2, h3⟩ := firstsL vs hp'
  refine ⟨tuples' true, fun Q E hq => ?_, fun p q hm hm' => ?_⟩
  · refine PySem.W.kat_kind (T := .type "int") h1 (by omega) (fun f hm => ?_) (by rfl) ?_
    · obtain ⟨x, t, rfl⟩ := h3 f hm
      exact PySem.W.Looks.now
    · have e : (Value.type "int" != Value.type "tuple") = true := by first | decide +kernel | rfl | decide
      rw [e]
      exact hq
  · obtain ⟨⟨a1, xs, e1, ⟨o1, ho1, hc1, n1, hd1⟩, i1⟩, _⟩ := hp' _ hm
    obtain ⟨⟨a2, ys, e2, ⟨o2, ho2, hc2, n2, hd2⟩, i2⟩, _⟩ := hp' _ hm'
    show wpAny (model prog w) A (keyLt' (tuples' true) p.1 q.1) _ _ _
    rw [e1, e2]
    refine PySem.W.kat_lt ho1 hd1 ho2 hd2 (lex_any 0 i1 i2 ?_ ?_)
    · have l1 := i1.length
      have l2 := i2.length
      simp only [Array.length_toList] at l1 l2
      rw [l1, l2]
    · exact ⟨rfl, rfl⟩
end
section
variable {c : Ct} {W : WX} {X : Cx}
def rSortedL (K : PySem.W.Frag) : List V → Hp → VK → Prop := fun vs H Q => ∃ (a : Addr) (ps : List (V × List Int)), vs = [V.ref a] ∧ SqL K H a (ps.map (·.1)) ∧ (∀ p ∈ ps, ∃ t, p.1 = V.ref t ∧ SqT K H t (p.2.map V.int) ∧ p.2 ≠ []) ∧
  ∀ (qs : List (V × List Int)) (l : Addr), qs.Perm ps → (qs.map (·.2)).Pairwise (fun x y => lexL y x = false) → H l = none → Q (.ref l) (upd H l (.lst (qs.map (·.1))))
theorem cr_sortedL : CallR X (.builtin "sorted") (rSortedL X.K) := by
  intro pins s σ H vs us Q I r h
  obtain ⟨a, ps, rfl, hs, hx, q⟩ := h
  obtain ⟨its, rv, hl, hz⟩ := I.list hs
  rw [Vals.ref1 r]
  obtain ⟨e1, e2⟩ := refs_back rv fun x m => by
    obtain ⟨p, hp, rfl⟩ := List.mem_map.mp m
    obtain ⟨t, e, _⟩ := hx p hp
    exact ⟨t, e⟩
  have hz' : its.length ≤ sizeLine := by rw [← rv.length]; exact hz
  -- each value's ints
  have key : ∀ p ∈ ps, ∀ v, RelV p.1 v → TS.TupInts s.heap v p.2 ∧ p.2 ≠ [] := fun p hp v rv' => by
    obtain ⟨t, e, ht, hne⟩ := hx p hp
    rw [e] at rv'
    obtain rfl : v = Value.ref t := rv'
    exact ⟨tupI_raw I ht, hne⟩
  have eps : its.map (fun v => (backV v, TS.intsOf s.heap v)) = ps := by
    clear q hs hl hz e1 e2 hz' r
    induction ps generalizing its with
    | nil => cases rv; rfl
    | cons p ps ih =>
      cases rv with
      | cons r1 r2 =>
        rename_i b0 bs0
        rw [List.map_cons, ih (fun p hp => hx p (List.mem_cons_of_mem _ hp)) _ r2 fun p hp => key p (List.mem_cons_of_mem _ hp)]
        obtain ⟨t, e, _⟩ := hx p List.mem_cons_self
        have k := (key p List.mem_cons_self _ r1).1
        rw [k.ints]
        have hb : backV b0 = p.1 := by
          have r1 : L2.RelV p.1 b0 := r1
          rw [e] at r1
          have r1 : b0 = Value.ref t := r1
          rw [r1, e] <;> rfl
        rw [hb]
  have hv : ∀ v ∈ its, TS.TupInts s.heap v (TS.intsOf s.heap v) ∧ TS.intsOf s.heap v ≠ [] := fun v hm => by
    have m : (backV v, TS.intsOf s.heap v) ∈ ps := by rw [← eps]; exact List.mem_map.mpr ⟨v, hm, rfl⟩
    obtain ⟨t, rfl⟩ := e2 v hm
    exact key _ m (.ref t) rfl
  refine SrtO.sorted_ord (ltv := fun v u => lexL (TS.intsOf s.heap v) (TS.intsOf s.heap u)) ⟨fun x y z => lexL_asym z, fun x y z z1 z2 => lexL_tr z1 z2⟩ hl.isList hz' (fun h2 h₁ a' ho hk => ?_) fun out h1 h2 => ?_
  · refine tups_sortable (by omega) (fun v hm => ⟨(hv v hm).1.keeps fun b o e _ => (hk b o e).2, (hv v hm).2⟩) fun o e => ?_
    have e : h₁.get? a' = some o := e
    rw [ho] at e
    cases e
    show Value.type "list" ≠ Value.type "tuple"
    simp
  · obtain ⟨ep, e'⟩ := PyProof.Rows.sortedAll_at s.heap its out.toArray
    have pm : (out.map fun v => (backV v, TS.intsOf s.heap v)).Perm ps := by rw [← eps]; exact h2.perm.map _
    have hr : ∀ u ∈ out, ∃ a, u = Value.ref a := fun u hu => e2 u (h2.perm.mem_iff.mp hu)
    have em : (out.map fun v => (backV v, TS.intsOf s.heap v)).map (·.1) = out.map backV := by rw [List.map_map]; rfl
    have zl : (out.map backV).length ≤ sizeLine := by rw [List.length_map, h2.perm.length_eq]; exact hz'
    have qq := q (out.map fun v => (backV v, TS.intsOf s.heap v)) (s.heap.objs.size + 1) pm (by
      rw [List.map_map, List.pairwise_map]
      exact h1) (I.hok.fresh (Nat.le_succ _))
    rw [em] at qq
    exact ⟨.ref _, _, I.laid (a := s.heap.objs.size + 1) (t' := s.toks) (o := .lst (out.map backV)) (fun _ _ => PyProof.Rows.sortedAll_old) (Nat.le_succ _) ⟨zl, out, ep, vals_back hr, e'⟩, rfl, qq⟩
def dTups : List PyData → Option (List (List Int))
  | [] => some []
  | .tuple ds :: t => match intsOf ds, dTups t with
    | some (n :: ns), some u => some ((n :: ns) :: u)
    | _, _ => none
  | _ => none
theorem dTups_eq : ∀ {ds : List PyData} {us : List (List Int)}, dTups ds = some us → ds = us.map (fun n => PyData.tuple (n.map .int)) ∧ ∀ u ∈ us, u ≠ []
  | [], us, h => by cases h; exact ⟨rfl, fun u m => by cases m⟩
  | .tuple es :: t, us, h => by
    unfold dTups at h
    split at h
    · rename_i n ns u h1 h2
      cases h
      obtain ⟨a1, a2⟩ := dTups_eq h2
      refine ⟨by rw [a1, intsOf_eq h1] <;> rfl, fun u m => ?_⟩
      rcases List.mem_cons.mp m with m | m
      · rw [m]; simp
      · exact a2 u m
    · cases h
  | .none :: _, _, h => by cases h
  | .int _ :: _, _, h => by cases h
  | .str _ :: _, _, h => by cases h
  | .list _ :: _, _, h => by cases h
  | .bool _ :: _, _, h => by cases h
  | .dict _ :: _, _, h => by cases h
def bSortA : FN := fun is S => match is with
  | [v] => (match sintsOf S v with
    | some ns => .ok (.d (.list ((isort ns).map .int))) S
    | none => (match lstOf S v with
      | some ds => (match dTups ds with
        | some us => .ok (.d (.list ((lsort us).map fun n => .tuple (n.map .int)))) S
        | none => .bad)
      | none => .bad))
  | _ => .bad
theorem zip_rd {K : PySem.W.Frag} {H : Hp} {bd : List Addr} : ∀ {us : List (List Int)} {xs : List V}, RDs K H bd (us.map fun n => PyData.tuple (n.map .int)) xs → ∃ ps : List (V × List Int), ps.map (·.1) = xs ∧ ps.map (·.2) = us ∧ ∀ p ∈ ps, RD K H bd (.tuple (p.2.map .int)) p.1
  | [], _, .nil => ⟨[], rfl, rfl, fun p m => by cases m⟩
  | u :: us, _, .cons h t => by
    obtain ⟨ps, a1, a2, a3⟩ := zip_rd t
    refine ⟨(_, u) :: ps, by rw [List.map_cons, a1], by rw [List.map_cons, a2], fun p m => ?_⟩
    rcases List.mem_cons.mp m with m | m
    · rw [m]; exact h
    · exact a3 p m
theorem rds_of_zip {K : PySem.W.Frag} {H : Hp} {bd : List Addr} : ∀ {ps : List (V × List Int)}, (∀ p ∈ ps, RD K H bd (.tuple (p.2.map .int)) p.1) → RDs K H bd ((ps.map (·.2)).map fun n => PyData.tuple (n.map .int)) (ps.map (·.1))
  | [], _ => .nil
  | p :: ps, h => .cons (h p List.mem_cons_self) (rds_of_zip fun q m => h q (List.mem_cons_of_mem _ m))
theorem k_sortA : OkN c W (fun vs H Q => rSortedIT c.K vs H Q ∨ rSortedL c.K vs H Q) bSortA := by
  intro σ B Z H S is vs Q s r p
  unfold bSortA at p
  split at p
  · obtain ⟨x, rfl, rx⟩ := ris1 r
    split at p
    · rename_i ns hn
      obtain ⟨a, rfl, h1⟩ := sintsOf_sq s rx hn
      refine .inl ⟨a, ns, rfl, h1, fun ms l pm pw hl => ?_⟩
      rw [isort_of pm pw]
      exact new_list s (rds_ints _) hl p
    · split at p
      · rename_i ds hds
        split at p
        · rename_i us hus
          obtain ⟨a, xs, rfl, h1, h2⟩ := lstOf_sq s rx hds
          obtain ⟨d1, d2⟩ := dTups_eq hus
          rw [d1] at h2
          obtain ⟨ps, z1, z2, z3⟩ := zip_rd h2
          refine .inr ⟨a, ps, rfl, by rw [z1]; exact h1, fun q hq => ?_, fun qs l pm pw hl => ?_⟩
          · obtain ⟨t, ys, e, ht, rt⟩ := (z3 q hq).tupS
            rw [rt.ints] at ht
            exact ⟨t, e, ht, d2 _ (by rw [← z2]; exact List.mem_map.mpr ⟨q, hq, rfl⟩)⟩
          · have e := lsort_of (l := us) (m := qs.map (·.2)) (by rw [← z2]; exact pm.map _) pw
            rw [← e] at p
            exact new_list s (rds_of_zip fun q hq => z3 q (pm.mem_iff.mp hq)) hl p
        · exact p.elim
      · exact p.elim
  · exact p.elim
theorem call_or2 {v : Value} {r r' : List V → Hp → VK → Prop} (h : CallR X v r) (h' : CallR X v r') : CallR X v (fun vs H Q => r vs H Q ∨ r' vs H Q) := by
  intro pins s σ H xs us Q I rv q
  rcases q with q | q
  · exact h pins s σ H xs us Q I rv q
  · exact h' pins s σ H xs us Q I rv q
theorem f_sortedA (cx : Cxg c W X) : Bf c W X (.builtin "sorted") bSortA := ⟨_, call_or2 (cx.K ▸ cr_sortedIT) (cx.K ▸ cr_sortedL), k_sortA⟩
end
end MI
set_option maxRecDepth 100000
set_option maxHeartbeats 4000000
namespace MI
open PySem PySem.Spec PyProof.Rows L2 LamX NdefX
/-! ## sorted(set(l)), l of tuples of ints in [0, 64), all as long -/
def insU (x : List Int) : List (List Int) → List (List Int)
  | [] => [x]
  | y :: t => if lexL y x = true then y :: insU x t else if lexL x y = true then x :: y :: t else y :: t
def usort : List (List Int) → List (List Int)
  | [] => []
  | x :: t => insU x (usort t)
theorem lexL_irr : ∀ {x : List Int}, lexL x x = false
  | [] => rfl
  | a :: as => by rw [lexL_cc, if_pos rfl]; exact lexL_irr
theorem insU_mem {x a : List Int} : ∀ {t : List (List Int)}, a ∈ insU x t ↔ a = x ∨ a ∈ t
  | [] => by unfold insU; simp
  | y :: t => by
    unfold insU
    split
    · rw [List.mem_cons, insU_mem (t := t), List.mem_cons]
      constructor
      · rintro (h | h | h)
        · exact .inr (.inl h)
        · exact .inl h
        · exact .inr (.inr h)
      · rintro (h | h | h)
        · exact .inr (.inl h)
        · exact .inl h
        · exact .inr (.inr h)
    · rename_i h1
      split
      · rw [List.mem_cons]
      · rename_i h2
        have e : y = x := lexL_anti (by simpa using h1) (by simpa using h2)
        constructor
        · exact .inr
        · rintro (h | h)
          · rw [h, e]; exact List.mem_cons_self
          · exact h
theorem usort_mem {a : List Int} : ∀ {l : List (List Int)}, a ∈ usort l ↔ a ∈ l
  | [] => Iff.rfl
  | x :: t => by
    show a ∈ insU x (usort t) ↔ _
    rw [insU_mem, usort_mem (l := t), List.mem_cons]
theorem lexL_tt {x y z : List Int} (h1 : lexL x y = true) (h2 : lexL y z = true) : lexL x z = true := by
  cases h : lexL x z with
  | true => rfl
  | false =>
    have := lexL_tr (x := z) (y := x) (z := y) h (lexL_asym h1)
    rw [h2] at this; cases this
theorem insU_pw (x : List Int) : ∀ {t : List (List Int)}, t.Pairwise (fun a b => lexL a b = true) → (insU x t).Pairwise fun a b => lexL a b = true
  | [], _ => List.pairwise_singleton _ _
  | y :: t, h => by
    have z := List.pairwise_cons.mp h
    unfold insU
    split
    · rename_i h1
      refine List.pairwise_cons.mpr ⟨fun a ha => ?_, insU_pw x z.2⟩
      rcases insU_mem.mp ha with ha | ha
      · rw [ha]; exact h1
      · exact z.1 a ha
    · split
      · rename_i h2
        refine List.pairwise_cons.mpr ⟨fun a ha => ?_, h⟩
        rcases List.mem_cons.mp ha with ha | ha
        · rw [ha]; exact h2
        · exact lexL_tt h2 (z.1 a ha)
      · exact h
theorem usort_pw : ∀ (l : List (List Int)), (usort l).Pairwise fun a b => lexL a b = true
  | [] => .nil
  | x :: t => insU_pw x (usort_pw t)
theorem strict_uniq : ∀ {l m : List (List Int)}, (∀ a, a ∈ l ↔ a ∈ m) → l.Pairwise (fun a b => lexL a b = true) → m.Pairwise (fun a b => lexL a b = true) → l = m
  | [], [], _, _, _ => rfl
  | [], y :: u, h, _, _ => absurd ((h y).mpr List.mem_cons_self) (by simp)
  | x :: t, [], h, _, _ => absurd ((h x).mp List.mem_cons_self) (by simp)
  | x :: t, y :: u, h, h1, h2 => by
    have z1 := List.pairwise_cons.mp h1
    have z2 := List.pairwise_cons.mp h2
    have e : x = y := by
      rcases List.mem_cons.mp ((h x).mp List.mem_cons_self) with q1 | q1
      · exact q1
      · rcases List.mem_cons.mp ((h y).mpr List.mem_cons_self) with q2 | q2
        · exact q2.symm
        · have a1 := lexL_asym (z2.1 x q1)
          rw [z1.1 y q2] at a1; cases a1
    subst e
    have no : ∀ {l : List (List Int)}, (∀ a, a ∈ l → lexL x a = true) → x ∉ l := fun k m => by
      have := k x m
      rw [lexL_irr] at this; cases this
    rw [strict_uniq (l := t) (m := u) (fun a => ?_) z1.2 z2.2]
    constructor
    · intro ha
      rcases List.mem_cons.mp ((h a).mp (List.mem_cons_of_mem _ ha)) with q | q
      · rw [q] at ha; exact absurd ha (no z1.1)
      · exact q
    · intro ha
      rcases List.mem_cons.mp ((h a).mpr (List.mem_cons_of_mem _ ha)) with q | q
      · rw [q] at ha; exact absurd ha (no z2.1)
      · exact q
theorem code_lex {B : Int} : ∀ {x y : List Int}, x.length = y.length → TS.Bd B x → TS.Bd B y → lexL x y = true → TS.code B x < TS.code B y
  | _, [], _, _, _, h => by rw [lexL_nn] at h; cases h
  | [], _ :: _, hl, _, _, _ => by simp at hl
  | a :: x, b :: y, hl, hx, hy, h => by
    have hl2 : x.length = y.length := by simpa using hl
    rw [lexL_cc] at h
    by_cases e : a = b
    · subst e
      rw [if_pos rfl] at h
      have z := code_lex (x := x) (y := y) hl2 hx.tail hy.tail h
      exact (TS.code_same hl2).mpr z
    · rw [if_neg e, decide_eq_true_eq] at h
      exact TS.code_lt hl2 hx.tail hy.tail h
def okB (us : List (List Int)) : Bool := match us with
  | [] => true
  | u :: _ => decide (1 ≤ u.length) && (decide (us.length < 64) && us.all fun v => decide (v.length = u.length) && v.all fun m => decide (0 ≤ m) && decide (m < 64))
def eSrtSetA (f : FE) : FE := fun r S => (f r S).bind fun v S1 => match lintsOf S1 v with
  | some ns => if ns.length < 64 then .ok (.d (.list ((dsort ns).map .int))) S1 else .bad
  | none => (match lstOf S1 v with
    | some ds => (match dTups ds with
      | some us => if okB us then .ok (.d (.list ((usort us).map fun n => .tuple (n.map .int)))) S1 else .bad
      | none => .bad)
    | none => .bad)
section
variable {c : Ct} {W : WX} {X : Cx} {k : Nat}
theorem zip_ks {K : PySem.W.Frag} {H : Hp} {bd : List Addr} : ∀ {us : List (List Int)} {xs : List V}, RDs K H bd (us.map fun n => PyData.tuple (n.map .int)) xs → ∃ ks : List (Addr × List Int), (ks.map fun p => V.ref p.1) = xs ∧ ks.map (·.2) = us ∧ ∀ p ∈ ks, RD K H bd (.tuple (p.2.map .int)) (.ref p.1)
  | [], _, .nil => ⟨[], rfl, rfl, fun p m => by cases m⟩
  | u :: us, _, .cons h t => by
    obtain ⟨ks, a1, a2, a3⟩ := zip_ks t
    obtain ⟨a, ys, rfl, _, _⟩ := id h.tupS
    refine ⟨(a, u) :: ks, by rw [List.map_cons, a1], by rw [List.map_cons, a2], fun p m => ?_⟩
    rcases List.mem_cons.mp m with m | m
    · rw [m]; exact h
    · exact a3 p m
theorem rds_of_ks {K : PySem.W.Frag} {H : Hp} {bd : List Addr} : ∀ {ks : List (Addr × List Int)}, (∀ p ∈ ks, RD K H bd (.tuple (p.2.map .int)) (.ref p.1)) → RDs K H bd ((ks.map (·.2)).map fun n => PyData.tuple (n.map .int)) (ks.map fun p => V.ref p.1)
  | [], _ => .nil
  | p :: ks, h => .cons (h p List.mem_cons_self) (rds_of_ks fun q m => h q (List.mem_cons_of_mem _ m))
theorem rd_sq {K : PySem.W.Frag} {H : Hp} {bd : List Addr} {n : List Int} {a : Addr} (h : RD K H bd (.tuple (n.map .int)) (.ref a)) : SqT K H a (n.map V.int) := by
  obtain ⟨t, ys, e, ht, rt⟩ := h.tupS
  cases e
  rw [rt.ints] at ht
  exact ht
theorem s_srtSetA {a : Expr} {f : FE} {p p2 q pos : Pos} (cx : Cxg c W X) (hr : Room k X.A) (hg : Gl X "sorted") (hm : X.mg "sorted" = none) (hg2 : Gl X "set") (hm2 : X.mg "set" = none) (ha : PE X a (TEx c W f)) (hc : X.calm = true)
    (na : starEach [a] X.env = (false, eval a X.env) :: starEach [] X.env := by rfl) (nb : starEach [.Call (.Name "set" p2) [a] [] q] X.env = (false, eval (.Call (.Name "set" p2) [a] [] q) X.env) :: starEach [] X.env := by rfl) : PE X (.Call (.Name "sorted" p) [.Call (.Name "set" p2) [a] [] q] [] pos) (TEx c W (eSrtSetA f)) := by
  have e1 := s_srtSet (W := W) (p := p) (p2 := p2) (q := q) (pos := pos) cx hg hm hg2 hm2 ha hc na nb
  have e2 := pe_callB (p := p) (pos := pos) (cr_sortedT (X := X) hc) hg hm (by decide +kernel) (pa_cons (pe_callTy (p := p2) (pos := q) (cr_setOfT (X := X) hc (by have := hr.un; omega)) hg2 hm2 (by decide +kernel) (pa_cons ha pa_nil na) (he := na)) pa_nil nb) (he := nb)
  refine ⟨fun pins s σ H Q I ⟨B, Z, r, S, sr, rr, pp⟩ => ?_⟩
  by_cases hi : ∃ v S1 ns, f r S = .ok v S1 ∧ lintsOf S1 v = some ns
  · refine e1.run pins s σ H Q I ⟨B, Z, r, S, sr, rr, ?_⟩
    obtain ⟨v, S1, ns, hf, hn⟩ := hi
    unfold eSrtSetA at pp
    unfold eSrtSet
    rw [hf] at pp ⊢
    simp only [Out.bind, hn] at pp ⊢
    exact pp
  · refine e2.run pins s σ H Q I ?_
    refine ⟨B, Z, r, S, sr, rr, ?_⟩
    unfold eSrtSetA at pp
    cases hf : f r S with
    | bad => rw [hf] at pp; exact pp.elim
    | exn n v S1 => rw [hf] at pp; exact pp
    | ok v S1 =>
    rw [hf] at pp
    intro B1 H1 ev1 s1 y hy
    have q1 := Post.far ev1 pp
    simp only [Out.bind] at q1
    split at q1
    · rename_i ns hns
      exact absurd ⟨v, S1, ns, hf, hns⟩ hi
    · split at q1
      · rename_i ds hds
        split at q1
        · rename_i us hus
          split at q1
          · rename_i hok
            obtain ⟨l, xs, rfl, h1, h2⟩ := lstOf_sq s1 hy hds
            obtain ⟨d1, d2⟩ := dTups_eq hus
            rw [d1] at h2
            obtain ⟨ks, z1, z2, z3⟩ := zip_ks h2
            have hfew : ks.length < 64 := by
              have : ks.length = us.length := by rw [← z2, List.length_map]
              rw [this]
              cases us with
              | nil => simp
              | cons u t =>
                unfold okB at hok
                simp only [Bool.and_eq_true, decide_eq_true_eq] at hok
                exact hok.2.1
            obtain ⟨d, hd1, hd2⟩ : ∃ d, 1 ≤ d ∧ ∀ u ∈ us, u.length = d ∧ TS.Bd 64 u := by
              cases us with
              | nil => exact ⟨1, Nat.le_refl _, fun u m => by cases m⟩
              | cons u t =>
                unfold okB at hok
                simp only [Bool.and_eq_true, decide_eq_true_eq, List.all_eq_true] at hok
                exact ⟨u.length, hok.1, fun v m => ⟨(hok.2.2 v m).1, fun x hx => (hok.2.2 v m).2 x hx⟩⟩
            refine ⟨l, ks, rfl, by rw [cx.K, z1]; exact h1, fun p hp => by rw [cx.K]; exact rd_sq (z3 p hp), hfew, fun a L hL hsub hall => ?_⟩
            have eN := Ev.new (o := SetTO X.prog X.w a L) s1 hL
            have sN := s1.new (o := SetTO X.prog X.w a L) hL
            have hu : ∀ p ∈ L, p.2 ∈ us := fun p hp => by rw [← z2]; exact List.mem_map.mpr ⟨p, hsub p hp, rfl⟩
            refine ⟨a, L, d, 64, rfl, upd_same, fun p hp => by rw [cx.K]; exact rd_sq ((z3 p (hsub p hp)).ev eN), hd1, fun p hp => hd2 _ (hu p hp), fun L' l' pm nd few pw hl' => ?_⟩
            have e : L'.map (·.2) = usort us := by
              refine strict_uniq (fun x => ?_) ?_ (usort_pw us)
              · rw [usort_mem]
                constructor
                · intro m
                  obtain ⟨p, hp, rfl⟩ := List.mem_map.mp m
                  exact hu p (pm.mem_iff.mp hp)
                · intro m
                  rw [← z2] at m
                  obtain ⟨p, hp, rfl⟩ := List.mem_map.mp m
                  obtain ⟨p', hp', e'⟩ := List.mem_map.mp (hall p hp)
                  exact List.mem_map.mpr ⟨p', pm.mem_iff.mpr hp', e'⟩
              · have pw' : (L'.map (·.2)).Pairwise (fun x y => TS.code 64 x ≤ TS.code 64 y) := List.pairwise_map.mpr pw
                have nd' : (L'.map (·.2)).Pairwise (· ≠ ·) := nd
                refine (pw'.and nd').imp_of_mem fun {x y} hx hy hxy => ?_
                have mem : ∀ x ∈ L'.map (·.2), x.length = d ∧ TS.Bd 64 x := fun x m => by
                  obtain ⟨p, hp, rfl⟩ := List.mem_map.mp m
                  exact hd2 _ (hu p (pm.mem_iff.mp hp))
                cases h : lexL x y with
                | true => rfl
                | false =>
                  cases h' : lexL y x with
                  | false => exact absurd (lexL_anti h h') hxy.2
                  | true =>
                    have := code_lex (by rw [(mem x hx).1, (mem y hy).1]) (mem y hy).2 (mem x hx).2 h'
                    omega
            rw [← e] at q1
            have fin := new_list sN (rds_of_ks (ks := L') fun p hp => (z3 p (hsub p (pm.mem_iff.mp hp))).ev eN) hl' (q1.far eN)
            exact fin
          · exact q1.elim
        · exact q1.elim
      · exact q1.elim
end
end MI
set_option maxRecDepth 100000
set_option maxHeartbeats 4000000
namespace MI
open PySem PySem.Spec PyProof.Rows L2 LamX NdefX
/-! ## min(l, key=lambda y: y[1] - y[0]), l of pairs of ints -/
end MI
set_option maxRecDepth 100000
set_option maxHeartbeats 4000000
namespace MI
open PySem PySem.Spec PyProof.Rows L2 LamX NdefX
/-! ## min(l, key=lambda y: y[1] - y[0]): the reading -/
end MI
set_option maxRecDepth 100000
set_option maxHeartbeats 4000000
namespace MI
open PySem PySem.Spec PyProof.Rows L2 LamX NdefX
/-! ## a tuple many times -/
def oMulA : O2 := fun v w S => match v, w with
  | .d (.tuple ds), .d (.int k) => if ds.isEmpty = false ∧ 2 ≤ k ∧ k ≤ 1000 ∧ ds.length ≤ 1000 then .ok (.d (.tuple (List.replicate k.toNat ds).flatten)) S else .bad
  | v, w => oInt gMul v w S
section
variable {c : Ct} {W : WX} {X : Cx}
theorem rds_rep {K : PySem.W.Frag} {H : Hp} {bd : List Addr} {ds : List PyData} {xs : List V} (r : RDs K H bd ds xs) : ∀ n, RDs K H bd (List.replicate n ds).flatten (List.replicate n xs).flatten
  | 0 => .nil
  | n + 1 => by
    rw [List.replicate_succ, List.replicate_succ, List.flatten_cons, List.flatten_cons]
    exact r.app (rds_rep r n)
theorem k_mulA : Ok2 c W (fun x y H Q => rRepTF c.K x y H Q ∨ rI CMulW (fun i j => .int (i * j)) x y H Q) oMulA := by
  intro σ B Z H S v w x y Q s rv rw_ p
  unfold oMulA at p
  split at p
  · rename_i ds k
    split at p
    · rename_i h
      cases rv with
      | d rv =>
        cases rw_ with
        | d rw_ =>
          cases rw_
          obtain ⟨l, xs, rfl, ht, rt⟩ := rv.tupS
          have hl := rt.length
          refine .inl ⟨l, k, xs, rfl, rfl, ht, fun e => ?_, h.2.1, h.2.2.1, by rw [← hl]; exact h.2.2.2, fun q oq hq toq => ?_⟩
          · rw [e] at hl
            have : ds = [] := List.length_eq_zero_iff.mp hl
            rw [this] at h
            exact absurd h.1 (by simp)
          · exact p B _ (Ev.new s hq) (s.new hq) _ (.d (RD.newTup s hq toq (rds_rep rt _)))
    · exact p.elim
  · exact .inr (k_mul σ B Z H S v w x y Q s rv rw_ p)
end
end MI
set_option maxRecDepth 100000
set_option maxHeartbeats 4000000
namespace MI
open PySem PySem.Spec PyProof.Rows L2 LamX NdefX
section
variable {X : Cx} {c : Ct} {W : WX} {B Z : List Addr} {H : Hp} {σ : L2.St}
/-! ## l.index(x), l a list or a tuple -/
variable {o e : Expr} {es : List Expr} {to : TE} {t : TA} {name : Str} {apos cpos : Pos} {id1 id2 : String} {r1 r2 : V → List V → Hp → VK → Prop}
@[simp] def mIdxT (ds : List PyData) : FN := fun is S => match is with
  | [w] => match toD 0 S w with
    | some d => if SeqAt.shaped (.list ds) && SeqAt.shaped d then (match ds.findIdx? (fun z => PyData.eqv z d) with
      | some j => .ok (.d (.int (j : Nat))) S
      | none => .bad) else .bad
    | _ => .bad
  | _ => .bad
@[simp] def eIdxA (fo : FE) (fa : FA) : FE := fun r S => (fo r S).bind fun v S1 => match tupOf v with
  | some ds => (fa r S1).bind fun is S2 => mIdxT ds is S2
  | none => if tyOk "list" S1 v then (fa r S1).bind fun is S2 => mIdx v is S2 else .bad
variable {fo : FE} {fa : FA}
end
end MI
set_option maxRecDepth 100000
set_option maxHeartbeats 4000000
namespace MI
open PySem PySem.Spec PyProof.Rows L2
/-! ## dicts whose keys are tuples of ints and such tuples -/
mutual
@[simp] def kbeq : PyData → PyData → Bool
  | .int i, .int j => decide (i = j)
  | .tuple xs, .tuple ys => kbeqs xs ys
  | .str x, .str y => decide (x = y)
  | _, _ => false
@[simp] def kbeqs : List PyData → List PyData → Bool
  | [], [] => true
  | x :: xs, y :: ys => if kbeq x y = true then kbeqs xs ys else false
  | _, _ => false
end
mutual
theorem kbeq_iff : ∀ {a b : PyData} {k l : NestedKey}, nk a = some k → nk b = some l → (kbeq a b = true ↔ k = l)
  | .int i, .int j, k, l, h, h' => by cases h; cases h'; simp [kbeq]
  | .int i, .tuple ys, k, l, h, h' => by
    cases h
    obtain ⟨y, hy, rfl⟩ := Option.map_eq_some_iff.mp (show (nks ys).map NestedKey.tup = some l from h')
    simp [kbeq]
  | .tuple xs, .int j, k, l, h, h' => by
    cases h'
    obtain ⟨y, hy, rfl⟩ := Option.map_eq_some_iff.mp (show (nks xs).map NestedKey.tup = some k from h)
    simp [kbeq]
  | .tuple xs, .tuple ys, k, l, h, h' => by
    obtain ⟨x, hx, rfl⟩ := Option.map_eq_some_iff.mp (show (nks xs).map NestedKey.tup = some k from h)
    obtain ⟨y, hy, rfl⟩ := Option.map_eq_some_iff.mp (show (nks ys).map NestedKey.tup = some l from h')
    have := kbeqs_iff hx hy
    show kbeqs xs ys = true ↔ _
    rw [this]
    exact ⟨fun e => by rw [e], fun e => by injection e⟩
  | .none, _, k, l, h, h' => by cases h
  | .bool _, _, k, l, h, h' => by cases h
  | .str _, _, k, l, h, h' => by cases h
  | .list _, _, k, l, h, h' => by cases h
  | .dict _, _, k, l, h, h' => by cases h
  | _, .none, k, l, h, h' => by cases h'
  | _, .bool _, k, l, h, h' => by cases h'
  | _, .str _, k, l, h, h' => by cases h'
  | _, .list _, k, l, h, h' => by cases h'
  | _, .dict _, k, l, h, h' => by cases h'
theorem kbeqs_iff : ∀ {a b : List PyData} {k l : List NestedKey}, nks a = some k → nks b = some l → (kbeqs a b = true ↔ k = l)
  | [], [], k, l, h, h' => by cases h; cases h'; simp [kbeqs]
  | [], y :: ys, k, l, h, h' => by
    cases h
    unfold nks at h'
    split at h'
    · cases h'; simp [kbeqs]
    · cases h'
  | x :: xs, [], k, l, h, h' => by
    cases h'
    unfold nks at h
    split at h
    · cases h; simp [kbeqs]
    · cases h
  | x :: xs, y :: ys, k, l, h, h' => by
    unfold nks at h h'
    split at h
    · rename_i k1 l1 a1 a2
      cases h
      split at h'
      · rename_i k2 l2 b1 b2
        cases h'
        have e1 := kbeq_iff a1 b1
        have e2 := kbeqs_iff a2 b2
        show (if kbeq x y = true then kbeqs xs ys else false) = true ↔ _
        by_cases q : kbeq x y = true
        · rw [if_pos q, e2, e1.mp q]
          simp
        · rw [if_neg q]
          refine ⟨fun e => (by cases e), fun e => ?_⟩
          injection e with z1 z2
          exact absurd (e1.mpr z1) q
      · cases h'
    · cases h
end
mutual
theorem nk_hash (w w' : World) : ∀ {d : PyData} {k : NestedKey}, nk d = some k → k.hash w = k.hash w'
  | .int i, k, h => by cases h; rfl
  | .tuple ds, k, h => by
    obtain ⟨ks, h1, rfl⟩ := Option.map_eq_some_iff.mp (show (nks ds).map NestedKey.tup = some k from h)
    simp only [NestedKey.hash]
    rw [nks_hash w w' h1]
  | .none, k, h => by cases h
  | .bool _, k, h => by cases h
  | .str _, k, h => by cases h
  | .list _, k, h => by cases h
  | .dict _, k, h => by cases h
theorem nks_hash (w w' : World) : ∀ {d : List PyData} {k : List NestedKey}, nks d = some k → NestedKey.hashes w k = NestedKey.hashes w' k
  | [], k, h => by cases h; rfl
  | d :: t, k, h => by
    unfold nks at h
    split at h
    · rename_i k1 l1 a1 a2
      cases h
      simp only [NestedKey.hashes]
      rw [nk_hash w w' a1, nks_hash w w' a2]
    · cases h
end
theorem nkT_nk {d : PyData} {k : NestedKey} (h : nkT d = some k) : nk d = some k ∧ k.depth ≤ 8 := by
  unfold nkT at h
  split at h
  · split at h
    · rename_i k' e
      by_cases q : k'.depth ≤ 8
      · rw [if_pos q] at h; cases h; exact ⟨e, q⟩
      · rw [if_neg q] at h; cases h
    · cases h
  · cases h
theorem nkT_ref {K : PySem.W.Frag} {H : Hp} {bd : List Addr} {d : PyData} {k : NestedKey} {v : V} (h : nkT d = some k) (r : RD K H bd d v) : ∃ a, v = .ref a := by
  unfold nkT at h
  split at h
  · obtain ⟨a, xs, e, _⟩ := r.tupS; exact ⟨a, e⟩
  · cases h
@[simp] def dAt (kvs : List (PyData × PyData)) (k : PyData) : Option PyData := match kvs with
  | [] => none
  | p :: t => if kbeq p.1 k = true then some p.2 else dAt t k
@[simp] def dRep (kvs : List (PyData × PyData)) (k v : PyData) : List (PyData × PyData) := match kvs with
  | [] => []
  | p :: t => if kbeq p.1 k = true then (p.1, v) :: dRep t k v else p :: dRep t k v
@[simp] def dPut (kvs : List (PyData × PyData)) (k v : PyData) : List (PyData × PyData) := match dAt kvs k with
  | some _ => dRep kvs k v
  | none => kvs ++ [(k, v)]
section
variable {K : PySem.W.Frag} {H : Hp} {bd : List Addr} {kvs : List (PyData × PyData)} {xs : List (NestedKey × Addr × Value)} {kd vd : PyData} {k : NestedKey} {b : Addr} {u : Value} {x : V}
theorem KR.length : ∀ {kvs : List (PyData × PyData)} {xs : List (NestedKey × Addr × Value)}, KR K H bd kvs xs → kvs.length = xs.length
  | _, _, .nil => rfl
  | _, _, .cons _ _ _ _ t => by simp [KR.length t]
/-- at a key -/
theorem KR.at_ (hk : nkT kd = some k) : ∀ {kvs : List (PyData × PyData)} {xs : List (NestedKey × Addr × Value)}, KR K H bd kvs xs → (atKey xs k = none ∧ dAt kvs kd = none) ∨ ∃ a v x vd, atKey xs k = some (a, v) ∧ dAt kvs kd = some vd ∧ RelV x v ∧ RD K H bd vd x
  | _, _, .nil => .inl ⟨rfl, rfl⟩
  | _, _, .cons (kd := kd') (vd := vd') (k := k') (a := a') (v := v') (x := x') (ds := ds) (xs := xs) h rk rv rd t => by
    have e := kbeq_iff (nkT_nk h).1 (nkT_nk hk).1
    by_cases q : k' = k
    · have q' := e.mpr q
      refine .inr ⟨a', v', x', vd', by simp [atKey, List.find?_cons, q], ?_, rv, rd⟩
      show (if kbeq kd' kd = true then some vd' else dAt ds kd) = some vd'
      rw [if_pos q']
    · have q' : ¬ kbeq kd' kd = true := fun z => q (e.mp z)
      have e1 : atKey ((k', a', v') :: xs) k = atKey xs k := by simp [atKey, List.find?_cons, q]
      have e2 : dAt ((kd', vd') :: ds) kd = dAt ds kd := by
        show (if kbeq kd' kd = true then some vd' else dAt ds kd) = _
        rw [if_neg q']
      rw [e1, e2]
      exact KR.at_ hk t
theorem KR.rep (hk : nkT kd = some k) (rv : RelV x u) (rd : RD K H bd vd x) : ∀ {kvs : List (PyData × PyData)} {xs : List (NestedKey × Addr × Value)}, KR K H bd kvs xs → KR K H bd (dRep kvs kd vd) (xs.map (putAt k u))
  | _, _, .nil => .nil
  | _, _, .cons (kd := kd') (vd := vd') (k := k') (a := a') (v := v') (x := x') (ds := ds) (xs := xs) h rk rv' rd' t => by
    have e := kbeq_iff (nkT_nk h).1 (nkT_nk hk).1
    have ih := KR.rep hk rv rd t
    show KR K H bd (if kbeq kd' kd = true then (kd', vd) :: dRep ds kd vd else (kd', vd') :: dRep ds kd vd) (putAt k u (k', a', v') :: xs.map (putAt k u))
    by_cases q : k' = k
    · rw [if_pos (e.mpr q)]
      unfold putAt
      rw [if_pos q]
      exact .cons h rk rv rd ih
    · rw [if_neg fun z => q (e.mp z)]
      unfold putAt
      rw [if_neg q]
      exact .cons h rk rv' rd' ih
theorem KR.snoc (hk : nkT kd = some k) (rk : RD K H bd kd (.ref b)) (rv : RelV x u) (rd : RD K H bd vd x) : ∀ {kvs : List (PyData × PyData)} {xs : List (NestedKey × Addr × Value)}, KR K H bd kvs xs → KR K H bd (kvs ++ [(kd, vd)]) (xs ++ [(k, b, u)])
  | _, _, .nil => .cons hk rk rv rd .nil
  | _, _, .cons h r1 r2 r3 t => .cons h r1 r2 r3 (KR.snoc hk rk rv rd t)
theorem KR.put (r : KR K H bd kvs xs) (hk : nkT kd = some k) (rk : RD K H bd kd (.ref b)) (rv : RelV x u) (rd : RD K H bd vd x) : KR K H bd (dPut kvs kd vd) (storedH xs k b u) := by
  rcases r.at_ hk with ⟨e1, e2⟩ | ⟨a, v, y, vd', e1, e2, _⟩
  · rw [storedH_new e1]
    show KR K H bd (match dAt kvs kd with | some _ => dRep kvs kd vd | none => kvs ++ [(kd, vd)]) _
    rw [e2]
    exact r.snoc hk rk rv rd
  · rw [storedH_old e1]
    show KR K H bd (match dAt kvs kd with | some _ => dRep kvs kd vd | none => kvs ++ [(kd, vd)]) _
    rw [e2]
    exact r.rep hk rv rd
end
/-! ### as values -/
mutual
inductive NV (K : PySem.W.Frag) (H : Hp) : NestedKey → V → Prop
  | int (i : Int) : NV K H (.num i) (.int i)
  | tup {a : Addr} {xs : List V} {ks : List NestedKey} (h : SqT K H a xs) (r : NVs K H ks xs) : NV K H (.tup ks) (.ref a)
inductive NVs (K : PySem.W.Frag) (H : Hp) : List NestedKey → List V → Prop
  | nil : NVs K H [] []
  | cons {k : NestedKey} {ks : List NestedKey} {v : V} {vs : List V} (h : NV K H k v) (t : NVs K H ks vs) : NVs K H (k :: ks) (v :: vs)
end
mutual
theorem RD.nv {K : PySem.W.Frag} {H : Hp} {bd : List Addr} : ∀ {d : PyData} {v : V} {k : NestedKey}, RD K H bd d v → nk d = some k → NV K H k v
  | .int i, v, k, r, h => by cases h; cases r; exact .int i
  | .tuple ds, v, k, r, h => by
    obtain ⟨ks, h1, rfl⟩ := Option.map_eq_some_iff.mp (show (nks ds).map NestedKey.tup = some k from h)
    cases r with
    | tup h2 to hb t => exact .tup (sqF h2) (RDs.nvs t h1)
    | tupK h2 nd t => exact .tup (.inr h2) (RDs.nvs t h1)
  | .none, v, k, r, h => by cases h
  | .bool _, v, k, r, h => by cases h
  | .str _, v, k, r, h => by cases h
  | .list _, v, k, r, h => by cases h
  | .dict _, v, k, r, h => by cases h
theorem RDs.nvs {K : PySem.W.Frag} {H : Hp} {bd : List Addr} : ∀ {d : List PyData} {v : List V} {k : List NestedKey}, RDs K H bd d v → nks d = some k → NVs K H k v
  | [], v, k, r, h => by cases h; cases r; exact .nil
  | d :: t, v, k, r, h => by
    unfold nks at h
    split at h
    · rename_i k1 l1 a1 a2
      cases h
      cases r with
      | cons r1 r2 => exact .cons (RD.nv r1 a1) (RDs.nvs r2 a2)
    · cases h
end
section
variable {X : Cx} {pins : List (Addr × Obj)} {σ : L2.St} {H : Hp} {s : Shared}
mutual
theorem NV.is (I : Inv X pins σ H s) : ∀ {k : NestedKey} {v : V} {u : Value}, NV X.K H k v → RelV v u → NestedIs s.heap k u
  | .num i, v, u, r, h => by
    cases r with
    | int => obtain ⟨t, rfl⟩ := h; exact .int i t
  | .tup ks, v, u, r, h => by
    cases r with
    | tup h1 t =>
      cases h
      obtain ⟨its, rv, ⟨o, ho, hc, n, hd⟩, _⟩ := I.tuple h1
      exact .tup ho hc hd (by simpa using NVs.is I t rv)
  | .none, v, u, r, h => by cases r
  | .text _, v, u, r, h => by cases r
theorem NVs.is (I : Inv X pins σ H s) : ∀ {k : List NestedKey} {v : List V} {u : List Value}, NVs X.K H k v → Vals v u → NestedAll s.heap k u
  | [], v, u, r, h => by cases r; cases h; exact .nil
  | k :: ks, v, u, r, h => by
    cases r with
    | cons r1 r2 =>
      cases h with
      | cons h1 h2 => exact .cons (NV.is I r1 h1) (NVs.is I r2 h2)
end
/-- a key's value -/
structure NKey (K : PySem.W.Frag) (H : Hp) (a : Addr) (k : NestedKey) : Prop where
  nv : NV K H k (.ref a)
  le : k.depth ≤ 8
  ha : ∀ w w' : World, k.hash w = k.hash w'
theorem NKey.is {a : Addr} {k : NestedKey} (h : NKey X.K H a k) (I : Inv X pins σ H s) : (nestedKind X.prog X.w).is s.heap k a := ⟨h.nv.is I rfl, h.le⟩
structure NDict (K : PySem.W.Frag) (H : Hp) (d : Addr) (xs : List (NestedKey × Addr × Value)) : Prop where
  ob : ∃ ob, H d = some (KpO d ob) ∧ DcE ob xs
  sm : d ≠ sysModules
  ks : ∀ x ∈ xs, NKey K H x.2.1 x.1
theorem NDict.of {d : Addr} {xs : List (NestedKey × Addr × Value)} (h : NDict X.K H d xs) (I : Inv X pins σ H s) : s.heap.DictOfH (nestedKind X.prog X.w) d xs ∧ (d == sysModules) = false := by
  obtain ⟨ob, h1, es, ep, h2, h3, h4, h5, h6⟩ := h.ob
  have z : s.heap.get? d = some ob := (I.hok d _ h1).1
  exact ⟨⟨ob, es, ep, z, h3, h2, h4 _ _, fun x hx => (h.ks x hx).is I, h5⟩, by simpa using h.sm⟩
def rInN (K : PySem.W.Frag) (neg : Bool) : R2 := fun x y H Q => ∃ a d k xs, x = .ref a ∧ y = .ref d ∧ NKey K H a k ∧ NDict K H d xs ∧ Q (.bl (if neg then !(atKey xs k).isSome else (atKey xs k).isSome)) H
theorem op_inN (hu : X.A.units + 10 < cLine) : OpR X (compareOp .In) (rInN X.K false) := by
  intro pins s σ H x y v u Q I rx ry ⟨a, d, k, xs, e1, e2, hk, hd, q⟩
  subst e1 e2
  cases rx
  cases ry
  obtain ⟨z, sm⟩ := hd.of I
  exact wpAny_in_heap (show X.A.units + 1 + 8 < cLine by omega) (hk.is I) sm z ⟨.bl _, H, I.tok _, rfl, q⟩
theorem op_notInN (hu : X.A.units + 10 < cLine) : OpR X (compareOp .NotIn) (rInN X.K true) := by
  intro pins s σ H x y v u Q I rx ry ⟨a, d, k, xs, e1, e2, hk, hd, q⟩
  subst e1 e2
  cases rx
  cases ry
  obtain ⟨z, sm⟩ := hd.of I
  exact wpAny_notIn_heap (show X.A.units + 1 + 8 < cLine by omega) (hk.is I) sm z ⟨.bl _, H, I.tok _, rfl, q⟩
def rIxN (K : PySem.W.Frag) : R2 := fun x y H Q => ∃ a d k xs p v, x = .ref d ∧ y = .ref a ∧ NKey K H a k ∧ NDict K H d xs ∧ atKey xs k = some p ∧ RelV v p.2 ∧ Q v H
theorem ix_n (hu : X.A.units + 10 < cLine) : IxR X (rIxN X.K) := by
  intro value slice pins s σ H x y v u Q I rx ry ⟨a, d, k, xs, p, w, e1, e2, hk, hd, hp, rw', q⟩ hs
  subst e1 e2
  cases rx
  cases ry
  obtain ⟨z, sm⟩ := hd.of I
  exact tail_any z.typeIs PySem.F.slot_dict_getitem.lookup (wpAny_getItem_heap (show X.A.units + 1 + 8 < cLine by omega) (hk.is I) z hp ⟨w, H, I.tok _, rw', q⟩) hs
/-- the same of dicts whose keys are ints and texts -/
def rIxK : R2 := fun x y H Q => ∃ d v, x = .ref d ∧ DGet H d y (some v) ∧ Q v H
theorem ix_k (hu : X.A.units + 10 < cLine) : IxR X rIxK := by
  intro value slice pins s σ H x y v u Q I rx ry ⟨d, w, e1, g, q⟩ hs
  subst e1
  cases rx
  exact tail_any (dict_typeIs I g) PySem.F.slot_dict_getitem.lookup (d_getItem (by omega) I g ry fun w' s' I' rw' => ⟨w, H, I', rw', q⟩) hs
def rInK (neg : Bool) : R2 := fun x y H Q => ∃ d o, y = .ref d ∧ DGet H d x o ∧ Q (.bl (if neg then !o.isSome else o.isSome)) H
theorem op_inK (hu : X.A.units + 10 < cLine) : OpR X (compareOp .In) (rInK false) := by
  intro pins s σ H x y v u Q I rx ry ⟨d, o, e1, g, q⟩
  subst e1
  cases ry
  exact d_in (by omega) I g rx fun s' I' => ⟨.bl _, H, I', rfl, q⟩
theorem op_notInK (hu : X.A.units + 10 < cLine) : OpR X (compareOp .NotIn) (rInK true) := by
  intro pins s σ H x y v u Q I rx ry ⟨d, o, e1, g, q⟩
  subst e1
  cases ry
  exact d_notIn (by omega) I g rx fun s' I' => ⟨.bl _, H, I', rfl, q⟩
/-- d[k] = v -/
def rSetN (K : PySem.W.Frag) : V → V → V → Hp → (Hp → Prop) → Prop := fun o i v H Q => ∃ a d k xs, o = .ref d ∧ i = .ref a ∧ NKey K H a k ∧ NDict K H d xs ∧ xs.length < sizeLine ∧ ∀ (ob : Obj) (u : Value), RelV v u → DcE ob (storedH xs k a u) → Q (upd H d (KpO d ob))
theorem mem_stored {xs : List (NestedKey × Addr × Value)} {k : NestedKey} {a : Addr} {u : Value} {y : NestedKey × Addr × Value} (h : y ∈ storedH xs k a u) : (y.1 = k ∧ y.2.1 = a) ∨ ∃ z ∈ xs, z.1 = y.1 ∧ z.2.1 = y.2.1 := by
  unfold storedH at h
  split at h
  · obtain ⟨z, hz, e⟩ := List.mem_map.mp h
    unfold putAt at e
    by_cases q : z.1 = k
    · rw [if_pos q] at e; subst e; exact .inr ⟨z, hz, rfl, rfl⟩
    · rw [if_neg q] at e; subst e; exact .inr ⟨z, hz, rfl, rfl⟩
  · rcases List.mem_append.mp h with h | h
    · exact .inr ⟨y, h, rfl, rfl⟩
    · cases List.mem_singleton.mp h; exact .inl ⟨rfl, rfl⟩
/-- the same, its count of changes being its length -/
def DictE {prog : Program} {w : World} {K : Type} [DecidableEq K] (knd : HeapKind prog w K) (h : Heap) (d : Addr) (xs : List (K × Addr × Value)) : Prop :=
  ∃ o es, h.get? d = some o ∧ o.ExactDict ∧ o.data = .dict es xs.length ∧ es.toList = xs.map (entryOfKey knd) ∧ (∀ x ∈ xs, knd.is h x.1 x.2.1) ∧ (xs.map (·.1)).Nodup
theorem NDict.ofE {d : Addr} {xs : List (NestedKey × Addr × Value)} (h : NDict X.K H d xs) (I : Inv X pins σ H s) : DictE (nestedKind X.prog X.w) s.heap d xs ∧ (d == sysModules) = false := by
  obtain ⟨ob, h1, es, ep, h2, h3, h4, h5, h6⟩ := h.ob
  subst h6
  have z : s.heap.get? d = some ob := (I.hok d _ h1).1
  exact ⟨⟨ob, es, z, h3, h2, h4 _ _, fun x hx => (h.ks x hx).is I, h5⟩, by simpa using h.sm⟩
theorem DictE.of {prog : Program} {w : World} {K : Type} [DecidableEq K] {knd : HeapKind prog w K} {h : Heap} {d : Addr} {xs : List (K × Addr × Value)} (m : DictE knd h d xs) : h.DictOfH knd d xs := by
  obtain ⟨o, es, h1, h2, h3, h4⟩ := m
  exact ⟨o, es, _, h1, h2, h3, h4⟩
theorem dictSetE {prog : Program} {w : World} {K : Type} [DecidableEq K] {knd : HeapKind prog w K} {A : Around} {E : Value → Shared → Prop} {s : Shared} {d a : Addr} {xs : List (K × Addr × Value)} {k : K} {v : Value} {Q : Unit → Shared → Prop} (hu : knd.room A) (hkey : knd.is s.heap k a) (hm : DictE knd s.heap d xs)
    (hQ : ∀ h', DictE knd h' d (storedH xs k a v) → Heap.SameBut d s.heap h' → Q () { s with heap := h', toks := s.toks + knd.draws k })
    (hsz : xs.length ≤ sizeLine) : wpAny (model prog w) A (dictSet d (.ref a) v) Q E s := by
  obtain ⟨o, es, ho, hc, hd, he, his, hn⟩ := hm
  unfold dictSet
  try with_reducible refine wpAny_holding ?_
  refine wpAny_bind (knd.pyHash hu hkey ?_)
  unfold dictSetHashed
  try with_reducible refine wpAny_holding ?_
  refine wpAny_bind (wpAny_dictFind_heap (s := { s with toks := s.toks + knd.draws k }) hu hkey ho hd he his hn ?_ ?_)
  · intro hno
    have hnot : k ∉ xs.map (·.1) := not_mem_keys_of_get hno
    refine wpAny_bind (wpAny_rule (wpAny_updateDictKeys (hz := by have e := size_of_entries he; omega) (s := { s with toks := s.toks + knd.draws k }) ho hd (hQ _ ⟨_, _, Heap.get?_update_self _ ho (Obj.isFreed_of_dict (Obj.data_mapDictKeys hd _)),
      hc.mapDictKeys _, by rw [storedH_new (atKey_none_of_get hno), List.length_append]; exact Obj.data_mapDictKeys hd _, ?_, ?_, ?_⟩ (Heap.SameBut.update ..))))
    · rw [storedH_new (atKey_none_of_get hno)]
      simp [he, entryOfKey]
    · rw [storedH_new (atKey_none_of_get hno)]
      intro x hx
      rcases List.mem_append.mp hx with hx | hx
      · exact knd.keeps (his x hx) ho hd (Heap.SameBut.update ..)
      · simp only [List.mem_singleton] at hx
        subst hx
        exact knd.keeps hkey ho hd (Heap.SameBut.update ..)
    · rw [storedH_new (atKey_none_of_get hno)]
      rw [List.map_append, List.nodup_append]
      refine ⟨hn, by simp, ?_⟩
      intro x hx y hy
      simp only [List.map_cons, List.map_nil, List.mem_singleton] at hy
      subst hy
      exact fun e => hnot (e ▸ hx)
  · intro j p hj
    refine wpAny_bind (wpAny_rule (wpAny_bind (wpAny_updateDict (s := { s with toks := s.toks + knd.draws k }) ho hd (wpAny_point (hQ _ ⟨_, _, Heap.get?_update_self _ ho (Obj.isFreed_of_dict (Obj.data_mapDict hd _)),
      hc.mapDict _, by rw [storedH_old (atKey_of_get hn hj), List.length_map]; exact Obj.data_mapDict hd _, ?_, ?_, ?_⟩ (Heap.SameBut.update ..))))))
    · rw [storedH_old (atKey_of_get hn hj)]
      have := modify_map_putAt (entryOfKey knd) (fun e : DictEntry => { e with val := v }) k v (fun _ _ => rfl) hn hj
      rw [← he] at this
      obtain ⟨l⟩ := es
      simpa using this
    · rw [storedH_old (atKey_of_get hn hj)]
      intro x hx
      obtain ⟨y, hy, rfl⟩ := List.mem_map.mp hx
      unfold putAt
      split <;> exact knd.keeps (his y hy) ho hd (Heap.SameBut.update ..)
    · rw [storedH_old (atKey_of_get hn hj)]
      rw [keys_map_putAt]; exact hn
theorem setItemE {prog : Program} {w : World} {K : Type} [DecidableEq K] {knd : HeapKind prog w K} {A : Around} {E : Value → Shared → Prop} {s : Shared} {d a : Addr} {xs : List (K × Addr × Value)} {k : K} {v : Value} {Q : Unit → Shared → Prop} (hu : knd.room A.in1) (hkey : knd.is s.heap k a) (hm : DictE knd s.heap d xs)
    (hQ : ∀ h', DictE knd h' d (storedH xs k a v) → Heap.SameBut d s.heap h' → Q () { s with heap := h', toks := s.toks + knd.draws k })
    (hsz : xs.length ≤ sizeLine) : wpAny (model prog w) A (setItem (.ref d) (.ref a) v) Q E s := by
  unfold setItem
  try with_reducible refine wpAny_holding ?_
  refine wpAny_bind (wpAny_sequenceKey hm.of.typeIs (by decide) ?_)
  refine wpAny_bind (wpAny_callSpecial?_slot (name := Str.ofString "__setitem__") hm.of.typeIs F.slot_dict_setitem
    (wpAny_call_entry F.slot_dict_setitem hm.of.typeIs F.entry_dict_setitem ?_ (F.args_dict_setitem_3 _ _ _)))
  show wpAny _ _ (Builtin.Dict.notOrdered "__setitem__" ⟨[.ref d, .ref a, v], []⟩ >>= _) _ _ s
  refine wpAny_bind (wpAny_notOrdered_dict hm.of.typeIs ?_)
  show wpAny _ _ (dictSet d (.ref a) v >>= _) _ _ s
  exact wpAny_bind (dictSetE (hsz := hsz) hu hkey hm fun h' hm' hs' => wpAny_pure ⟨.none, rfl, wpAny_pure (hQ h' hm' hs')⟩)
theorem set_n (hu : X.A.units + 10 < cLine) : PSet X (rSetN X.K) := by
  intro pins s σ H o i v ov iv u Q I ro ri rv h
  obtain ⟨a, d, k, xs, e1, e2, hk, hd, hl, q⟩ := h
  subst e1 e2
  cases ro
  cases ri
  obtain ⟨z, sm⟩ := hd.ofE I
  refine setItemE (hsz := by omega) (show X.A.units + 1 + 8 < cLine by omega) (hk.is I) z fun h' dd' hs => ?_
  obtain ⟨ob', es, hq, h2, h3, h4, h6, h5⟩ := dd'
  obtain ⟨ob, ho, _⟩ := hd.ob
  have de : DcE ob' (storedH xs k a u) := ⟨es, _, h3, h2, fun P w => by
    rw [h4]
    refine List.map_congr_left fun y hy => ?_
    unfold entryOfKey
    have hh : y.1.hash X.w = y.1.hash w := by
      rcases mem_stored hy with ⟨e, _⟩ | ⟨y2, m2, e, _⟩
      · rw [e]; exact hk.ha _ _
      · rw [← e]; exact (hd.ks y2 m2).ha _ _
    show (⟨y.1.hash X.w, _, _⟩ : DictEntry) = ⟨y.1.hash w, _, _⟩
    rw [hh], h5, rfl⟩
  refine ⟨_, d_write I (by rw [ho]; exact True.intro) hs ⟨_, hq⟩ ?_, q ob' u rv de⟩
  refine ⟨hq, ⟨_, hq⟩, fun h1 h2 e k => k _ e⟩
end
end MI
set_option maxRecDepth 100000
set_option maxHeartbeats 4000000
namespace MI
open PySem PySem.Spec PyProof.Rows L2
/-! ## dicts: in, not in, d[k], d[k] = v -/
@[simp] def dctOf (S : Sto) : IV → Option (Bool × List (PyData × PyData))
  | .ref n => match S[n]? with
    | some (.dct kvs) => some (false, kvs)
    | some (.dcn kvs) => some (true, kvs)
    | _ => none
  | .d (.dict kvs) => some (false, kvs)
  | _ => none
@[simp] def kOk (nested : Bool) (k : PyData) : Bool := match nested with
  | true => (nkT k).isSome
  | false => (match k with
    | .int _ => true
    | .str _ => true
    | _ => false)
theorem kbeq_kD (a b : Key) : kbeq (kD a) (kD b) = decide (a = b) := by
  cases a with
  | inl i => cases b with
    | inl j => show decide (i = j) = _; by_cases h : i = j <;> simp [h]
    | inr y => rfl
  | inr x => cases b with
    | inl j => rfl
    | inr y => show decide (x = y) = _; by_cases h : x = y <;> simp [h]
section
variable {K : PySem.W.Frag} {H : Hp} {bd : List Addr}
theorem dk_at {k : Key} : ∀ {kvs : List (PyData × PyData)} {ks : List (Key × V)}, kvs.map (·.1) = ks.map (fun p => kD p.1) → RDs K H bd (kvs.map (·.2)) (ks.map (·.2)) →
    (valV ks k = none ∧ dAt kvs (kD k) = none) ∨ ∃ v vd, valV ks k = some v ∧ dAt kvs (kD k) = some vd ∧ RD K H bd vd v
  | [], [], _, _ => .inl ⟨rfl, rfl⟩
  | [], _ :: _, h, _ => by cases h
  | _ :: _, [], h, _ => by cases h
  | (kd, vd) :: t, (k', v') :: u, h, r => by
    have h1 : kd = kD k' := (List.cons.inj h).1
    have h2 := (List.cons.inj h).2
    subst h1
    cases r with
    | cons r1 r2 =>
      have e := kbeq_kD k' k
      by_cases q : k' = k
      · refine .inr ⟨v', vd, valV_pos q, ?_, r1⟩
        show (if kbeq (kD k') (kD k) = true then some vd else dAt t (kD k)) = some vd
        rw [if_pos (by rw [e]; exact decide_eq_true q)]
      · have e1 : valV ((k', v') :: u) k = valV u k := valV_neg q
        have e2 : dAt ((kD k', vd) :: t) (kD k) = dAt t (kD k) := by
          show (if kbeq (kD k') (kD k) = true then some vd else dAt t (kD k)) = _
          rw [if_neg (by rw [e]; simpa using q)]
        rw [e1, e2]
        exact dk_at h2 r2
theorem dk_rep {k : Key} {y : V} {yd : PyData} (ry : RD K H bd yd y) : ∀ {kvs : List (PyData × PyData)} {ks : List (Key × V)}, kvs.map (·.1) = ks.map (fun p => kD p.1) → RDs K H bd (kvs.map (·.2)) (ks.map (·.2)) →
    (dRep kvs (kD k) yd).map (·.1) = (ks.map fun kv => if kv.1 = k then (kv.1, y) else kv).map (fun p => kD p.1) ∧ RDs K H bd ((dRep kvs (kD k) yd).map (·.2)) ((ks.map fun kv => if kv.1 = k then (kv.1, y) else kv).map (·.2))
  | [], [], _, _ => ⟨rfl, .nil⟩
  | [], _ :: _, h, _ => by cases h
  | _ :: _, [], h, _ => by cases h
  | (kd, vd) :: t, (k', v') :: u, h, r => by
    have h1 : kd = kD k' := (List.cons.inj h).1
    have h2 := (List.cons.inj h).2
    subst h1
    cases r with
    | cons r1 r2 =>
      have e := kbeq_kD k' k
      obtain ⟨i1, i2⟩ := dk_rep (k := k) ry h2 r2
      have ed : dRep ((kD k', vd) :: t) (kD k) yd = if kbeq (kD k') (kD k) = true then (kD k', yd) :: dRep t (kD k) yd else (kD k', vd) :: dRep t (kD k) yd := rfl
      rw [ed]
      by_cases q : k' = k
      · rw [if_pos (by rw [e]; exact decide_eq_true q)]
        simp only [List.map_cons, if_pos q]
        exact ⟨by rw [i1], .cons ry i2⟩
      · rw [if_neg (by rw [e]; simpa using q)]
        simp only [List.map_cons, if_neg q]
        exact ⟨by rw [i1], .cons r1 i2⟩
theorem dk_put {k : Key} {y : V} {yd : PyData} (ry : RD K H bd yd y) {kvs : List (PyData × PyData)} {ks : List (Key × V)} (h : kvs.map (·.1) = ks.map (fun p => kD p.1)) (r : RDs K H bd (kvs.map (·.2)) (ks.map (·.2))) :
    (dPut kvs (kD k) yd).map (·.1) = (putK ks k y).map (fun p => kD p.1) ∧ RDs K H bd ((dPut kvs (kD k) yd).map (·.2)) ((putK ks k y).map (·.2)) := by
  have ed : dPut kvs (kD k) yd = match dAt kvs (kD k) with
    | some _ => dRep kvs (kD k) yd
    | none => kvs ++ [(kD k, yd)] := rfl
  rw [ed]
  rcases dk_at (k := k) h r with ⟨e1, e2⟩ | ⟨v, vd, e1, e2, _⟩
  · rw [e2, putK_new y e1]
    simp only [List.map_append, List.map_cons, List.map_nil]
    exact ⟨by rw [h], r.app (.cons ry .nil)⟩
  · rw [e2]
    unfold putK
    rw [valV_any, e1, if_pos (show (some v).isSome = true from rfl)]
    exact dk_rep ry h r
end
section
variable {c : Ct} {W : WX} {X : Cx} {B Z : List Addr} {H : Hp} {σ : L2.St} {S : Sto}
theorem kD_of {k : PyData} (h : kOk false k = true) : ∃ q : Key, k = kD q := by
  unfold kOk at h
  cases k with
  | int i => exact ⟨.inl i, rfl⟩
  | str x => exact ⟨.inr x, rfl⟩
  | _ => cases h
theorem rd_kD {K : PySem.W.Frag} {bd : List Addr} {q : Key} {x : V} (r : RD K H bd (kD q) x) : x = kV q := by
  cases q with
  | inl i => cases r; rfl
  | inr i => cases r; rfl
theorem KR.keys {K : PySem.W.Frag} {bd : List Addr} : ∀ {kvs : List (PyData × PyData)} {xs : List (NestedKey × Addr × Value)}, KR K H bd kvs xs → ∀ x ∈ xs, NKey K H x.2.1 x.1
  | _, _, .nil => fun _ m => by cases m
  | _, _, .cons hk rk rv rd t => fun x m => by
    rcases List.mem_cons.mp m with e | m
    · subst e; exact ⟨rk.nv (nkT_nk hk).1, (nkT_nk hk).2, fun w w' => nk_hash w w' (nkT_nk hk).1⟩
    · exact KR.keys t x m
theorem nkey_of {K : PySem.W.Frag} {bd : List Addr} {k : PyData} {n : NestedKey} {x : V} (r : RD K H bd k x) (h : nkT k = some n) : ∃ a, x = .ref a ∧ NKey K H a n := by
  obtain ⟨a, rfl⟩ := nkT_ref h r
  exact ⟨a, rfl, r.nv (nkT_nk h).1, (nkT_nk h).2, fun w w' => nk_hash w w' (nkT_nk h).1⟩
theorem dct_at {w : IV} {y : V} {x : V} {b : Bool} {kvs : List (PyData × PyData)} {k : PyData} (s : SR c H B Z S) (rw_ : RI c H B Z w y) (e : dctOf S w = some (b, kvs)) (hk : kOk b k = true) (rk : RD c.K H (B ++ Z) k x) :
    ∃ d, y = .ref d ∧ ((∃ o, DGet H d x o ∧ o.isSome = (dAt kvs k).isSome ∧ ∀ vd, dAt kvs k = some vd → ∃ v, o = some v ∧ RD c.K H (B ++ Z) vd v) ∨
      ∃ a n xs, x = .ref a ∧ NKey c.K H a n ∧ NDict c.K H d xs ∧ (atKey xs n).isSome = (dAt kvs k).isSome ∧ ∀ vd, dAt kvs k = some vd → ∃ p v, atKey xs n = some p ∧ RelV v p.2 ∧ RD c.K H (B ++ Z) vd v) := by
  have low : ∀ (d : Addr) (ks : List (Key × V)), H d = some (.dK ks) → kvs.map (·.1) = ks.map (fun p => kD p.1) → RDs c.K H (B ++ Z) (kvs.map (·.2)) (ks.map (·.2)) → b = false →
      ∃ o, DGet H d x o ∧ o.isSome = (dAt kvs k).isSome ∧ ∀ vd, dAt kvs k = some vd → ∃ v, o = some v ∧ RD c.K H (B ++ Z) vd v := by
    intro d ks h1 h2 h3 hb
    subst hb
    obtain ⟨q, rfl⟩ := kD_of hk
    obtain rfl := rd_kD rk
    refine ⟨_, DGet.k (k := q) h1, ?_⟩
    rcases dk_at (k := q) h2 h3 with ⟨e1, e2⟩ | ⟨v, vd, e1, e2, r⟩
    · rw [e1, e2]; exact ⟨rfl, fun _ z => by cases z⟩
    · rw [e1, e2]; exact ⟨rfl, fun _ z => by cases z; exact ⟨v, rfl, r⟩⟩
  unfold dctOf at e
  split at e
  · rename_i n
    cases rw_ with
    | ref hb =>
      rename_i d
      split at e
      · rename_i kvs' q
        cases e
        obtain ⟨ks, h1, h2, h3⟩ := s.ob n d _ hb q
        exact ⟨d, rfl, .inl (low d ks h1 h2 h3 rfl)⟩
      · rename_i kvs' q
        cases e
        obtain ⟨ob, xs, h1, hs, h2, h3⟩ := s.ob n d _ hb q
        have hk : (nkT k).isSome = true := hk
        obtain ⟨m, hm⟩ := Option.isSome_iff_exists.mp hk
        obtain ⟨a, rfl, nk⟩ := nkey_of rk hm
        refine ⟨d, rfl, .inr ⟨a, m, xs, rfl, nk, ⟨⟨ob, h1, h2⟩, hs, h3.keys⟩, ?_⟩⟩
        rcases h3.at_ hm with ⟨e1, e2⟩ | ⟨a', v, y, vd, e1, e2, r1, r2⟩
        · rw [e1, e2]; exact ⟨rfl, fun _ z => by cases z⟩
        · rw [e1, e2]; exact ⟨rfl, fun _ z => by cases z; exact ⟨_, y, rfl, r1, r2⟩⟩
      · cases e
  · cases e
    cases rw_ with
    | d rw_ =>
      cases rw_ with
      | dct h1 hb h2 h3 => exact ⟨_, rfl, .inl (low _ _ h1 h2 h3 rfl)⟩
  · cases e
@[simp] def cInD (neg : Bool) : O2 := fun v w S => match dctOf S w with
  | some (b, kvs) => (match v with
    | .d k => if kOk b k = true then .ok (.d (.bool (if neg then !(dAt kvs k).isSome else (dAt kvs k).isSome))) S else .bad
    | _ => .bad)
  | none => cInN neg v w S
theorem k_inD {neg : Bool} {r : R2} (k0 : Ok2 c W r (cInN neg)) : Ok2 c W (fun x y H Q => r x y H Q ∨ (rInK neg x y H Q ∨ rInN c.K neg x y H Q)) (cInD neg) := by
  intro σ B Z H S v w x y Q s rv rw_ p
  unfold cInD at p
  split at p
  · rename_i b kvs e
    split at p
    · rename_i k
      split at p
      · rename_i hk
        cases rv with
        | d rk =>
          have q := p.ret s _ (.d (.bl _))
          obtain ⟨d, rfl, h | h⟩ := dct_at s rw_ e hk rk
          · obtain ⟨o, g, ho, _⟩ := h
            exact .inr (.inl ⟨d, o, rfl, g, by rw [ho]; exact q⟩)
          · obtain ⟨a, n, xs, rfl, h1, h2, ho, _⟩ := h
            exact .inr (.inr ⟨a, d, n, xs, rfl, rfl, h1, h2, by rw [ho]; exact q⟩)
      · exact p.elim
    · exact p.elim
  · exact .inl (k0 σ B Z H S v w x y Q s rv rw_ p)
variable {k : Nat}
theorem m_inD (cx : Cxg c W X) (hr : Room k X.A) : Cm c W X .In (cInD false) := ⟨_, cx.K ▸ (op_inA (by have := hr.un; omega)).or ((op_inK (by have := hr.un; omega)).or (op_inN (by have := hr.un; omega))), k_inD k_in⟩
theorem m_niD (cx : Cxg c W X) (hr : Room k X.A) : Cm c W X .NotIn (cInD true) := ⟨_, cx.K ▸ (op_notInA (by have := hr.un; omega)).or ((op_notInK (by have := hr.un; omega)).or (op_notInN (by have := hr.un; omega))), k_inD k_notIn⟩
@[simp] def oIxD : O2 := fun v w S => match dctOf S v with
  | some (b, kvs) => (match w with
    | .d k => if kOk b k = true then (match dAt kvs k with
      | some d => .ok (.d d) S
      | none => .bad) else .bad
    | _ => .bad)
  | none => oIx v w S
theorem k_ixD : Ok2 c W (fun x y H Q => rIx c.K x y H Q ∨ (rIxK x y H Q ∨ rIxN c.K x y H Q)) oIxD := by
  intro σ B Z H S v w x y Q s rv rw_ p
  unfold oIxD at p
  split at p
  · rename_i b kvs e
    split at p
    · rename_i k
      split at p
      · rename_i hk
        split at p
        · rename_i vd hv
          cases rw_ with
          | d rk =>
            obtain ⟨d, rfl, h | h⟩ := dct_at s rv e hk rk
            · obtain ⟨o, g, _, hh⟩ := h
              obtain ⟨v', rfl, r⟩ := hh vd hv
              exact .inr (.inl ⟨d, v', rfl, g, p.ret s _ (.d r)⟩)
            · obtain ⟨a, n, xs, rfl, h1, h2, _, hh⟩ := h
              obtain ⟨p', v', e1, e2, r⟩ := hh vd hv
              exact .inr (.inr ⟨a, d, n, xs, p', v', rfl, rfl, h1, h2, e1, e2, p.ret s _ (.d r)⟩)
        · exact p.elim
      · exact p.elim
    · exact p.elim
  · exact .inl (k_ix σ B Z H S v w x y Q s rv rw_ p)
theorem v_ixD {a b : Expr} {f g : FE} {pos : Pos} (cx : Cxg c W X) (hr : Room k X.A) (ha : PE X a (TEx c W f)) (hb : PE X b (TEx c W g)) (hs : PlainIx b := by intro _ _; rfl) : PE X (.Subscript a b pos) (TEx c W (eOp2 oIxD f g)) :=
  pe_imp (pe_ix (ix_seq.or ((ix_k (by have := hr.un; omega)).or (ix_n (by have := hr.un; omega)))) ha hb hs) fun σ H Q h => two_of (by rw [cx.K]; exact k_ixD) h
/-! d[k] = v -/
@[simp] def stPutD (o i v : IV) (S : Sto) : Option Sto := match o with
  | .ref n => (match S[n]?, i, v with
    | some (.dct kvs), .d k, .d d => if kOk false k = true ∧ kvs.length < sizeLine then some (S.set n (.dct (dPut kvs k d))) else none
    | some (.dcn kvs), .d k, .d d => if kOk true k = true ∧ kvs.length < sizeLine then some (S.set n (.dcn (dPut kvs k d))) else none
    | _, _, _ => stPut o i v S)
  | _ => none
@[simp] def gSbD (o i : FE) : FG := fun v r S => (o r S).to r fun ov S1 => (i r S1).to r fun iv S2 => match stPutD ov iv v S2 with
  | some S3 => .nx r S3
  | none => .bad
theorem g_sbD {o i : FE} : GOk (gSbD o i) := fun v r S => by
  unfold gSbD
  cases o r S with
  | exn n v S => trivial
  | bad => trivial
  | ok ov S1 =>
    show match (Out.to (i r S1) r fun iv S2 => _) with | .nx _ _ => True | .exn _ _ _ _ => True | .bad => True | _ => False
    cases i r S1 with
    | exn n v S => trivial
    | bad => trivial
    | ok iv S2 =>
      show match (match stPutD ov iv v S2 with | some S3 => SOut.nx r S3 | none => SOut.bad) with | .nx _ _ => True | .exn _ _ _ _ => True | .bad => True | _ => False
      cases stPutD ov iv v S2 <;> trivial
theorem PSet.or {r r' : V → V → V → Hp → (Hp → Prop) → Prop} (h : PSet X r) (h' : PSet X r') : PSet X (fun o i v H Q => r o i v H Q ∨ r' o i v H Q) := by
  intro pins s σ H o i v ov iv u Q I ro ri rv q
  rcases q with q | q
  · exact h pins s σ H o i v ov iv u Q I ro ri rv q
  · exact h' pins s σ H o i v ov iv u Q I ro ri rv q
def rSetD3 (K : PySem.W.Frag) : V → V → V → Hp → (Hp → Prop) → Prop := fun o i v H Q => rSetL o i v H Q ∨ (rSetD o i v H Q ∨ rSetN K o i v H Q)
theorem k_putD {o i v : IV} {xo xi xv : V} {S' : Sto} {Q : Hp → Prop} (s : SR c H B Z S) (ro : RI c H B Z o xo) (ri : RI c H B Z i xi) (rv : RI c H B Z v xv) (e : stPutD o i v S = some S')
    (h : ∀ H', Ev B H B H' → SR c H' B Z S' → Q H') : rSetD3 c.K xo xi xv H Q := by
  unfold stPutD at e
  split at e
  · rename_i n
    split at e
    · rename_i kvs k d q
      by_cases hc : kOk false k = true ∧ kvs.length < sizeLine
      case neg => rw [if_neg hc] at e; cases e
      rw [if_pos hc] at e
      cases e
      cases ro with
      | ref hb =>
        rename_i b
        obtain ⟨ks, h1, h2, h3⟩ := s.ob n b _ hb q
        obtain ⟨key, rfl⟩ := kD_of hc.1
        cases ri with
        | d ri =>
          obtain rfl := rd_kD ri
          cases rv with
          | d rv =>
            have hl : ks.length < sizeLine := by
              have := congrArg List.length h2
              simp only [List.length_map] at this
              omega
            obtain ⟨p1, p2⟩ := dk_put (k := key) rv h2 h3
            have ev := Ev.put (o := HO.dK (putK ks key xv)) s hb
            exact .inr (.inl ⟨b, _, rfl, DPut.k h1 hl, h _ ev (s.put hb ⟨_, upd_same, p1, p2.ev ev⟩)⟩)
    · rename_i kvs k d q
      by_cases hc : kOk true k = true ∧ kvs.length < sizeLine
      case neg => rw [if_neg hc] at e; cases e
      rw [if_pos hc] at e
      cases e
      cases ro with
      | ref hb =>
        rename_i b
        obtain ⟨ob, xs, h1, hs, h2, h3⟩ := s.ob n b _ hb q
        have hk : (nkT k).isSome = true := hc.1
        obtain ⟨m, hm⟩ := Option.isSome_iff_exists.mp hk
        cases ri with
        | d ri =>
          obtain ⟨a, rfl, nk⟩ := nkey_of ri hm
          cases rv with
          | d rv =>
            refine .inr (.inr ⟨a, b, m, xs, rfl, rfl, nk, ⟨⟨ob, h1, h2⟩, hs, h3.keys⟩, by rw [← h3.length]; exact hc.2, fun ob' u ru de => ?_⟩)
            have ev := Ev.put (o := KpO b ob') s hb
            exact h _ ev (s.put hb ⟨ob', _, upd_same, hs, de, (h3.put hm ri ru rv).ev ev⟩)
    · exact .inl (k_put s ro ri rv e h)
  · cases e
theorem s_gsbD {o i : Expr} {fo fi : FE} {pos : Pos} (cx : Cxg c W X) (hr : Room k X.A) (ho : PE X o (TEx c W fo)) (hi : PE X i (TEx c W fi))
    (ha : ∀ v, assign (.Subscript o i pos) X.env v = (do
      let ov ← holding [v] (eval o X.env); let iv ← holding [v, ov] (eval i X.env); standAt pos; holding [v, ov, iv] (setItem ov iv v); release [v, ov, iv] []) := by intro _; rfl) : PG X (.Subscript o i pos) (TGx c W (gSbD fo fi)) :=
  ⟨fun pins s σ H v u Q I rv ⟨B, Z, r, S, iv, sr, rr, ri, p⟩ => (pg_sub ho hi (PSet.or set_list (PSet.or (set_dict (by have := hr.un; omega)) (set_n (by have := hr.un; omega)))) ha).run pins s σ H v u Q I rv
    ⟨B, Z, r, S, sr, rr, (Post.to rr p).imp fun ov S1 B1 H1 e1 s1 q1 xo hxo => ⟨B1, Z, r, S1, s1, rr.ev e1, (Post.to (rr.ev e1) q1).imp fun jv S2 B2 H2 e2 s2 q2 xi hxi => by
      split at q2
      · rename_i S3 q3
        have := k_putD s2 (hxo.ev e2) hxi ((ri.ev e1).ev e2) q3 fun H' e3 s3 => q2 σ B2 H' e3 s3 (((rr.ev e1).ev e2).ev e3)
        rw [← cx.K] at this
        exact this
      · exact q2.elim⟩⟩⟩
/-! {} -/
@[simp] def eDNK : FE := fun _ S => .ok (.ref S.length) (S ++ [.dct []])
@[simp] def eDNN : FE := fun _ S => .ok (.ref S.length) (S ++ [.dcn []])
theorem s_dnk {pos : Pos} : PE X (.Dict [] [] pos) (TEx c W eDNK) := pe_imp pe_dnewK fun σ H Q ⟨B, Z, r, S, s, rr, p⟩ => fun a ha => by
  have e := Ev.push (o := HO.dK []) s ha
  exact p (B ++ [a]) _ e (s.push ha ⟨[], upd_same, rfl, .nil⟩) _ (.ref (by rw [← s.len]; simp))
end
end MI
set_option maxRecDepth 100000
set_option maxHeartbeats 4000000
namespace PySem
open Sem (wp)
set_option maxHeartbeats 1000000 in
theorem meets_enumerate_one {v : Value} {ob : Obj} {HS : Heap → Prop} (BG : Begins v ob HS) :
    Meets (Builtin.«enumerate.__new__» ⟨[.type "enumerate", v], []⟩) (fun _ R s => HS s.heap ∧
      R (.ok (.ret (.ref (s.heap.push ob).objs.size))) { s with heap := (s.heap.push ob).push { cls := .type "enumerate", data := .fields #[.none, .bool false, .ref s.heap.objs.size, rawInt 0, .none, .none] } }) :=
  .of_wp fun prog w A R s h => by
    obtain ⟨hp, gg, dr, tk, os⟩ := s; obtain ⟨h1, h⟩ := h
    have subE := sub_enumerate
    have q1 : ∀ {A' : Around} {E : Value → Shared → Prop} {Q : Value → Shared → Prop}, Q (.ref hp.objs.size) ⟨hp.push ob, gg, dr, tk, os⟩ → wpAny (model prog w) A' (pyIter v) Q E ⟨hp, gg, dr, tk, os⟩ :=
      fun q => BG.iter prog w _ _ ⟨hp, gg, dr, tk, os⟩ _ h1 q
    wp_walk using q1
    refine wpAny_stack_any fun st => wpAny_pure ?_
    split
    · rename_i kl _ _ _ _ _
      cases (kl == Value.type "enumerate")
      · wp_walk using q1
        exact ⟨_, rfl, h⟩
      · wp_walk using q1
        exact ⟨_, rfl, h⟩
    · wp_walk using q1
      exact ⟨_, rfl, h⟩
section
variable {prog : Program} {w : World} {A : Around} {E : Value → Shared → Prop} {s : Shared}
theorem enum_one {v : Value} {ob : Obj} {HS : Heap → Prop} {Q : Value → Shared → Prop} (BG : Begins v ob HS) (h1 : HS s.heap)
    (h : ∀ h2, IsEnum h2 (s.heap.objs.size + 1) s.heap.objs.size 0 .none → h2.get? s.heap.objs.size = some ob →
      (∀ b o, s.heap.get? b = some o → h2.get? b = some o) → Q (.ref (s.heap.objs.size + 1)) { s with heap := h2 }) :
    wpAny (model prog w) A (call (.type "enumerate") [v]) Q E s := by
  refine callType_new F.called_enumerate (by decide) (F.typeCall_enumerate_1 _) (F.newCall_enumerate_1 _) (fun obj => F.args_object_init_2 obj _) F.entry_enumerate_new
    (meets_enumerate_one BG) ⟨h1, ?_⟩
  have z1 : (s.heap.push ob).objs.size = s.heap.objs.size + 1 := Heap.size_push ..
  show _ ∧ _
  rw [z1]
  have e1 : IsEnum ((s.heap.push ob).push { cls := .type "enumerate", data := .fields #[.none, .bool false, .ref s.heap.objs.size, rawInt 0, .none, .none] }) (s.heap.objs.size + 1) s.heap.objs.size 0 .none := by
    have z2 := Heap.get?_push_size (s.heap.push ob) (o := { cls := .type "enumerate", data := .fields #[.none, .bool false, .ref s.heap.objs.size, rawInt 0, .none, .none] }) rfl
    rw [z1] at z2; exact z2
  exact ⟨⟨_, e1, rfl⟩, h _ e1 (Heap.get?_push_of_some _ (Heap.get?_push_size _ BG.free)) fun b o x => Heap.get?_push_of_some _ (Heap.get?_push_of_some _ x)⟩
end
end PySem
namespace RZ
open PySem PySem.Spec PyProof.Rows L2
/-- a walk's state: the sequence at a, its iterator -/
structure ItK (it : Addr) (IT : Nat → Heap → Prop) : Prop where
  ob : ∀ i h, IT i h → ∃ o, h.get? it = some o ∧ ∀ v, o.data ≠ .cell v
  kp : ∀ i h h', IT i h → (∀ o, h.get? it = some o → h'.get? it = some o) → IT i h'
structure SqIt (X : Cx) (a it : Addr) (xs : List V) (HG : Hp → Prop) (IT : Nat → Heap → Prop) : Prop where
  dr : ∀ {pins : List (Addr × Obj)} {σ : L2.St} {H : Hp} {s : Shared} (hh : X.A.handled = none) (i : Nat), Inv X pins σ H s → HG H → IT i s.heap → ∃ (its : List Value) (fp : List Addr) (St : Nat → Heap → Prop), Vals xs its ∧ Draws X.prog X.w X.A.in1 it fp its.length (fun i v => its[i]? = some v) St ∧ St i s.heap ∧ (∀ i h, St i h → IT i h) ∧ it ∈ fp ∧ ∀ e, e ≠ it → e ≠ a → e ∉ fp
def ItEF (HG : Hp → Prop) (xs : List V) : It :=
  ⟨fun i H => HG H ∧ i < xs.length, fun i H v H' => ∃ T x o, v = .ref T ∧ H T = none ∧ MI.TupO o ∧ H' = upd H T (.frz o (.tup [.int (i : Nat), x])) ∧ xs[i]? = some x, fun i H => HG H ∧ xs.length = i⟩
theorem turn_enumF {P : Program} {w : World} {K : PySem.W.Frag} {elts : List Expr} {kk : Nat} {tpos : Pos} (a e it : Addr) {xs : List V} {HG : Hp → Prop} {IT : Nat → Heap → Prop} (ik : ItK it IT) (sq : ∀ X : Cx, X.prog = P → X.w = w → X.K = K → SqIt X a it xs HG IT) :
    Turn P w K (.Tuple elts kk tpos) (ItEF HG xs) [e, it] e (fun i h => (∃ old, IsEnum h e it ((i : Nat) : Int) old) ∧ IT i h ∧ e ≠ it ∧ e ≠ a) where
  mem := by simp
  obj := fun i h st b hb => by
    obtain ⟨⟨old, he⟩, hi, _⟩ := st
    have e' : b = e ∨ b = it := by simpa using hb
    rcases e' with z | z
    · rw [z]; exact ⟨_, he, fun v q => nomatch q⟩
    · rw [z]; exact ik.ob i h hi
  keep := fun i h h' st k => by
    obtain ⟨⟨old, he⟩, hi, hne⟩ := st
    exact ⟨⟨old, k e (by simp) _ he⟩, ik.kp i h h' hi fun o q => k it (by simp) o q, hne⟩
  item := by
    intro X hP hw hK hc i pins s σ H E I hf st hg
    subst hP hw hK
    obtain ⟨⟨old, he⟩, hit, hne, hna⟩ := st
    obtain ⟨hG, hlt⟩ := hg
    have hx : xs[i]? = some xs[i] := List.getElem?_eq_getElem hlt
    obtain ⟨its, fp, St, rv, D, hst, up, _, hfp⟩ := (sq X rfl rfl rfl).dr (I.ok.hd hc) i I hG hit
    obtain ⟨u, hu, ru⟩ := rv.get hx
    have hel : e < s.heap.objs.size := Heap.lt_size he
    have hil : it < s.heap.objs.size := by obtain ⟨_, q, _⟩ := ik.ob i _ hit; exact Heap.lt_size q
    refine wpAny_pyNext_enum_itemD D he hst (by rw [← rv.length]; exact hlt) hne (hfp e hne hna) fun x h' tk hP ho hit' hT hsz hk => ?_
    have hP : its[i]? = some x := hP
    rw [hu] at hP
    cases hP
    refine ⟨_, rfl, wpAny_letOwnedTupleGo_enum (s := { s with heap := h', toks := tk + 1 }) ho fun h'' he' sb => ?_⟩
    have hT2 : h''.get? s.heap.objs.size = some { cls := .type "tuple", data := .seq #[.int i tk, u] } := (sb.2 _ (Nat.ne_of_gt hel)).trans hT
    have newT : ObjOk X.prog X.w (upd H s.heap.objs.size (.frz { cls := .type "tuple", data := .seq #[.int i tk, u] } (.tup [.int (i : Nat), xs[i]]))) h'' s.heap.objs.size (.frz { cls := .type "tuple", data := .seq #[.int i tk, u] } (.tup [.int (i : Nat), xs[i]])) :=
      ⟨hT2, by show 2 ≤ sizeLine; decide, [.int i tk, u], .cons ⟨_, rfl⟩ (.cons ru .nil), ⟨_, hT2, rfl, _, rfl⟩⟩
    have I1 : Inv X pins σ (upd H s.heap.objs.size (.frz { cls := .type "tuple", data := .seq #[.int i tk, u] } (.tup [.int (i : Nat), xs[i]]))) { s with heap := h'', toks := tk + 1 } :=
      I.turnedNew (ch := [e, it]) (fun b ob hb q => (sb.2 b (fun z => hb (by simp [z]))).trans (hk b ob (fun z => hb (by simp [z])) (fun z => hb (by simp [z])) q)) hf (Nat.le_refl _) newT
    refine ⟨.ref s.heap.objs.size, _, I1, rfl, ⟨_, xs[i], _, rfl, I.hok.fresh (Nat.le_refl _), ⟨rfl, rfl⟩, rfl, hx⟩, ⟨⟨u, ?_⟩, ik.kp _ _ _ (up _ _ hit') fun o q => (sb.2 it (Ne.symm hne)).trans q, hne, hna⟩, fun b hb => ?_⟩
    · have e1 : ((i + 1 : Nat) : Int) = (i : Int) + 1 := by omega
      rw [e1]; exact he'
    · have hb' : b < s.heap.objs.size := by
        have e' : b = e ∨ b = it := by simpa using hb
        rcases e' with z | z
        · rw [z]; exact hel
        · rw [z]; exact hil
      rw [upd_ne (Nat.ne_of_lt hb')]
      exact (hf b hb).1
  done := by
    intro X hP hw hK hc i pins s σ H E I hf st hg
    subst hP hw hK
    obtain ⟨⟨old, he⟩, hit, hne, hna⟩ := st
    obtain ⟨hG, hn⟩ := hg
    obtain ⟨its, fp, St, rv, D, hst, up, _, hfp⟩ := (sq X rfl rfl rfl).dr (I.ok.hd hc) i I hG hit
    obtain ⟨f0, f1, f2, f3, f4, f5⟩ := hf it (by simp)
    have hn' : i = its.length := by rw [← rv.length]; exact hn.symm
    rw [hn'] at hst
    exact wpAny_pyNext_enum_endD D he hst fun h' eb => ⟨rfl, I.turned (t' := s.toks) (fun b o hb q => eb b o hb q) f0 f1 f3 f4 f5⟩
  self := fun A i s Q E st h => let ⟨⟨_, he⟩, _⟩ := st; wpAny_pyIter_enum he h
theorem itk_list (a it : Addr) : ItK it (fun i h => h.IsListIter it a i) := ⟨fun i h ⟨o, ho, hc, hd⟩ => ⟨o, ho, fun v q => by rw [hd] at q; cases q⟩, fun i h h' hi k => hi.at fun o q => k o q⟩
theorem itk_tup (a it : Addr) : ItK it (fun i h => h.IsTupleIter it a i) := ⟨fun i h ⟨o, ho, hc, hd⟩ => ⟨o, ho, fun v q => by rw [hd] at q; cases q⟩, fun i h h' hi k => hi.at fun o q => k o q⟩
theorem sq_list (X : Cx) (a it : Addr) (xs : List V) : SqIt X a it xs (fun H => SqL X.K H a xs) (fun i h => h.IsListIter it a i) := ⟨fun {pins σ H s} hh i I hG hit => by
  obtain ⟨its, rv, p, hz⟩ := I.list hG
  have ne : a ≠ it := fun z => by
    subst z
    obtain ⟨o, ho, hc, _⟩ := p.isList
    obtain ⟨o2, ho2, hc2, _⟩ := hit
    rw [ho] at ho2; cases ho2
    rw [hc] at hc2; exact absurd hc2 (by decide)
  have D := Draws.list (prog := X.prog) (w := X.w) (A := X.A.in1) hh it a ne its.toArray
  refine ⟨its, [it, a], fun i h => h.IsListIter it a i ∧ h.IsList a its.toArray, rv, (by simpa using D), ⟨hit, p.isList⟩, fun i h q => q.1, by simp, fun e h1 h2 m => ?_⟩
  have : e = it ∨ e = a := by simpa using m
  rcases this with z | z
  · exact h1 z
  · exact h2 z⟩
theorem sq_tup (X : Cx) (a it : Addr) (xs : List V) : SqIt X a it xs (fun H => SqT X.K H a xs) (fun i h => h.IsTupleIter it a i) := ⟨fun {pins σ H s} hh i I hG hit => by
  obtain ⟨its, rv, p, hz⟩ := I.tuple hG
  have p : s.heap.IsTuple a its.toArray := p
  have ne : a ≠ it := fun z => by
    subst z
    obtain ⟨o, ho, hc, _⟩ := p
    obtain ⟨o2, ho2, hc2, _⟩ := hit
    rw [ho] at ho2; cases ho2
    rw [hc] at hc2; exact absurd hc2 (by decide)
  have D := Draws.tuple (prog := X.prog) (w := X.w) (A := X.A.in1) hh it a ne its.toArray
  refine ⟨its, [it, a], fun i h => h.IsTupleIter it a i ∧ h.IsTuple a its.toArray, rv, (by simpa using D), ⟨hit, p⟩, fun i h q => q.1, by simp, fun e h1 h2 m => ?_⟩
  have : e = it ∨ e = a := by simpa using m
  rcases this with z | z
  · exact h1 z
  · exact h2 z⟩
def iEnumF (K : PySem.W.Frag) (ta : TA) : TI := fun σ H R => ta σ H fun vs H1 => ∃ a xs, vs = [.ref a] ∧ ((SqL K H1 a xs ∧ R (ItEF (fun H => SqL K H a xs) xs) H1) ∨ (SqT K H1 a xs ∧ R (ItEF (fun H => SqT K H a xs) xs) H1))
theorem pi_enumF {X : Cx} {e : Expr} {ta : TA} {p pos tpos : Pos} {elts : List Expr} {kk : Nat} (hg : Gl X "enumerate") (hm : X.mg "enumerate" = none) (ha : PA X [e] ta) (hs : starEach [e] X.env = [(false, eval e X.env)] := by rfl) :
    PI X (.Tuple elts kk tpos) (.Call (.Name "enumerate" p) [e] [] pos) (iEnumF X.K ta) := by
  refine ⟨fun pins s σ H R I h => ?_⟩
  refine Call_ (ld_blt I hg hm boot_enumerate (PyProof.Rows.callWith_type1 (thn (ha.run pos pins s σ H _ I h) fun us s1 ⟨vs, H1, I1, r1, q1⟩ => ?_) hs rfl))
  obtain ⟨a, xs, ex, q⟩ := q1
  subst ex
  cases r1 with
  | cons r rr =>
    cases rr
    cases r
    have fresh : ∀ b, b ∈ [s1.heap.objs.size + 1, s1.heap.objs.size] → FpOk X pins H1 b := fun b hb => by
      have e' : b = s1.heap.objs.size + 1 ∨ b = s1.heap.objs.size := by simpa using hb
      have hle : s1.heap.objs.size ≤ b := by
        rcases e' with z | z
        · rw [z]; exact Nat.le_add_right _ _
        · rw [z]; exact Nat.le_refl _
      exact I1.fpOk hle (I1.hok.fresh hle)
    rcases q with ⟨hq, q⟩ | ⟨hq, q⟩
    · obtain ⟨its, rv, p', hz⟩ := I1.list hq
      have hl : a < s1.heap.objs.size := by obtain ⟨o, ho, _⟩ := p'.isList; exact Heap.lt_size ho
      refine enum_one (begins_list a its.toArray) p'.isList fun h' he hob hk => wpAny_pyIter_enum he ?_
      have I2 : Inv X pins σ H1 { s1 with heap := h' } := I1.kept (t' := s1.toks) hk
      exact ⟨s1.heap.objs.size + 1, [s1.heap.objs.size + 1, s1.heap.objs.size], _, _, H1, rfl, I2, turn_enumF a (s1.heap.objs.size + 1) s1.heap.objs.size (itk_list a _) (fun Y _ _ hK => by rw [← hK]; exact sq_list Y a _ xs), ⟨⟨.none, he⟩, ⟨_, hob, rfl, rfl⟩, Nat.succ_ne_self _, Ne.symm (Nat.ne_of_lt (Nat.lt_succ_of_lt hl))⟩, fresh, q⟩
    · obtain ⟨its, rv, p', hz⟩ := I1.tuple hq
      have p' : s1.heap.IsTuple a its.toArray := p'
      have hl : a < s1.heap.objs.size := by obtain ⟨o, ho, _⟩ := p'; exact Heap.lt_size ho
      refine enum_one (begins_tuple a its.toArray) p' fun h' he hob hk => wpAny_pyIter_enum he ?_
      have I2 : Inv X pins σ H1 { s1 with heap := h' } := I1.kept (t' := s1.toks) hk
      exact ⟨s1.heap.objs.size + 1, [s1.heap.objs.size + 1, s1.heap.objs.size], _, _, H1, rfl, I2, turn_enumF a (s1.heap.objs.size + 1) s1.heap.objs.size (itk_tup a _) (fun Y _ _ hK => by rw [← hK]; exact sq_tup Y a _ xs), ⟨⟨.none, he⟩, ⟨_, hob, rfl, rfl⟩, Nat.succ_ne_self _, Ne.symm (Nat.ne_of_lt (Nat.lt_succ_of_lt hl))⟩, fresh, q⟩
end RZ
namespace MI
open PySem PySem.Spec PyProof.Rows L2
section
variable {c : Ct} {W : WX} {X : Cx} {B Z : List Addr} {H : Hp} {σ : L2.St}
@[simp] def iEn (f : FE) : FI := fun r S => (f r S).bind fun v S' => match frozen v with
  | some ds => if ds.length < sizeLine then .ok (enumD ds) S' else .bad
  | none => .bad
theorem enum_at {as : List PyData} {i : Nat} (h1 : i < as.length) : (enumD as)[i]? = some (.tuple [.int (i : Nat), as[i]]) := by
  have h : i < ((List.range as.length).zip as).length := by rw [List.length_zip, List.length_range]; omega
  unfold enumD
  rw [List.getElem?_map, List.getElem?_eq_getElem h, List.getElem_zip, List.getElem_range] <;> rfl
theorem walk_enumF {HG : Hp → Prop} {xs : List V} : Walk (RZ.ItEF HG xs) xs.length HG (YPairF (fun i => some (.int (i : Nat))) fun i => xs[i]?) := by
  refine ⟨fun i _ hi q => ⟨q, hi⟩, fun _ q => ⟨q, rfl⟩, fun i H v H' _ q y => ?_⟩
  obtain ⟨T, x, o, h1, h2, to, h3, h4⟩ := y
  exact ⟨T, .int (i : Nat), x, o, h1, h2, to, h3, rfl, h4⟩
theorem gives_enum {as : List PyData} {xs : List V} {HG : Hp → Prop} (kg : ∀ B' H', Ev B H B' H' → HG H') (ra : RDs c.K H (B ++ Z) as xs) : Gives c B Z H (RZ.ItEF HG xs) (enumD as) := by
  refine gives_pair (as := as) (bs := as) _ walk_enumF kg _ (by simp [enumD, ra.length]) fun i hi => ?_
  have h1 : i < as.length := by rw [ra.length]; omega
  refine ⟨.int (i : Nat), as[i], enum_at h1, fun x q => ?_, fun x q => ?_⟩
  · cases q; exact .int _
  · obtain ⟨z, g1, g2⟩ := ra.get (List.getElem?_eq_getElem h1)
    rw [g1] at q; cases q; exact g2
theorem s_ien {e : Expr} {f : FE} {p pos tpos : Pos} {elts : List Expr} {kk : Nat} (hK : c.K = X.K) (hg : Gl X "enumerate") (hm : X.mg "enumerate" = none) (h : PE X e (TEx c W f)) (hs : starEach [e] X.env = [(false, eval e X.env)] := by rfl) :
    PI X (.Tuple elts kk tpos) (.Call (.Name "enumerate" p) [e] [] pos) (TIx c W (iEn f)) :=
  pi_imp (RZ.pi_enumF hg hm (pa_cons h pa_nil hs) hs) fun σ H R ⟨B, Z, r, S, s, rr, q⟩ => ⟨B, Z, r, S, s, rr, (Post.bind q).imp fun v S1 B1 H1 e1 s1 q x hx => by
    rw [← hK]
    split at q
    · rename_i ds q1
      split at q
      · unfold frozen at q1
        split at q1
        · cases q1
          cases hx with
          | d hx =>
            obtain ⟨a, _, rfl, _⟩ := id hx.lstS
            obtain ⟨xs, k1, r1⟩ := hx.lstE
            exact ⟨a, xs, rfl, .inl ⟨k1 _ _ (Ev.refl s1), q.ret s1 _ (gives_enum (fun B' H' e => k1 _ _ e) r1)⟩⟩
        · cases q1
          cases hx with
          | d hx =>
            obtain ⟨a, _, rfl, _⟩ := id hx.tupS
            obtain ⟨xs, k1, r1⟩ := hx.tupE
            exact ⟨a, xs, rfl, .inr ⟨k1 _ _ (Ev.refl s1), q.ret s1 _ (gives_enum (fun B' H' e => k1 _ _ e) r1)⟩⟩
        · cases q1
      · exact q.elim
    · exact q.elim⟩
end
end MI
set_option maxRecDepth 100000
set_option maxHeartbeats 4000000
namespace MI
open PySem PySem.Spec PyProof.Rows L2
open PySem.W (alike alikeAll AlikeAll minD maxD dataLt min_list_data min_tuple_data max_list_data max_tuple_data)
/-! ## min(l), max(l) of data -/
mutual
/-- of one shape: ints, tuples of one length -/
@[simp] def sk : PyData → PyData → Bool
  | .int _, .int _ => true
  | .tuple xs, .tuple ys => sks xs ys
  | _, _ => false
@[simp] def sks : List PyData → List PyData → Bool
  | [], [] => true
  | x :: xs, y :: ys => if sk x y = true then sks xs ys else false
  | _, _ => false
end
def noN : PyData → Bool
  | .none => false
  | _ => true
def alB (ds : List PyData) : Bool := match ds with
  | [] => false
  | x :: xs => if (x :: xs).all (sk x) = true then true else ((x :: xs).all fun y => (x :: xs).all fun z => alike y z) && (x :: xs).all noN
@[simp] def mmOk (ds : List PyData) : Bool := SeqAt.shaped (.list ds) && (decide (PyData.depthAll ds ≤ 60) && alB ds)
section
variable {c : Ct} {W : WX} {X : Cx} {B Z : List Addr} {H : Hp} {σ : L2.St} {S : Sto}
@[simp] def bMM (g : PyData → List PyData → PyData) : FN := fun is S => match is with
  | [v] => (match seqOf S v with
    | some ds => (match ds with
      | x :: xs => if mmOk (x :: xs) = true then .ok (.d (g x xs)) S else .bad
      | [] => .bad)
    | none => .bad)
  | _ => .bad
variable {k : Nat}
end
end MI
set_option maxRecDepth 100000
set_option maxHeartbeats 4000000
namespace MI
open PySem PySem.Spec PyProof.Rows L2
/-! ## dict comprehensions -/
theorem dc_it {J : It} {n : Nat} {G : Hp → Prop} {Y : Nat → Hp → V → Hp → Prop} (w : Walk J n G Y) {g : TG} {tt : TT} {tk tv : TE} {vs : List Nat} {σ : L2.St} {H1 : Hp} {D : Addr} {Qd : Hp → Prop} (Pv : Nat → Hp → Prop) (h0 : Pv 0 (upd H1 D (.dK []))) (hG : ∀ i H, i ≤ n → Pv i H → G H)
    (hs : ∀ i x H H', i < n → Pv i H → Y i H x H' → g x (L2.wipe σ vs) H' fun σ2 H2 => L2.wipe σ2 vs = L2.wipe σ vs ∧ tt σ2 H2 fun b H3 =>
      if b = true then tk σ2 H3 fun y H4 => tv σ2 H4 fun z H5 => ∃ kvs k, y = kV k ∧ H5 D = some (.dK kvs) ∧ kvs.length < sizeLine ∧ Pv (i + 1) (upd H5 D (.dK (putK kvs k z))) else Pv (i + 1) H3) (hd : ∀ H, Pv n H → Qd H) :
    ∃ Wd : Nat → Nat → Hp → Prop, (∃ m, Wd 0 m (upd H1 D (.dK []))) ∧ ∀ i m H, Wd i m H →
      (J.stop i H ∧ Qd H) ∨ (J.go i H ∧ ∃ Nx : Hp → Prop, (∀ H', Nx H' → ∃ m', m' < m ∧ Wd (i + 1) m' H') ∧ ∀ x H', J.yld i H x H' → g x (L2.wipe σ vs) H' fun σ2 H2 => L2.wipe σ2 vs = L2.wipe σ vs ∧ tt σ2 H2 fun b H3 =>
        if b = true then tk σ2 H3 fun y H4 => tv σ2 H4 fun z H5 => ∃ kvs k, y = kV k ∧ H5 D = some (.dK kvs) ∧ kvs.length < sizeLine ∧ Nx (upd H5 D (.dK (putK kvs k z))) else Nx H3) := by
  refine ⟨fun i m H => m = n - i ∧ i ≤ n ∧ Pv i H, ⟨n, by simp, Nat.zero_le _, h0⟩, ?_⟩
  rintro i m H ⟨rfl, hi, p⟩
  have q := hG i H hi p
  by_cases hlt : i < n
  · refine .inr ⟨w.goes i H hlt q, Pv (i + 1), fun H' p' => ⟨n - (i + 1), by omega, rfl, hlt, p'⟩, fun x H' y => hs i x H H' hlt p (w.yields i H x H' hlt q y)⟩
  · have e : i = n := by omega
    subst e
    exact .inl ⟨w.stops H q, hd H p⟩
section
variable {c : Ct} {W : WX} {X : Cx} {B Z B1 : List Addr} {H H1 : Hp} {σ : L2.St}
def dcL (g : FG) (t : FT) (ek ev : FE) (r0 : Rho) : List PyData → List (PyData × PyData) → Sto → Out (List (PyData × PyData))
  | [], acc, S => .ok acc S
  | d :: ds, acc, S => match g (.d d) r0 S with
    | .nx r1 S1 => (t r1 S1).bind fun k S2 => if k = true then (ek r1 S2).bind fun kv S3 => (ev r1 S3).bind fun vv S4 => (match kv, vv with
        | .d kd, .d vd => if kOk false kd = true then dcL g t ek ev r0 ds (dPut acc kd vd) S4 else .bad
        | _, _ => .bad) else dcL g t ek ev r0 ds acc S2
    | _ => .bad
@[simp] def dcR (it : FI) (g : FG) (t : FT) (ek ev : FE) (vs : List Nat) : Rho → Sto → Out (List (PyData × PyData)) := fun r S => (it r S).bind fun ds S1 => if ds.length ≤ 1000000 then (match dcL g t ek ev (wipeR r vs) ds [] S1 with
  | .exn _ _ _ => .bad
  | o => o) else .bad
@[simp] def eDc (it : FI) (g : FG) (t : FT) (ek ev : FE) (vs : List Nat) : FE := fun r S => (dcR it g t ek ev vs r S).bind fun kvs S' => .ok (.d (.dict kvs)) S'
theorem dPut_len (kvs : List (PyData × PyData)) (k v : PyData) : (dPut kvs k v).length ≤ kvs.length + 1 := by
  have e : dPut kvs k v = match dAt kvs k with
    | some _ => dRep kvs k v
    | none => kvs ++ [(k, v)] := rfl
  rw [e]
  have rl : ∀ l : List (PyData × PyData), (dRep l k v).length = l.length := fun l => by
    induction l with
    | nil => rfl
    | cons p t ih =>
      have e2 : dRep (p :: t) k v = if kbeq p.1 k = true then (p.1, v) :: dRep t k v else p :: dRep t k v := rfl
      rw [e2]
      split <;> simp [ih]
  split
  · rw [rl]; omega
  · simp
theorem dc_of {J : It} {g : FG} {t : FT} {ek ev : FE} {vs : List Nat} {ds : List PyData} {all : List (PyData × PyData)} {r : Rho} {S S9 : Sto} {D : Addr} {Qd : Hp → Prop} (hg : GOk g) (w : Gives c B Z H J ds) (s : SR c H B Z S) (rr : RR c H B Z r σ) (hD : H D = none) (hl : ds.length ≤ 1000000)
    (ha : dcL g t ek ev (wipeR r vs) ds [] S = .ok all S9)
    (fin : ∀ B' H' ks, Ev B H B' H' → SR c H' B' (D :: Z) S9 → H' D = some (.dK ks) → all.map (·.1) = ks.map (fun p => kD p.1) → RDs c.K H' (B' ++ D :: Z) (all.map (·.2)) (ks.map (·.2)) → Qd H') :
    ∃ Wd : Nat → Nat → Hp → Prop, (∃ m, Wd 0 m (upd H D (.dK []))) ∧ ∀ i m H', Wd i m H' → (J.stop i H' ∧ Qd H') ∨ (J.go i H' ∧ ∃ Nx : Hp → Prop, (∀ H2, Nx H2 → ∃ m', m' < m ∧ Wd (i + 1) m' H2) ∧ ∀ x H2, J.yld i H' x H2 →
      TGw c W0 vs g x (L2.wipe σ vs) H2 fun σ2 H3 => L2.wipe σ2 vs = L2.wipe σ vs ∧ TTx c W0 t σ2 H3 fun b H4 => if b = true then TEx c W0 ek σ2 H4 fun y H5 => TEx c W0 ev σ2 H5 fun z H6 => ∃ kvs k, y = kV k ∧ H6 D = some (.dK kvs) ∧ kvs.length < sizeLine ∧ Nx (upd H6 D (.dK (putK kvs k z))) else Nx H4) := by
  obtain ⟨G, Y, wk, kg, ky⟩ := w
  refine dc_it wk (fun i H' => ∃ B' S' acc ks, Ev B H B' H' ∧ SR c H' B' (D :: Z) S' ∧ H' D = some (.dK ks) ∧ acc.map (·.1) = ks.map (fun p => kD p.1) ∧ RDs c.K H' (B' ++ D :: Z) (acc.map (·.2)) (ks.map (·.2)) ∧ acc.length ≤ i ∧ dcL g t ek ev (wipeR r vs) (ds.drop i) acc S' = .ok all S9)
    ⟨B, S, [], [], Ev.new s hD, s.newZ hD (.inr ⟨_, rfl⟩), upd_same, rfl, .nil, Nat.le_refl _, ha⟩ (fun i H' _ ⟨B', S', acc, ks, e', _⟩ => kg B' H' e') ?_ ?_
  · rintro i x H' H2 hi ⟨B', S', acc, ks, e', s', hx, rk, ra, hlen, hL⟩ y
    have hz : ∀ z, z ∈ D :: Z → z ∈ Z ∨ H z = none := fun z m => by
      rcases List.mem_cons.mp m with m | m
      · exact .inr (by rw [m]; exact hD)
      · exact .inl m
    obtain ⟨e2, s2, d, hd, rd⟩ := ky (D :: Z) hz i B' H' S' x H2 hi e' s' y
    have hds : ds.drop i = d :: ds.drop (i + 1) := by
      rw [List.drop_eq_getElem_cons hi]
      have := List.getElem?_eq_getElem hi
      rw [hd] at this
      cases this
      rfl
    rw [hds] at hL
    unfold dcL at hL
    have go := hg (.d d) (wipeR r vs) S'
    cases hgo : g (.d d) (wipeR r vs) S' with
    | nx r1 S1 =>
      rw [hgo] at hL
      obtain ⟨k, S2, ht, hL⟩ := bind_ok hL
      refine ⟨B', D :: Z, wipeR r vs, S', .d d, s2, (rr.wipe vs).evZ (e'.trans e2) hD, .d rd, ?_⟩
      rw [hgo]
      intro σ2 B3 H3 e3 s3 rr3 hw
      refine ⟨hw.trans (wipe_idem σ vs), B3, D :: Z, r1, S1, s3, rr3, ?_⟩
      rw [ht]
      intro B4 H4 e4 s4
      have e04 := ((e'.trans e2).trans e3).trans e4
      have eD4 := (e2.trans e3).trans e4
      have nD : D ∉ B' := s'.zb D List.mem_cons_self
      have hx4 : H4 D = some (.dK ks) := eD4.keep D _ hx nD ntD
      have ra4 := ra.ev eD4
      cases k with
      | false =>
        rw [if_neg (by decide)] at hL
        dsimp only
        rw [if_neg Bool.false_ne_true]
        exact ⟨B4, S2, acc, ks, e04, s4, hx4, rk, ra4, Nat.le_succ_of_le hlen, hL⟩
      | true =>
        rw [if_pos rfl] at hL
        dsimp only
        rw [if_pos rfl]
        obtain ⟨v, S3, hv, hL⟩ := bind_ok hL
        obtain ⟨v2, S4, hv2, hL⟩ := bind_ok hL
        refine ⟨B4, D :: Z, r1, S2, s4, rr3.ev e4, ?_⟩
        rw [hv]
        intro B5 H5 e5 s5 y hy
        refine ⟨B5, D :: Z, r1, S3, s5, (rr3.ev e4).ev e5, ?_⟩
        rw [hv2]
        intro B6 H6 e6 s6 y2 hy2
        split at hL
        · rename_i kd vd _
          by_cases hkk : kOk false kd = true
          case neg => rw [if_neg hkk] at hL; cases hL
          rw [if_pos hkk] at hL
          obtain ⟨q, rfl⟩ := kD_of hkk
          cases hy with
          | d hy =>
            obtain rfl := rd_kD hy
            have nD4 : D ∉ B4 := s4.zb D List.mem_cons_self
            have hx6 := (e5.trans e6).keep D _ hx4 nD4 ntD
            have ra6 := ra4.ev (e5.trans e6)
            cases hy2 with
            | d hy2 =>
              have w := s6.wrZ (o := HO.dK (putK ks q y2)) (.inr ⟨_, hx6⟩) (.inr ⟨_, rfl⟩)
              have e6D : Ev B H B6 (upd H6 D (.dK (putK ks q y2))) := evD ((e04.trans e5).trans e6) hD (.inr ⟨_, hx6⟩)
              obtain ⟨p1, p2⟩ := dk_put (k := q) hy2 rk ra6
              have lens := congrArg List.length rk
              simp only [List.length_map] at lens
              refine ⟨ks, q, rfl, hx6, ?_, B6, S4, dPut acc (kD q) vd, putK ks q y2, e6D, w.1, upd_same, p1, ?_, ?_, hL⟩
              · have : sizeLine = 16777216 := by decide
                omega
              · exact RDs.mono (fun a u h hb _ => by
                  have : a ≠ D := fun q => hb (List.mem_append_right _ (by rw [q]; exact List.mem_cons_self))
                  rw [upd_ne this]; exact h) (fun _ m => .inl m) p2
              · have := dPut_len acc (kD q) vd
                omega
        · cases hL
    | exn n v r1 S1 => rw [hgo] at hL; cases hL
    | bad => rw [hgo] at hL; cases hL
    | ret v S1 => rw [hgo] at go; exact go.elim
    | brk r1 S1 => rw [hgo] at go; exact go.elim
    | ct r1 S1 => rw [hgo] at go; exact go.elim
  · rintro H' ⟨B', S', acc, ks, e', s', hx, rk, ra, hlen, hL⟩
    rw [List.drop_length] at hL
    cases hL
    exact fin B' H' ks e' s' hx rk ra
theorem tdc_fr {it : FI} {g : FG} {t : FT} {ek ev : FE} {vs : List Nat} {Q : VK} (hg : GOk g) (h : TEx c W (eDc it g t ek ev vs) σ H Q) : tDc (TIx c W it) (TGw c W0 vs g) (TTx c W0 t) (TEx c W0 ek) (TEx c W0 ev) vs σ H Q := by
  obtain ⟨B, Z, r, S, s, rr, p⟩ := h
  refine ⟨B, Z, r, S, s, rr, ?_⟩
  cases hi : it r S with
  | bad =>
    have hR : eDc it g t ek ev vs r S = .bad := by simp only [eDc, dcR]; rw [hi] <;> rfl
    rw [hR] at p
    exact p
  | exn n v S1 =>
    have hR : eDc it g t ek ev vs r S = .exn n v S1 := by simp only [eDc, dcR]; rw [hi] <;> rfl
    rw [hR] at p
    exact p
  | ok ds S1 =>
    have hR : eDc it g t ek ev vs r S = (if ds.length ≤ 1000000 then (match dcL g t ek ev (wipeR r vs) ds [] S1 with
      | .exn _ _ _ => Out.bad
      | o => o) else .bad).bind fun kvs S' => .ok (.d (.dict kvs)) S' := by simp only [eDc, dcR]; rw [hi] <;> rfl
    rw [hR] at p
    intro B1 H1 e1 s1 J w D hD
    by_cases hl : ds.length ≤ 1000000
    case neg => rw [if_neg hl] at p; exact p.elim
    rw [if_pos hl] at p
    cases hL : dcL g t ek ev (wipeR r vs) ds [] S1 with
    | bad => rw [hL] at p; exact p.elim
    | exn n v S9 => rw [hL] at p; exact p.elim
    | ok all S9 =>
      rw [hL] at p
      have p : Post c W B Z H σ (.ok (.d (.dict all)) S9 : Out IV) (fun v S' B' H' => ∀ x, RI c H' B' Z v x → Q x H') := p
      exact dc_of hg w s1 (rr.ev e1) hD hl hL fun B' H' ks e' s' hx rk ra => (p.far e1) B' H' e' s'.less _ (.d (.dct hx (not_in s' s1 hD) rk ra.less))
theorem s_dc {kx vx tg iter : Expr} {ifs : List Expr} {scope : Scope} {own : List (Str × Nat)} {pos : Pos} {it : FI} {g : FG} {t : FT} {ek ev : FE} (hc : X.calm = true) (hN : X.N.Nodup) (hi : PI X tg iter (TIx c W it)) (ok : BlkOk X.N X.env.scope scope own) (hgo : GOk g)
    (hg : Blk X scope fun Y => PG Y tg (TGw c W0 (own.map (·.2)) g)) (ht : Blk X scope fun Y => PTs Y ifs (TTx c W0 t)) (hk : Blk X scope fun Y => PE Y kx (TEx c W0 ek)) (he : Blk X scope fun Y => PE Y vx (TEx c W0 ev)) (hs : ∀ x, foldedSetIterable iter X.env x = pure x := by intro _; rfl) :
    PE X (.DictComp kx vx [⟨tg, iter, ifs, 0⟩] scope pos) (TEx c W (eDc it g t ek ev (own.map (·.2)))) := pe_imp (pe_dc hc hN hi ok hg ht hk he hs) fun _ _ _ => tdc_fr hgo
end
end MI
set_option maxRecDepth 100000
set_option maxHeartbeats 4000000
namespace MI
open PySem PySem.Spec PyProof.Rows L2
section
variable {c : Ct} {W : WX} {X : Cx} {B Z B1 B' : List Addr} {H H1 H' : Hp} {σ : L2.St}
/-! ### {k: v}, k a tuple -/
theorem TEx.mono {f : FE} {σ : L2.St} {H : Hp} {Q Q' : VK} (k : ∀ x H, Q x H → Q' x H) (h : TEx c W f σ H Q) : TEx c W f σ H Q' := by
  obtain ⟨B, Z, r, S, s, rr, p⟩ := h
  exact ⟨B, Z, r, S, s, rr, p.imp fun v S' B' H' e s' q x hx => k _ _ (q x hx)⟩
@[simp] def eDis1 (fk fv : FE) : FE := fun r S => (fk r S).bind fun v S1 => (fv r S1).bind fun w S2 => match v, w with
  | .d kd, .d vd => if kOk true kd = true then .ok (.ref S2.length) (S2 ++ [.dcn [(kd, vd)]]) else .bad
  | _, _ => .bad
variable {k : Nat}
/-! x, y, z = a, b, c -/
@[simp] def sPar3 (i j l : Nat) (f : FA) : FS := fun r S => (f r S).to r fun vs S' => match vs with
  | [u, v, w] => .nx (((r.set i (some u)).set j (some v)).set l (some w)) S'
  | _ => .bad
theorem s_par3 {i j l : Nat} {x y z : Str} {a1 a2 a3 : Expr} {f : FA} {px py pz pt pos : Pos} {kt k2 pt2} (hc : X.calm = true) (hN : X.N.Nodup) (hi : X.N[i]? = some x) (hj : X.N[j]? = some y) (hl : X.N[l]? = some z) (hij : i ≠ j) (hil : i ≠ l) (hjl : j ≠ l)
    (hx : X.env.scope.names.lookup x = some .local) (hy : X.env.scope.names.lookup y = some .local) (hz : X.env.scope.names.lookup z = some .local) (ha : PA X [a1, a2, a3] (TAx c W f))
    (hw : swappedStores [.Tuple [.Name x px, .Name y py, .Name z pz] kt pt] (.Tuple [a1, a2, a3] k2 pt2) X.env = pure (some [x, y, z])) (hs : swapsWithSole [.Tuple [.Name x px, .Name y py, .Name z pz] kt pt] (.Tuple [a1, a2, a3] k2 pt2) pos.line X.env = pure false := by rfl) :
    PS X (.Assign [.Tuple [.Name x px, .Name y py, .Name z pz] kt pt] (.Tuple [a1, a2, a3] k2 pt2) pos) (TSx c W (sPar3 i j l f)) :=
  ps_imp (ps_par3 hc hN hi hj hl hij hil hjl hx hy hz ha hw hs) fun D σ H ⟨B, Z, r, S, s, rr, p⟩ => ⟨B, Z, r, S, s, rr, (Post.to rr p).imp fun vs S' B' H' e s' q xs hxs => by
    split at q
    · cases hxs with
      | cons h1 t =>
        cases t with
        | cons h2 t =>
          cases t with
          | cons h3 t =>
            cases t
            exact ⟨_, _, _, rfl, q.nxr s' ((((rr.ev e).set h1 i).set h2 j).set h3 l)⟩
    · exact q.elim⟩
end
end MI
set_option maxRecDepth 100000
set_option maxHeartbeats 4000000
namespace MI
open PySem PySem.Spec PyProof.Rows L2
section
variable {c : Ct} {W : WX} {X : Cx}
/-! ## ==, != of lists of the store -/
@[simp] def cEqS : O2 := fun v w S => match v, w with
  | .d _, .d _ => cEq v w S
  | _, _ => (match toD 0 S v, toD 0 S w with
    | some x, some y => if shp x = true ∧ shp y = true then .ok (.d (.bool (PyData.eqv x y))) S else .bad
    | _, _ => .bad)
@[simp] def cNeS : O2 := fun v w S => match v, w with
  | .d _, .d _ => cNe v w S
  | _, _ => (match toD 0 S v, toD 0 S w with
    | some x, some y => if shp x = true ∧ shp y = true then .ok (.d (.bool (!PyData.eqv x y))) S else .bad
    | _, _ => .bad)
theorem k_eqS : Ok2 c W (rEqA c.K) cEqS := by
  intro σ B Z H S v w x y Q s rv rw_ p
  unfold cEqS at p
  split at p
  · exact k_eq σ B Z H S _ _ x y Q s rv rw_ p
  · split at p
    · rename_i d e hd he
      split at p
      · rename_i h
        exact .inr ⟨_, _, (whole_rd s rv hd).dp h.1, (whole_rd s rw_ he).dp h.2, h.1, h.2, p.ret s _ (.d (.bl _))⟩
      · exact p.elim
    · exact p.elim
theorem k_neS : Ok2 c W (rNeA c.K) cNeS := by
  intro σ B Z H S v w x y Q s rv rw_ p
  unfold cNeS at p
  split at p
  · exact k_ne σ B Z H S _ _ x y Q s rv rw_ p
  · split at p
    · rename_i d e hd he
      split at p
      · rename_i h
        exact .inr ⟨_, _, (whole_rd s rv hd).dp h.1, (whole_rd s rw_ he).dp h.2, h.1, h.2, p.ret s _ (.d (.bl _))⟩
      · exact p.elim
    · exact p.elim
variable {k : Nat}
/-! ## l.count(x) of ints, of bools -/
theorem MtR.or {id : String} {r r' : V → List V → Hp → VK → Prop} (h : MtR X id r) (h' : MtR X id r') : MtR X id (fun x xs H Q => r x xs H Q ∨ r' x xs H Q) := by
  intro pins s σ H x xs v us Q I rx rxs q
  rcases q with q | q
  · exact h pins s σ H x xs v us Q I rx rxs q
  · exact h' pins s σ H x xs v us Q I rx rxs q
end
end MI
set_option maxRecDepth 100000
set_option maxHeartbeats 4000000
namespace MI
open PySem PySem.Spec PyProof.Rows L2
section
variable {c : Ct} {W : WX} {X : Cx} {B Z : List Addr} {H : Hp} {σ : L2.St}
@[simp] def iZpG (f g : FE) : FI := fun r S => (f r S).bind fun v S1 => (g r S1).bind fun w S2 => match frozen v, frozen w with
  | some as, some bs => if (zipD as bs).length < sizeLine then .ok (zipD as bs) S2 else .bad
  | _, _ => .bad
end
end MI
set_option maxRecDepth 100000
set_option maxHeartbeats 4000000
namespace MI
open PySem PySem.Spec PyProof.Rows L2
section
variable {X : Cx}
/-! ## len(d) -/
def rLenN (K : PySem.W.Frag) : List V → Hp → VK → Prop := fun xs H Q => ∃ d ks, xs = [V.ref d] ∧ NDict K H d ks ∧ ks.length ≤ sizeLine ∧ Q (.int ks.length) H
theorem cr_lenN : CallR X (.builtin "len") (rLenN X.K) := by
  intro pins s σ H xs us Q I r ⟨d, ks, e, nd, hl, q⟩
  subst e
  rw [Vals.ref1 r]
  obtain ⟨z, sm⟩ := nd.of I
  have hm : s.heap.DictKeyed (nestedKind X.prog X.w) d (pairsH ks) := ⟨ks, z, rfl⟩
  have hn : (pairsH ks).length = ks.length := pairsH_length ks
  rw [sizeLine_eq] at hl
  refine call_len_slot (n := ks.length) hm.typeIs PySem.F.slot_dict_len (fun Q' hq => len_keyed sm hm (by rw [hn]; exact hq)) (by omega) (by omega) ⟨.int _, H, I.tok _, ⟨_, rfl⟩, q⟩
def rLenK : List V → Hp → VK → Prop := fun xs H Q => ∃ d kvs, xs = [V.ref d] ∧ H d = some (.dK kvs) ∧ Q (.int kvs.length) H
theorem cr_lenK : CallR X (.builtin "len") rLenK := by
  intro pins s σ H xs us Q I r ⟨d, kvs, e, h, q⟩
  subst e
  rw [Vals.ref1 r]
  exact d_len I (.inl h) fun t s' I' => ⟨.int _, H, I', ⟨_, rfl⟩, q⟩
/-! ## d.update(a dict), keys ints and texts -/
/-! d.get(k, x) -/
end
section
variable {c : Ct} {W : WX} {X : Cx} {B Z : List Addr} {H : Hp} {σ : L2.St} {S : Sto}
@[simp] def bLenD : FN := fun is S => match is with
  | [v] => (match dctOf S v with
    | some (_, kvs) => if kvs.length ≤ 16777216 then .ok (.d (.int kvs.length)) S else .bad
    | none => bLen [v] S)
  | _ => .bad
theorem k_lenD : OkN c W (fun xs H Q => (∃ x n, xs = [x] ∧ LenV c.K x H n ∧ Q (.int n) H) ∨ (rLenK xs H Q ∨ rLenN c.K xs H Q)) bLenD := by
  intro σ B Z H S is vs Q s r p
  unfold bLenD at p
  split at p
  · obtain ⟨x, rfl, rx⟩ := ris1 r
    split at p
    · rename_i b kvs e
      split at p
      · rename_i hl
        have q := p.ret s _ (.d (.int _))
        unfold dctOf at e
        split at e
        · cases rx with
          | ref hb =>
            split at e
            · rename_i q1
              cases e
              obtain ⟨ks, h1, h2, h3⟩ := s.ob _ _ _ hb q1
              have := congrArg List.length h2
              simp only [List.length_map] at this
              exact .inr (.inl ⟨_, ks, rfl, h1, by rw [← this]; exact q⟩)
            · rename_i q1
              cases e
              obtain ⟨ob, ks, h1, hs, h2, h3⟩ := s.ob _ _ _ hb q1
              exact .inr (.inr ⟨_, ks, rfl, ⟨⟨ob, h1, h2⟩, hs, h3.keys⟩, by rw [← h3.length, sizeLine_eq]; exact hl, by rw [← h3.length]; exact q⟩)
            · cases e
        · cases e
          cases rx with
          | d rx =>
            cases rx with
            | dct h1 hb h2 h3 =>
              rename_i ks
              have := congrArg List.length h2
              simp only [List.length_map] at this
              exact .inr (.inl ⟨_, ks, rfl, h1, by rw [← this]; exact q⟩)
        · cases e
      · exact p.elim
    · exact .inl (k_len s (.cons rx .nil) p)
  · exact p.elim
theorem f_lenD (cx : Cxg c W X) : Bf c W X (.builtin "len") bLenD := ⟨_, call_or2 (cx.K ▸ call_len) (call_or2 cr_lenK (cx.K ▸ cr_lenN)), k_lenD⟩
/-! update -/
@[simp] def dMerge (kvs more : List (PyData × PyData)) : List (PyData × PyData) := match more with
  | [] => kvs
  | p :: t => dMerge (dPut kvs p.1 p.2) t
@[simp] def dicOf : IV → Option (List (PyData × PyData))
  | .d (.dict more) => some more
  | _ => none
@[simp] def mUpdD (v w : IV) (S : Sto) : Out IV := match v, dicOf w with
  | .ref n, some more => (match S[n]? with
    | some (.dct kvs) => if kvs.length + more.length ≤ 16777216 then .ok (.d .none) (S.set n (.dct (dMerge kvs more))) else .bad
    | _ => .bad)
  | _, _ => .bad
@[simp] def isDct (S : Sto) : IV → Bool
  | .ref n => (match S[n]? with
    | some (.dct _) => true
    | some (.dcn _) => true
    | _ => false)
  | .d (.dict _) => true
  | _ => false
@[simp] def eUpdD (fo fe : FE) : FE := fun r S => (fo r S).bind fun v S1 => if isDct S1 v = true then (fe r S1).bind fun w S2 => mUpdD v w S2 else .bad
end
end MI
set_option maxRecDepth 100000
set_option maxHeartbeats 4000000
/-! ## range(i, j, -1); walks through dicts of tuple keys, as they stand -/
namespace MI
open PySem PySem.Spec PyProof.Rows L2
/-! ### their iterators -/
end MI
set_option maxRecDepth 100000
set_option maxHeartbeats 4000000
namespace MI
open PySem PySem.Spec PyProof.Rows L2 LamX
section
variable {X : Cx} {c : Ct} {W W0 : WX} {B Z : List Addr} {H H1 : Hp} {σ : L2.St}
theorem KR.nth {K : PySem.W.Frag} {bd : List Addr} : ∀ {kvs : List (PyData × PyData)} {xs : List (NestedKey × Addr × Value)} {i : Nat} {p : PyData × PyData}, KR K H bd kvs xs → kvs[i]? = some p → ∃ q x, xs[i]? = some q ∧ RD K H bd p.1 (.ref q.2.1) ∧ RelV x q.2.2 ∧ RD K H bd p.2 x
  | _, _, _, _, .nil, e => by simp at e
  | _, _, 0, p, .cons _ rk rv rd _, e => by
    simp at e
    subst e
    exact ⟨_, _, rfl, rk, rv, rd⟩
  | _, _, i + 1, p, .cons _ _ _ _ t, e => by
    obtain ⟨q, x, h1, h2⟩ := t.nth (i := i) (p := p) (by simpa using e)
    exact ⟨q, x, by simpa using h1, h2⟩
/-! ### comprehensions over a dict of the store -/
/-! ### for loops over a dict of the store -/
end
end MI
set_option maxRecDepth 100000
set_option maxHeartbeats 4000000
namespace MI
open PySem PySem.Spec PyProof.Rows L2 LamX
section
variable {X : Cx} {c : Ct} {W W0 : WX} {B Z : List Addr} {H H1 : Hp} {σ : L2.St}
/-! range(i, j, -1) -/
def rngU (lo hi : Int) : List PyData := (List.range (lo - hi).toNat).map fun (k : Nat) => PyData.int (lo - k)
@[simp] def iR3 (f g h : FE) : FI := fun r S => (f r S).bind fun v S1 => (g r S1).bind fun w S2 => (h r S2).bind fun u S3 => match v, w, u with
  | .d (.int i), .d (.int j), .d (.int k) => if i.natAbs < 2 ^ 23 ∧ j.natAbs < 2 ^ 23 ∧ k = -1 then .ok (rngU i j) S3 else .bad
  | _, _, _ => .bad
/-! a display of ints' and texts' keys, to be changed -/
end
end MI
set_option maxRecDepth 100000
set_option maxHeartbeats 4000000
namespace MI
open PySem PySem.Spec PyProof.Rows L2 LamX
open PySem.W (alike dataLt)
section
variable {X : Cx} {c : Ct} {W W0 : WX} {B Z : List Addr} {H H1 : Hp} {σ : L2.St}
/-! ### comprehensions over a list of the store -/
/-! ### < of data -/
@[simp] def ltOk (a b : PyData) : Bool := SeqAt.shaped a && (SeqAt.shaped b && (alike a b && (noN a && decide (a.depth ≤ 60))))
variable {k : Nat}
end
end MI
set_option maxRecDepth 100000
set_option maxHeartbeats 4000000
namespace L2
open PySem PySem.Spec PyProof.Rows
theorem tuple_mul1 (l : Addr) (items : Array Value) (n : Nat) (dd : Option Addr) (sl : Array (Option Value)) (u : Tok) :
    Meets (Builtin.«tuple.__mul__» ⟨[.ref l, .int 1 u], []⟩) (fun _ R s => s.heap.get? l = some { cls := .type "tuple", dict := dd, data := .seq items n, slots := sl } ∧ R (.ok (.ret (Value.ref l))) s) :=
  .of_wp fun prog w A R s h => by
    obtain ⟨hp, g, d, tk, os⟩ := s
    obtain ⟨hl, h⟩ := h
    have f1 := AutoSeq1.idx_int
    have c1 : (items.isEmpty || (1 : Int) == 1) = true := by simp
    wp_walk using wpAny_loadPart' hl
    repeat (first
      | (refine wpAny_ite_true (decide_eq_true c1) ?_; wp_walk using wpAny_loadPart' hl)
      | (refine wpAny_ite_false (by decide) ?_; wp_walk using wpAny_loadPart' hl))
    exact ⟨_, rfl, h⟩
/-- t * 1 is t -/
def rRep1 (K : PySem.W.Frag) : R2 := fun x y H Q => ∃ l xs, x = .ref l ∧ y = .int 1 ∧ SqT K H l xs ∧ Q (.ref l) H
theorem op_rep1 {X : Cx} : OpR X (binaryOp .Mult) (rRep1 X.K) := by
  intro pins s σ H x y v u Q I rx ry h
  obtain ⟨l, xs, rfl, rfl, hT, q⟩ := h
  cases rx
  obtain ⟨t, rfl⟩ := ry
  obtain ⟨its, r, ⟨⟨cls, dd, data, sl⟩, ho, hc, n, hd⟩, hs⟩ := I.tuple hT
  simp only at hc hd
  subst hc hd
  exact wpAny_binaryOp_repeat_ref (T := "tuple") (U := "int") (by decide) ⟨_, ho, rfl⟩ (fun s' => typeIs_int s' 1 t) noFill_tuple_mul F.fills_int_mul F.slot_int_rmul repeat_tuple F.slot_int_index.lookup
    (call_meets F.slot_int_rmul (typeIs_int s 1 t) F.entry_int_rmul (F.args_int_rmul_2 _ _) (int_rmul_tuple 1 t l its.toArray n dd sl)
      ⟨ho, rfl, ⟨_, ho, rfl⟩, call_meets F.slot_tuple_mul ⟨_, ho, rfl⟩ F.entry_tuple_mul (F.args_tuple_mul_2 _ _) (tuple_mul1 l its.toArray n dd sl t) ⟨ho, ⟨.ref l, H, I, rfl, q⟩⟩⟩)
end L2
namespace MI
open PySem PySem.Spec PyProof.Rows L2 LamX
section
variable {X : Cx} {c : Ct} {W W0 : WX} {B Z : List Addr} {H H1 : Hp} {σ : L2.St}
/-! a tuple, a list many times -/
def oMulB : O2 := fun v w S => match v, w with
  | .d (.list ds), .d (.int k) => if k.natAbs ≤ 1000 ∧ ds.length ≤ 1000 then .ok (.d (.list (List.replicate k.toNat ds).flatten)) S else .bad
  | .d (.tuple ds), .d (.int k) => if k = 1 then .ok (.d (.tuple ds)) S else oMulA v w S
  | v, w => oMulA v w S
theorem k_mulB : Ok2 c W (fun x y H Q => rRep x y H Q ∨ (rRep1 c.K x y H Q ∨ (rRepTF c.K x y H Q ∨ rI CMulW (fun i j => .int (i * j)) x y H Q))) oMulB := by
  intro σ B Z H S v w x y Q s rv rw_ p
  unfold oMulB at p
  split at p
  · rename_i ds k
    split at p
    · rename_i h
      cases rv with
      | d rv =>
        cases rw_ with
        | d rw_ =>
          cases rw_
          cases rv with
          | lst hl hb rt =>
            rename_i l xs
            have hln := rt.length
            have hz : xs.length * k.toNat ≤ sizeLine := by
              rw [sizeLine_eq]
              have a1 : xs.length * k.toNat ≤ 1000 * 1000 := Nat.mul_le_mul (by omega) (by omega)
              omega
            refine .inl ⟨l, k, xs, rfl, rfl, hl, by omega, by omega, hz, fun q hq => ?_⟩
            have e := Ev.new (o := HO.lst (List.replicate k.toNat xs).flatten) s hq
            exact p B _ e (s.new hq) _ (.d (.lst upd_same (fun m => by
              rcases List.mem_append.mp m with m | m
              · exact s.trk q m hq
              · exact kdNe (s.zt q m) hq) ((rds_rep rt k.toNat).ev e)))
    · exact p.elim
  · rename_i ds k
    split at p
    · rename_i h
      subst h
      cases rv with
      | d rv =>
        cases rw_ with
        | d rw_ =>
          cases rw_
          obtain ⟨l, xs, rfl, ht, rt⟩ := rv.tupS
          exact .inr (.inl ⟨l, xs, rfl, rfl, ht, p.ret s _ (.d rv)⟩)
    · exact .inr (.inr (k_mulA σ B Z H S _ _ x y Q s rv rw_ p))
  · exact .inr (.inr (k_mulA σ B Z H S v w x y Q s rv rw_ p))
theorem v_mulB {a b : Expr} {f g : FE} {pos : Pos} (cx : Cxg c W X) (ha : PE X a (TEx c W f)) (hb : PE X b (TEx c W g)) : PE X (.BinOp a .Mult b pos) (TEx c W (eOp2 oMulB f g)) :=
  s_op (op_rep.or (op_rep1.or (op_repTF.or op_mulW))) (by rw [cx.K]; exact k_mulB) ha hb
/-! defs as values -/
end
end MI
set_option maxRecDepth 100000
set_option maxHeartbeats 4000000
namespace MI
open PySem PySem.Spec PyProof.Rows L2 LamX
end MI
set_option maxRecDepth 100000
set_option maxHeartbeats 4000000
namespace MI
open PySem PySem.Spec PyProof.Rows L2 LamX
section
variable {X : Cx} {c : Ct} {W W0 : WX} {B Z : List Addr} {H H1 : Hp} {σ : L2.St}
/-! ## the same looks into dicts, quicker to evaluate -/
def ibeq : Int → Int → Bool
  | .ofNat m, .ofNat n => Nat.beq m n
  | .negSucc m, .negSucc n => Nat.beq m n
  | _, _ => false
theorem ibeq_eq (i j : Int) : ibeq i j = decide (i = j) := by
  cases i with
  | ofNat m =>
    cases j with
    | ofNat n =>
      show Nat.beq m n = decide (Int.ofNat m = Int.ofNat n)
      cases q : Nat.beq m n with
      | true => rw [Nat.eq_of_beq_eq_true q]; simp
      | false => exact (decide_eq_false fun e => Nat.ne_of_beq_eq_false q (Int.ofNat.inj e)).symm
    | negSucc n => exact (decide_eq_false fun e => by cases e).symm
  | negSucc m =>
    cases j with
    | ofNat n => exact (decide_eq_false fun e => by cases e).symm
    | negSucc n =>
      show Nat.beq m n = decide (Int.negSucc m = Int.negSucc n)
      cases q : Nat.beq m n with
      | true => rw [Nat.eq_of_beq_eq_true q]; simp
      | false => exact (decide_eq_false fun e => Nat.ne_of_beq_eq_false q (Int.negSucc.inj e)).symm
/-- two lists of ints -/
def intsEq : List PyData → List PyData → Option Bool
  | [], [] => some true
  | .int i :: xs, .int j :: ys => match ibeq i j with
    | true => intsEq xs ys
    | false => some false
  | _, _ => none
theorem intsEq_ok : ∀ {xs ys : List PyData} {b : Bool}, intsEq xs ys = some b → kbeqs xs ys = b
  | [], [], b, h => by cases h; rfl
  | .int i :: xs, .int j :: ys, b, h => by
    have h : (match ibeq i j with | true => intsEq xs ys | false => some false) = some b := h
    show (if decide (i = j) = true then kbeqs xs ys else false) = b
    rw [← ibeq_eq]
    cases q : ibeq i j with
    | true => rw [q] at h; rw [if_pos rfl]; exact intsEq_ok h
    | false => rw [q] at h; cases h; rfl
  | [], _ :: _, _, h => by cases h
  | .none :: _, _, _, h => by cases h
  | .bool _ :: _, _, _, h => by cases h
  | .str _ :: _, _, _, h => by cases h
  | .list _ :: _, _, _, h => by cases h
  | .tuple _ :: _, _, _, h => by cases h
  | .dict _ :: _, _, _, h => by cases h
  | .int _ :: _, [], _, h => by cases h
  | .int _ :: _, .none :: _, _, h => by cases h
  | .int _ :: _, .bool _ :: _, _, h => by cases h
  | .int _ :: _, .str _ :: _, _, h => by cases h
  | .int _ :: _, .list _ :: _, _, h => by cases h
  | .int _ :: _, .tuple _ :: _, _, h => by cases h
  | .int _ :: _, .dict _ :: _, _, h => by cases h
def kbT (a b : PyData) : Bool := match a with
  | .tuple xs => (match b with
    | .tuple ys => (match intsEq xs ys with
      | some r => r
      | none => kbeq (.tuple xs) (.tuple ys))
    | b => kbeq (.tuple xs) b)
  | a => kbeq a b
theorem kbT_eq (a b : PyData) : kbT a b = kbeq a b := by
  unfold kbT
  split
  · split
    · split
      · rename_i h
        exact (intsEq_ok h).symm
      · rfl
    · rfl
  · rfl
def dAtF : List (PyData × PyData) → PyData → Option PyData
  | [], _ => none
  | p :: t, k => match kbT p.1 k with
    | true => some p.2
    | false => dAtF t k
theorem dAtF_eq : ∀ (kvs : List (PyData × PyData)) (k : PyData), dAtF kvs k = dAt kvs k
  | [], _ => rfl
  | p :: t, k => by
    show (match kbT p.1 k with | true => some p.2 | false => dAtF t k) = if kbeq p.1 k = true then some p.2 else dAt t k
    rw [kbT_eq]
    cases kbeq p.1 k with
    | true => rfl
    | false => exact dAtF_eq t k
def isS : Option PyData → Bool
  | some _ => true
  | none => false
def cInF (neg : Bool) : O2 := fun v w S => match dctOf S w with
  | some (b, kvs) => (match v with
    | .d k => (match kOk b k with
      | true => (match neg with
        | true => (match isS (dAtF kvs k) with
          | true => .ok (.d (.bool false)) S
          | false => .ok (.d (.bool true)) S)
        | false => (match isS (dAtF kvs k) with
          | true => .ok (.d (.bool true)) S
          | false => .ok (.d (.bool false)) S))
      | false => .bad)
    | _ => .bad)
  | none => cInN neg v w S
theorem cInF_eq (neg : Bool) : cInF neg = cInD neg := by
  funext v w S
  unfold cInF cInD
  cases h : dctOf S w with
  | none => rfl
  | some z =>
    obtain ⟨b, kvs⟩ := z
    cases v with
    | d k =>
      show (match kOk b k with
        | true => (match neg with
          | true => (match isS (dAtF kvs k) with
            | true => Out.ok (IV.d (.bool false)) S
            | false => .ok (.d (.bool true)) S)
          | false => (match isS (dAtF kvs k) with
            | true => .ok (.d (.bool true)) S
            | false => .ok (.d (.bool false)) S))
        | false => .bad) = if kOk b k = true then Out.ok (IV.d (.bool (if neg then !(dAt kvs k).isSome else (dAt kvs k).isSome))) S else .bad
      rw [dAtF_eq]
      cases kOk b k with
      | false => rfl
      | true => cases neg <;> cases dAt kvs k <;> rfl
    | _ => rfl
def dPutF (kvs : List (PyData × PyData)) (k v : PyData) : List (PyData × PyData) := match dAtF kvs k with
  | some _ => dRep kvs k v
  | none => kvs ++ [(k, v)]
theorem dPutF_eq (kvs : List (PyData × PyData)) (k v : PyData) : dPutF kvs k v = dPut kvs k v := by
  unfold dPutF dPut
  rw [dAtF_eq]
  all_goals (cases dAt kvs k <;> rfl)
def stPutF (o i v : IV) (S : Sto) : Option Sto := match o with
  | .ref n => (match S[n]?, i, v with
    | some (.dcn kvs), .d k, .d d => if kOk true k = true ∧ kvs.length < sizeLine then some (S.set n (.dcn (dPutF kvs k d))) else none
    | _, _, _ => stPutD o i v S)
  | _ => none
theorem stPutF_eq (o i v : IV) (S : Sto) : stPutF o i v S = stPutD o i v S := by
  cases o with
  | ref n =>
    show (match S[n]?, i, v with
      | some (.dcn kvs), .d k, .d d => if kOk true k = true ∧ kvs.length < sizeLine then some (S.set n (.dcn (dPutF kvs k d))) else none
      | _, _, _ => stPutD (.ref n) i v S) = stPutD (.ref n) i v S
    split
    · rename_i kvs k d h
      rw [dPutF_eq]
      show _ = (match S[n]?, IV.d k, IV.d d with
        | some (.dct kvs), .d k, .d d => if kOk false k = true ∧ kvs.length < sizeLine then some (S.set n (.dct (dPut kvs k d))) else none
        | some (.dcn kvs), .d k, .d d => if kOk true k = true ∧ kvs.length < sizeLine then some (S.set n (.dcn (dPut kvs k d))) else none
        | _, _, _ => stPut (.ref n) (.d k) (.d d) S)
      rw [h]
    · rfl
  | _ => rfl
def gSbF (o i : FE) : FG := fun v r S => (o r S).to r fun ov S1 => (i r S1).to r fun iv S2 => match stPutF ov iv v S2 with
  | some S3 => .nx r S3
  | none => .bad
theorem gSbF_eq (o i : FE) : gSbF o i = gSbD o i := by
  funext v r S
  unfold gSbF gSbD
  simp only [stPutF_eq]
  all_goals rfl
variable {k : Nat}
theorem m_inF (cx : Cxg c W X) (hr : Room k X.A) : Cm c W X .In (cInF false) := by rw [cInF_eq]; exact m_inD cx hr
theorem m_niF (cx : Cxg c W X) (hr : Room k X.A) : Cm c W X .NotIn (cInF true) := by rw [cInF_eq]; exact m_niD cx hr
theorem g_sbF {o i : FE} : GOk (gSbF o i) := by rw [gSbF_eq]; exact g_sbD
theorem s_gsbF {o i : Expr} {fo fi : FE} {pos : Pos} (cx : Cxg c W X) (hr : Room k X.A) (ho : PE X o (TEx c W fo)) (hi : PE X i (TEx c W fi))
    (ha : ∀ v, assign (.Subscript o i pos) X.env v = (do
      let ov ← holding [v] (eval o X.env); let iv ← holding [v, ov] (eval i X.env); standAt pos; holding [v, ov, iv] (setItem ov iv v); release [v, ov, iv] []) := by intro _; rfl) : PG X (.Subscript o i pos) (TGx c W (gSbF fo fi)) := by
  rw [gSbF_eq]; exact s_gsbD cx hr ho hi ha
end
end MI
set_option maxRecDepth 100000
set_option maxHeartbeats 4000000
namespace MI
open PySem PySem.Spec PyProof.Rows L2 LamX
end MI
set_option maxRecDepth 100000
set_option maxHeartbeats 4000000
namespace MI
open PySem PySem.Spec PyProof.Rows L2
end MI
set_option maxRecDepth 100000
set_option maxHeartbeats 4000000
namespace MI
open PySem PySem.Spec PyProof.Rows L2 LamX NdefX
/-! ## a def called with lambdas of the running frame: what it tells may hold an exception that it caught -/
def xv1 : IV → Bool
  | .d _ => true
  | .exc _ _ => true
  | _ => false
def xv : IV → Bool
  | .tup vs => vs.all xv1
  | v => xv1 v
end MI
set_option maxRecDepth 100000
set_option maxHeartbeats 4000000
namespace MI
open PySem PySem.Spec PyProof.Rows L2 PyProof.V
/-! ## repr of data that hold dicts (and then no lists) -/
mutual
def noL : PyData → Bool
  | .list _ => false
  | .tuple xs => noLs xs
  | .dict kvs => noLk kvs
  | _ => true
def noLs : List PyData → Bool
  | [] => true
  | x :: t => noL x && noLs t
def noLk : List (PyData × PyData) → Bool
  | [] => true
  | p :: t => noL p.2 && noLk t
end
theorem noLk_s : ∀ kvs : List (PyData × PyData), noLk kvs = true → noLs (kvs.map (·.2)) = true
  | [], _ => rfl
  | p :: t, h => by
    unfold noLk at h
    rw [Bool.and_eq_true] at h
    show (noL p.2 && noLs (t.map (·.2))) = true
    rw [h.1, noLk_s t h.2]
    rfl
theorem kD_reads {h : Heap} : ∀ (k : Key) (key : Value), keyIs k key = true → Reads h key (kD k) [] := fun k key e => by
  rcases keyIs_shape e with ⟨i, t, rfl, rfl⟩ | ⟨x, t, rfl, rfl⟩
  · exact Reads.int i t
  · exact Reads.str x t
section
variable {X : Cx} {pins : List (Addr × Obj)} {σ : L2.St} {H : Hp} {s : Shared} {bd : List Addr}
theorem pairs_read {h : Heap} : ∀ {ks : List (Key × V)} {vs : List (Key × Value)} {ds : List (PyData × PyData)} {as : List Addr}, KV ks vs → ds.map (·.1) = ks.map (fun p => kD p.1) → ReadsAll h (vs.map (·.2)) (ds.map (·.2)) as → PairsRead h kD vs ds as
  | _, _, [], _, .nil, _, r => by
    cases r
    exact .nil
  | _, _, d :: ds, _, .nil, e, _ => by cases e
  | _, _, [], _, .cons _ _, e, _ => by cases e
  | _, _, d :: ds, _, .cons (a := a) (b := b) hab t, e, r => by
    obtain ⟨d1, d2⟩ := d
    obtain ⟨a1, a2⟩ := a
    obtain ⟨b1, b2⟩ := b
    rw [List.map_cons, List.map_cons] at e
    injection e with e1 e2
    have e1 : d1 = kD a1 := e1
    obtain ⟨q1, q2⟩ := hab
    have q1 : a1 = b1 := q1
    subst q1
    subst e1
    cases r with
    | cons r1 r2 => exact PairsRead.cons r1 (pairs_read t e2 r2)
theorem kv_vals : ∀ {ks : List (Key × V)} {vs : List (Key × Value)}, KV ks vs → Vals (ks.map (·.2)) (vs.map (·.2))
  | _, _, .nil => .nil
  | _, _, .cons hab t => .cons hab.2 (kv_vals t)
mutual
theorem rd_reads (I : Inv X pins σ H s) : ∀ {d : PyData} {v : V}, RD X.K H bd d v → noL d = true → ∀ u : Value, RelV v u → ∃ as, Reads s.heap u d as ∧ sysModules ∉ as
  | _, _, .non, _, _, r => by
    cases r
    exact ⟨_, Reads.none, by simp⟩
  | _, _, .bl b, _, _, r => by
    cases r
    exact ⟨_, Reads.bool b, by simp⟩
  | _, _, .int i, _, _, r => by
    obtain ⟨t, rfl⟩ := r
    exact ⟨_, Reads.int i t, by simp⟩
  | _, _, .str x, _, _, r => by
    obtain ⟨t, rfl⟩ := r
    exact ⟨_, Reads.str x t, by simp⟩
  | _, _, .lst _ _ _, n, _, _ => by cases n
  | _, _, .tup hh to hb rs, n, _, r => by
    cases r
    obtain ⟨its, rv, ⟨o, ho, hc, n', hd⟩, _⟩ := I.tuple (sqF hh)
    obtain ⟨as, hr, hs⟩ := rds_reads I rs n its rv
    exact ⟨_, Reads.tuple ho hc hd hr, hs⟩
  | _, _, .tupK hh nd rs, n, _, r => by
    cases r
    obtain ⟨its, rv, ⟨o, ho, hc, n', hd⟩, _⟩ := I.tuple (.inr hh)
    obtain ⟨as, hr, hs⟩ := rds_reads I rs n its rv
    exact ⟨_, Reads.tuple ho hc hd hr, hs⟩
  | _, _, .dct (a := a) (ks := ks) (ds := kvs) hh hb hk rs, n, _, r => by
    have n : noLk kvs = true := n
    cases r
    obtain ⟨_, hne, vs, kv, dd⟩ := dk_of I.hok hh
    have rv : Vals (ks.map (·.2)) (vs.map (·.2)) := kv_vals kv
    obtain ⟨as, hr, hs⟩ := rds_reads I rs (noLk_s kvs n) _ rv
    refine ⟨a :: as, reads_dictOf kD_reads dd (pairs_read kv hk hr), fun m => ?_⟩
    rcases List.mem_cons.mp m with e | m
    · rw [← e] at hne
      exact absurd hne (by simp)
    · exact hs m
theorem rds_reads (I : Inv X pins σ H s) : ∀ {ds : List PyData} {vs : List V}, RDs X.K H bd ds vs → noLs ds = true → ∀ us : List Value, Vals vs us → ∃ as, ReadsAll s.heap us ds as ∧ sysModules ∉ as
  | _, _, .nil, _, _, r => by
    cases r
    exact ⟨_, ReadsAll.nil, by simp⟩
  | _, _, .cons (d := d) (ds := ds) h1 h2, n, _, r => by
    have n : (noL d && noLs ds) = true := n
    rw [Bool.and_eq_true] at n
    cases r with
    | cons r1 r2 =>
      obtain ⟨as, q1, s1⟩ := rd_reads I h1 n.1 _ r1
      obtain ⟨bs, q2, s2⟩ := rds_reads I h2 n.2 _ r2
      exact ⟨_, ReadsAll.cons q1 q2, fun m => (List.mem_append.mp m).elim s1 s2⟩
end
end
section
variable {X : Cx} {c : Ct} {W : WX}
def rPrD (K : PySem.W.Frag) (A : Around) : List V → Hp → VK → Prop := fun xs H Q => ∃ x d, xs = [x] ∧ RD K H [] d x ∧ noL d = true ∧ d.showable = true ∧ A.units + (d.depth + 1) < cLine ∧ d.shown.length ≤ sizeLine ∧ Q (.str d.shown) H
theorem call_prD (hgu : X.A.guards = some []) : CallR X (.builtin "repr") (rPrD X.K X.A) := by
  intro pins s σ H xs us Q I rv h
  obtain ⟨x, d, rfl, rd, hn, hs, hu, hz, q⟩ := h
  obtain ⟨u, rfl, rx⟩ := Vals.one rv
  obtain ⟨as, R, sm⟩ := rd_reads I rd hn u rx
  cases rd with
  | non => cases rx; exact P.repr_of_none ⟨.str _, H, I.tok _, ⟨_, rfl⟩, q⟩
  | bl b => cases rx; exact P.repr_of_bool ⟨.str _, H, I.tok _, ⟨_, rfl⟩, by cases b <;> exact q⟩
  | int i => obtain ⟨t, rfl⟩ := rx; exact P.repr_of_int (of_decide_eq_true hs) ⟨.str _, H, I.tok _, ⟨_, rfl⟩, q⟩
  | str y => obtain ⟨t, rfl⟩ := rx; exact P.repr_of_str ⟨.str _, H, I.tok _, ⟨_, rfl⟩, q⟩ hz
  | lst h1 h2 => cases hn
  | tup h1 h2 h3 h4 =>
    cases rx
    exact repr_of_reads' R hs (fun _ => sm) hgu hu (fun _ _ e => e) (fun h' t tk hk => ⟨.str _, H, I.kept (t' := tk) hk, ⟨_, rfl⟩, q⟩) hz
  | tupK h1 h2 h3 =>
    cases rx
    exact repr_of_reads' R hs (fun _ => sm) hgu hu (fun _ _ e => e) (fun h' t tk hk => ⟨.str _, H, I.kept (t' := tk) hk, ⟨_, rfl⟩, q⟩) hz
  | dct h1 h2 h3 h4 =>
    cases rx
    exact repr_of_reads' R hs (fun _ => sm) hgu hu (fun _ _ e => e) (fun h' t tk hk => ⟨.str _, H, I.kept (t' := tk) hk, ⟨_, rfl⟩, q⟩) hz
def prOkD (d : PyData) : Bool := d.showable && (noL d && (decide (d.depth ≤ 64) && decide (d.shown.length ≤ sizeLine)))
/-- repr, dicts too -/
def bReprD : FN := fun is S => match is with
  | [v] => match toD 0 S v with
    | some d => if prOk d then .ok (.d (.str d.shown)) S else if prOkD d then .ok (.d (.str d.shown)) S else .bad
    | none => .bad
  | _ => .bad
theorem k_reprD {A : Around} (hu : A.units + 66 < cLine) : OkN c W (fun xs H Q => rPr c.K A xs H Q ∨ rPrD c.K A xs H Q) bReprD := by
  intro σ B Z H S is vs Q s r p
  unfold bReprD at p
  split at p
  · obtain ⟨x, rfl, rx⟩ := ris1 r
    split at p
    · rename_i d hd
      by_cases h : prOk d = true
      · rw [if_pos h] at p
        unfold prOk at h
        simp only [Bool.and_eq_true, decide_eq_true_eq, Bool.not_eq_true'] at h
        exact .inl ⟨x, d, rfl, (whole_rd s rx hd).dp0 h.1.1.2, h.1.1.1, h.1.1.2, by have := h.1.2; omega, h.2, p.ret s _ (.d (.str _))⟩
      · rw [if_neg h] at p
        by_cases h2 : prOkD d = true
        · rw [if_pos h2] at p
          unfold prOkD at h2
          simp only [Bool.and_eq_true, decide_eq_true_eq] at h2
          exact .inr ⟨x, d, rfl, whole_rd s rx hd, h2.2.1, h2.1, by have := h2.2.2.1; omega, h2.2.2.2, p.ret s _ (.d (.str _))⟩
        · rw [if_neg h2] at p; exact p.elim
    · exact p.elim
  · exact p.elim
theorem f_reprD (cx : Cxg c W X) {k : Nat} (hr : Room k X.A) : Bf c W X (.builtin "repr") bReprD := ⟨_, (call_pr cx.gu).or (call_prD cx.gu), by rw [cx.K]; exact k_reprD (by have := hr.un; omega)⟩
end
end MI
set_option maxRecDepth 100000
set_option maxHeartbeats 4000000
namespace MI
open PySem PySem.Spec PyProof.Rows L2
end MI
set_option maxRecDepth 100000
set_option maxHeartbeats 4000000
namespace MI
open PySem PySem.Spec PyProof.Rows L2
section
variable {X : Cx} {c : Ct} {W : WX}
/-! ## ==, != told by lengths: lists of unlike lengths, tuples one of which is empty, whatever they hold -/
def rEqLn (K : PySem.W.Frag) (neg : Bool) : R2 := fun x y H Q => ∃ a b xs ys, x = V.ref a ∧ y = V.ref b ∧
  ((SqL K H a xs ∧ SqL K H b ys ∧ xs.length ≠ ys.length ∧ Q (.bl neg) H) ∨ (SqT K H a xs ∧ SqT K H b ys ∧ (xs.length = 0 ∨ ys.length = 0) ∧ Q (.bl (if neg then !decide (xs.length = ys.length) else decide (xs.length = ys.length))) H))
theorem size_ne {xs ys : List V} {us ws : List Value} (h1 : Vals xs us) (h2 : Vals ys ws) (h : xs.length ≠ ys.length) : (us.toArray.size != ws.toArray.size) = true := by
  have e1 := h1.length
  have e2 := h2.length
  simp only [List.size_toArray, bne_iff_ne, ne_eq]
  omega
theorem size_dec {xs ys : List V} {us ws : List Value} (h1 : Vals xs us) (h2 : Vals ys ws) (e : Nat → Bool) (h : xs.length = 0 ∨ ys.length = 0) :
    ((List.range (min us.toArray.size ws.toArray.size)).all e && us.toArray.size == ws.toArray.size) = decide (xs.length = ys.length) := by
  have e1 := h1.length
  have e2 := h2.length
  have m : min us.toArray.size ws.toArray.size = 0 := by simp only [List.size_toArray]; omega
  rw [m]
  simp only [List.range_zero, List.all_nil, Bool.true_and, List.size_toArray]
  by_cases q : xs.length = ys.length
  · rw [decide_eq_true q]
    exact beq_iff_eq.mpr (by omega)
  · rw [decide_eq_false q]
    exact beq_eq_false_iff_ne.mpr (by omega)
theorem op_eqLn (hu : X.A.units + 64 < cLine) : OpR X (compareOp .Eq) (rEqLn X.K false) := by
  intro pins s σ H x y v u Q I rx ry h
  obtain ⟨a, b, xs, ys, rfl, rfl, h⟩ := h
  cases rx
  cases ry
  rcases h with ⟨h1, h2, hn, q⟩ | ⟨h1, h2, hn, q⟩
  · obtain ⟨us, r1, ⟨o, n, ho, hc, _, hd⟩, _⟩ := I.list h1
    obtain ⟨ws, r2, ⟨o', n', ho', hc', _, hd'⟩, _⟩ := I.list h2
    exact SeqAt.eq_list_lengthsAt ⟨_, ho, hc, _, hd⟩ ⟨_, ho', hc', _, hd'⟩ (size_ne r1 r2 hn) (by omega) ⟨.bl _, H, I, rfl, q⟩
  · obtain ⟨us, r1, ⟨o, ho, hc, n, hd⟩, _⟩ := I.tuple h1
    obtain ⟨ws, r2, ⟨o', ho', hc', n', hd'⟩, _⟩ := I.tuple h2
    refine SeqAt.eq_tupleAt (e := fun _ => true) ⟨_, ho, hc, _, hd⟩ ⟨_, ho', hc', _, hd'⟩ (by omega) (fun j j1 j2 => ?_) ?_
    · have e1 := r1.length
      have e2 := r2.length
      simp only [List.size_toArray] at j1 j2
      omega
    · rw [size_dec r1 r2 _ hn]
      exact ⟨.bl _, H, I, rfl, q⟩
theorem op_neLn (hu : X.A.units + 64 < cLine) : OpR X (compareOp .NotEq) (rEqLn X.K true) := by
  intro pins s σ H x y v u Q I rx ry h
  obtain ⟨a, b, xs, ys, rfl, rfl, h⟩ := h
  cases rx
  cases ry
  rcases h with ⟨h1, h2, hn, q⟩ | ⟨h1, h2, hn, q⟩
  · obtain ⟨us, r1, ⟨o, n, ho, hc, _, hd⟩, _⟩ := I.list h1
    obtain ⟨ws, r2, ⟨o', n', ho', hc', _, hd'⟩, _⟩ := I.list h2
    exact SeqAt.RcNeAt.lists_lengths ⟨_, ho, hc, _, hd⟩ ⟨_, ho', hc', _, hd'⟩ (size_ne r1 r2 hn) (by omega) _ _ _ _ ⟨.bl _, H, I, rfl, q⟩
  · obtain ⟨us, r1, ⟨o, ho, hc, n, hd⟩, _⟩ := I.tuple h1
    obtain ⟨ws, r2, ⟨o', ho', hc', n', hd'⟩, _⟩ := I.tuple h2
    refine SeqAt.RcNeAt.tuples (e := fun _ => true) ⟨_, ho, hc, _, hd⟩ ⟨_, ho', hc', _, hd'⟩ (by omega) (fun j j1 j2 => ?_) _ _ _ _ ?_
    · have e1 := r1.length
      have e2 := r2.length
      simp only [List.size_toArray] at j1 j2
      omega
    · rw [size_dec r1 r2 _ hn]
      exact ⟨.bl _, H, I, rfl, q⟩
/-- the lengths tell it -/
def lenTell : IV → IV → Option Bool
  | .d (.list xs), .d (.list ys) => if xs.length = ys.length then none else some false
  | .d (.tuple xs), .d (.tuple ys) => if xs.length = 0 ∨ ys.length = 0 then some (decide (xs.length = ys.length)) else none
  | _, _ => none
def cEqL : O2 := fun v w S => match lenTell v w with
  | some b => .ok (.d (.bool b)) S
  | none => cEqS v w S
def cNeL : O2 := fun v w S => match lenTell v w with
  | some b => .ok (.d (.bool !b)) S
  | none => cNeS v w S
theorem lenTell_ok {B Z : List Addr} {H : Hp} {v w : IV} {x y : V} {b : Bool} (h : lenTell v w = some b) (rv : RI c H B Z v x) (rw_ : RI c H B Z w y) : ∃ a d xs ys, x = V.ref a ∧ y = V.ref d ∧
    ((SqL c.K H a xs ∧ SqL c.K H d ys ∧ xs.length ≠ ys.length ∧ b = false) ∨ (SqT c.K H a xs ∧ SqT c.K H d ys ∧ (xs.length = 0 ∨ ys.length = 0) ∧ b = decide (xs.length = ys.length))) := by
  unfold lenTell at h
  split at h
  · rename_i as bs
    cases rv with
    | d rv =>
      cases rw_ with
      | d rw_ =>
        obtain ⟨a, us, rfl, ha, r1⟩ := rv.lstS
        obtain ⟨d, ws, rfl, hd, r2⟩ := rw_.lstS
        split at h
        · cases h
        · rename_i hn
          cases h
          exact ⟨a, d, us, ws, rfl, rfl, .inl ⟨.of ha, .of hd, by rw [← r1.length, ← r2.length]; exact hn, rfl⟩⟩
  · rename_i as bs
    cases rv with
    | d rv =>
      cases rw_ with
      | d rw_ =>
        obtain ⟨a, us, rfl, ha, r1⟩ := rv.tupS
        obtain ⟨d, ws, rfl, hd, r2⟩ := rw_.tupS
        split at h
        · rename_i hn
          cases h
          exact ⟨a, d, us, ws, rfl, rfl, .inr ⟨ha, hd, by rw [← r1.length, ← r2.length]; exact hn, by rw [← r1.length, ← r2.length]⟩⟩
        · cases h
  · cases h
theorem k_eqL : Ok2 c W (fun x y H Q => rEqLn c.K false x y H Q ∨ rEqA c.K x y H Q) cEqL := by
  intro σ B Z H S v w x y Q s rv rw_ p
  unfold cEqL at p
  cases h : lenTell v w with
  | none => rw [h] at p; exact .inr (k_eqS σ B Z H S v w x y Q s rv rw_ p)
  | some b =>
    rw [h] at p
    obtain ⟨a, d, xs, ys, e1, e2, k⟩ := lenTell_ok h rv rw_
    have q := p.ret s _ (.d (.bl _))
    refine .inl ⟨a, d, xs, ys, e1, e2, ?_⟩
    rcases k with ⟨k1, k2, k3, rfl⟩ | ⟨k1, k2, k3, rfl⟩
    · exact .inl ⟨k1, k2, k3, q⟩
    · exact .inr ⟨k1, k2, k3, q⟩
theorem k_neL : Ok2 c W (fun x y H Q => rEqLn c.K true x y H Q ∨ rNeA c.K x y H Q) cNeL := by
  intro σ B Z H S v w x y Q s rv rw_ p
  unfold cNeL at p
  cases h : lenTell v w with
  | none => rw [h] at p; exact .inr (k_neS σ B Z H S v w x y Q s rv rw_ p)
  | some b =>
    rw [h] at p
    obtain ⟨a, d, xs, ys, e1, e2, k⟩ := lenTell_ok h rv rw_
    have q := p.ret s _ (.d (.bl _))
    refine .inl ⟨a, d, xs, ys, e1, e2, ?_⟩
    rcases k with ⟨k1, k2, k3, rfl⟩ | ⟨k1, k2, k3, rfl⟩
    · exact .inl ⟨k1, k2, k3, q⟩
    · exact .inr ⟨k1, k2, k3, q⟩
theorem m_eqL (cx : Cxg c W X) {k : Nat} (hr : Room k X.A) : Cm c W X .Eq cEqL := ⟨_, cx.K ▸ ((op_eqLn (by have := hr.un; omega)).or (op_eqA (by have := hr.un; omega))), k_eqL⟩
theorem m_neL (cx : Cxg c W X) {k : Nat} (hr : Room k X.A) : Cm c W X .NotEq cNeL := ⟨_, cx.K ▸ ((op_neLn (by have := hr.un; omega)).or (op_neA (by have := hr.un; omega))), k_neL⟩
end
end MI
set_option maxRecDepth 100000
set_option maxHeartbeats 4000000
namespace MI
open PySem PySem.Spec PyProof.Rows L2 LamX
section
variable {X : Cx} {c : Ct} {W : WX} {B Z : List Addr} {H : Hp} {σ : L2.St}
/-! a list many times, to be changed -/
def oMulM : O2 := fun v w S => match v, w with
  | .d (.list ds), .d (.int k) => if k.natAbs ≤ 1000 ∧ ds.length ≤ 1000 then .ok (.ref S.length) (S ++ [.lst (List.replicate k.toNat ds).flatten]) else .bad
  | _, _ => .bad
theorem k_mulM : Ok2 c W (fun x y H Q => rRep x y H Q) oMulM := by
  intro σ B Z H S v w x y Q s rv rw_ p
  unfold oMulM at p
  split at p
  · rename_i ds k
    split at p
    · rename_i h
      cases rv with
      | d rv =>
        cases rw_ with
        | d rw_ =>
          cases rw_
          cases rv with
          | lst hl hb rt =>
            rename_i l xs
            have hln := rt.length
            have hz : xs.length * k.toNat ≤ sizeLine := by
              rw [sizeLine_eq]
              have a1 : xs.length * k.toNat ≤ 1000 * 1000 := Nat.mul_le_mul (by omega) (by omega)
              omega
            exact ⟨l, k, xs, rfl, rfl, hl, by omega, by omega, hz, fun q hq => push_list s (rds_rep rt k.toNat) p hq⟩
    · exact p.elim
  · exact p.elim
theorem v_mulM {a b : Expr} {f g : FE} {pos : Pos} (cx : Cxg c W X) (ha : PE X a (TEx c W f)) (hb : PE X b (TEx c W g)) : PE X (.BinOp a .Mult b pos) (TEx c W (eOp2 oMulM f g)) :=
  s_op op_rep k_mulM ha hb
end
end MI
set_option maxRecDepth 100000
set_option maxHeartbeats 4000000
namespace MI
open PySem PySem.Spec PyProof.Rows L2 LamX
/-! ## tuples of a list hold a lambda and a list of the store: a comprehension over them whose values are plain -/
section
variable {c : Ct} {W : WX} {X : Cx} {pins : List (Addr × Obj)} {B Z : List Addr} {σ : L2.St} {H H' : Hp} {s : Shared} {r : Rho} {S T : Sto} {P : Program} {w : World} {q : Addr → Option Obj} {h h' : Heap} {B' Zx : List Addr}
/-! a list of the store and a new one -/
def oAddS : O2 := fun v w S => match v, w with
  | .ref n, .d (.list ys) => (match S[n]? with
    | some (.lst xs) => if xs.length + ys.length ≤ sizeLine then .ok (.d (.list (xs ++ ys))) S else .bad
    | _ => .bad)
  | v, w => oAdd v w S
theorem k_addS : Ok2 c W (rAddA c.K) oAddS := by
  intro σ B Z H S v w x y Q s rv rw_ p
  unfold oAddS at p
  split at p
  · rename_i n ys
    split at p
    · rename_i xs hS
      cases rv with
      | ref hB =>
        rename_i b0
        cases rw_ with
        | d rw_ =>
          split at p
          · rename_i hl
            obtain ⟨us, ha, ru⟩ := s.ob n _ _ hB hS
            obtain ⟨b, ws, rfl, hb, rw2⟩ := rw_.lstS
            exact .inr (.inr (.inr ⟨b0, b, us, ws, rfl, rfl, ha, hb, by rw [← ru.length, ← rw2.length]; exact hl, fun q hq => p B _ (Ev.new s hq) (s.new hq) _ (.d (RD.newList s hq (ru.app rw2)))⟩))
          · exact p.elim
    · exact p.elim
  · exact k_add σ B Z H S v w x y Q s rv rw_ p
theorem v_addS {a b : Expr} {f g : FE} {pos : Pos} (cx : Cxg c W X) (ha : PE X a (TEx c W f)) (hb : PE X b (TEx c W g)) : PE X (.BinOp a .Add b pos) (TEx c W (eOp2 oAddS f g)) := by
  have z : OpR X (binaryOp .Add) (rAddA X.K) := op_addA
  rw [cx.K] at z
  exact s_op z k_addS ha hb
end
end MI
set_option maxRecDepth 100000
set_option maxHeartbeats 4000000
namespace MI
open PySem L2
/-! ## comprehensions and loops over lists printed from any type -/
theorem lcL_e {ι : Type} {g : FG} {t : FT} {e : FE} {r0 : Rho} {S : Sto} {xs : List ι} (f : ι → PyData) (p : ι → Bool) (φ : ι → PyData)
    (h : ∀ x, x ∈ xs → ∃ r1, g (.d (f x)) r0 S = .nx r1 S ∧ t r1 S = .ok (p x) S ∧ (p x = true → e r1 S = .ok (.d (φ x)) S)) :
    lcL g t e r0 (xs.map f) S = .ok ((xs.filter p).map φ) S := by
  induction xs with
  | nil => rfl
  | cons x xs ih =>
    obtain ⟨r1, h1, h2, h3⟩ := h x List.mem_cons_self
    have ih := ih fun y m => h y (List.mem_cons_of_mem _ m)
    rw [List.map_cons]
    unfold lcL
    rw [h1]
    dsimp only
    rw [h2]
    by_cases hp : p x = true
    · simp [hp, h3 hp, ih, List.filter_cons_of_pos hp]
    · simp [hp, ih, List.filter_cons_of_neg hp]
theorem eLc_e {ι : Type} {it : FI} {g : FG} {t : FT} {e : FE} {vs : List Nat} {r : Rho} {S S1 : Sto} {xs : List ι} (f : ι → PyData) (p : ι → Bool) (φ : ι → PyData) (hi : it r S = .ok (xs.map f) S1) (hl : xs.length ≤ 1000000)
    (h : ∀ x, x ∈ xs → ∃ r1, g (.d (f x)) (wipeR r vs) S1 = .nx r1 S1 ∧ t r1 S1 = .ok (p x) S1 ∧ (p x = true → e r1 S1 = .ok (.d (φ x)) S1)) : eLc it g t e vs r S = .ok (.d (.list ((xs.filter p).map φ))) S1 := by
  unfold eLc lcR
  rw [hi]
  show ((if (xs.map f).length ≤ 1000000 then (lcL g t e (wipeR r vs) (xs.map f) S1).nox else .bad : Out (List PyData)).bind _) = _
  rw [if_pos (by rw [List.length_map]; exact hl), lcL_e f p φ h]
  rfl
theorem eLc_em {ι : Type} {it : FI} {g : FG} {e : FE} {vs : List Nat} {r : Rho} {S S1 : Sto} {xs : List ι} (f : ι → PyData) (φ : ι → PyData) (hi : it r S = .ok (xs.map f) S1) (hl : xs.length ≤ 1000000)
    (h : ∀ x, x ∈ xs → ∃ r1, g (.d (f x)) (wipeR r vs) S1 = .nx r1 S1 ∧ e r1 S1 = .ok (.d (φ x)) S1) : eLc it g tYe e vs r S = .ok (.d (.list (xs.map φ))) S1 := by
  have := eLc_e (t := tYe) (e := e) (g := g) (vs := vs) f (fun _ => true) φ hi hl fun x m => by
    obtain ⟨r1, h1, h2⟩ := h x m
    exact ⟨r1, h1, rfl, fun _ => h2⟩
  rw [this, List.filter_eq_self.mpr fun _ _ => rfl]
/-- the same, the invariant tells how far it is -/
theorem forL_ei {ι σ : Type} {g : FG} {b : FS} {xs : List ι} (f : ι → PyData) (R : σ → Rho) (T : σ → Sto) (step : σ → ι → σ) (I : Nat → σ → Prop)
    (h : ∀ i s x, xs[i]? = some x → I i s → (g (.d (f x)) (R s) (T s)).seq b = .nx (R (step s x)) (T (step s x)) ∧ I (i + 1) (step s x)) {s : σ} (hs : I 0 s) :
    forL g b (xs.map f) (R s) (T s) = .nx (R (xs.foldl step s)) (T (xs.foldl step s)) ∧ I xs.length (xs.foldl step s) := by
  have go : ∀ (ys : List ι) (k : Nat) (s : σ), (∀ i, ys[i]? = xs[k + i]?) → I k s → forL g b (ys.map f) (R s) (T s) = .nx (R (ys.foldl step s)) (T (ys.foldl step s)) ∧ I (k + ys.length) (ys.foldl step s) := by
    intro ys
    induction ys with
    | nil => intro k s _ p; exact ⟨rfl, p⟩
    | cons y ys ih =>
      intro k s e p
      have e0 := e 0
      rw [Nat.add_zero, List.getElem?_cons_zero] at e0
      obtain ⟨h1, h2⟩ := h k s y e0.symm p
      obtain ⟨i1, i2⟩ := ih (k + 1) (step s y) (fun i => by
        have := e (i + 1)
        rw [List.getElem?_cons_succ] at this
        rw [this]
        congr 1
        omega) h2
      refine ⟨?_, by rw [List.length_cons, ← Nat.add_assoc, Nat.add_right_comm]; exact i2⟩
      rw [List.map_cons]
      unfold forL
      rw [h1]
      exact i1
  have := go xs 0 s (fun i => by rw [Nat.zero_add]) hs
  rwa [Nat.zero_add] at this
theorem app_ok {S : Sto} {n : Nat} {acc : List PyData} {d : PyData} (hS : S[n]? = some (.lst acc)) (hl : acc.length < 1000000) : mApp (.ref n) [.d d] S = .ok (.d .none) (S.set n (.lst (acc ++ [d]))) := by
  have : acc.length < sizeLine := by have : sizeLine = 16777216 := by decide
                                     omega
  simp only [mApp, hS]
  rw [if_pos this]
/-- a loop whose suite may return: none does -/
theorem forL_pass {g : FG} {b : FS} {ds : List PyData} (P : Rho → Sto → Prop) (h : ∀ d, d ∈ ds → ∀ r S, P r S → ∃ r' S', (g (.d d) r S).seq b = .nx r' S' ∧ P r' S') {r : Rho} {S : Sto} (h0 : P r S) :
    ∃ r' S', forL g b ds r S = .nx r' S' ∧ P r' S' := by
  induction ds generalizing r S with
  | nil => exact ⟨r, S, rfl, h0⟩
  | cons d ds ih =>
    obtain ⟨r1, S1, h1, h2⟩ := h d List.mem_cons_self r S h0
    obtain ⟨r2, S2, h3, h4⟩ := ih (fun d m => h d (List.mem_cons_of_mem _ m)) h2
    refine ⟨r2, S2, ?_, h4⟩
    unfold forL
    rw [h1]
    exact h3
/-! ## statements -/
theorem sc_nx {a k : FS} {r r' : Rho} {S S' : Sto} (h : a r S = .nx r' S') : sCons a k r S = k r' S' := by
  unfold sCons
  rw [h]
  rfl
theorem ss_ok {f : FE} {i : Nat} {r : Rho} {S S' : Sto} {v : IV} (h : f r S = .ok v S') : sSet f i r S = .nx (r.set i (some v)) S' := by
  unfold sSet
  rw [h]
  rfl
theorem si_no {t : FT} {a b : FS} {r : Rho} {S S' : Sto} (h : t r S = .ok false S') : sIf t a b r S = b r S' := by
  unfold sIf
  rw [h]
  rfl
theorem si_yes {t : FT} {a b : FS} {r : Rho} {S S' : Sto} (h : t r S = .ok true S') : sIf t a b r S = a r S' := by
  unfold sIf
  rw [h]
  rfl
theorem sf_eq {i : FI} {g : FG} {b : FS} {r : Rho} {S S' : Sto} {ds : List PyData} (h : i r S = .ok ds S') : sFor i g b r S = forL g b ds r S' := by
  unfold sFor
  rw [h]
  rfl
/-! ## data of ints, of rows -/
theorem len_tiD {xs : List Int} {N : Int} (h : N = xs.length) (S : Sto) : bLenD [ti xs] S = .ok (.d (.int N)) S := by subst h; simp
theorem ixN_ok {n : Nat} {i : Int} (h0 : 0 ≤ i) (h1 : i < n) : ixN n i = some i.toNat := by unfold ixN; rw [if_pos h0, if_pos h1]
theorem atI_ok {α : Type} {xs : List α} {i : Int} {x : α} (h0 : 0 ≤ i) (h : xs[i.toNat]? = some x) : atI xs i = some x := by
  have h1 : i < xs.length := by have := (List.getElem?_eq_some_iff.mp h).1; omega
  unfold atI
  rw [ixN_ok h0 h1]
  exact h
theorem size_line : sizeLine = 16777216 := by decide
theorem small_line {k : Nat} (h : k < 2 ^ 20) : k < sizeLine := by rw [size_line]; omega
theorem rg_small {j : Int} (h0 : 0 ≤ j) (h1 : j < 2 ^ 20) : j.natAbs < 2 ^ 24 := by omega
theorem oIx_tup {ds : List PyData} {p : Int} {y : PyData} (S : Sto) (h0 : 0 ≤ p) (h : ds[p.toNat]? = some y) : oIxD (.d (.tuple ds)) (.d (.int p)) S = .ok (.d y) S := by
  have : atI ds p = some y := atI_ok h0 h
  simp [this]
theorem oIx_lst {ds : List PyData} {p : Int} {y : PyData} (S : Sto) (h0 : 0 ≤ p) (h : ds[p.toNat]? = some y) : oIxD (.d (.list ds)) (.d (.int p)) S = .ok (.d y) S := by
  have : atI ds p = some y := atI_ok h0 h
  simp [this]
theorem oIx_tiD {ys : List Int} {p y : Int} (S : Sto) (h0 : 0 ≤ p) (h : ys[p.toNat]? = some y) : oIxD (ti ys) (.d (.int p)) S = .ok (.d (.int y)) S :=
  oIx_tup S h0 (by rw [List.getElem?_map, h]; rfl)
theorem frz_ti (xs : List Int) : frozen (ti xs) = some (xs.map .int) := rfl
theorem datas_d : ∀ ds : List PyData, datas (ds.map IV.d) = some ds
  | [] => rfl
  | d :: t => by simp [datas, datas_d t]
theorem mkTup_d {ds : List PyData} (h : ds.length ≤ 1000) (S : Sto) : mkTup (ds.map IV.d) S = .ok (.d (.tuple ds)) S := by
  unfold mkTup
  rw [datas_d, if_pos (by rw [List.length_map]; exact h)]
theorem i_add (i j : Int) (S : Sto) : oAdd (.d (.int i)) (.d (.int j)) S = .ok (.d (.int (i + j))) S := rfl
theorem i_sub (i j : Int) (S : Sto) : oInt MI.gSub (.d (.int i)) (.d (.int j)) S = .ok (.d (.int (i - j))) S := rfl
theorem i_neg (i : Int) (S : Sto) : oNeg (.d (.int i)) S = .ok (.d (.int (-i))) S := rfl
theorem add_lst {as bs : List PyData} (h : as.length + bs.length ≤ 1000000) (S : Sto) : oAdd (.d (.list as)) (.d (.list bs)) S = .ok (.d (.list (as ++ bs))) S := by
  show (if as.length + bs.length ≤ sizeLine then Out.ok (IV.d (.list (as ++ bs))) S else .bad) = _
  rw [if_pos (by rw [size_line]; omega)]
theorem sIx_int {n d : Nat} {v : Int} (h : 0 ≤ v) : HT.sIx n d (some v) = min v.toNat n := by
  obtain ⟨k, rfl⟩ := Int.eq_ofNat_of_zero_le h
  rw [HT.sIx_nat]
  rfl
theorem cut_to (l : List PyData) {v : Int} (h : 0 ≤ v) : cutD l none (some v) = l.take v.toNat := by
  unfold cutD
  rw [HT.sIx_none, sIx_int h, List.drop_zero, Nat.sub_zero]
  by_cases hc : v.toNat ≤ l.length
  · rw [Nat.min_eq_left hc]
  · rw [Nat.min_eq_right (by omega), List.take_length, List.take_of_length_le (by omega)]
theorem map_bool {α : Type} (l : List α) (p : α → Bool) : (l.map fun x => PyData.bool (p x)) = (l.map p).map .bool := by rw [List.map_map]; rfl
theorem all_p {α : Type} (l : List α) (p : α → Bool) (S : Sto) : bAll [.d (.list (l.map fun x => .bool (p x)))] S = .ok (.d (.bool (l.all p))) S := by
  rw [map_bool, all_ok]
  simp
theorem cEqS_tup (xs ys : List Int) (S : Sto) : cEqS (ti xs) (ti ys) S = .ok (.d (.bool (decide (xs = ys)))) S := cEq_tup xs ys S
theorem cEqS_lst (xs ys : List Int) (S : Sto) : cEqS (li xs) (li ys) S = .ok (.d (.bool (decide (xs = ys)))) S := cEq_lst xs ys S
/-- data of the store, or not: what toD tells -/
theorem sortA_li (xs : List Int) (S : Sto) : bSortA [li xs] S = .ok (li (isort xs)) S := by
  have : sintsOf S (li xs) = some xs := intsOf_map xs
  unfold bSortA
  simp only [this]
/-! ## the same told by lengths -/
theorem cEqL_int (x y : Int) (S : Sto) : cEqL (.d (.int x)) (.d (.int y)) S = .ok (.d (.bool (decide (x = y)))) S := rfl
theorem cNeL_int (x y : Int) (S : Sto) : cNeL (.d (.int x)) (.d (.int y)) S = .ok (.d (.bool (!decide (x = y)))) S := rfl
theorem cEqL_lst (xs ys : List Int) (S : Sto) : cEqL (li xs) (li ys) S = .ok (.d (.bool (decide (xs = ys)))) S := by
  unfold cEqL lenTell
  dsimp only
  by_cases h : (xs.map PyData.int).length = (ys.map PyData.int).length
  · rw [if_pos h]
    exact cEqS_lst xs ys S
  · rw [if_neg h]
    rw [decide_eq_false (fun e => h (by rw [e]))]
theorem ti_len0 {xs : List Int} (h : (xs.map PyData.int).length = 0) : xs = [] := List.eq_nil_of_length_eq_zero (by rw [List.length_map] at h; exact h)
theorem cEqL_tup (xs ys : List Int) (S : Sto) : cEqL (ti xs) (ti ys) S = .ok (.d (.bool (decide (xs = ys)))) S := by
  unfold cEqL lenTell
  dsimp only
  by_cases h : (xs.map PyData.int).length = 0 ∨ (ys.map PyData.int).length = 0
  · rw [if_pos h]
    show Out.ok (IV.d (.bool (decide ((xs.map PyData.int).length = (ys.map PyData.int).length)))) S = _
    congr 3
    rw [decide_eq_decide, List.length_map, List.length_map]
    rcases h with h | h
    · rw [ti_len0 h]
      constructor
      · intro e; exact (List.eq_nil_of_length_eq_zero e.symm).symm
      · intro e; rw [← e]
    · rw [ti_len0 h]
      constructor
      · intro e; exact List.eq_nil_of_length_eq_zero e
      · intro e; rw [e]
  · rw [if_neg h]
    exact cEqS_tup xs ys S
theorem cNeL_str (x y : Str) (S : Sto) : cNeL (.d (.str x)) (.d (.str y)) S = .ok (.d (.bool (!decide (x = y)))) S := rfl
theorem cEqL_str (x y : Str) (S : Sto) : cEqL (.d (.str x)) (.d (.str y)) S = .ok (.d (.bool (decide (x = y)))) S := rfl
end MI
set_option maxRecDepth 100000
set_option maxHeartbeats 4000000
namespace MI
open PySem L2
/-! ## lists of ints -/
theorem rg_pw (i j : Int) : (rgI i j).Pairwise (· < ·) := by
  unfold rgI
  rw [List.pairwise_map]
  exact List.pairwise_lt_range.imp fun {a b} h => by omega
theorem rg_nd (i j : Int) : (rgI i j).Nodup := (rg_pw i j).imp fun {a b} h => by omega
theorem rg_nil {i j : Int} (h : j ≤ i) : rgI i j = [] := by
  unfold rgI
  rw [show (j - i).toNat = 0 by omega]
  rfl
theorem isort_lt {l : List Int} (h : l.Nodup) : (isort l).Pairwise (· < ·) := by
  have h1 := isort_pw l
  have h2 : (isort l).Nodup := (isort_perm l).nodup_iff.mpr h
  exact (List.pairwise_and_iff.mpr ⟨h1, h2⟩).imp fun {a b} ⟨p, q⟩ => by
    have q : a ≠ b := q
    omega
/-- as many, all between: all of them -/
theorem asc_full : ∀ (l : List Int) (a b : Int), l.Pairwise (· < ·) → (∀ x ∈ l, a ≤ x ∧ x < b) → (b - a).toNat ≤ l.length → l = rgI a b
  | [], a, b, _, _, h => by rw [rg_nil (by simp at h; omega)]
  | x :: t, a, b, h, hm, hl => by
    have z := List.pairwise_cons.mp h
    have hx := hm x List.mem_cons_self
    have ht : ∀ y ∈ t, x + 1 ≤ y ∧ y < b := fun y m => by
      have := z.1 y m
      have := hm y (List.mem_cons_of_mem _ m)
      omega
    have le : ∀ (l : List Int) (a b : Int), l.Pairwise (· < ·) → (∀ x ∈ l, a ≤ x ∧ x < b) → l.length ≤ (b - a).toNat := by
      intro l
      induction l with
      | nil => intro a b _ _; exact Nat.zero_le _
      | cons y t ih =>
        intro a b h hm
        have z := List.pairwise_cons.mp h
        have hy := hm y List.mem_cons_self
        have := ih (y + 1) b z.2 fun w m => by
          have := z.1 w m
          have := hm w (List.mem_cons_of_mem _ m)
          omega
        rw [List.length_cons]
        omega
    have l1 := le t (x + 1) b z.2 ht
    rw [List.length_cons] at hl
    have ex : x = a := by omega
    have i := asc_full t (x + 1) b z.2 ht (by omega)
    subst ex
    rw [i]
    refine slt_unique (fun k => ?_) (i ▸ h) (rg_pw _ _)
    rw [List.mem_cons, mem_rgI, mem_rgI]
    omega
/-- distinct, as many as there are, all between -/
theorem full_of {l : List Int} {N : Int} (hn : l.Nodup) (hm : ∀ x ∈ l, 1 ≤ x ∧ x ≤ N) (hl : N = l.length) : isort l = rgI 1 (N + 1) :=
  asc_full _ _ _ (isort_lt hn) (fun x m => by have := hm x ((isort_perm l).mem_iff.mp m); omega) (by rw [(isort_perm l).length_eq]; omega)
theorem of_full {l : List Int} {N : Int} (h : isort l = rgI 1 (N + 1)) : l.Nodup ∧ (∀ x ∈ l, 1 ≤ x ∧ x ≤ N) := by
  have p := isort_perm l
  rw [h] at p
  exact ⟨p.nodup_iff.mp (rg_nd _ _), fun x m => by have := mem_rgI.mp (p.mem_iff.mpr m); omega⟩
/-! ## rows without fronts -/
structure PR (xs : List Int) (N : Int) : Prop where
  len : N = xs.length
  lo : 1 ≤ N
  hi : N ≤ 12
  mem : ∀ x ∈ xs, 1 ≤ x ∧ x ≤ N
  nd : xs.Nodup
theorem PR.perm {xs : List Int} {N : Int} (v : PR xs N) : xs.Perm (rgI 1 (N + 1)) := by
  rw [← full_of v.nd v.mem v.len]
  exact (isort_perm _).symm
theorem PR.small {xs : List Int} {N : Int} (v : PR xs N) : xs.length ≤ 12 := by have := v.len; have := v.hi; omega
/-- a stretch of places turned about -/
def rv (xs : List Int) (f l : Int) : List Int := xs.take (f - 1).toNat ++ ((xs.take l.toNat).drop (f - 1).toNat).reverse ++ xs.drop l.toNat
section
variable {xs : List Int} {N f l : Int}
/-- the row with its two ends -/
def ext (xs : List Int) (N : Int) : List Int := 0 :: (xs ++ [N + 1])
def E (xs : List Int) (N p : Int) : Int := (ext xs N).getD p.toNat 0
theorem ext_at (hl : N = xs.length) {p : Int} (h0 : 0 ≤ p) (h1 : p ≤ N + 1) : (ext xs N)[p.toNat]? = some (E xs N p) := by
  have hl : p.toNat < (ext xs N).length := by simp [ext]; omega
  unfold E
  rw [List.getD_eq_getElem?_getD, List.getElem?_eq_getElem hl]
  rfl
theorem row_at (hn : N = xs.length) {p : Int} (h0 : 0 ≤ p) (h1 : p < N) : xs[p.toNat]? = some (E xs N (p + 1)) := by
  have h := ext_at (p := p + 1) hn (by omega) (by omega)
  have e : (p + 1).toNat = p.toNat + 1 := by omega
  have hl : p.toNat < xs.length := by omega
  rw [e] at h
  unfold ext at h
  rw [List.getElem?_cons_succ, List.getElem?_append_left hl] at h
  exact h
theorem E_last (hn : N = xs.length) : E xs N (N + 1) = N + 1 := by
  have h := ext_at (xs := xs) (p := N + 1) hn (by omega) (by omega)
  have e : (N + 1).toNat = xs.length + 1 := by omega
  rw [e] at h
  unfold ext at h
  rw [List.getElem?_cons_succ, List.getElem?_append_right (Nat.le_refl _)] at h
  simp at h
  exact h.symm
/-- a broken point of a row without fronts -/
def bk (xs : List Int) (N p : Int) : Bool := !decide ((E xs N p - E xs N (p + 1)).natAbs = 1)
end
/-! ## depth and size of data -/
theorem depthAll_le : ∀ (ds : List PyData) (k : Nat), (∀ d ∈ ds, d.depth ≤ k) → PyData.depthAll ds ≤ k
  | [], k, _ => Nat.zero_le _
  | d :: t, k, h => by
    have h1 := h d List.mem_cons_self
    have h2 := depthAll_le t k fun x m => h x (List.mem_cons_of_mem _ m)
    simp only [PyData.depthAll]
    omega
theorem nds_le : ∀ (ds : List PyData) (k : Nat), (∀ d ∈ ds, nd d ≤ k) → nds ds ≤ k * ds.length
  | [], k, _ => Nat.zero_le _
  | d :: t, k, h => by
    have h1 := h d List.mem_cons_self
    have h2 := nds_le t k fun x m => h x (List.mem_cons_of_mem _ m)
    show nd d + nds t ≤ k * (t.length + 1)
    rw [Nat.mul_add, Nat.mul_one]
    omega
theorem big {k : Nat} (h : k < 2 ^ 60) : k < 2 ^ 1000 := Nat.lt_of_lt_of_le h (Nat.pow_le_pow_right (by omega) (by omega))
theorem noS_i {i : Int} (h : i.natAbs < 2 ^ 60) : noS (.int i) = true := by
  have := noS_ints [i] fun x m => by rw [List.mem_singleton.mp m]; exact big h
  simpa [noSs] using this
end MI
set_option maxRecDepth 100000
set_option maxHeartbeats 4000000
namespace MI
open PySem L2
/-! ## the draws of the laws, whatever their constants -/
theorem px0 (a b c : PyData) : oIx (.ref 0) (.d (.int 0)) [.lst [a, b, c]] = .ok (.d a) [.lst [a, b, c]] := by simp [atI, ixN]
theorem px1 (a b c : PyData) : oIx (.ref 0) (.d (.int 1)) [.lst [a, b, c]] = .ok (.d b) [.lst [a, b, c]] := by simp [atI, ixN]
theorem px2 (a b c : PyData) : oIx (.ref 0) (.d (.int 2)) [.lst [a, b, c]] = .ok (.d c) [.lst [a, b, c]] := by simp [atI, ixN]
theorem pp0 (a b c x : PyData) : stPut (.ref 0) (.d (.int 0)) (.d x) [.lst [a, b, c]] = some [.lst [x, b, c]] := by simp [ixN]
theorem pp2 (a b c x : PyData) : stPut (.ref 0) (.d (.int 2)) (.d x) [.lst [a, b, c]] = some [.lst [a, b, x]] := by simp [ixN]
theorem small_lt {n k : Nat} (h : n < 2 ^ k) (hk : k ≤ 2000) : n < 2 ^ 2000 := Nat.lt_of_lt_of_le h (Nat.pow_le_pow_right (by omega) hk)
theorem gMul_ok {i j : Int} (h1 : i.natAbs < 2 ^ 200) (h2 : j.natAbs < 2 ^ 200) : MI.gMul i j = some (i * j) := if_pos ⟨small_lt h1 (by omega), small_lt h2 (by omega)⟩
theorem gDiv_ok {i j : Int} (h0 : 0 < j) (h1 : j.natAbs < 2 ^ 200) : MI.gDiv i j = some (i / j) := if_pos ⟨h0, small_lt h1 (by omega)⟩
theorem gMod_ok {i j : Int} (h0 : 0 < j) : MI.gMod i j = some (i % j) := if_pos h0
theorem gPw_ok {i j : Int} (h0 : 0 ≤ j) (h1 : j ≤ 1000) (h2 : i.natAbs < 2 ^ 200) : gPw i j = some (i ^ j.toNat) := if_pos ⟨h0, h1, Nat.lt_of_lt_of_le h2 (Nat.pow_le_pow_right (by omega) (by omega))⟩
def Pot (n : Nat) (ds : List PyData) : Prop := ∃ a b c : Int, ds = [.int a, .int b, .int c] ∧ 0 ≤ a ∧ a < 10 ^ 300 ∧ 0 ≤ b ∧ b < 2 ^ 61 ∧ 0 ≤ c ∧ c ≤ n
theorem Pot.mono {n m : Nat} {ds : List PyData} (h : Pot n ds) (hm : n ≤ m) : Pot m ds := by
  obtain ⟨a, b, c, e, h1, h2, h3, h4, h5, h6⟩ := h
  exact ⟨a, b, c, e, h1, h2, h3, h4, h5, by omega⟩
def rTake (p1 p2 p3 p4 p5 a b c d M e : Int) : FN := fnB 5 ((sCons (sIf (tE (eOp2 (cInt MI.gGt) (eOp2 oIx (eVar 0) (eC (.int 0))) (eC (.int 0)))) (sCons (sSet (eOp2 (oInt MI.gMod) (eApp bInt (aCons (eOp2 oIx (eVar 0) (eC (.int 0))) aNil)) (eVar 1)) 4)
  (sCons (sAs (eOp2 (oInt MI.gDiv) (eOp2 oIx (eVar 0) (eC (.int 0))) (eVar 1)) (gSb (eVar 0) (eC (.int 0))))
  (sCons (sRet (eVar 4))
  sNil))) sNil)
  (sCons (sAs (eOp2 oAdd (eOp2 oIx (eVar 0) (eC (.int 2))) (eC (.int 1))) (gSb (eVar 0) (eC (.int 2))))
  (sCons (sSet (eOp2 oIx (eLst (aCons (eC (.int p1)) (aCons (eC (.int p2)) (aCons (eC (.int p3)) (aCons (eC (.int p4)) (aCons (eC (.int p5)) aNil)))))) (eOp2 (oInt MI.gMod) (eApp bInt (aCons (eOp2 oIx (eVar 0) (eC (.int 2))) aNil)) (eC (.int 5)))) 2)
  (sCons (sSet (eOp2 (oInt MI.gMod) (eApp bInt (aCons (eOp2 (oInt gPw) (eApp bInt (aCons (eOp2 oAdd (eOp2 oAdd (eOp2 oIx (eVar 0) (eC (.int 1))) (eOp2 (oInt MI.gMul) (eOp2 (oInt MI.gMul) (eC (.int a)) (eOp2 oIx (eVar 0) (eC (.int 2)))) (eOp2 oIx (eVar 0) (eC (.int 2))))) (eC (.int b))) aNil)) (eC (.int 3))) aNil)) (eVar 2)) 3)
  (sCons (sSet (eOp2 (oInt MI.gMod) (eApp bInt (aCons (eOp2 (oInt MI.gMul) (eVar 3) (eOp2 oAdd (eOp2 (oInt MI.gMod) (eApp bInt (aCons (eVar 3) aNil)) (eC (.int c))) (eOp2 (oInt MI.gMul) (eC (.int d)) (eOp2 oIx (eVar 0) (eC (.int 2)))))) aNil)) (eC (.int M))) 3)
  (sCons (sRet (eOp2 (oInt MI.gMod) (eApp bInt (aCons (eOp2 (oInt MI.gDiv) (eVar 3) (eC (.int e))) aNil)) (eVar 1)))
  sNil)))))))
/-- what is asked of a drawing def -/
def TakeOk (T : FN) : Prop := ∀ {n : Nat} {ds : List PyData} {u : Int}, Pot n ds → n ≤ 1000000 → 0 < u → u < 2 ^ 60 →
    ∃ v es, T [.ref 0, .d (.int u)] [.lst ds] = .ok (.d (.int v)) [.lst es] ∧ 0 ≤ v ∧ v < u ∧ Pot (n + 1) es
def okC (i : Int) : Bool := decide (0 < i) && decide (i < 1099511627776)
def tkC (l : List Int) (M : Int) : Bool := l.all okC && (decide (0 < M) && decide (M < 1180591620717411303424))
theorem take_ok {p1 p2 p3 p4 p5 a b c d M e : Int} (hc : tkC [p1, p2, p3, p4, p5, a, b, c, d, e] M = true) : TakeOk (rTake p1 p2 p3 p4 p5 a b c d M e) := by
  intro n ds u hp hn hu hu2
  simp only [tkC, okC, List.all_cons, List.all_nil, Bool.and_true, Bool.and_eq_true, decide_eq_true_eq] at hc
  obtain ⟨⟨⟨k1, k1'⟩, ⟨k2, k2'⟩, ⟨k3, k3'⟩, ⟨k4, k4'⟩, ⟨k5, k5'⟩, ⟨ka, ka'⟩, ⟨kb, kb'⟩, ⟨kc, kc'⟩, ⟨kd, kd'⟩, ⟨ke, ke'⟩⟩, kM, kM'⟩ := hc
  obtain ⟨w0, w1, w2, rfl, h1, h2, h3, h4, h5, h6⟩ := hp
  have m0 : MI.gMod w0 u = some (w0 % u) := gMod_ok hu
  have d0 : MI.gDiv w0 u = some (w0 / u) := gDiv_ok hu (by omega)
  by_cases ha : 0 < w0
  · refine ⟨w0 % u, [.int (w0 / u), .int w1, .int w2], ?_, Int.emod_nonneg _ (by omega), Int.emod_lt_of_pos _ hu, ⟨w0 / u, w1, w2, rfl, Int.ediv_nonneg h1 (by omega), ?_, h3, h4, h5, by omega⟩⟩
    · simp [rTake, ha, px0, pp0, m0, d0, List.replicate, -oIx, -stPut, -MI.gMod, -MI.gDiv]
    · exact Int.lt_of_le_of_lt (Int.ediv_le_self _ h1) h2
  · have b1 : a * (w2 + 1) ≤ 1099511627776 * 1000001 := Int.mul_le_mul (by omega) (by omega) (by omega) (by omega)
    have b0 : 0 ≤ a * (w2 + 1) := Int.mul_nonneg (by omega) (by omega)
    have m1 : MI.gMul a (w2 + 1) = some (a * (w2 + 1)) := gMul_ok (by omega) (by omega)
    have m2 : MI.gMul (a * (w2 + 1)) (w2 + 1) = some (a * (w2 + 1) * (w2 + 1)) := gMul_ok (by omega) (by omega)
    have b3 : a * (w2 + 1) * (w2 + 1) ≤ 1099511627776 * 1000001 * 1000001 := Int.mul_le_mul b1 (by omega) (by omega) (by omega)
    have b2 : 0 ≤ a * (w2 + 1) * (w2 + 1) := Int.mul_nonneg b0 (by omega)
    have m3 : gPw (w1 + a * (w2 + 1) * (w2 + 1) + b) 3 = some ((w1 + a * (w2 + 1) * (w2 + 1) + b) ^ 3) := gPw_ok (by omega) (by omega) (by omega)
    obtain ⟨p, hp1, hp2, hp⟩ : ∃ p : Int, 0 < p ∧ p < 1099511627776 ∧ ∀ S, oIx (.d (.list [.int p1, .int p2, .int p3, .int p4, .int p5])) (.d (.int ((w2 + 1) % 5))) S = .ok (.d (.int p)) S := by
      have : (w2 + 1) % 5 = 0 ∨ (w2 + 1) % 5 = 1 ∨ (w2 + 1) % 5 = 2 ∨ (w2 + 1) % 5 = 3 ∨ (w2 + 1) % 5 = 4 := by omega
      rcases this with h | h | h | h | h <;> rw [h]
      · exact ⟨p1, k1, k1', fun S => by simp [atI, ixN]⟩
      · exact ⟨p2, k2, k2', fun S => by simp [atI, ixN]⟩
      · exact ⟨p3, k3, k3', fun S => by simp [atI, ixN]⟩
      · exact ⟨p4, k4, k4', fun S => by simp [atI, ixN]⟩
      · exact ⟨p5, k5, k5', fun S => by simp [atI, ixN]⟩
    have m4 : MI.gMod (w2 + 1) 5 = some ((w2 + 1) % 5) := gMod_ok (by omega)
    generalize hx : (w1 + a * (w2 + 1) * (w2 + 1) + b) ^ 3 = x at m3
    have m5 : MI.gMod x p = some (x % p) := gMod_ok hp1
    have y0 : 0 ≤ x % p := Int.emod_nonneg _ (by omega)
    have y1 : x % p < p := Int.emod_lt_of_pos _ hp1
    generalize hy : x % p = y at m5 y0 y1
    have m6 : MI.gMod y c = some (y % c) := gMod_ok kc
    have z0 : 0 ≤ y % c := Int.emod_nonneg _ (by omega)
    have z1 : y % c < c := Int.emod_lt_of_pos _ kc
    have e1 : d * (w2 + 1) ≤ 1099511627776 * 1000001 := Int.mul_le_mul (by omega) (by omega) (by omega) (by omega)
    have e0 : 0 ≤ d * (w2 + 1) := Int.mul_nonneg (by omega) (by omega)
    have m7 : MI.gMul d (w2 + 1) = some (d * (w2 + 1)) := gMul_ok (by omega) (by omega)
    have m8 : MI.gMul y (y % c + d * (w2 + 1)) = some (y * (y % c + d * (w2 + 1))) := gMul_ok (by omega) (by omega)
    generalize hz : y * (y % c + d * (w2 + 1)) = z at m8
    have m9 : MI.gMod z M = some (z % M) := gMod_ok kM
    generalize hw : z % M = w at m9
    have m10 : MI.gDiv w e = some (w / e) := gDiv_ok ke (by omega)
    have m11 : MI.gMod (w / e) u = some (w / e % u) := gMod_ok hu
    refine ⟨w / e % u, [.int w0, .int w1, .int (w2 + 1)], ?_, Int.emod_nonneg _ (by omega), Int.emod_lt_of_pos _ hu, ⟨w0, w1, w2 + 1, rfl, h1, h2, h3, h4, by omega, by omega⟩⟩
    simp [rTake, ha, px0, px1, px2, pp2, m1, m2, m3, m4, m5, m6, m7, m8, m9, m10, m11, hp, List.replicate, -oIx, -stPut, -MI.gMod, -MI.gDiv, -MI.gMul, -gPw]
section
variable {T : FN} (hT : TakeOk T)
include hT
def rOf (T : FN) : FN := fnB 2 ((sCons (sRet (eOp2 oIx (eVar 1) (eApp (callN 2 T) (aCons (eVar 0) (aCons (eApp bLen (aCons (eVar 1) aNil)) aNil))))) sNil))
omit hT in
theorem put_at {S : Sto} {k : Nat} {o o' : IO} (h : S[k]? = some o) : (S.set k o')[k]? = some o' := List.getElem?_set_self (List.getElem?_eq_some_iff.mp h).1
theorem of_ok {n : Nat} {ds : List PyData} {xs : List PyData} (hp : Pot n ds) (hn : n ≤ 1000000) (h0 : 0 < xs.length) (h1 : xs.length < 2 ^ 50) :
    ∃ d es, d ∈ xs ∧ rOf T [.ref 0, .d (.list xs)] [.lst ds] = .ok (.d d) [.lst es] ∧ Pot (n + 1) es := by
  obtain ⟨v, es, e, v0, v1, p⟩ := hT hp hn (u := xs.length) (by omega) (by omega)
  have hc := call_pot (n := 0) (S := [.lst ds]) (is := [.d (.int xs.length)]) rfl rfl e rfl
  have hv : v.toNat < xs.length := by omega
  have ha : atI xs v = some xs[v.toNat] := atI_ok v0 (List.getElem?_eq_getElem hv)
  refine ⟨xs[v.toNat], es, List.getElem_mem hv, ?_, p⟩
  simp [rOf, hc, ha, List.replicate]
/-- the same of a list of the law that is not changed, handed over by name of the store -/
theorem call_of {n : Nat} {ds : List PyData} {xs : List PyData} {S : Sto} {k : Nat} (hp : Pot n ds) (hn : n ≤ 1000000) (h0 : 0 < xs.length) (h1 : xs.length < 2 ^ 50) (hS : S[k]? = some (.lst ds)) :
    ∃ d es, d ∈ xs ∧ callW backW (rOf T) [.ref k, .d (.list xs)] S = .ok (.d d) (S.set k (.lst es)) ∧ Pot (n + 1) es := by
  obtain ⟨d, es, m, e, p⟩ := of_ok hT hp hn h0 h1
  exact ⟨d, es, m, call_pot rfl hS e rfl, p⟩
theorem call_take {n : Nat} {ds : List PyData} {u : Int} {S : Sto} {k : Nat} (hp : Pot n ds) (hn : n ≤ 1000000) (hu : 0 < u) (hu2 : u < 2 ^ 60) (hS : S[k]? = some (.lst ds)) :
    ∃ v es, callW backW T [.ref k, .d (.int u)] S = .ok (.d (.int v)) (S.set k (.lst es)) ∧ 0 ≤ v ∧ v < u ∧ Pot (n + 1) es := by
  obtain ⟨v, es, e, v0, v1, p⟩ := hT hp hn hu hu2
  exact ⟨v, es, call_pot rfl hS e rfl, v0, v1, p⟩
omit hT in
theorem erase_perm {α : Type} : ∀ {l : List α} {i : Nat} (h : i < l.length), (l[i] :: l.eraseIdx i).Perm l
  | x :: t, 0, _ => .refl _
  | x :: t, i + 1, h => by
    have ih := erase_perm (l := t) (i := i) (by simpa using h)
    exact (List.Perm.swap x _ _).trans (ih.cons x)
/-- one wagon drawn out of the pool (list 1) into what is found (list 2) -/
theorem draw_out {n i : Nat} {xs zs ys es : List PyData} (hn : n + i ≤ 1000000) (q3 : (ys ++ zs).Perm xs) (h1 : xs.length < 2 ^ 20) (q4 : ys.length = i) (q5 : Pot (n + i) es) (hi : i < xs.length) :
    ∃ zs' ys' fs t d, callW backW T [.ref 0, .d (.int zs.length)] [.lst es, .lst zs, .lst ys] = .ok (.d (.int t)) [.lst fs, .lst zs, .lst ys] ∧
      mPopA (.ref 1) [.d (.int t)] [.lst fs, .lst zs, .lst ys] = .ok (.d d) [.lst fs, .lst zs', .lst ys] ∧ mApp (.ref 2) [.d d] [.lst fs, .lst zs', .lst ys] = .ok (.d .none) [.lst fs, .lst zs', .lst ys'] ∧
      (ys' ++ zs').Perm xs ∧ ys'.length = i + 1 ∧ Pot (n + i + 1) fs := by
  have hl : zs.length = xs.length - i := by have := q3.length_eq; rw [List.length_append] at this; omega
  obtain ⟨t, fs, c1, c2, c3, c4⟩ := call_take hT (u := zs.length) (k := 0) (S := [.lst es, .lst zs, .lst ys]) q5 hn (by omega) (by omega) rfl
  have ht : t.toNat < zs.length := by omega
  have hx : seqIndex? t zs.length = some t.toNat := PySem.StrLaws.seqIndex_nonneg c2 c3
  have hyl : ys.length < sizeLine := small_line (by omega)
  have k1 : t.natAbs < 2 ^ 63 := by omega
  refine ⟨zs.eraseIdx t.toNat, ys ++ [zs[t.toNat]], fs, t, zs[t.toNat], c1, ?_, ?_, ?_, by simp [q4], c4⟩
  · simp only [mPopA, List.getElem?_cons_succ, List.getElem?_cons_zero]
    rw [if_pos k1, hx]
    simp only [List.getElem?_eq_getElem ht, List.set_cons_succ, List.set_cons_zero]
  · simp only [mApp, List.getElem?_cons_succ, List.getElem?_cons_zero]
    rw [if_pos hyl]
    simp only [List.set_cons_succ, List.set_cons_zero]
  · rw [List.append_assoc]
    exact (List.Perm.append_left _ (erase_perm ht)).trans q3
def rSomeA (T : FN) : FN := fnB 6 ((sCons (sPar 4 5 (aCons (eApp bListM (aCons (eVar 1) aNil)) (aCons (eLstM aNil) aNil)))
  (sCons (sFor (iR1 (eVar 2)) (gNm 3) (sCons (sEx (eMt "list" mApp (eVar 5) (aCons (eMt "list" mPopA (eVar 4) (aCons (eApp (callN 2 T) (aCons (eVar 0) (aCons (eApp bLen (aCons (eVar 4) aNil)) aNil))) aNil)) aNil)))
  sNil))
  (sCons (sRet (eVar 5))
  sNil))))
theorem someA_ok {n : Nat} {ds : List PyData} {xs : List PyData} {m : Nat} {M : Int} (hM : M = m) (hp : Pot n ds) (hn : n + m ≤ 1000000) (hm : m ≤ xs.length) (h1 : xs.length < 2 ^ 20) :
    ∃ ys zs es Z, (ys ++ zs).Perm xs ∧ ys.length = m ∧ rSomeA T [.ref 0, .d (.list xs), .d (.int M)] [.lst ds] = .ok (.ref 2) [.lst es, Z, .lst ys] ∧ Pot (n + m) es := by
  have hr : (rngD 0 M).length = m := by rw [rngD_rg, List.length_map, len_rgI]; omega
  obtain ⟨r', S', e, zs, ys, es, v, q1, q2, q3, q4, q5⟩ := forL_inv (g := gNm 3) (b := sCons (sEx (eMt "list" mApp (eVar 5) (aCons (eMt "list" mPopA (eVar 4) (aCons (eApp (callN 2 T) (aCons (eVar 0) (aCons (eApp bLen (aCons (eVar 4) aNil)) aNil))) aNil)) aNil))) sNil) (ds := rngD 0 M)
    (fun i r S => ∃ zs ys es v, r = [some (.ref 0), some (.d (.list xs)), some (.d (.int M)), v, some (.ref 1), some (.ref 2)] ∧ S = [.lst es, .lst zs, .lst ys] ∧ (ys ++ zs).Perm xs ∧ ys.length = i ∧ Pot (n + i) es)
    (fun i r S d hd ⟨zs, ys, es, v, q1, q2, q3, q4, q5⟩ => by
      have hi : i < m := by have := (List.getElem?_eq_some_iff.mp hd).1; rw [hr] at this; exact this
      obtain ⟨zs', ys', fs, t, x, c1, c2, c3, p1, p2, p3⟩ := draw_out hT (by omega) q3 h1 q4 q5 (by omega)
      subst q1 q2
      exact ⟨[some (.ref 0), some (.d (.list xs)), some (.d (.int M)), some (.d d), some (.ref 1), some (.ref 2)], [.lst fs, .lst zs', .lst ys'], by simp [c1, c2, c3, -mPopA, -mApp], zs', ys', fs, _, rfl, rfl, p1, p2, by rw [← Nat.add_assoc]; exact p3⟩)
    (r := [some (.ref 0), some (.d (.list xs)), some (.d (.int M)), none, some (.ref 1), some (.ref 2)]) (S := [.lst ds, .lst xs, .lst []]) ⟨xs, [], ds, none, rfl, rfl, by simp, rfl, by simpa using hp⟩
  subst q1 q2
  rw [hr] at q4 q5
  refine ⟨ys, zs, es, .lst zs, q3, q4, ?_, q5⟩
  have b := rg_small (j := M) (by omega) (by omega)
  have hi : iR1 (eVar 2) [some (.ref 0), some (.d (.list xs)), some (.d (.int M)), none, some (.ref 1), some (.ref 2)] [.lst ds, .lst xs, .lst []] = .ok (rngD 0 M) [.lst ds, .lst xs, .lst []] := iR1_ok rfl b
  simp [rSomeA, List.replicate, hi, e, -iR1]
/-- called with the law's own pot, what is found frozen -/
theorem call_some {F : FN} (hF : ∀ {n : Nat} {ds : List PyData} {xs : List PyData} {m : Nat} {M : Int}, M = m → Pot n ds → n + m ≤ 1000000 → m ≤ xs.length → xs.length < 2 ^ 20 →
      ∃ ys zs es Z, (ys ++ zs).Perm xs ∧ ys.length = m ∧ F [.ref 0, .d (.list xs), .d (.int M)] [.lst ds] = .ok (.ref 2) [.lst es, Z, .lst ys] ∧ Pot (n + m) es)
    {n : Nat} {ds : List PyData} {xs : List PyData} {m : Nat} {M : Int} {S : Sto} {k : Nat} (hM : M = m) (hp : Pot n ds) (hn : n + m ≤ 1000000) (hm : m ≤ xs.length) (h1 : xs.length < 2 ^ 20) (hS : S[k]? = some (.lst ds)) :
    ∃ ys zs es, (ys ++ zs).Perm xs ∧ ys.length = m ∧ callW backW F [.ref k, .d (.list xs), .d (.int M)] S = .ok (.d (.list ys)) (S.set k (.lst es)) ∧ Pot (n + m) es := by
  obtain ⟨ys, zs, es, Z, h1, h2, h3, h4⟩ := hF hM hp hn hm h1
  exact ⟨ys, zs, es, h1, h2, call_potN (k := 1) rfl hS h3 rfl, h4⟩
end
end MI
set_option maxRecDepth 100000
set_option maxHeartbeats 4000000
namespace MI
open PySem L2
theorem perm_map {ι : Type} {f : ι → PyData} : ∀ {l : List ι} {ys : List PyData}, ys.Perm (l.map f) → ∃ zs : List ι, ys = zs.map f ∧ zs.Perm l := by
  have key : ∀ {a b : List PyData}, a.Perm b → ∀ l : List ι, b = l.map f → ∃ zs : List ι, a = zs.map f ∧ zs.Perm l := by
    intro a b p
    induction p with
    | nil => intro l e; exact ⟨[], rfl, by cases l with | nil => exact .refl _ | cons x t => cases e⟩
    | @cons x l1 l2 p ih =>
      intro l e
      cases l with
      | nil => cases e
      | cons y t =>
        rw [List.map_cons] at e
        injection e with e1 e2
        obtain ⟨zs, h1, h2⟩ := ih t e2
        exact ⟨y :: zs, by rw [List.map_cons, ← e1, ← h1], h2.cons y⟩
    | swap x y t =>
      intro l e
      match l, e with
      | a :: b :: t', e =>
        rw [List.map_cons, List.map_cons] at e
        injection e with e1 e2
        injection e2 with e3 e4
        exact ⟨b :: a :: t', by rw [List.map_cons, List.map_cons, ← e1, ← e3, ← e4], List.Perm.swap _ _ _⟩
      | [a], e => rw [List.map_cons] at e; injection e with e1 e2; cases e2
      | [], e => cases e
    | trans p q ih1 ih2 =>
      intro l e
      obtain ⟨zs, h1, h2⟩ := ih2 l e
      obtain ⟨ws, h3, h4⟩ := ih1 zs h1
      exact ⟨ws, h3, h4.trans h2⟩
  exact fun {l ys} p => key p l rfl
/-! ## the pot, the cells -/
def iabs (i : Int) : Int := if i < 0 then -i else i
def rPotW (cellE : FE) (c d e : Int) : FN := fnB 5 ((sCons (sSet cellE 2)
  (sCons (sSet (eOp2 (oInt MI.gMul) (eOp2 (oInt MI.gMod) (eApp bInt (aCons (eApp bAbs (aCons (eVar 2) aNil)) aNil)) (eOp2 (oInt gPw) (eOp2 (oInt gPw) (eC (.int 10)) (eC (.int 60))) (eC (.int 5)))) (eApp bInt (aCons (eOp2 (cInt MI.gGe) (eApp bAbs (aCons (eVar 2) aNil)) (eOp2 (oInt gPw) (eC (.int 10)) (eC (.int 18)))) aNil))) 3)
  (sCons (sSet (eOp2 (oInt MI.gMod) (eApp bInt (aCons (eVar 2) aNil)) (eC (.int 2305843009213693951))) 4)
  (sCons (sRet (eLstM (aCons (eVar 3) (aCons (eOp2 (oInt MI.gMod) (eApp bInt (aCons (eOp2 oAdd (eOp2 oAdd (eOp2 (oInt MI.gMul) (eVar 4) (eC (.int c))) (eOp2 (oInt MI.gMul) (eOp2 (oInt MI.gMul) (eC (.int d)) (eVar 1)) (eVar 1))) (eC (.int e))) aNil)) (eC (.int 2305843009213693921))) (aCons (eC (.int 0)) aNil)))))
  sNil)))))
def rCellA (m a b : Int) : FE := eIf (tE (eOp2 (cInt MI.gLt) (eVar 1) (eApp bLen (aCons (eVar 0) aNil)))) (eOp2 oIx (eVar 0) (eVar 1)) (eOp2 oAdd (eOp2 oAdd (eOp2 (oInt MI.gMod) (eApp bSum (aCons (eSl (eVar 0) pNo (pSm (eC (.int 1)))) aNil)) (eC (.int m))) (eOp2 (oInt MI.gMul) (eC (.int a)) (eVar 1))) (eC (.int b)))
def CellOk (f : FE) : Prop := ∀ (ns : List Int) (p : Int), 0 ≤ p → p ≤ 10 → ns.length ≤ 63 → ∃ cell : Int, f [some (.scr ns), some (.d (.int p)), none, none, none] [] = .ok (.d (.int cell)) []
theorem cell_in {ns : List Int} {p : Int} (p0 : 0 ≤ p) (h : p < (ns.length : Int)) : ∃ k : Int, oIx (.scr ns) (.d (.int p)) [] = .ok (.d (.int k)) [] := by
  have hp : p.toNat < ns.length := by omega
  have ha : atI ns p = some ns[p.toNat] := atI_ok p0 (List.getElem?_eq_getElem hp)
  refine ⟨ns[p.toNat], ?_⟩
  show (match atI ns p with
    | some k => Out.ok (IV.d (.int k)) []
    | none => Out.bad) = _
  rw [ha]
theorem cellA_ok {m a b : Int} (hm : okC m = true) (hc : okC a = true) : CellOk (rCellA m a b) := by
  intro ns p p0 p1 hl
  simp only [okC, Bool.and_eq_true, decide_eq_true_eq] at hc hm
  obtain ⟨L, hL⟩ : ∃ L : Int, L = (ns.length : Nat) := ⟨_, rfl⟩
  have hlen : bLen [.scr ns] [] = .ok (.d (.int L)) [] := by subst hL; simp
  by_cases h : p < L
  · obtain ⟨k, hx⟩ := cell_in p0 (ns := ns) (p := p) (by omega)
    exact ⟨k, by simp [rCellA, hlen, h, hx, -bLen, -oIx]⟩
  · have hsum : ∃ z : Int, bSum [.d (.list (cutD (ns.map PyData.int) none (some 1)))] [] = .ok (.d (.int z)) [] := by
      refine ⟨(ns.take 1).sum, ?_⟩
      rw [cut_to _ (by omega), ← List.map_take]
      simp only [bSum, lintsOf, lstOf, intsOf_map]
      rfl
    obtain ⟨z, hz⟩ := hsum
    have m1 : MI.gMod z m = some (z % m) := gMod_ok (by omega)
    have m2 : MI.gMul a p = some (a * p) := gMul_ok (by omega) (by omega)
    exact ⟨z % m + a * p + b, by simp [rCellA, hlen, h, hz, m1, m2, -bLen, -bSum, -MI.gMod, -MI.gMul]⟩
def ptC (c d e : Int) : Bool := okC c && (okC d && okC e)
theorem pot_ok {f : FE} (hf : CellOk f) {c d e : Int} (hk : ptC c d e = true) (ns : List Int) {p : Int} (p0 : 0 ≤ p) (p1 : p ≤ 10) (hl : ns.length ≤ 63) : ∃ ds, rPotW f c d e [.scr ns, .d (.int p)] [] = .ok (.ref 0) [.lst ds] ∧ Pot 0 ds := by
  simp only [ptC, okC, Bool.and_eq_true, decide_eq_true_eq] at hk
  obtain ⟨⟨k1, k1'⟩, ⟨k2, k2'⟩, ⟨k3, k3'⟩⟩ := hk
  obtain ⟨cell, hc⟩ := hf ns p p0 p1 hl
  obtain ⟨T, hT⟩ : ∃ T : Int, T = 10 ^ 60 := ⟨_, rfl⟩
  have hq : gPw 10 60 = some T := by rw [hT]; rfl
  obtain ⟨U, hU⟩ : ∃ U : Int, U = 10 ^ 18 := ⟨_, rfl⟩
  have bI : ∀ (i : Int) (S : Sto), bInt [.d (.int i)] S = .ok (.d (.int i)) S := fun _ _ => rfl
  obtain ⟨P, hP⟩ : ∃ P : Int, P = (10 ^ 60) ^ 5 := ⟨_, rfl⟩
  have hP0 : 0 < P := by rw [hP]; decide
  have hP1 : P = 10 ^ 300 := by rw [hP]; decide
  have hq2 : gPw T 5 = some P := by rw [hP, hT]; rfl
  have hq3 : gPw 10 18 = some U := by rw [hU]; rfl
  have b1 : bAbs [.d (.int cell)] [] = .ok (.d (.int (iabs cell))) [] := rfl
  have m1 : MI.gMod (iabs cell) P = some (iabs cell % P) := gMod_ok hP0
  obtain ⟨y, hy⟩ : ∃ y, y = iabs cell % P := ⟨_, rfl⟩
  have y0 : 0 ≤ y := by rw [hy]; exact Int.emod_nonneg _ (by omega)
  have y1 : y < 10 ^ 300 := by rw [hy, ← hP1]; exact Int.emod_lt_of_pos _ hP0
  rw [← hy] at m1
  obtain ⟨k, hk⟩ : ∃ k : Int, k = if decide (U ≤ iabs cell) = true then 1 else 0 := ⟨_, rfl⟩
  have k01 : k = 0 ∨ k = 1 := by rw [hk]; split <;> simp
  have yb : y.natAbs < 2 ^ 2000 := by
    have : y.natAbs < 10 ^ 300 := by omega
    exact Nat.lt_of_lt_of_le this (by decide)
  have m2 : MI.gMul y k = some (y * k) := if_pos ⟨yb, by rcases k01 with e | e <;> rw [e] <;> decide⟩
  have bi : bInt [.d (.bool (decide (U ≤ iabs cell)))] [] = .ok (.d (.int k)) [] := by rw [hk]; rfl
  have m3 : MI.gMod cell 2305843009213693951 = some (cell % 2305843009213693951) := gMod_ok (by omega)
  obtain ⟨s, hs⟩ : ∃ s, s = cell % 2305843009213693951 := ⟨_, rfl⟩
  rw [← hs] at m3
  have s0 : 0 ≤ s ∧ s < 2305843009213693951 := by omega
  have m4 : MI.gMul s c = some (s * c) := gMul_ok (by omega) (by omega)
  have m5 : MI.gMul d p = some (d * p) := gMul_ok (by omega) (by omega)
  have b5 : d * p ≤ 1099511627776 * 10 := Int.mul_le_mul (by omega) (by omega) (by omega) (by omega)
  have b6 : 0 ≤ d * p := Int.mul_nonneg (by omega) (by omega)
  have m6 : MI.gMul (d * p) p = some (d * p * p) := gMul_ok (by omega) (by omega)
  obtain ⟨z, hz⟩ : ∃ z, z = s * c + d * p * p + e := ⟨_, rfl⟩
  have m7 : MI.gMod z 2305843009213693921 = some (z % 2305843009213693921) := gMod_ok (by omega)
  refine ⟨[.int (y * k), .int (z % 2305843009213693921), .int 0], ?_, ⟨y * k, z % 2305843009213693921, 0, rfl, ?_, ?_, by omega, by omega, by omega, by omega⟩⟩
  · have u : ∀ fs : FS, fnB 5 fs [.scr ns, .d (.int p)] [] = (fs [some (.scr ns), some (.d (.int p)), none, none, none] []).fin := fun _ => rfl
    rw [rPotW, u, sc_nx (ss_ok hc)]
    rw [hz] at m7 ⊢
    simp [hq, hq2, hq3, bI, b1, m1, m2, bi, m3, m4, m5, m6, m7, -bAbs, -bInt, -MI.gMod, -MI.gMul, -gPw]
  · rcases k01 with e | e <;> rw [e] <;> simp <;> omega
  · rcases k01 with e | e <;> rw [e] <;> simp <;> omega
theorem call_potL {f : FE} (hf : CellOk f) {c d e : Int} (hk : ptC c d e = true) (ns : List Int) {p : Int} (p0 : 0 ≤ p) (p1 : p ≤ 10) (hl : ns.length ≤ 63) (S : Sto) : ∃ ds, callNM 2 (rPotW f c d e) [.scr ns, .d (.int p)] S = .ok (.ref S.length) (S ++ [.lst ds]) ∧ Pot 0 ds := by
  obtain ⟨ds, c0, hp⟩ := pot_ok hf hk ns p0 p1 hl
  refine ⟨ds, ?_, hp⟩
  have k0 := call_newM (S := S) (is := [.scr ns, .d (.int p)]) rfl c0 rfl
  unfold callNM
  rw [if_pos (show [IV.scr ns, IV.d (.int p)].length = 2 from rfl)]
  exact k0
def rCells : FN := fnB 2 ((sCons (sRet (eRgL (rg1 (eApp bMax2 (aCons (eC (.int 1)) (aCons (eApp bMin2 (aCons (eVar 1) (aCons (eApp bLen (aCons (eVar 0) aNil)) aNil))) aNil))))))
  sNil))
theorem cells_ok (ns : List Int) (k : Int) (hk : 1 ≤ k) (hk2 : k ≤ 10) (hl : ns.length ≤ 63) : ∃ c : Int, 1 ≤ c ∧ c ≤ k ∧ rCells [.scr ns, .d (.int k)] [] = .ok (li (rgI 0 c)) [] := by
  obtain ⟨L, hL⟩ : ∃ L : Int, L = (ns.length : Nat) := ⟨_, rfl⟩
  have hlen : bLen [.scr ns] [] = .ok (.d (.int L)) [] := by subst hL; simp
  obtain ⟨a, ha⟩ : ∃ a : Int, a = if L < k then L else k := ⟨_, rfl⟩
  obtain ⟨c, hc⟩ : ∃ c : Int, c = if a > 1 then a else 1 := ⟨_, rfl⟩
  have h1 : bMin2 [.d (.int k), .d (.int L)] [] = .ok (.d (.int a)) [] := by rw [ha]; rfl
  have h2 : bMax2 [.d (.int 1), .d (.int a)] [] = .ok (.d (.int c)) [] := by rw [hc]; rfl
  have c1 : 1 ≤ c := by rw [hc]; split <;> omega
  have c3 : c ≤ k := by rw [hc, ha]; split <;> (try split) <;> omega
  refine ⟨c, c1, c3, ?_⟩
  have hg : eRgL (rg1 (eApp bMax2 (aCons (eC (.int 1)) (aCons (eApp bMin2 (aCons (eVar 1) (aCons (eApp bLen (aCons (eVar 0) aNil)) aNil))) aNil)))) [some (.scr ns), some (.d (.int k))] [] = .ok (li (rgI 0 c)) [] :=
    rgL_ok (by simp [hlen, h1, h2, -bLen, -bMin2, -bMax2]) (rgOk_s (by omega) (by omega) (by omega) (by omega))
  simp [rCells, hg, -eRgL]
end MI
set_option maxRecDepth 100000
set_option maxHeartbeats 4000000
namespace MI
open PySem L2
/-! ## repr of data with short texts -/
def okStr (x : Str) : Bool := (PyData.str x).showable && decide ((PyData.str x).shown.length ≤ 1900)
mutual
def noT : PyData → Bool
  | .str x => okStr x
  | .dict _ => false
  | .list xs => noTs xs
  | .tuple xs => noTs xs
  | .int i => decide (i.natAbs.log2 < 1920)
  | .none => true
  | .bool _ => true
def noTs : List PyData → Bool
  | [] => true
  | x :: t => noT x && noTs t
end
mutual
theorem shownT_len : ∀ d : PyData, noT d = true → d.shown.length + 2 ≤ 2000 * nd d ∧ d.showable = true ∧ d.hasDict = false
  | .none, _ => ⟨by decide, rfl, rfl⟩
  | .bool b, _ => ⟨by cases b <;> decide, rfl, rfl⟩
  | .int i, h => by
    have h : i.natAbs.log2 < 1920 := of_decide_eq_true h
    refine ⟨?_, by simp [PyData.showable, h], rfl⟩
    have := PyProof.Rows.int_text_len_1921 h
    show (Str.ofString (toString i)).length + 2 ≤ 2000 * 1
    omega
  | .str x, h => by
    have h : okStr x = true := h
    unfold okStr at h
    simp only [Bool.and_eq_true, decide_eq_true_eq] at h
    exact ⟨by show _ ≤ 2000 * 1; omega, h.1, rfl⟩
  | .dict _, h => by cases h
  | .list xs, h => by
    have h : noTs xs = true := h
    obtain ⟨h1, h2, h3⟩ := shownT_lens xs h
    have := lstT_len (PyData.shownAll xs)
    refine ⟨?_, h2, h3⟩
    show (listText (PyData.shownAll xs)).length + 2 ≤ 2000 * (1 + nds xs)
    omega
  | .tuple xs, h => by
    have h : noTs xs = true := h
    obtain ⟨h1, h2, h3⟩ := shownT_lens xs h
    have := tupT_len (PyData.shownAll xs)
    refine ⟨?_, h2, h3⟩
    show (tupleText (PyData.shownAll xs)).length + 2 ≤ 2000 * (1 + nds xs)
    omega
theorem shownT_lens : ∀ ds : List PyData, noTs ds = true → piled (PyData.shownAll ds) ≤ 2000 * nds ds ∧ PyData.showableAll ds = true ∧ PyData.hasDictAll ds = false
  | [], _ => ⟨by decide, rfl, rfl⟩
  | d :: t, h => by
    have h : (noT d && noTs t) = true := h
    rw [Bool.and_eq_true] at h
    obtain ⟨h1, h2, h3⟩ := shownT_len d h.1
    obtain ⟨h4, h5, h6⟩ := shownT_lens t h.2
    refine ⟨?_, ?_, ?_⟩
    · show piled (d.shown :: PyData.shownAll t) ≤ 2000 * (nd d + nds t)
      rw [piled_cons]
      omega
    · show (d.showable && PyData.showableAll t) = true
      rw [h2, h5] <;> rfl
    · show (d.hasDict || PyData.hasDictAll t) = false
      rw [h3, h6] <;> rfl
end
theorem prOk_ofT {d : PyData} (h : noT d = true) (hn : nd d ≤ 8000) (hd : d.depth ≤ 64) : prOk d = true := by
  obtain ⟨h1, h2, h3⟩ := shownT_len d h
  have hz : sizeLine = 16777216 := by decide
  unfold prOk
  rw [h2, h3]
  simp only [Bool.not_false, Bool.true_and, Bool.and_eq_true, decide_eq_true_eq]
  exact ⟨hd, by omega⟩
theorem noTs_of : ∀ (ds : List PyData), (∀ d ∈ ds, noT d = true) → noTs ds = true
  | [], _ => rfl
  | d :: t, h => by
    show (noT d && noTs t) = true
    rw [h d List.mem_cons_self, noTs_of t fun x m => h x (List.mem_cons_of_mem _ m)]
    rfl
theorem noT_i {i : Int} (h : i.natAbs < 2 ^ 60) : noT (.int i) = true := noS_i h
/-- what is small enough for repr: its depth, its size -/
structure Sm (d : PyData) (k n : Nat) : Prop where
  t : noT d = true
  dp : d.depth ≤ k
  sz : nd d ≤ n
theorem Sm.int {i : Int} (h : i.natAbs < 2 ^ 60) : Sm (.int i) 0 1 := ⟨noT_i h, by simp [PyData.depth], Nat.le_refl _⟩
theorem Sm.bool (b : Bool) : Sm (.bool b) 0 1 := ⟨rfl, by simp [PyData.depth], Nat.le_refl _⟩
theorem Sm.str {x : Str} (h : okStr x = true) : Sm (.str x) 0 1 := ⟨h, by simp [PyData.depth], Nat.le_refl _⟩
theorem Sm.tup {ds : List PyData} {k n m : Nat} (h : ∀ d ∈ ds, Sm d k n) (hm : ds.length ≤ m) : Sm (.tuple ds) (k + 1) (1 + n * m) := by
  refine ⟨noTs_of ds fun d m => (h d m).t, ?_, ?_⟩
  · have := depthAll_le ds k fun d m => (h d m).dp
    show PyData.depthAll ds + 1 ≤ k + 1
    omega
  · have := nds_le ds n fun d m => (h d m).sz
    have h2 : n * ds.length ≤ n * m := Nat.mul_le_mul_left n hm
    show 1 + nds ds ≤ 1 + n * m
    omega
theorem Sm.lst {ds : List PyData} {k n m : Nat} (h : ∀ d ∈ ds, Sm d k n) (hm : ds.length ≤ m) : Sm (.list ds) (k + 1) (1 + n * m) := by
  refine ⟨noTs_of ds fun d m => (h d m).t, ?_, ?_⟩
  · have := depthAll_le ds k fun d m => (h d m).dp
    show PyData.depthAll ds + 1 ≤ k + 1
    omega
  · have := nds_le ds n fun d m => (h d m).sz
    have h2 : n * ds.length ≤ n * m := Nat.mul_le_mul_left n hm
    show 1 + nds ds ≤ 1 + n * m
    omega
theorem Sm.mono {d : PyData} {k n k' n' : Nat} (h : Sm d k n) (hk : k ≤ k') (hn : n ≤ n') : Sm d k' n' := ⟨h.t, Nat.le_trans h.dp hk, Nat.le_trans h.sz hn⟩
theorem Sm.pr {d : PyData} {k n : Nat} (h : Sm d k n) (hk : k ≤ 64) (hn : n ≤ 8000) : prOk d = true := prOk_ofT h.t (Nat.le_trans h.sz hn) (Nat.le_trans h.dp hk)
theorem Sm.ti {xs : List Int} {m : Nat} (h : ∀ x ∈ xs, x.natAbs < 2 ^ 60) (hm : xs.length ≤ m) : Sm (.tuple (xs.map .int)) 1 (1 + 1 * m) :=
  Sm.tup (fun d hd => by obtain ⟨x, hx, rfl⟩ := List.mem_map.mp hd; exact Sm.int (h x hx)) (by rw [List.length_map]; exact hm)
/-! ## comprehensions with draws, over lists of the store -/
theorem eLc_inv {it : FI} {g : FG} {t : FT} {e : FE} {vs : List Nat} {r : Rho} {S S1 : Sto} {ds : List PyData} (hi : it r S = .ok ds S1) (hl : ds.length ≤ 1000000) (P : Nat → List PyData → Sto → Prop)
    (step : ∀ (i : Nat) (acc : List PyData) (S : Sto) (d : PyData), ds[i]? = some d → P i acc S → ∃ r1 S1 k S2, g (.d d) (wipeR r vs) S = .nx r1 S1 ∧ t r1 S1 = .ok k S2 ∧
      if k = true then ∃ x S3, e r1 S2 = .ok (.d x) S3 ∧ P (i + 1) (acc ++ [x]) S3 else P (i + 1) acc S2) (h0 : P 0 [] S1) :
    ∃ all S', eLc it g t e vs r S = .ok (.d (.list all)) S' ∧ P ds.length all S' := by
  obtain ⟨all, S', h, p⟩ := lcL_inv (g := g) (t := t) (e := e) (r0 := wipeR r vs) P step h0
  refine ⟨all, S', ?_, p⟩
  unfold eLc lcR
  rw [hi]
  show ((if ds.length ≤ 1000000 then (lcL g t e (wipeR r vs) ds S1).nox else .bad : Out (List PyData)).bind _) = _
  rw [if_pos hl, h]
  rfl
end MI
set_option maxRecDepth 100000
set_option maxHeartbeats 4000000
namespace MI
open PySem L2
/-! ## rows with fronts -/
structure VR (xs : List Int) (N : Int) : Prop where
  len : N = xs.length
  lo : 1 ≤ N
  hi : N ≤ 20
  mem : ∀ x ∈ xs, 1 ≤ iabs x ∧ iabs x ≤ N
  nd : (xs.map iabs).Nodup
section
variable {xs ys : List Int} {N f l g m : Int}
theorem VR.small (v : VR xs N) : xs.length ≤ 20 := by have := v.len; have := v.hi; omega
theorem VR.srt (v : VR xs N) : isort (xs.map iabs) = rgI 1 (N + 1) :=
  full_of v.nd (fun x m => by obtain ⟨y, hy, rfl⟩ := List.mem_map.mp m; exact v.mem y hy) (by rw [List.length_map]; exact v.len)
theorem VR.perm (v : VR xs N) : (xs.map iabs).Perm (rgI 1 (N + 1)) := by
  rw [← v.srt]
  exact (isort_perm _).symm
theorem vr_of (h0 : 1 ≤ N) (h1 : N ≤ 20) (p : (xs.map iabs).Perm (rgI 1 (N + 1))) : VR xs N := by
  have hl := p.length_eq
  rw [List.length_map, len_rgI] at hl
  refine ⟨by omega, h0, h1, fun x m => ?_, p.nodup_iff.mpr (rg_nd _ _)⟩
  have := mem_rgI.mp (p.mem_iff.mp (List.mem_map.mpr ⟨x, m, rfl⟩))
  omega
theorem iabs_neg (w : Int) : iabs (-w) = iabs w := by unfold iabs; split <;> split <;> omega
theorem iabs_pos {w : Int} (h : 0 ≤ w) : iabs w = w := by unfold iabs; rw [if_neg (by omega)]
theorem VR.big (v : VR xs N) {x : Int} (h : x ∈ xs) : x ≠ 0 ∧ -20 ≤ x ∧ x ≤ 20 := by
  have h1 := v.mem x h
  have h2 := v.hi
  unfold iabs at h1
  split at h1 <;> omega
theorem vr_home (h0 : 1 ≤ N) (h1 : N ≤ 20) : VR (rgI 1 (N + 1)) N := vr_of h0 h1 (by
  have e : (rgI 1 (N + 1)).map iabs = rgI 1 (N + 1) := by
    conv => rhs; rw [← List.map_id (rgI 1 (N + 1))]
    exact List.map_congr_left fun x hx => by rw [mem_rgI] at hx; exact iabs_pos (by omega)
  rw [e])
/-- what one has at the places that another one tells -/
def phi (one : List Int) (w : Int) : Int := if 0 < w then one.getD (w - 1).toNat 0 else - one.getD (-w - 1).toNat 0
def putL (one other : List Int) : List Int := other.map (phi one)
theorem phi_abs (one : List Int) (w : Int) : iabs (phi one w) = iabs (one.getD (iabs w - 1).toNat 0) := by
  unfold phi
  by_cases c : 0 < w
  · rw [if_pos c, iabs_pos (by omega : 0 ≤ w)]
  · rw [if_neg c, iabs_neg]
    congr 2
    unfold iabs
    split
    · rfl
    · have : w = 0 := by omega
      subst this
      rfl
theorem VR.put (v : VR xs N) (u : VR ys N) : VR (putL xs ys) N := by
  refine vr_of v.lo v.hi ?_
  have e1 : (putL xs ys).map iabs = (ys.map iabs).map fun k => iabs (xs.getD (k - 1).toNat 0) := by
    unfold putL
    rw [List.map_map, List.map_map]
    exact List.map_congr_left fun w _ => phi_abs xs w
  have e2 : (rgI 1 (N + 1)).map (fun k => iabs (xs.getD (k - 1).toNat 0)) = xs.map iabs := by
    have hn := v.len
    refine List.ext_getElem? fun q => ?_
    rw [List.getElem?_map, List.getElem?_map]
    by_cases hq : q < xs.length
    · rw [at_rgI (by omega), List.getElem?_eq_getElem hq]
      show some (iabs (xs.getD (1 + (q : Int) - 1).toNat 0)) = some (iabs xs[q])
      rw [show (1 + (q : Int) - 1).toNat = q by omega, List.getD_eq_getElem?_getD, List.getElem?_eq_getElem hq]
      rfl
    · rw [List.getElem?_eq_none (by rw [len_rgI]; omega), List.getElem?_eq_none (by omega)]
      rfl
  rw [e1]
  exact ((u.perm.map _).trans (e2 ▸ List.Perm.refl _)).trans v.perm
theorem VR.at_ (v : VR xs N) {w : Int} (h : 1 ≤ w) (h1 : w ≤ N) : xs[(w - 1).toNat]? = some (xs.getD (w - 1).toNat 0) := by
  have hn := v.len
  rw [List.getD_eq_getElem?_getD, List.getElem?_eq_getElem (by omega)]
  rfl
end
/-- what both looks at a row tell of a tuple -/
def isR (ds : List PyData) : Bool := match intsOf ds with
  | some xs => decide (1 ≤ xs.length) && (decide (xs.length ≤ 20) && decide (isort (xs.map iabs) = rgI 1 ((xs.length : Int) + 1)))
  | none => false
theorem isR_iff {xs : List Int} : isR (xs.map .int) = true ↔ VR xs xs.length := by
  unfold isR
  rw [intsOf_map]
  simp only [Bool.and_eq_true, decide_eq_true_eq]
  constructor
  · rintro ⟨h1, h2, h3⟩
    obtain ⟨a, b⟩ := of_full h3
    exact ⟨rfl, by omega, by omega, fun x m => b _ (List.mem_map.mpr ⟨x, m, rfl⟩), a⟩
  · intro v
    exact ⟨by have := v.lo; omega, by have := v.hi; omega, v.srt⟩
theorem isR_of {xs : List Int} {N : Int} (v : VR xs N) : isR (xs.map .int) = true := by
  have := v.len
  subst this
  exact isR_iff.mpr v
/-! ## turns -/
section
variable {N : Int}
theorem foldl_ext {ι τ : Type} (φ : ι → List PyData) (step : List PyData × τ → ι → List PyData × τ) (h : ∀ s x, (step s x).1 = s.1 ++ φ x) : ∀ (l : List ι) (s : List PyData × τ), (l.foldl step s).1 = s.1 ++ l.flatMap φ
  | [], s => by simp
  | x :: t, s => by
    rw [List.foldl_cons, foldl_ext φ step h t, h]
    simp
theorem ext_ok {S : Sto} {n : Nat} {acc ys : List PyData} (hS : S[n]? = some (.lst acc)) (hl : acc.length + ys.length < 1000000) : mExt (.ref n) [.d (.list ys)] S = .ok (.d .none) (S.set n (.lst (acc ++ ys))) := by
  simp only [mExt, hS, lst2]
  rw [if_pos (by rw [size_line]; omega)]
end
/-! ## values -/
def Vd (k : Nat) (d : PyData) : Prop := ∀ ds, d = .tuple ds → ds.length ≤ k
theorem Vd.mono {k m : Nat} {d : PyData} (h : Vd k d) (hm : k ≤ m) : Vd m d := fun ds e => Nat.le_trans (h ds e) hm
def isI : PyData → Bool
  | .int _ => true
  | _ => false
def btw (lo hi : Int) : PyData → Bool
  | .int i => decide (lo ≤ i) && decide (i ≤ hi)
  | _ => false
theorem ints_of_all {ds : List PyData} (h : ds.all isI = true) : ∃ xs : List Int, ds = xs.map .int := by
  induction ds with
  | nil => exact ⟨[], rfl⟩
  | cons d t ih =>
    rw [List.all_cons, Bool.and_eq_true] at h
    obtain ⟨xs, rfl⟩ := ih h.2
    cases d with
    | int i => exact ⟨i :: xs, rfl⟩
    | _ => exact absurd h.1 (by simp [isI])
theorem isI_ints (xs : List Int) : (xs.map PyData.int).all isI = true := by
  rw [List.all_eq_true]
  intro d m
  obtain ⟨x, _, rfl⟩ := List.mem_map.mp m
  rfl
theorem abs_ok (w : Int) (S : Sto) : bAbs [.d (.int w)] S = .ok (.d (.int (iabs w))) S := rfl
end MI
set_option maxRecDepth 100000
set_option maxHeartbeats 4000000
namespace MI
open PySem PySem.Spec PyProof.Rows L2
/-! ## dict(list of pairs), no key twice -/
def kvOf : PyData → Option (Key × PyData)
  | .tuple [.int i, v] => some (.inl i, v)
  | .tuple [.str x, v] => some (.inr x, v)
  | _ => none
def kvsOf : List PyData → Option (List (Key × PyData))
  | [] => some []
  | d :: t => match kvOf d, kvsOf t with
    | some p, some l => some (p :: l)
    | _, _ => none
def bDictP : FN := fun is S => match is with
  | [v] => match lstOf S v with
    | some ds => match kvsOf ds with
      | some l => if (l.map (·.1)).Nodup then .ok (.d (.dict (l.map fun p => (kD p.1, p.2)))) S else .bad
      | none => .bad
    | none => .bad
  | _ => .bad
theorem kvOf_eq {d : PyData} {p : Key × PyData} (h : kvOf d = some p) : d = .tuple [kD p.1, p.2] := by
  unfold kvOf at h
  split at h
  · cases h; rfl
  · cases h; rfl
  · cases h
section
variable {c : Ct} {W : WX} {X : Cx} {B Z : List Addr} {H : Hp}
theorem rd_kv {K : PySem.W.Frag} {bd : List Addr} {k : Key} {y : V} (h : RD K H bd (kD k) y) : y = kV k := by
  cases k with
  | inl i => cases h; rfl
  | inr x => cases h; rfl
theorem rd_pairs {K : PySem.W.Frag} {bd : List Addr} : ∀ {ds : List PyData} {xs : List V} {l : List (Key × PyData)}, kvsOf ds = some l → RDs K H bd ds xs →
    ∃ (ps : List Addr) (kvs : List (Key × V)), xs = ps.map V.ref ∧ Paired (fun p kv => SqT K H p [kV kv.1, kv.2]) ps kvs ∧ kvs.map (·.1) = l.map (·.1) ∧ RDs K H bd (l.map (·.2)) (kvs.map (·.2))
  | [], _, _, h, .nil => by cases h; exact ⟨[], [], rfl, .nil, rfl, .nil⟩
  | d :: ds, _, l, h, .cons r t => by
    unfold kvsOf at h
    cases hp : kvOf d with
    | none => rw [hp] at h; cases h
    | some p =>
      cases hq : kvsOf ds with
      | none => rw [hp, hq] at h; cases h
      | some l2 =>
        rw [hp, hq] at h
        cases h
        obtain ⟨ps, kvs, e1, e2, e3, e4⟩ := rd_pairs hq t
        obtain rfl := kvOf_eq hp
        obtain ⟨a, y, rfl, hs, ry⟩ : ∃ a y, _ = V.ref a ∧ SqT K H a [kV p.1, y] ∧ RD K H bd p.2 y := by
          have go : ∀ {zs : List V}, RDs K H bd [kD p.1, p.2] zs → ∃ y, zs = [kV p.1, y] ∧ RD K H bd p.2 y := fun r => by
            cases r with
            | cons h1 t1 =>
              cases t1 with
              | cons h2 t2 =>
                cases t2
                rw [rd_kv h1]
                exact ⟨_, rfl, h2⟩
          have r2 : RI ⟨K, fun _ => none, [], fun _ => none, []⟩ H bd [] (.d (.tuple [kD p.1, p.2])) _ := .d (by rw [List.append_nil]; exact r)
          obtain ⟨a, zs, e, h1, h2⟩ := tupOf_sq r2 rfl
          rw [List.append_nil] at h2
          obtain ⟨y, rfl, h3⟩ := go h2
          exact ⟨a, y, e, h1, h3⟩
        subst e1
        refine ⟨a :: ps, (p.1, y) :: kvs, rfl, .cons hs e2, ?_, .cons ry e4⟩
        rw [List.map_cons, List.map_cons, e3]
theorem k_dictP : OkN c W (fun xs H Q => ∃ (a : Addr) (ps : List Addr) (kvs : List (Key × V)), xs = [.ref a] ∧ SqL c.K H a (ps.map V.ref) ∧ Paired (fun p kv => SqT c.K H p [kV kv.1, kv.2]) ps kvs ∧ ∀ p, H p = none → Q (.ref p) (upd H p (.dK (mergeK [] kvs)))) bDictP := by
  intro σ B Z H S is vs Q s r p
  unfold bDictP at p
  split at p
  · obtain ⟨x, rfl, rx⟩ := ris1 r
    split at p
    · rename_i ds hn
      obtain ⟨a, xs, rfl, h1, h2⟩ := lstOf_sq s rx hn
      split at p
      · rename_i l hl
        obtain ⟨ps, kvs, rfl, e2, e3, e4⟩ := rd_pairs hl h2
        by_cases nd : (l.map (·.1)).Nodup
        · rw [if_pos nd] at p
          refine ⟨a, ps, kvs, rfl, h1, e2, fun q hq => ?_⟩
          rw [merge_nd kvs [] (by rw [List.nil_append, e3]; exact nd), List.nil_append]
          have e := Ev.new (o := HO.dK kvs) s hq
          refine p B _ e (s.new hq) _ (.d (.dct upd_same (s.out hq) ?_ ?_))
          · rw [List.map_map]
            have : (kvs.map (·.1)).map kD = (l.map (·.1)).map kD := by rw [e3]
            rw [List.map_map, List.map_map] at this
            exact this.symm
          · rw [List.map_map]
            exact e4.ev e
        · rw [if_neg nd] at p
          exact p.elim
      · exact p.elim
    · exact p.elim
  · exact p.elim
theorem f_dictP (cx : Cxg c W X) (hc : X.calm = true) : Bf c W X (.type "dict") bDictP := ⟨_, cx.K ▸ call_dictP hc, k_dictP⟩
end
end MI
set_option maxRecDepth 100000
set_option maxHeartbeats 4000000
namespace MI
open PySem PySem.Spec PyProof.Rows L2
open Sem (wp)
/-! ## sum(lists, []) -/
theorem sl_str : isSubtype (.type "list") (.type "str") = pure false := by rw [isSubtype_type]; kernel_rfl
section
variable {prog : Program} {w : World} {A : Around}
/-- the heap keeps all but two -/
def Kp2 (I S : Addr) (h h' : Heap) : Prop := ∀ b o, b ≠ I → b ≠ S → h.get? b = some o → h'.get? b = some o
theorem Kp2.is {I S : Addr} {h h' : Heap} (k : Kp2 I S h h') {p : Addr} {xs : Array Value} (h1 : p ≠ I) (h2 : p ≠ S) (x : h.IsList p xs) : h'.IsList p xs := x.at fun o e => k p o h1 h2 e
end
/-! ### over MI -/
end MI
namespace MI
open PySem PySem.Spec PyProof.Rows L2
end MI
set_option maxRecDepth 100000
set_option maxHeartbeats 4000000
namespace MI
open PySem PySem.Spec L2 PyProof.Rows
/-! ## x[::2] of a list -/
def evens {α : Type} : List α → List α
  | [] => []
  | [x] => [x]
  | x :: _ :: t => x :: evens t
section
variable {c : Ct} {W : WX} {X : Cx} {B Z B1 : List Addr} {H H1 : Hp} {σ : L2.St}
@[simp] def eEv (f : FE) : FE := fun r S => (f r S).bind fun v S1 => match lstOf S1 v with
  | some ds => .ok (.d (.list (evens ds))) S1
  | none => .bad
end
end MI
set_option maxRecDepth 100000
set_option maxHeartbeats 4000000
/-! rings of a row's ends: plain Lean -/
namespace GM
/-- the other end of a tie, of a point -/
def xr (k : Nat) : Nat := if k % 2 = 0 then k + 1 else k - 1
theorem xr_xr (k : Nat) : xr (xr k) = k := by
  unfold xr
  by_cases h : k % 2 = 0
  · rw [if_pos h, if_neg (by omega)]; omega
  · rw [if_neg h, if_pos (by omega)]; omega
theorem xr_ne (k : Nat) : xr k ≠ k := by
  unfold xr
  by_cases h : k % 2 = 0
  · rw [if_pos h]; omega
  · rw [if_neg h]; omega
theorem xr_div (k : Nat) : xr k / 2 = k / 2 := by
  unfold xr
  by_cases h : k % 2 = 0
  · rw [if_pos h]; omega
  · rw [if_neg h]; omega
theorem xr_lt {k m : Nat} (h : k < 2 * m) : xr k < 2 * m := by
  unfold xr
  by_cases h2 : k % 2 = 0
  · rw [if_pos h2]; omega
  · rw [if_neg h2]; omega
theorem xr_inj {a b : Nat} (h : xr a = xr b) : a = b := by rw [← xr_xr a, h, xr_xr]
theorem xr_even (k : Nat) : xr (2 * k) = 2 * k + 1 := by unfold xr; rw [if_pos (by omega)]
theorem half_eq {a b : Nat} (h : a / 2 = b / 2) : b = a ∨ b = xr a := by
  unfold xr
  by_cases h2 : a % 2 = 0
  · rw [if_pos h2]; omega
  · rw [if_neg h2]; omega
/-- so many steps -/
def it (f : Nat → Nat) : Nat → Nat → Nat
  | 0, x => x
  | k + 1, x => it f k (f x)
theorem it_add (f : Nat → Nat) : ∀ (k l x : Nat), it f (k + l) x = it f l (it f k x)
  | 0, l, x => by rw [Nat.zero_add]; rfl
  | k + 1, l, x => by rw [Nat.add_right_comm]; exact it_add f k l (f x)
theorem it_succ (f : Nat → Nat) (k x : Nat) : it f (k + 1) x = f (it f k x) := it_add f k 1 x
/-- ends: each just once -/
structure EP (m : Nat) (es : List Nat) : Prop where
  len : es.length = 2 * m
  nd : es.Nodup
  lt : ∀ e ∈ es, e < 2 * m
def at' (es : List Nat) (i : Nat) : Nat := es.getD i 0
def pl (es : List Nat) (e : Nat) : Nat := es.idxOf e
section
variable {m : Nat} {es : List Nat}
theorem EP.all (h : EP m es) {e : Nat} (he : e < 2 * m) : e ∈ es := by
  by_cases hm : e ∈ es
  · exact hm
  · have nd : (e :: es).Nodup := List.nodup_cons.mpr ⟨hm, h.nd⟩
    have sub : (e :: es) ⊆ List.range (2 * m) := fun x hx => by
      rcases List.mem_cons.mp hx with rfl | hx
      · exact List.mem_range.mpr he
      · exact List.mem_range.mpr (h.lt x hx)
    have := List.Nodup.length_le_of_subset nd sub
    rw [List.length_cons, h.len, List.length_range] at this
    omega
theorem EP.at_some (h : EP m es) {i : Nat} (hi : i < 2 * m) : es[i]? = some (at' es i) := by
  unfold at'
  rw [List.getD_eq_getElem?_getD, List.getElem?_eq_getElem (by rw [h.len]; exact hi)]
  rfl
theorem EP.at_lt (h : EP m es) {i : Nat} (hi : i < 2 * m) : at' es i < 2 * m := h.lt _ (List.mem_of_getElem? (h.at_some hi))
theorem EP.pl_lt (h : EP m es) {e : Nat} (he : e < 2 * m) : pl es e < 2 * m := by
  unfold pl
  rw [← h.len]
  exact List.idxOf_lt_length_of_mem (h.all he)
theorem EP.at_pl (h : EP m es) {e : Nat} (he : e < 2 * m) : at' es (pl es e) = e := by
  have := h.at_some (h.pl_lt he)
  have hl : es.idxOf e < es.length := List.idxOf_lt_length_of_mem (h.all he)
  unfold pl at this ⊢
  rw [List.getElem?_eq_getElem hl, List.getElem_idxOf hl] at this
  exact (Option.some.inj this).symm
theorem EP.at_inj (h : EP m es) {i j : Nat} (hi : i < 2 * m) (hj : j < 2 * m) (e : at' es i = at' es j) : i = j := by
  have h1 := h.at_some hi
  have h2 := h.at_some hj
  rw [e] at h1
  exact (List.getElem?_inj (by rw [h.len]; exact hi) h.nd).mp (h1.trans h2.symm)
theorem EP.pl_at (h : EP m es) {i : Nat} (hi : i < 2 * m) : pl es (at' es i) = i :=
  h.at_inj (h.pl_lt (h.at_lt hi)) hi (h.at_pl (h.at_lt hi))
/-- a step of a ring, there and back -/
def sg (es : List Nat) (x : Nat) : Nat := pl es (xr (at' es (xr x)))
def tu (es : List Nat) (x : Nat) : Nat := xr (pl es (xr (at' es x)))
theorem EP.sg_lt (h : EP m es) {x : Nat} (hx : x < 2 * m) : sg es x < 2 * m := h.pl_lt (xr_lt (h.at_lt (xr_lt hx)))
theorem EP.tu_lt (h : EP m es) {x : Nat} (hx : x < 2 * m) : tu es x < 2 * m := xr_lt (h.pl_lt (xr_lt (h.at_lt hx)))
theorem EP.sg_tu (h : EP m es) {x : Nat} (hx : x < 2 * m) : sg es (tu es x) = x := by
  unfold sg tu
  rw [xr_xr, h.at_pl (xr_lt (h.at_lt hx)), xr_xr, h.pl_at hx]
theorem EP.tu_sg (h : EP m es) {x : Nat} (hx : x < 2 * m) : tu es (sg es x) = x := by
  unfold sg tu
  rw [h.at_pl (xr_lt (h.at_lt (xr_lt hx))), xr_xr, h.pl_at (xr_lt hx), xr_xr]
theorem tu_xr (x : Nat) : tu es (xr x) = xr (sg es x) := rfl
theorem EP.it_lt (h : EP m es) {x : Nat} (hx : x < 2 * m) : ∀ k, it (sg es) k x < 2 * m
  | 0 => hx
  | k + 1 => by rw [it_succ]; exact h.sg_lt (h.it_lt hx k)
theorem EP.itu_lt (h : EP m es) {x : Nat} (hx : x < 2 * m) : ∀ k, it (tu es) k x < 2 * m
  | 0 => hx
  | k + 1 => by rw [it_succ]; exact h.tu_lt (h.itu_lt hx k)
theorem itu_xr : ∀ (k x : Nat), it (tu es) k (xr x) = xr (it (sg es) k x)
  | 0, _ => rfl
  | k + 1, x => by show it (tu es) k (tu es (xr x)) = xr (it (sg es) k (sg es x)); rw [tu_xr]; exact itu_xr k _
theorem EP.itu_it (h : EP m es) {x : Nat} (hx : x < 2 * m) : ∀ k, it (tu es) k (it (sg es) k x) = x
  | 0 => rfl
  | k + 1 => by
    rw [it_succ (sg es)]
    show it (tu es) k (tu es (sg es (it (sg es) k x))) = x
    rw [h.tu_sg (h.it_lt hx k)]
    exact h.itu_it hx k
theorem EP.it_itu (h : EP m es) {x : Nat} (hx : x < 2 * m) : ∀ k, it (sg es) k (it (tu es) k x) = x
  | 0 => rfl
  | k + 1 => by
    rw [it_succ (tu es)]
    show it (sg es) k (sg es (tu es (it (tu es) k x))) = x
    rw [h.sg_tu (h.itu_lt hx k)]
    exact h.it_itu hx k
theorem EP.it_inj (h : EP m es) {x y : Nat} (hx : x < 2 * m) (hy : y < 2 * m) (k : Nat) (e : it (sg es) k x = it (sg es) k y) : x = y := by
  rw [← h.itu_it hx k, e, h.itu_it hy k]
/-- never both ends of a point -/
theorem EP.no_back (h : EP m es) : ∀ (d : Nat) {y : Nat}, y < 2 * m → it (sg es) d y ≠ xr y
  | 0, y, _, e => xr_ne y (Eq.symm e)
  | 1, y, hy, e => by
    have e : sg es y = xr y := e
    unfold sg at e
    have h1 := h.at_pl (xr_lt (h.at_lt (xr_lt hy)))
    rw [e] at h1
    exact xr_ne _ h1.symm
  | d + 2, y, hy, e => by
    rw [it_succ] at e
    have e2 : it (sg es) (d + 1) y = tu es (xr y) := by rw [← e, h.tu_sg (h.it_lt hy (d + 1))]
    rw [tu_xr] at e2
    exact h.no_back d (h.sg_lt hy) e2
theorem EP.no_back2 (h : EP m es) {x : Nat} (hx : x < 2 * m) (i j : Nat) : it (sg es) j x ≠ xr (it (sg es) i x) := by
  intro e
  by_cases hij : i ≤ j
  · obtain ⟨d, rfl⟩ := Nat.exists_eq_add_of_le hij
    rw [it_add] at e
    exact h.no_back d (h.it_lt hx i) e
  · obtain ⟨d, rfl⟩ := Nat.exists_eq_add_of_le (Nat.le_of_not_le hij)
    rw [it_add] at e
    have : it (sg es) d (it (sg es) j x) = xr (it (sg es) j x) := (xr_inj (by rw [xr_xr]; exact e)).symm
    exact h.no_back d (h.it_lt hx j) this
/-- it comes back -/
theorem pigeon (f : Nat → Nat) (n : Nat) (hf : ∀ k, k ≤ n → f k < n) : ∃ i j, i < j ∧ j ≤ n ∧ f i = f j := by
  by_cases hnd : ((List.range (n + 1)).map f).Nodup
  · have sub : ((List.range (n + 1)).map f) ⊆ List.range n := fun y hy => by
      obtain ⟨k, hk, rfl⟩ := List.mem_map.mp hy
      have := List.mem_range.mp hk
      exact List.mem_range.mpr (hf k (by omega))
    have := List.Nodup.length_le_of_subset hnd sub
    rw [List.length_map, List.length_range, List.length_range] at this
    omega
  · have : ¬ ∀ i j, i < j → j ≤ n → f i ≠ f j := fun z => hnd (by
      rw [List.nodup_iff_pairwise_ne, List.pairwise_map]
      refine List.Pairwise.imp_of_mem (R := fun a b => a < b) (fun {a b} ha hb hab => z a b hab (by have := List.mem_range.mp hb; omega)) List.pairwise_lt_range)
    simp only [Classical.not_forall] at this
    obtain ⟨i, j, h1, h2, h3⟩ := this
    exact ⟨i, j, h1, h2, Classical.not_not.mp h3⟩
theorem EP.comes (h : EP m es) {x : Nat} (hx : x < 2 * m) : ∃ k, 0 < k ∧ k ≤ 2 * m ∧ it (sg es) k x = x := by
  obtain ⟨i, j, hij, hj, e⟩ := pigeon (fun k => it (sg es) k x) (2 * m) fun k _ => h.it_lt hx k
  obtain ⟨d, rfl⟩ := Nat.exists_eq_add_of_le (Nat.le_of_lt hij)
  refine ⟨d, by omega, by omega, ?_⟩
  have e : it (sg es) i x = it (sg es) (i + d) x := e
  rw [Nat.add_comm, it_add] at e
  exact (h.it_inj hx (h.it_lt hx d) i e).symm
/-- after how many steps -/
def per (m : Nat) (es : List Nat) (x : Nat) : Nat := ((List.range (2 * m)).find? fun k => it (sg es) (k + 1) x == x).getD 0 + 1
theorem EP.per_ok (h : EP m es) {x : Nat} (hx : x < 2 * m) : per m es x ≤ 2 * m ∧ it (sg es) (per m es x) x = x ∧ ∀ k, 0 < k → k < per m es x → it (sg es) k x ≠ x := by
  obtain ⟨k, h0, h1, e⟩ := h.comes hx
  unfold per
  cases hf : (List.range (2 * m)).find? fun k => it (sg es) (k + 1) x == x with
  | none =>
    have := List.find?_eq_none.mp hf (k - 1) (List.mem_range.mpr (by omega))
    rw [show k - 1 + 1 = k by omega, e] at this
    simp at this
  | some q =>
    have hq := List.find?_some hf
    rw [beq_iff_eq] at hq
    obtain ⟨hm, as, bs, hab, hno⟩ := List.find?_eq_some_iff_append.mp hf
    have hqr := List.mem_range.mp (List.mem_of_find?_eq_some hf)
    refine ⟨by rw [Option.getD_some]; omega, hq, fun j hj hjq e2 => ?_⟩
    rw [Option.getD_some] at hjq
    have hqa : q = as.length := by
      have := congrArg (fun l => l[as.length]?) hab
      rw [List.getElem?_append_right (Nat.le_refl _), Nat.sub_self, List.getElem?_cons_zero] at this
      rw [List.getElem?_range (by
        have := congrArg List.length hab
        simp at this
        omega)] at this
      exact (Option.some.inj this).symm
    have hja : as[j - 1]? = some (j - 1) := by
      have := congrArg (fun l => l[j - 1]?) hab
      rw [List.getElem?_append_left (by omega), List.getElem?_range (by omega)] at this
      exact this.symm
    have := hno _ (List.mem_of_getElem? hja)
    rw [show j - 1 + 1 = j by omega, e2] at this
    simp at this
theorem per_pos (m : Nat) (es : List Nat) (x : Nat) : 0 < per m es x := Nat.succ_pos _
theorem EP.it_ne (h : EP m es) {x : Nat} (hx : x < 2 * m) {i j : Nat} (hij : i < j) (hj : j < per m es x) : it (sg es) i x ≠ it (sg es) j x := by
  obtain ⟨d, rfl⟩ := Nat.exists_eq_add_of_le (Nat.le_of_lt hij)
  rw [Nat.add_comm, it_add]
  intro e
  exact (h.per_ok hx).2.2 d (by omega) (by omega) (h.it_inj hx (h.it_lt hx d) i e).symm
theorem EP.pt_ne (h : EP m es) {x : Nat} (hx : x < 2 * m) {i j : Nat} (hij : i < j) (hj : j < per m es x) : it (sg es) i x / 2 ≠ it (sg es) j x / 2 := by
  intro e
  rcases half_eq e with e | e
  · exact h.it_ne hx hij hj e.symm
  · exact h.no_back2 hx i j e
/-- one ring -/
def R (es : List Nat) (x y : Nat) : Prop := ∃ k, it (sg es) k x = y ∨ it (sg es) k x = xr y
theorem R.refl (x : Nat) : R es x x := ⟨0, .inl rfl⟩
theorem R.sg (x : Nat) : R es x (sg es x) := ⟨1, .inl rfl⟩
theorem EP.inv (h : EP m es) {y : Nat} (hy : y < 2 * m) : ∀ k, ∃ j, it (sg es) j y = it (tu es) k y
  | 0 => ⟨0, rfl⟩
  | k + 1 => by
    obtain ⟨j, e⟩ := h.inv hy k
    have hz := h.itu_lt hy k
    obtain ⟨q, q0, _, q1⟩ := h.comes hz
    obtain ⟨q, rfl⟩ : ∃ p, q = p + 1 := ⟨q - 1, by omega⟩
    refine ⟨j + q, ?_⟩
    rw [it_add, e, it_succ (tu es)]
    rw [it_succ] at q1
    rw [← q1, h.tu_sg (h.it_lt hz q), q1]
theorem R.symm (h : EP m es) {x y : Nat} (hx : x < 2 * m) (hy : y < 2 * m) (r : R es x y) : R es y x := by
  obtain ⟨k, e | e⟩ := r
  · obtain ⟨j, hj⟩ := h.inv hy k
    exact ⟨j, .inl (by rw [hj, ← e, h.itu_it hx])⟩
  · refine ⟨k, .inr ?_⟩
    have : GM.xr (it (GM.sg es) k x) = y := by rw [e, xr_xr]
    rw [← itu_xr] at this
    rw [← this, h.it_itu (xr_lt hx)]
theorem R.trans (h : EP m es) {x y z : Nat} (hx : x < 2 * m) (hy : y < 2 * m) (r : R es x y) (q : R es y z) : R es x z := by
  obtain ⟨k, e | e⟩ := r
  · obtain ⟨l, e2⟩ := q
    exact ⟨k + l, by rw [it_add, e]; exact e2⟩
  · obtain ⟨l, e2⟩ := q
    obtain ⟨j, hj⟩ := h.inv (h.it_lt hx k) l
    have e3 : GM.xr (it (GM.sg es) l y) = it (GM.sg es) j (it (GM.sg es) k x) := by
      rw [hj, e, itu_xr]
    refine ⟨k + j, ?_⟩
    rw [it_add, ← e3]
    rcases e2 with e2 | e2
    · exact .inr (by rw [e2])
    · exact .inl (by rw [e2, xr_xr])
theorem R.xr_r {x y : Nat} (r : R es x y) : R es x (GM.xr y) := by
  obtain ⟨k, e | e⟩ := r
  · exact ⟨k, .inr (by rw [xr_xr]; exact e)⟩
  · exact ⟨k, .inl e⟩
theorem R.half {x y z : Nat} (r : R es x y) (e : y / 2 = z / 2) : R es x z := by
  rcases half_eq e with rfl | rfl
  · exact r
  · exact r.xr_r
/-- the ring of a point, in the sequence in which it is walked -/
def ring (m : Nat) (es : List Nat) (b : Nat) : List Nat := (List.range (per m es (2 * b))).map fun k => it (sg es) k (2 * b) / 2
theorem EP.ring_nd (h : EP m es) {b : Nat} (hb : b < m) : (ring m es b).Nodup := by
  unfold ring
  rw [List.nodup_iff_pairwise_ne, List.pairwise_map]
  refine List.Pairwise.imp_of_mem (R := fun a b => a < b) (fun {a c} ha hc hac => ?_) List.pairwise_lt_range
  exact h.pt_ne (by omega) hac (List.mem_range.mp hc)
theorem EP.it_mod (h : EP m es) {x : Nat} (hx : x < 2 * m) : ∀ k, ∃ j, j < per m es x ∧ it (sg es) j x = it (sg es) k x
  | 0 => ⟨0, per_pos _ _ _, rfl⟩
  | k + 1 => by
    obtain ⟨j, h1, h2⟩ := h.it_mod hx k
    by_cases e : j + 1 < per m es x
    · exact ⟨j + 1, e, by rw [it_succ (sg es) j, it_succ (sg es) k, h2]⟩
    · have : per m es x = j + 1 := by omega
      refine ⟨0, per_pos _ _ _, ?_⟩
      rw [it_succ (sg es) k, ← h2, ← it_succ (sg es) j, ← this, (h.per_ok hx).2.1]
      rfl
theorem EP.mem_ring (h : EP m es) {b p : Nat} (hb : b < m) : p ∈ ring m es b ↔ p < m ∧ R es (2 * b) (2 * p) := by
  unfold ring
  constructor
  · intro hp
    obtain ⟨k, _, rfl⟩ := List.mem_map.mp hp
    have := h.it_lt (x := 2 * b) (by omega) k
    refine ⟨by omega, (show R es (2 * b) (it (sg es) k (2 * b)) from ⟨k, .inl rfl⟩).half (by omega)⟩
  · rintro ⟨hp, k, e⟩
    obtain ⟨j, h1, h2⟩ := h.it_mod (x := 2 * b) (by omega) k
    refine List.mem_map.mpr ⟨j, List.mem_range.mpr h1, ?_⟩
    rw [h2]
    rcases e with e | e
    · rw [e]; omega
    · rw [e, xr_div]; omega
end
end GM
set_option maxRecDepth 100000
set_option maxHeartbeats 4000000
/-! rings as classes; the law's way to them -/
namespace GM
open MI
def zi (l : List Nat) : List Int := l.map fun (k : Nat) => (k : Int)
theorem zi_inj {a b : List Nat} (h : zi a = zi b) : a = b := by
  unfold zi at h
  exact List.map_inj_right (fun x y e => Int.ofNat.inj e) |>.mp h
section
variable {m : Nat} {es : List Nat}
def cls (m : Nat) (es : List Nat) (b : Nat) : List Nat := (List.range m).filter fun p => decide (p ∈ ring m es b)
theorem EP.mem_cls (h : EP m es) {b p : Nat} (hb : b < m) : p ∈ cls m es b ↔ p < m ∧ R es (2 * b) (2 * p) := by
  unfold cls
  rw [List.mem_filter, List.mem_range, decide_eq_true_iff, h.mem_ring hb]
  exact ⟨fun z => z.2, fun z => ⟨z.1, z⟩⟩
theorem cls_lt (b : Nat) : (cls m es b).Pairwise (· < ·) := List.pairwise_lt_range.filter _
theorem EP.cls_perm (h : EP m es) {b : Nat} (hb : b < m) : (cls m es b).Perm (ring m es b) := by
  refine (List.perm_ext_iff_of_nodup ((cls_lt b).imp fun z => Nat.ne_of_lt z) (h.ring_nd hb)).mpr fun p => ?_
  rw [h.mem_cls hb, h.mem_ring hb]
theorem EP.cls_len (h : EP m es) {b : Nat} (hb : b < m) : (cls m es b).length = per m es (2 * b) := by
  rw [(h.cls_perm hb).length_eq]
  unfold ring
  rw [List.length_map, List.length_range]
theorem EP.sort_ring (h : EP m es) {b : Nat} (hb : b < m) : isort (zi (ring m es b)) = zi (cls m es b) := by
  refine (isort_of ?_ ?_).symm
  · exact (h.cls_perm hb).map _
  · unfold zi
    rw [List.pairwise_map]
    exact (cls_lt b).imp fun z => by omega
theorem EP.cls_eq (h : EP m es) {b c : Nat} (hb : b < m) (hc : c < m) (r : R es (2 * b) (2 * c)) : cls m es b = cls m es c := by
  refine List.filter_congr fun p hp => ?_
  have hp := List.mem_range.mp hp
  rw [decide_eq_decide, h.mem_ring hb, h.mem_ring hc]
  exact ⟨fun z => ⟨z.1, (r.symm h (by omega) (by omega)).trans h (by omega) (by omega) z.2⟩, fun z => ⟨z.1, r.trans h (by omega) (by omega) z.2⟩⟩
theorem EP.self_cls (h : EP m es) {b : Nat} (hb : b < m) : b ∈ cls m es b := (h.mem_cls hb).mpr ⟨hb, R.refl _⟩
/-- the least points of rings -/
def isHead (m : Nat) (es : List Nat) (b : Nat) : Bool := (List.range b).all fun c => !decide (b ∈ ring m es c)
def heads (m : Nat) (es : List Nat) (n : Nat) : List Nat := (List.range n).filter (isHead m es)
def ringsF (m : Nat) (es : List Nat) : List (List Nat) := (heads m es m).map (cls m es)
theorem EP.head_iff (h : EP m es) {b : Nat} (hb : b < m) : isHead m es b = true ↔ ∀ c, c < b → ¬ R es (2 * c) (2 * b) := by
  unfold isHead
  rw [List.all_eq_true]
  constructor
  · intro z c hc r
    have := z c (List.mem_range.mpr hc)
    rw [Bool.not_eq_true', decide_eq_false_iff_not, h.mem_ring (by omega)] at this
    exact this ⟨hb, r⟩
  · intro z c hc
    have hc := List.mem_range.mp hc
    rw [Bool.not_eq_true', decide_eq_false_iff_not, h.mem_ring (by omega)]
    exact fun q => z c hc q.2
theorem EP.has_head (h : EP m es) : ∀ {b : Nat}, b < m → ∃ c, c ≤ b ∧ isHead m es c = true ∧ R es (2 * c) (2 * b) := by
  intro b
  induction b using Nat.strongRecOn with
  | _ b ih =>
    intro hb
    by_cases hd : isHead m es b = true
    · exact ⟨b, Nat.le_refl _, hd, R.refl _⟩
    · have : ¬ ∀ c, c < b → ¬ R es (2 * c) (2 * b) := fun z => hd ((h.head_iff hb).mpr z)
      simp only [Classical.not_forall, Classical.not_not] at this
      obtain ⟨c, hc, r⟩ := this
      obtain ⟨d, h1, h2, h3⟩ := ih c hc (by omega)
      exact ⟨d, by omega, h2, h3.trans h (by omega) (by omega) r⟩
theorem mem_heads {n b : Nat} : b ∈ heads m es n ↔ b < n ∧ isHead m es b = true := by
  unfold heads
  rw [List.mem_filter, List.mem_range]
theorem EP.head_first (h : EP m es) {b : Nat} (hb : b < m) (hd : isHead m es b = true) : ∃ t, cls m es b = b :: t ∧ ∀ p ∈ t, b < p := by
  have hm := h.self_cls hb
  have hl := cls_lt (m := m) (es := es) b
  cases hc : cls m es b with
  | nil => rw [hc] at hm; cases hm
  | cons x t =>
    rw [hc] at hm hl
    have hx : x ∈ cls m es b := by rw [hc]; exact List.mem_cons_self
    obtain ⟨hx1, hx2⟩ := (h.mem_cls hb).mp hx
    have hp := (List.pairwise_cons.mp hl).1
    have : x = b := by
      rcases List.mem_cons.mp hm with e | hm
      · exact e.symm
      · have := hp b hm
        exact absurd (hx2.symm h (by omega) (by omega)) ((h.head_iff hb).mp hd x this)
    subst this
    exact ⟨t, rfl, hp⟩
/-- a ring of lists, told by its points -/
theorem EP.mem_ringsF (h : EP m es) {T : List Nat} : T ∈ ringsF m es ↔ ∃ b, b < m ∧ T = cls m es b := by
  unfold ringsF
  rw [List.mem_map]
  constructor
  · rintro ⟨b, hb, rfl⟩
    exact ⟨b, (mem_heads.mp hb).1, rfl⟩
  · rintro ⟨b, hb, rfl⟩
    obtain ⟨c, h1, h2, h3⟩ := h.has_head hb
    exact ⟨c, mem_heads.mpr ⟨by omega, h2⟩, h.cls_eq (by omega) hb h3⟩
theorem heads_lt (n : Nat) : (heads m es n).Pairwise (· < ·) := List.pairwise_lt_range.filter _
theorem lexL_heads {x y : Int} {s t : List Int} (h : x < y) : lexL (y :: s) (x :: t) = false := by
  unfold lexL
  rw [if_neg (by omega)]
  simp
  omega
theorem EP.ringsF_pw (h : EP m es) : ((ringsF m es).map zi).Pairwise (fun a b => lexL b a = false) := by
  unfold ringsF
  rw [List.pairwise_map, List.pairwise_map]
  refine List.Pairwise.imp_of_mem (R := fun a b => a < b) (fun {a b} ha hb hab => ?_) (heads_lt m)
  obtain ⟨ha, ka⟩ := mem_heads.mp ha
  obtain ⟨hb, kb⟩ := mem_heads.mp hb
  obtain ⟨s, e1, _⟩ := h.head_first ha ka
  obtain ⟨t, e2, _⟩ := h.head_first hb kb
  rw [e1, e2]
  exact lexL_heads (Int.ofNat_lt.mpr hab)
theorem EP.ringsF_nd (h : EP m es) : (ringsF m es).Nodup := by
  unfold ringsF
  rw [List.nodup_iff_pairwise_ne, List.pairwise_map]
  refine List.Pairwise.imp_of_mem (R := fun a b => a < b) (fun {a b} ha hb hab e => ?_) (heads_lt m)
  obtain ⟨ha, ka⟩ := mem_heads.mp ha
  obtain ⟨hb, kb⟩ := mem_heads.mp hb
  obtain ⟨s, e1, _⟩ := h.head_first ha ka
  obtain ⟨t, e2, _⟩ := h.head_first hb kb
  rw [e1, e2] at e
  injection e with e _
  omega
/-- any list of just the rings, sorted -/
theorem EP.sort_rings (h : EP m es) {L : List (List Nat)} (nd : L.Nodup) (hm : ∀ T, T ∈ L ↔ ∃ b, b < m ∧ T = cls m es b) : lsort (L.map zi) = (ringsF m es).map zi := by
  refine (lsort_of ?_ h.ringsF_pw).symm
  refine List.Perm.map _ ((List.perm_ext_iff_of_nodup h.ringsF_nd nd).mpr fun T => ?_)
  rw [h.mem_ringsF, hm]
/-! ### the law's way: points get one home by ties -/
def uni (es : List Nat) (hm : List Nat) (t : Nat) : List Nat := hm.map fun x => if x = hm.getD (pl es (2 * t + 1) / 2) 0 then hm.getD (pl es (2 * t) / 2) 0 else x
def homes (es : List Nat) (m n : Nat) : List Nat := (List.range n).foldl (uni es) (List.range m)
theorem homes_succ (n : Nat) : homes es m (n + 1) = uni es (homes es m n) n := by
  unfold homes
  rw [List.range_succ, List.foldl_append]
  rfl
theorem homes_len : ∀ n, (homes es m n).length = m
  | 0 => by simp [homes]
  | n + 1 => by rw [homes_succ]; unfold uni; rw [List.length_map, homes_len n]
theorem uni_at (hm : List Nat) (t p : Nat) (hp : p < hm.length) : (uni es hm t).getD p 0 = if hm.getD p 0 = hm.getD (pl es (2 * t + 1) / 2) 0 then hm.getD (pl es (2 * t) / 2) 0 else hm.getD p 0 := by
  unfold uni
  rw [List.getD_eq_getElem?_getD, List.getElem?_map, List.getD_eq_getElem?_getD (l := hm) (i := p), List.getElem?_eq_getElem hp]
  rfl
theorem EP.tie_R (h : EP m es) {t : Nat} (ht : t < m) : R es (2 * (pl es (2 * t) / 2)) (2 * (pl es (2 * t + 1) / 2)) := by
  have h0 := h.pl_lt (e := 2 * t) (by omega)
  have h1 := h.pl_lt (e := 2 * t + 1) (by omega)
  have e : sg es (GM.xr (pl es (2 * t))) = pl es (2 * t + 1) := by
    unfold sg
    rw [xr_xr, h.at_pl (by omega), xr_even]
  have r1 : R es (2 * (pl es (2 * t) / 2)) (GM.xr (pl es (2 * t))) := (R.refl _).half (by rw [xr_div]; omega)
  have r2 := R.sg (es := es) (GM.xr (pl es (2 * t)))
  rw [e] at r2
  exact (r1.trans h (by omega) (xr_lt h0) r2).half (by omega)
theorem EP.homes_R (h : EP m es) : ∀ n, n ≤ m → ∀ p q, p < m → q < m → (homes es m n).getD p 0 = (homes es m n).getD q 0 → R es (2 * p) (2 * q)
  | 0, _, p, q, hp, hq, e => by
    have : ∀ k, k < m → (homes es m 0).getD k 0 = k := fun k hk => by
      unfold homes
      simp [List.getD_eq_getElem?_getD, hk]
    rw [this p hp, this q hq] at e
    rw [e]
    exact R.refl _
  | n + 1, hn, p, q, hp, hq, e => by
    have ih := h.homes_R n (by omega)
    have l := homes_len (es := es) (m := m) n
    have r := h.tie_R (t := n) (by omega)
    have h0 := h.pl_lt (e := 2 * n) (by omega)
    have h1 := h.pl_lt (e := 2 * n + 1) (by omega)
    rw [homes_succ, uni_at _ _ _ (by omega), uni_at _ _ _ (by omega)] at e
    have go : ∀ p q, p < m → q < m → (homes es m n).getD p 0 = (homes es m n).getD (pl es (2 * n + 1) / 2) 0 → (homes es m n).getD (pl es (2 * n) / 2) 0 = (homes es m n).getD q 0 → R es (2 * p) (2 * q) := fun p q hp hq e1 e2 => by
      have a1 := ih p _ hp (by omega) e1
      have a2 := ih _ q (by omega) hq e2
      exact a1.trans h (by omega) (by omega) ((r.symm h (by omega) (by omega)).trans h (by omega) (by omega) a2)
    split at e
    · split at e
      · rename_i e1 e2
        exact ih p q hp hq (e1.trans e2.symm)
      · rename_i e1 e2
        exact go p q hp hq e1 e
    · split at e
      · rename_i e1 e2
        exact (go q p hq hp e2 e.symm).symm h (by omega) (by omega)
      · exact ih p q hp hq e
theorem EP.homes_tie (h : EP m es) : ∀ n, n ≤ m → ∀ t, t < n → (homes es m n).getD (pl es (2 * t) / 2) 0 = (homes es m n).getD (pl es (2 * t + 1) / 2) 0
  | 0, _, t, ht => absurd ht (Nat.not_lt_zero _)
  | n + 1, hn, t, ht => by
    have l := homes_len (es := es) (m := m) n
    have h0 := h.pl_lt (e := 2 * t) (by omega)
    have h1 := h.pl_lt (e := 2 * t + 1) (by omega)
    rw [homes_succ, uni_at _ _ _ (by omega), uni_at _ _ _ (by omega)]
    by_cases e : t = n
    · subst e
      rw [if_pos rfl]
      split
      · rfl
      · rfl
    · rw [h.homes_tie n (by omega) t (by omega)]
theorem EP.homes_sg (h : EP m es) {x : Nat} (hx : x < 2 * m) : (homes es m m).getD (x / 2) 0 = (homes es m m).getD (sg es x / 2) 0 := by
  have ha := h.at_lt (xr_lt hx)
  obtain ⟨e, he⟩ : ∃ e, e = at' es (xr x) := ⟨_, rfl⟩
  have hp : pl es e = xr x := by rw [he, h.pl_at (xr_lt hx)]
  have hs : sg es x = pl es (xr e) := by unfold sg; rw [← he]
  rw [← he] at ha
  have ht := h.homes_tie m (Nat.le_refl _) (e / 2) (by omega)
  have hd : (xr x) / 2 = x / 2 := xr_div x
  rw [hs]
  by_cases z : e % 2 = 0
  · have z1 : 2 * (e / 2) = e := by omega
    have z2 : xr e = e + 1 := by unfold xr; rw [if_pos z]
    rw [z1, hp, hd] at ht
    rw [z2]
    exact ht
  · have z1 : 2 * (e / 2) + 1 = e := by omega
    have z2 : xr e = 2 * (e / 2) := by unfold xr; rw [if_neg z]; omega
    rw [z1, hp, hd] at ht
    rw [z2]
    exact ht.symm
theorem EP.R_homes (h : EP m es) {p q : Nat} (hp : p < m) (r : R es (2 * p) (2 * q)) : (homes es m m).getD p 0 = (homes es m m).getD q 0 := by
  have go : ∀ k, (homes es m m).getD p 0 = (homes es m m).getD (it (sg es) k (2 * p) / 2) 0 := fun k => by
    induction k with
    | zero => show _ = (homes es m m).getD (2 * p / 2) 0; rw [show 2 * p / 2 = p by omega]
    | succ k ih => rw [ih, it_succ]; exact h.homes_sg (h.it_lt (by omega) k)
  obtain ⟨k, e | e⟩ := r
  · rw [go k, e, show 2 * q / 2 = q by omega]
  · rw [go k, e, xr_div, show 2 * q / 2 = q by omega]
theorem EP.homes_iff (h : EP m es) {p q : Nat} (hp : p < m) (hq : q < m) : (homes es m m).getD p 0 = (homes es m m).getD q 0 ↔ R es (2 * p) (2 * q) :=
  ⟨h.homes_R m (Nat.le_refl _) p q hp hq, h.R_homes hp⟩
/-- the points of one home -/
def ofHome (es : List Nat) (m v : Nat) : List Nat := (List.range m).filter fun p => decide ((homes es m m).getD p 0 = v)
theorem EP.ofHome_cls (h : EP m es) {b : Nat} (hb : b < m) : ofHome es m ((homes es m m).getD b 0) = cls m es b := by
  refine List.filter_congr fun p hp => ?_
  have hp := List.mem_range.mp hp
  rw [decide_eq_decide, h.mem_ring hb, h.homes_iff hp hb]
  exact ⟨fun z => ⟨hp, z.symm h (by omega) (by omega)⟩, fun z => z.2.symm h (by omega) (by omega)⟩
theorem EP.due_rings (h : EP m es) {vs : List Nat} (nd : vs.Nodup) (hv : ∀ v, v ∈ vs ↔ v ∈ homes es m m) : lsort ((vs.map (ofHome es m)).map zi) = (ringsF m es).map zi := by
  have hat : ∀ v, v ∈ homes es m m ↔ ∃ b, b < m ∧ v = (homes es m m).getD b 0 := fun v => by
    constructor
    · intro z
      obtain ⟨b, hb⟩ := List.getElem?_of_mem z
      have := (List.getElem?_eq_some_iff.mp hb).1
      rw [homes_len] at this
      exact ⟨b, this, by rw [List.getD_eq_getElem?_getD, hb]; rfl⟩
    · rintro ⟨b, hb, rfl⟩
      have hb : b < (homes es m m).length := by rw [homes_len]; exact hb
      rw [List.getD_eq_getElem?_getD, List.getElem?_eq_getElem hb]
      exact List.getElem_mem hb
  refine h.sort_rings ?_ fun T => ?_
  · rw [List.nodup_iff_pairwise_ne, List.pairwise_map]
    refine List.Pairwise.imp_of_mem (R := fun a b => a ≠ b) (fun {a b} ha hb hab e => ?_) (List.nodup_iff_pairwise_ne.mp nd)
    obtain ⟨p, hp, rfl⟩ := (hat a).mp ((hv a).mp ha)
    have : p ∈ ofHome es m ((homes es m m).getD p 0) := List.mem_filter.mpr ⟨List.mem_range.mpr hp, decide_eq_true rfl⟩
    rw [e] at this
    exact hab (of_decide_eq_true (List.mem_filter.mp this).2)
  · rw [List.mem_map]
    constructor
    · rintro ⟨v, hv1, rfl⟩
      obtain ⟨b, hb, rfl⟩ := (hat v).mp ((hv v).mp hv1)
      exact ⟨b, hb, h.ofHome_cls hb⟩
    · rintro ⟨b, hb, rfl⟩
      exact ⟨_, (hv _).mpr ((hat _).mpr ⟨b, hb, rfl⟩), h.ofHome_cls hb⟩
end
end GM
set_option maxRecDepth 100000
set_option maxHeartbeats 4000000
/-! how long rings are; the same of the row behind -/
namespace GM
open MI
section
variable {m : Nat} {es fs : List Nat}
theorem EP.per_cls (h : EP m es) {b p : Nat} (hb : b < m) (hp : p ∈ cls m es b) : per m es (2 * p) = (cls m es b).length := by
  obtain ⟨h1, h2⟩ := (h.mem_cls hb).mp hp
  rw [h.cls_eq hb h1 h2, h.cls_len h1]
theorem EP.flat (h : EP m es) : (ringsF m es).flatten.Perm (List.range m) := by
  refine (List.perm_ext_iff_of_nodup ?_ List.nodup_range).mpr fun p => ?_
  · rw [List.nodup_iff_pairwise_ne, List.pairwise_flatten]
    refine ⟨fun T hT => ?_, ?_⟩
    · obtain ⟨b, hb, rfl⟩ := h.mem_ringsF.mp hT
      exact (cls_lt b).imp fun z => Nat.ne_of_lt z
    · refine List.Pairwise.imp_of_mem (R := fun a b => a ≠ b) (fun {S T} hS hT hne x hx y hy e => ?_) (List.nodup_iff_pairwise_ne.mp h.ringsF_nd)
      subst e
      obtain ⟨b, hb, rfl⟩ := h.mem_ringsF.mp hS
      obtain ⟨c, hc, rfl⟩ := h.mem_ringsF.mp hT
      obtain ⟨h1, h2⟩ := (h.mem_cls hb).mp hx
      obtain ⟨_, h3⟩ := (h.mem_cls hc).mp hy
      exact hne ((h.cls_eq hb h1 h2).trans (h.cls_eq hc h1 h3).symm)
  · rw [List.mem_flatten, List.mem_range]
    constructor
    · rintro ⟨T, hT, hp⟩
      obtain ⟨b, hb, rfl⟩ := h.mem_ringsF.mp hT
      exact ((h.mem_cls hb).mp hp).1
    · intro hp
      exact ⟨cls m es p, h.mem_ringsF.mpr ⟨p, hp, rfl⟩, h.self_cls hp⟩
theorem sum_if (L : Nat) : ∀ l : List (List Nat), (l.map fun T => if T.length = L then L else 0).sum = (l.map List.length).count L * L
  | [] => by simp
  | T :: t => by
    rw [List.map_cons, List.sum_cons, sum_if L t, List.map_cons, List.count_cons]
    by_cases e : T.length = L
    · simp [e, Nat.add_mul, Nat.add_comm]
    · simp [e]
/-- how many points lie in rings of so many -/
def cnt (m : Nat) (es : List Nat) (L : Nat) : Nat := (List.range m).countP fun p => decide (per m es (2 * p) = L)
theorem EP.count_len (h : EP m es) (L : Nat) : ((ringsF m es).map List.length).count L * L = cnt m es L := by
  unfold cnt
  rw [← h.flat.countP_eq, List.countP_flatten, ← sum_if]
  congr 1
  refine List.map_congr_left fun T hT => ?_
  obtain ⟨b, hb, rfl⟩ := h.mem_ringsF.mp hT
  by_cases e : (cls m es b).length = L
  · rw [if_pos e]
    have : ∀ p ∈ cls m es b, decide (per m es (2 * p) = L) = true := fun p hp => by rw [h.per_cls hb hp, e]; simp
    rw [List.countP_eq_length.mpr this, e]
  · rw [if_neg e]
    refine (List.countP_eq_zero.mpr fun p hp => ?_).symm
    rw [h.per_cls hb hp]
    simp [e]
theorem EP.count_zero (h : EP m es) : ((ringsF m es).map List.length).count 0 = 0 := by
  refine List.count_eq_zero.mpr fun z => ?_
  obtain ⟨T, hT, e⟩ := List.mem_map.mp z
  obtain ⟨b, hb, rfl⟩ := h.mem_ringsF.mp hT
  have := List.length_pos_of_mem (h.self_cls hb)
  omega
theorem countP_two (f : Nat → Bool) : ∀ m, (List.range (2 * m)).countP f = (List.range m).countP (fun p => f (2 * p)) + (List.range m).countP (fun p => f (2 * p + 1))
  | 0 => rfl
  | m + 1 => by
    rw [show 2 * (m + 1) = 2 * m + 1 + 1 by omega, List.range_succ, List.range_succ, List.range_succ, List.countP_append, List.countP_append, List.countP_append, List.countP_append, countP_two f m]
    simp only [List.countP_cons, List.countP_nil]
    omega
theorem per_congr {x y : Nat} (e : ∀ k, it (sg es) k x = x ↔ it (sg fs) k y = y) : per m es x = per m fs y := by
  unfold per
  congr 2
  refine congrArg (fun f => List.find? f _) (funext fun k => ?_)
  rw [Bool.eq_iff_iff, beq_iff_eq, beq_iff_eq]
  exact e (k + 1)
theorem EP.itu_iff (h : EP m es) {x : Nat} (hx : x < 2 * m) (k : Nat) : it (tu es) k x = x ↔ it (sg es) k x = x := by
  constructor
  · intro e
    have := h.it_itu hx k
    rwa [e] at this
  · intro e
    have := h.itu_it hx k
    rwa [e] at this
theorem EP.per_xr (h : EP m es) {x : Nat} (hx : x < 2 * m) : per m es (GM.xr x) = per m es x := by
  refine per_congr fun k => ?_
  have : it (sg es) k (GM.xr x) = GM.xr (it (tu es) k x) := by
    have := itu_xr (es := es) k (GM.xr x)
    rw [xr_xr] at this
    rw [this, xr_xr]
  rw [this, ← h.itu_iff hx]
  exact ⟨fun z => xr_inj z, fun z => by rw [z]⟩
theorem EP.cnt_two (h : EP m es) (L : Nat) : (List.range (2 * m)).countP (fun x => decide (per m es x = L)) = 2 * cnt m es L := by
  rw [countP_two]
  have : (List.range m).countP (fun p => decide (per m es (2 * p + 1) = L)) = (List.range m).countP fun p => decide (per m es (2 * p) = L) := by
    refine List.countP_congr fun p hp => ?_
    have hp := List.mem_range.mp hp
    rw [← xr_even, h.per_xr (by omega)]
  rw [this]
  unfold cnt
  omega
/-- the ends of the row behind: places and ends changed -/
structure Inv (m : Nat) (es fs : List Nat) : Prop where
  at_ : ∀ i, i < 2 * m → at' fs i = pl es i
theorem Inv.pl_ (v : Inv m es fs) (h : EP m es) (g : EP m fs) {e : Nat} (he : e < 2 * m) : pl fs e = at' es e := by
  have h1 := h.at_lt he
  have := v.at_ (at' es e) h1
  rw [h.pl_at he] at this
  have h2 := g.pl_at h1
  rw [this] at h2
  exact h2
theorem Inv.sg_ (v : Inv m es fs) (h : EP m es) (g : EP m fs) {x : Nat} (hx : x < 2 * m) : sg fs (at' es x) = at' es (tu es x) := by
  unfold sg tu
  have h1 := xr_lt (h.at_lt hx)
  rw [v.at_ _ h1, v.pl_ h g (xr_lt (h.pl_lt h1))]
theorem Inv.it_ (v : Inv m es fs) (h : EP m es) (g : EP m fs) {x : Nat} (hx : x < 2 * m) : ∀ k, it (sg fs) k (at' es x) = at' es (it (tu es) k x)
  | 0 => rfl
  | k + 1 => by rw [it_succ, it_succ, v.it_ h g hx k, v.sg_ h g (h.itu_lt hx k)]
theorem Inv.per_ (v : Inv m es fs) (h : EP m es) (g : EP m fs) {x : Nat} (hx : x < 2 * m) : per m fs (at' es x) = per m es x := by
  refine per_congr fun k => ?_
  rw [v.it_ h g hx, ← h.itu_iff hx]
  exact ⟨fun z => h.at_inj (h.itu_lt hx k) hx z, fun z => by rw [z]⟩
theorem EP.map_at (h : EP m es) : (List.range (2 * m)).map (at' es) = es := by
  refine List.ext_getElem? fun i => ?_
  by_cases hi : i < 2 * m
  · rw [List.getElem?_map, List.getElem?_range hi, h.at_some hi]
    rfl
  · rw [List.getElem?_eq_none (by simp; omega), List.getElem?_eq_none (by rw [h.len]; omega)]
theorem EP.perm (h : EP m es) : es.Perm (List.range (2 * m)) :=
  (List.perm_ext_iff_of_nodup h.nd List.nodup_range).mpr fun e => ⟨fun z => List.mem_range.mpr (h.lt e z), fun z => h.all (List.mem_range.mp z)⟩
theorem Inv.cnt_ (v : Inv m es fs) (h : EP m es) (g : EP m fs) (L : Nat) : cnt m fs L = cnt m es L := by
  have h1 := h.cnt_two L
  have h2 := g.cnt_two L
  have : (List.range (2 * m)).countP (fun x => decide (per m fs x = L)) = (List.range (2 * m)).countP fun x => decide (per m es x = L) := by
    rw [← h.perm.countP_eq]
    conv => lhs; rw [← h.map_at]
    rw [List.countP_map]
    refine List.countP_congr fun x hx => ?_
    have hx := List.mem_range.mp hx
    show decide (per m fs (at' es x) = L) = true ↔ _
    rw [v.per_ h g hx]
  omega
theorem Inv.lens (v : Inv m es fs) (h : EP m es) (g : EP m fs) : ((ringsF m fs).map List.length).Perm ((ringsF m es).map List.length) := by
  refine List.perm_iff_count.mpr fun L => ?_
  by_cases z : L = 0
  · subst z
    rw [h.count_zero, g.count_zero]
  · have h1 := h.count_len L
    have h2 := g.count_len L
    rw [v.cnt_ h g, ← h1] at h2
    exact Nat.eq_of_mul_eq_mul_right (Nat.pos_of_ne_zero z) h2
/-! ### ties of a ring -/
def tieL (es : List Nat) (T : List Nat) : List Nat := (T.map fun p => at' es (2 * p) / 2) ++ T.map fun p => at' es (2 * p + 1) / 2
def tieR (m : Nat) (es : List Nat) (b : Nat) : List Nat := (List.range (per m es (2 * b))).map fun k => at' es (xr (it (sg es) k (2 * b))) / 2
theorem EP.tieR_nd (h : EP m es) {b : Nat} (hb : b < m) : (tieR m es b).Nodup := by
  unfold tieR
  rw [List.nodup_iff_pairwise_ne, List.pairwise_map]
  refine List.Pairwise.imp_of_mem (R := fun a b => a < b) (fun {a c} ha hc hac e => ?_) List.pairwise_lt_range
  have la := h.it_lt (x := 2 * b) (by omega) a
  have lc := h.it_lt (x := 2 * b) (by omega) c
  rcases half_eq e with e | e
  · exact h.it_ne (by omega) hac (List.mem_range.mp hc) (xr_inj (h.at_inj (xr_lt lc) (xr_lt la) e)).symm
  · have : pl es (at' es (GM.xr (it (sg es) c (2 * b)))) = it (sg es) (a + 1) (2 * b) := by
      rw [e, it_succ]
      rfl
    rw [h.pl_at (xr_lt lc)] at this
    exact h.no_back2 (x := 2 * b) (by omega) c (a + 1) this.symm
theorem EP.tie_mem (h : EP m es) {b t : Nat} (hb : b < m) : t ∈ tieL es (cls m es b) ↔ t ∈ tieR m es b := by
  unfold tieL tieR
  rw [List.mem_append, List.mem_map, List.mem_map, List.mem_map]
  have x0 : 2 * b < 2 * m := by omega
  constructor
  · intro z
    obtain ⟨p, y, hp, hy, rfl⟩ : ∃ p y, p ∈ cls m es b ∧ y / 2 = p ∧ at' es y / 2 = t := by
      rcases z with ⟨p, hp, e⟩ | ⟨p, hp, e⟩
      · exact ⟨p, 2 * p, hp, by omega, e⟩
      · exact ⟨p, 2 * p + 1, hp, by omega, e⟩
    have hr := (h.cls_perm hb).mem_iff.mp hp
    unfold ring at hr
    obtain ⟨k, hk, e⟩ := List.mem_map.mp hr
    have hk := List.mem_range.mp hk
    have lk := h.it_lt x0 k
    rcases half_eq (e.trans hy.symm) with e | e
    · -- y is where the ring is behind k steps
      subst e
      obtain ⟨j, hj, e2⟩ : ∃ j, j < per m es (2 * b) ∧ sg es (it (sg es) j (2 * b)) = it (sg es) k (2 * b) := by
        cases k with
        | zero =>
          refine ⟨per m es (2 * b) - 1, by have := per_pos m es (2 * b); omega, ?_⟩
          rw [← it_succ (sg es), show per m es (2 * b) - 1 + 1 = per m es (2 * b) by have := per_pos m es (2 * b); omega, (h.per_ok x0).2.1]
          rfl
        | succ k => exact ⟨k, by omega, by rw [it_succ (sg es) k]⟩
      refine ⟨j, List.mem_range.mpr hj, ?_⟩
      have lj := h.it_lt x0 j
      have e3 : at' es (sg es (it (sg es) j (2 * b))) = GM.xr (at' es (GM.xr (it (sg es) j (2 * b)))) := h.at_pl (xr_lt (h.at_lt (xr_lt lj)))
      rw [← e2, e3, xr_div]
    · subst e
      exact ⟨k, List.mem_range.mpr hk, rfl⟩
  · rintro ⟨k, hk, rfl⟩
    have hk := List.mem_range.mp hk
    have lk := h.it_lt x0 k
    have hp : it (sg es) k (2 * b) / 2 ∈ cls m es b := (h.cls_perm hb).mem_iff.mpr (List.mem_map.mpr ⟨k, List.mem_range.mpr hk, rfl⟩)
    have e : ∀ y, y = 2 * (y / 2) ∨ y = 2 * (y / 2) + 1 := fun y => by omega
    have hd := xr_div (it (sg es) k (2 * b))
    rcases e (GM.xr (it (sg es) k (2 * b))) with e | e
    · refine .inl ⟨_, hp, ?_⟩
      rw [← hd, ← e]
    · refine .inr ⟨_, hp, ?_⟩
      rw [← hd, ← e]
theorem EP.tie_len (h : EP m es) {b : Nat} (hb : b < m) : (dsort (zi (tieL es (cls m es b)))).length = (cls m es b).length := by
  have nd1 : (dsort (zi (tieL es (cls m es b)))).Nodup := (dsort_pw _).imp fun {a b} z => by omega
  have nd2 : (zi (tieR m es b)).Nodup := by
    unfold zi
    rw [List.nodup_iff_pairwise_ne, List.pairwise_map]
    exact (List.nodup_iff_pairwise_ne.mp (h.tieR_nd hb)).imp fun z e => z (Int.ofNat.inj e)
  have : (dsort (zi (tieL es (cls m es b)))).Perm (zi (tieR m es b)) := (List.perm_ext_iff_of_nodup nd1 nd2).mpr fun k => by
    rw [dsort_mem]
    unfold zi
    rw [List.mem_map, List.mem_map]
    constructor
    · rintro ⟨t, ht, rfl⟩
      exact ⟨t, (h.tie_mem hb).mp ht, rfl⟩
    · rintro ⟨t, ht, rfl⟩
      exact ⟨t, (h.tie_mem hb).mpr ht, rfl⟩
  rw [this.length_eq, h.cls_len hb]
  unfold zi tieR
  rw [List.length_map, List.length_map, List.length_range]
/-! ### whole points -/
theorem EP.one_iff (h : EP m es) {p : Nat} (hp : p < m) : cls m es p = [p] ↔ xr (at' es (2 * p + 1)) = at' es (2 * p) := by
  have x0 : 2 * p < 2 * m := by omega
  have l1 := h.at_lt (i := 2 * p + 1) (by omega)
  have : sg es (2 * p) = 2 * p ↔ xr (at' es (2 * p + 1)) = at' es (2 * p) := by
    unfold sg
    rw [xr_even]
    constructor
    · intro e
      have := h.at_pl (xr_lt l1)
      rw [e] at this
      exact this.symm
    · intro e
      rw [e, h.pl_at x0]
  rw [← this]
  constructor
  · intro e
    have := h.cls_len hp
    rw [e] at this
    have h2 := (h.per_ok x0).2.1
    rw [← this] at h2
    exact h2
  · intro e
    have go : ∀ k, it (sg es) k (2 * p) = 2 * p := fun k => by
      induction k with
      | zero => rfl
      | succ k ih => rw [it_succ, ih, e]
    have hl := h.cls_len hp
    have : per m es (2 * p) = 1 := by
      have := per_pos m es (2 * p)
      by_cases z : per m es (2 * p) = 1
      · exact z
      · exact absurd (go 1) ((h.per_ok x0).2.2 1 (by omega) (by omega))
    rw [this] at hl
    have hs := h.self_cls hp
    cases hc : cls m es p with
    | nil => rw [hc] at hs; cases hs
    | cons x t =>
      rw [hc] at hl hs
      have : t = [] := List.eq_nil_of_length_eq_zero (by simpa using hl)
      subst this
      rw [List.mem_singleton.mp hs]
theorem EP.all_iff (h : EP m es) : (ringsF m es).length = m ↔ ∀ p, p < m → cls m es p = [p] := by
  unfold ringsF
  rw [List.length_map]
  unfold heads
  constructor
  · intro e p hp
    have hall : ∀ b ∈ List.range m, isHead m es b = true := List.filter_eq_self.mp (by
      refine List.Sublist.eq_of_length List.filter_sublist ?_
      rw [List.length_range]
      exact e)
    have hs := h.self_cls hp
    have one : ∀ q ∈ cls m es p, q = p := fun q hq => by
      obtain ⟨h1, h2⟩ := (h.mem_cls hp).mp hq
      have k1 := (h.head_iff hp).mp (hall p (List.mem_range.mpr hp))
      have k2 := (h.head_iff h1).mp (hall q (List.mem_range.mpr h1))
      rcases Nat.lt_trichotomy q p with z | z | z
      · exact absurd (h2.symm h (by omega) (by omega)) (k1 q z)
      · exact z
      · exact absurd h2 (k2 p z)
    have hl := cls_lt (m := m) (es := es) p
    cases hc : cls m es p with
    | nil => rw [hc] at hs; cases hs
    | cons x t =>
      rw [hc] at one hl
      have hx := one x List.mem_cons_self
      subst hx
      cases t with
      | nil => rfl
      | cons y t =>
        have := (List.pairwise_cons.mp hl).1 y List.mem_cons_self
        have := one y (by simp)
        omega
  · intro e
    rw [List.filter_eq_self.mpr fun b hb => ?_, List.length_range]
    have hb := List.mem_range.mp hb
    refine (h.head_iff hb).mpr fun c hc r => ?_
    have : b ∈ cls m es c := (h.mem_cls (by omega)).mpr ⟨hb, r⟩
    rw [e c (by omega)] at this
    have := List.mem_singleton.mp this
    omega
theorem EP.single (h : EP m es) {p : Nat} (hp : p < m) : [p] ∈ ringsF m es ↔ cls m es p = [p] := by
  rw [h.mem_ringsF]
  constructor
  · rintro ⟨b, hb, e⟩
    have : p ∈ cls m es b := by rw [← e]; exact List.mem_cons_self
    obtain ⟨h1, h2⟩ := (h.mem_cls hb).mp this
    rw [← h.cls_eq hb hp h2, ← e]
  · intro e
    exact ⟨p, hp, e.symm⟩
end
end GM
set_option maxRecDepth 100000
set_option maxHeartbeats 0
namespace GA
open PySem PySem.Spec PyProof.Rows L2 MI LamX
def f__law_take : FN := fnB 5 ((sCons (sIf (tE (eOp2 (cInt gGt) (eOp2 oIx (eVar 0) (eC (.int 0))) (eC (.int 0)))) (sCons (sSet (eOp2 (oInt gMod) (eApp bInt (aCons (eOp2 oIx (eVar 0) (eC (.int 0))) aNil)) (eVar 1)) 4)
  (sCons (sAs (eOp2 (oInt gDiv) (eOp2 oIx (eVar 0) (eC (.int 0))) (eVar 1)) (gSb (eVar 0) (eC (.int 0))))
  (sCons (sRet (eVar 4))
  sNil))) sNil)
  (sCons (sAs (eOp2 oAdd (eOp2 oIx (eVar 0) (eC (.int 2))) (eC (.int 1))) (gSb (eVar 0) (eC (.int 2))))
  (sCons (sSet (eOp2 oIx (eLst (aCons (eC (.int 2147482859)) (aCons (eC (.int 2147482819)) (aCons (eC (.int 2147482817)) (aCons (eC (.int 2147482811)) (aCons (eC (.int 2147482801)) aNil)))))) (eOp2 (oInt gMod) (eApp bInt (aCons (eOp2 oIx (eVar 0) (eC (.int 2))) aNil)) (eC (.int 5)))) 2)
  (sCons (sSet (eOp2 (oInt gMod) (eApp bInt (aCons (eOp2 (oInt gPw) (eApp bInt (aCons (eOp2 oAdd (eOp2 oAdd (eOp2 oIx (eVar 0) (eC (.int 1))) (eOp2 (oInt gMul) (eOp2 (oInt gMul) (eC (.int 79861)) (eOp2 oIx (eVar 0) (eC (.int 2)))) (eOp2 oIx (eVar 0) (eC (.int 2))))) (eC (.int 1697))) aNil)) (eC (.int 3))) aNil)) (eVar 2)) 3)
  (sCons (sSet (eOp2 (oInt gMod) (eApp bInt (aCons (eOp2 (oInt gMul) (eVar 3) (eOp2 oAdd (eOp2 (oInt gMod) (eApp bInt (aCons (eVar 3) aNil)) (eC (.int 8101))) (eOp2 (oInt gMul) (eC (.int 307)) (eOp2 oIx (eVar 0) (eC (.int 2)))))) aNil)) (eC (.int 2305843009213693907))) 3)
  (sCons (sRet (eOp2 (oInt gMod) (eApp bInt (aCons (eOp2 (oInt gDiv) (eVar 3) (eC (.int 173))) aNil)) (eVar 1)))
  sNil)))))))
def f__law_of : FN := fnB 2 ((sCons (sRet (eOp2 oIx (eVar 1) (eApp (callN 2 f__law_take) (aCons (eVar 0) (aCons (eApp bLen (aCons (eVar 1) aNil)) aNil)))))
  sNil))
def f__law_some : FN := fnB 6 ((sCons (sPar 4 5 (aCons (eApp bListM (aCons (eVar 1) aNil)) (aCons (eLstM aNil) aNil)))
  (sCons (sFor (iR1 (eVar 2)) (gNm 3) (sCons (sEx (eMt "list" mApp (eVar 5) (aCons (eMt "list" mPopA (eVar 4) (aCons (eApp (callN 2 f__law_take) (aCons (eVar 0) (aCons (eApp bLen (aCons (eVar 4) aNil)) aNil))) aNil)) aNil)))
  sNil))
  (sCons (sRet (eVar 5))
  sNil))))
def f__law_row : FN := fnB 5 ((sCons (sSet (eOp2 oAdd (eVar 1) (eApp (callN 2 f__law_take) (aCons (eVar 0) (aCons (eOp2 oAdd (eOp2 (oInt gSub) (eVar 2) (eVar 1)) (eC (.int 1))) aNil)))) 3)
  (sCons (sRet (eApp bTup (aCons (eLc (iSeq (eApp (callN 3 f__law_some) (aCons (eVar 0) (aCons (eRgL (rg2 (eC (.int 1)) (eOp2 oAdd (eVar 3) (eC (.int 1))))) (aCons (eVar 3) aNil))))) (gNm 4) tYe (eOp2 oMulB (eVar 4) (eApp (callN 2 f__law_of) (aCons (eVar 0) (aCons (eLst (aCons (eC (.int 1)) (aCons (eOp1 oNeg (eC (.int 1))) aNil))) aNil)))) [4]) aNil)))
  sNil)))
def f_is_integer : FN := fnB 1 ((sCons (sRet (eAn (eIsa "int" (eVar 0)) (eNt (eIsa "bool" (eVar 0)))))
  sNil))
def f_is_row : FN := fnB 2 ((sCons (sIf (tOr' (tNt (tE (eIsa "tuple" (eVar 0)))) (tNt (tE (eCh (cInt gLe) (cInt gLe) (eC (.int 1)) (eApp bLenD (aCons (eVar 0) aNil)) (eC (.int 20)))))) (sCons (sRet (eC (.bool false)))
  sNil) sNil)
  (sCons (sIf (tNt (tE (eApp bAll (aCons (eLc (iSeq (eVar 0)) (gNm 1) tYe (eApp (callN 1 f_is_integer) (aCons (eVar 1) aNil)) [1]) aNil)))) (sCons (sRet (eC (.bool false)))
  sNil) sNil)
  (sCons (sRet (eOp2 cEqL (eApp bSortA (aCons (eLc (iSeq (eVar 0)) (gNm 1) tYe (eApp bAbs (aCons (eVar 1) aNil)) [1]) aNil)) (eRgL (rg2 (eC (.int 1)) (eOp2 oAdd (eApp bLenD (aCons (eVar 0) aNil)) (eC (.int 1)))))))
  sNil))))
def f_check_row : FN := fnB 1 ((sCons (sIf (tNt (tE (eApp (callN 1 f_is_row) (aCons (eVar 0) aNil)))) (sCons (sRaise "BadRow" (eVar 0))
  sNil) sNil)
  sNil))
def f_back_of : FN := fnB 4 ((sCons (sSet (eOp2 oMulM (eLst (aCons (eC (.int 0)) aNil)) (eApp bLenD (aCons (eVar 0) aNil))) 1)
  (sCons (sFor (iEn (eVar 0)) (gTp 2 (gsCons (gNm 2) (gsCons (gNm 3) gsNil))) (sCons (sAs (eIf (tE (eOp2 (cInt gGt) (eVar 3) (eC (.int 0)))) (eOp2 oAdd (eVar 2) (eC (.int 1))) (eOp2 (oInt gSub) (eOp2 (oInt gSub) (eC (.int 0)) (eVar 2)) (eC (.int 1)))) (gSbF (eVar 1) (eOp2 (oInt gSub) (eApp bAbs (aCons (eVar 3) aNil)) (eC (.int 1)))))
  sNil))
  (sCons (sRet (eApp bTup (aCons (eVar 1) aNil)))
  sNil))))
def f_back : FN := fnB 1 ((sCons (sEx (eApp (callN 1 f_check_row) (aCons (eVar 0) aNil)))
  (sCons (sRet (eApp (callN 1 f_back_of) (aCons (eVar 0) aNil)))
  sNil)))
def f_check_two : FN := fnB 2 ((sCons (sEx (eApp (callN 1 f_check_row) (aCons (eVar 0) aNil)))
  (sCons (sEx (eApp (callN 1 f_check_row) (aCons (eVar 1) aNil)))
  (sCons (sIf (tE (eOp2 cNeL (eApp bLenD (aCons (eVar 0) aNil)) (eApp bLenD (aCons (eVar 1) aNil)))) (sCons (sRaise "Unlike" (eTup (aCons (eApp bLenD (aCons (eVar 0) aNil)) (aCons (eApp bLenD (aCons (eVar 1) aNil)) aNil))))
  sNil) sNil)
  sNil))))
def f_put_on : FN := fnB 3 ((sCons (sRet (eApp bTup (aCons (eLc (iSeq (eVar 1)) (gNm 2) tYe (eIf (tE (eOp2 (cInt gGt) (eVar 2) (eC (.int 0)))) (eOp2 oIxD (eVar 0) (eOp2 (oInt gSub) (eVar 2) (eC (.int 1)))) (eOp2 (oInt gSub) (eC (.int 0)) (eOp2 oIxD (eVar 0) (eOp2 (oInt gSub) (eOp2 (oInt gSub) (eC (.int 0)) (eVar 2)) (eC (.int 1)))))) [2]) aNil)))
  sNil))
def f_put : FN := fnB 2 ((sCons (sEx (eApp (callN 2 f_check_two) (aCons (eVar 0) (aCons (eVar 1) aNil))))
  (sCons (sRet (eApp (callN 2 f_put_on) (aCons (eVar 0) (aCons (eVar 1) aNil))))
  sNil)))
def f_is_between : FN := fnB 3 ((sCons (sRet (eAn (eApp (callN 1 f_is_integer) (aCons (eVar 0) aNil)) (eCh (cInt gLe) (cInt gLe) (eVar 1) (eVar 0) (eVar 2))))
  sNil))
def f_outer : FN := fnB 1 ((sCons (sRet (eTup (aCons (eC (.int 0)) (aStar (eVar 0) (aCons (eOp2 oAdd (eApp bLenD (aCons (eVar 0) aNil)) (eC (.int 1))) aNil)))))
  sNil))
def f_broken_at : FN := fnB 3 ((sCons (sSet (eApp (callN 1 f_outer) (aCons (eVar 0) aNil)) 2)
  (sCons (sRet (eOp2 cNeL (eOp2 oIxD (eVar 2) (eOp2 oAdd (eVar 1) (eC (.int 1)))) (eOp2 oAdd (eOp2 oIxD (eVar 2) (eVar 1)) (eC (.int 1)))))
  sNil)))
def f_broken_points : FN := fnB 2 ((sCons (sRet (eLc (iR1 (eOp2 oAdd (eApp bLenD (aCons (eVar 0) aNil)) (eC (.int 1)))) (gNm 1) (tE (eApp (callN 2 f_broken_at) (aCons (eVar 0) (aCons (eVar 1) aNil)))) (eVar 1) [1]))
  sNil))
def f_breaks : FN := fnB 1 ((sCons (sEx (eApp (callN 1 f_check_row) (aCons (eVar 0) aNil)))
  (sCons (sRet (eApp bTup (aCons (eApp (callN 1 f_broken_points) (aCons (eVar 0) aNil)) aNil)))
  sNil)))
def f_check_point : FN := fnB 2 ((sCons (sEx (eApp (callN 1 f_check_row) (aCons (eVar 0) aNil)))
  (sCons (sIf (tNt (tE (eApp (callN 3 f_is_between) (aCons (eVar 1) (aCons (eC (.int 0)) (aCons (eApp bLenD (aCons (eVar 0) aNil)) aNil)))))) (sCons (sRaise "BadPoint" (eVar 1))
  sNil) sNil)
  sNil)))
def f_check_many : FN := fnB 1 ((sCons (sIf (tNt (tE (eApp (callN 3 f_is_between) (aCons (eVar 0) (aCons (eC (.int 1)) (aCons (eC (.int 20)) aNil)))))) (sCons (sRaise "BadMany" (eVar 0))
  sNil) sNil)
  sNil))
def f__law_pot : FN := fnB 5 ((sCons (sSet (eIf (tE (eOp2 (cInt gLt) (eVar 1) (eApp bLen (aCons (eVar 0) aNil)))) (eOp2 oIx (eVar 0) (eVar 1)) (eOp2 oAdd (eOp2 oAdd (eOp2 (oInt gMod) (eApp bSum (aCons (eSl (eVar 0) pNo (pSm (eC (.int 1)))) aNil)) (eC (.int 1000159))) (eOp2 (oInt gMul) (eC (.int 6211)) (eVar 1))) (eC (.int 907)))) 2)
  (sCons (sSet (eOp2 (oInt gMul) (eOp2 (oInt gMod) (eApp bInt (aCons (eApp bAbs (aCons (eVar 2) aNil)) aNil)) (eOp2 (oInt gPw) (eOp2 (oInt gPw) (eC (.int 10)) (eC (.int 60))) (eC (.int 5)))) (eApp bInt (aCons (eOp2 (cInt gGe) (eApp bAbs (aCons (eVar 2) aNil)) (eOp2 (oInt gPw) (eC (.int 10)) (eC (.int 18)))) aNil))) 3)
  (sCons (sSet (eOp2 (oInt gMod) (eApp bInt (aCons (eVar 2) aNil)) (eC (.int 2305843009213693951))) 4)
  (sCons (sRet (eLstM (aCons (eVar 3) (aCons (eOp2 (oInt gMod) (eApp bInt (aCons (eOp2 oAdd (eOp2 oAdd (eOp2 (oInt gMul) (eVar 4) (eC (.int 71917))) (eOp2 (oInt gMul) (eOp2 (oInt gMul) (eC (.int 5309)) (eVar 1)) (eVar 1))) (eC (.int 1451))) aNil)) (eC (.int 2305843009213693921))) (aCons (eC (.int 0)) aNil)))))
  sNil)))))
def f__law_cells : FN := fnB 2 ((sCons (sRet (eRgL (rg1 (eApp bMax2 (aCons (eC (.int 1)) (aCons (eApp bMin2 (aCons (eVar 1) (aCons (eApp bLen (aCons (eVar 0) aNil)) aNil))) aNil))))))
  sNil))
def f__law_ends : FN := fnB 3 ((sCons (sSet (eLstM (aCons (eC (.int 0)) aNil)) 1)
  (sCons (sFor (iSeq (eVar 0)) (gNm 2) (sCons (sEx (eMt "list" mExt (eVar 1) (aCons (eIf (tE (eOp2 (cInt gGt) (eVar 2) (eC (.int 0)))) (eLst (aCons (eOp2 (oInt gSub) (eOp2 (oInt gMul) (eC (.int 2)) (eVar 2)) (eC (.int 1))) (aCons (eOp2 (oInt gMul) (eC (.int 2)) (eVar 2)) aNil))) (eLst (aCons (eOp2 (oInt gMul) (eOp1 oNeg (eC (.int 2))) (eVar 2)) (aCons (eOp2 (oInt gSub) (eOp2 (oInt gMul) (eOp1 oNeg (eC (.int 2))) (eVar 2)) (eC (.int 1))) aNil)))) aNil)))
  sNil))
  (sCons (sRet (eOp2 oAddS (eVar 1) (eLst (aCons (eOp2 oAdd (eOp2 (oInt gMul) (eC (.int 2)) (eApp bLenD (aCons (eVar 0) aNil))) (eC (.int 1))) aNil))))
  sNil))))
def f__law_rings : FN := fnB 10 ((sCons (sSet (eApp (callN 1 f__law_ends) (aCons (eVar 0) aNil)) 1)
  (sCons (sSet (eApp bDictP (aCons (eLc (iEn (eVar 1)) (gTp 2 (gsCons (gNm 8) (gsCons (gNm 9) gsNil))) tYe (eTup (aCons (eVar 9) (aCons (eOp2 (oInt gDiv) (eVar 8) (eC (.int 2))) aNil))) [8, 9]) aNil)) 2)
  (sCons (sSet (eRgL (rg1 (eOp2 oAdd (eApp bLenD (aCons (eVar 0) aNil)) (eC (.int 1))))) 3)
  (sCons (sFor (iR1 (eOp2 oAdd (eApp bLenD (aCons (eVar 0) aNil)) (eC (.int 1)))) (gNm 4) (sCons (sAs (eTup (aCons (eOp2 oIxD (eVar 2) (eOp2 (oInt gMul) (eC (.int 2)) (eVar 4))) (aCons (eOp2 oIxD (eVar 2) (eOp2 oAdd (eOp2 (oInt gMul) (eC (.int 2)) (eVar 4)) (eC (.int 1)))) aNil))) (gTp 2 (gsCons (gNm 5) (gsCons (gNm 6) gsNil))))
  (sCons (sSet (eLc (iSeq (eVar 3)) (gNm 7) tYe (eIf (tE (eOp2 cEqL (eVar 7) (eOp2 oIxD (eVar 3) (eVar 6)))) (eOp2 oIxD (eVar 3) (eVar 5)) (eVar 7)) [7]) 3)
  sNil)))
  (sCons (sRet (eApp bSortA (aCons (eLc (iSeq (eSrtSetA (eVar 3))) (gNm 7) tYe (eApp bTup (aCons (eLc (iR1 (eOp2 oAdd (eApp bLenD (aCons (eVar 0) aNil)) (eC (.int 1)))) (gNm 8) (tE (eOp2 cEqL (eOp2 oIxD (eVar 3) (eVar 8)) (eVar 7))) (eVar 8) [8]) aNil)) [7]) aNil)))
  sNil))))))
def f_ends_by : FN := fnB 3 ((sCons (sSet (eLstM (aCons (eC (.int 0)) aNil)) 1)
  (sCons (sFor (iSeq (eVar 0)) (gNm 2) (sCons (sEx (eMt "list" mExt (eVar 1) (aCons (eIf (tE (eOp2 (cInt gGt) (eVar 2) (eC (.int 0)))) (eLst (aCons (eOp2 (oInt gSub) (eOp2 (oInt gMul) (eC (.int 2)) (eVar 2)) (eC (.int 1))) (aCons (eOp2 (oInt gMul) (eC (.int 2)) (eVar 2)) aNil))) (eLst (aCons (eOp2 (oInt gSub) (eC (.int 0)) (eOp2 (oInt gMul) (eC (.int 2)) (eVar 2))) (aCons (eOp2 (oInt gSub) (eOp2 (oInt gSub) (eC (.int 0)) (eOp2 (oInt gMul) (eC (.int 2)) (eVar 2))) (eC (.int 1))) aNil)))) aNil)))
  sNil))
  (sCons (sRet (eLst (aStar (eVar 1) (aCons (eOp2 oAdd (eOp2 (oInt gMul) (eC (.int 2)) (eApp bLenD (aCons (eVar 0) aNil))) (eC (.int 1))) aNil))))
  sNil))))
def f_ends_of : FN := fnB 1 ((sCons (sEx (eApp (callN 1 f_check_row) (aCons (eVar 0) aNil)))
  (sCons (sRet (eApp bTup (aCons (eApp (callN 1 f_ends_by) (aCons (eVar 0) aNil)) aNil)))
  sNil)))
def f_home_ties : FN := fnB 2 ((sCons (sEx (eApp (callN 1 f_check_many) (aCons (eVar 0) aNil)))
  (sCons (sRet (eApp bTup (aCons (eLc (iR1 (eOp2 oAdd (eVar 0) (eC (.int 1)))) (gNm 1) tYe (eTup (aCons (eOp2 (oInt gMul) (eC (.int 2)) (eVar 1)) (aCons (eOp2 oAdd (eOp2 (oInt gMul) (eC (.int 2)) (eVar 1)) (eC (.int 1))) aNil))) [1]) aNil)))
  sNil)))
def f_row_ties : FN := fnB 3 ((sCons (sEx (eApp (callN 1 f_check_row) (aCons (eVar 0) aNil)))
  (sCons (sSet (eApp (callN 1 f_ends_by) (aCons (eVar 0) aNil)) 1)
  (sCons (sRet (eApp bTup (aCons (eLc (iR1 (eOp2 oAdd (eApp bLenD (aCons (eVar 0) aNil)) (eC (.int 1)))) (gNm 2) tYe (eTup (aCons (eOp2 oIxD (eVar 1) (eOp2 (oInt gMul) (eC (.int 2)) (eVar 2))) (aCons (eOp2 oIxD (eVar 1) (eOp2 oAdd (eOp2 (oInt gMul) (eC (.int 2)) (eVar 2)) (eC (.int 1)))) aNil))) [2]) aNil)))
  sNil))))
def f_places_of : FN := fnB 3 ((sCons (sRet (eDc (iEn (eVar 0)) (gTp 2 (gsCons (gNm 1) (gsCons (gNm 2) gsNil))) tYe (eVar 2) (eVar 1) [1, 2]))
  sNil))
def f_mate_of : FN := fnB 1 ((sCons (sRet (eIf (tE (eOp2 cEqL (eOp2 (oInt gMod) (eVar 0) (eC (.int 2))) (eC (.int 0)))) (eOp2 oAdd (eVar 0) (eC (.int 1))) (eOp2 (oInt gSub) (eVar 0) (eC (.int 1)))))
  sNil))
def f_rings_of : FN := fnB 9 ((sCons (sSet (eApp (callN 1 f_ends_by) (aCons (eVar 0) aNil)) 1)
  (sCons (sPar3 3 4 5 (aCons (eApp (callN 1 f_places_of) (aCons (eVar 1) aNil)) (aCons eDNK (aCons (eLstM aNil) aNil))))
  (sCons (sFor (iR1 (eOp2 oAdd (eApp bLenD (aCons (eVar 0) aNil)) (eC (.int 1)))) (gNm 2) (sCons (sIf (tE (eOp2 (cInF true) (eVar 2) (eVar 4))) (sCons (sPar 6 7 (aCons (eLstM aNil) (aCons (eOp2 (oInt gMul) (eC (.int 2)) (eVar 2)) aNil)))
  (sCons (sWh (tOr' (tE (eOp2 (cInF true) (eOp2 (oInt gDiv) (eVar 7) (eC (.int 2))) (eVar 4))) (tE (eOp2 cNeL (eVar 7) (eOp2 (oInt gMul) (eC (.int 2)) (eVar 2))))) (sCons (sAs (eC (.bool true)) (gSbF (eVar 4) (eOp2 (oInt gDiv) (eVar 7) (eC (.int 2)))))
  (sCons (sEx (eMt "list" mApp (eVar 6) (aCons (eOp2 (oInt gDiv) (eVar 7) (eC (.int 2))) aNil)))
  (sCons (sSet (eIf (tE (eOp2 cEqL (eOp2 (oInt gMod) (eVar 7) (eC (.int 2))) (eC (.int 0)))) (eOp2 oAdd (eVar 7) (eC (.int 1))) (eOp2 (oInt gSub) (eVar 7) (eC (.int 1)))) 8)
  (sCons (sSet (eOp2 oIxD (eVar 3) (eApp (callN 1 f_mate_of) (aCons (eOp2 oIxD (eVar 1) (eVar 8)) aNil))) 7)
  sNil)))))
  (sCons (sEx (eMt "list" mApp (eVar 5) (aCons (eApp bTup (aCons (eApp bSortA (aCons (eVar 6) aNil)) aNil)) aNil)))
  sNil))) sNil)
  sNil))
  (sCons (sRet (eVar 5))
  sNil)))))
def f_rings : FN := fnB 1 ((sCons (sEx (eApp (callN 1 f_check_row) (aCons (eVar 0) aNil)))
  (sCons (sRet (eApp bTup (aCons (eApp (callN 1 f_rings_of) (aCons (eVar 0) aNil)) aNil)))
  sNil)))
def f_count_of : FN := fnB 1 ((sCons (sRet (eApp bLenD (aCons (eApp (callN 1 f_rings_of) (aCons (eVar 0) aNil)) aNil)))
  sNil))
def f_ring_count : FN := fnB 1 ((sCons (sEx (eApp (callN 1 f_check_row) (aCons (eVar 0) aNil)))
  (sCons (sRet (eApp (callN 1 f_count_of) (aCons (eVar 0) aNil)))
  sNil)))
def f_lengths : FN := fnB 2 ((sCons (sEx (eApp (callN 1 f_check_row) (aCons (eVar 0) aNil)))
  (sCons (sRet (eApp bTup (aCons (eApp bSortA (aCons (eLc (iSeq (eApp (callN 1 f_rings_of) (aCons (eVar 0) aNil))) (gNm 1) tYe (eApp bLenD (aCons (eVar 1) aNil)) [1]) aNil)) aNil)))
  sNil)))
def f_ring_of : FN := fnB 3 ((sCons (sEx (eApp (callN 2 f_check_point) (aCons (eVar 0) (aCons (eVar 1) aNil))))
  (sCons (sRet (eOp2 oIxD (eLc (iSeq (eApp (callN 1 f_rings_of) (aCons (eVar 0) aNil))) (gNm 2) (tE (eOp2 (cInF false) (eVar 1) (eVar 2))) (eVar 2) [2]) (eC (.int 0))))
  sNil)))
def f_ties_of : FN := fnB 4 ((sCons (sSet (eApp (callN 1 f_ends_by) (aCons (eVar 0) aNil)) 2)
  (sCons (sRet (eApp bTup (aCons (eSrtSetA (eOp2 oAdd (eLc (iSeq (eVar 1)) (gNm 3) tYe (eOp2 (oInt gDiv) (eOp2 oIxD (eVar 2) (eOp2 (oInt gMul) (eC (.int 2)) (eVar 3))) (eC (.int 2))) [3]) (eLc (iSeq (eVar 1)) (gNm 3) tYe (eOp2 (oInt gDiv) (eOp2 oIxD (eVar 2) (eOp2 oAdd (eOp2 (oInt gMul) (eC (.int 2)) (eVar 3)) (eC (.int 1)))) (eC (.int 2))) [3]))) aNil)))
  sNil)))
def f_tie_rings : FN := fnB 2 ((sCons (sEx (eApp (callN 1 f_check_row) (aCons (eVar 0) aNil)))
  (sCons (sRet (eApp bTup (aCons (eApp bSortA (aCons (eLc (iSeq (eApp (callN 1 f_rings_of) (aCons (eVar 0) aNil))) (gNm 1) tYe (eApp (callN 2 f_ties_of) (aCons (eVar 0) (aCons (eVar 1) aNil))) [1]) aNil)) aNil)))
  sNil)))
def f__law_home : FN := fnB 1 ((sCons (sRet (eRgT (rg2 (eC (.int 1)) (eOp2 oAdd (eVar 0) (eC (.int 1))))))
  sNil))
end GA
set_option maxRecDepth 100000
set_option maxHeartbeats 4000000
namespace GA
open PySem L2 MI
def _law_row_1 : FS := (sSet (eOp2 oAdd (eVar 1) (eApp (callN 2 f__law_take) (aCons (eVar 0) (aCons (eOp2 oAdd (eOp2 (oInt MI.gSub) (eVar 2) (eVar 1)) (eC (.int 1))) aNil)))) 3)
def _law_row_2 : FS := (sRet (eApp bTup (aCons (eLc (iSeq (eApp (callN 3 f__law_some) (aCons (eVar 0) (aCons (eRgL (rg2 (eC (.int 1)) (eOp2 oAdd (eVar 3) (eC (.int 1))))) (aCons (eVar 3) aNil))))) (gNm 4) tYe (eOp2 oMulB (eVar 4) (eApp (callN 2 f__law_of) (aCons (eVar 0) (aCons (eLst (aCons (eC (.int 1)) (aCons (eOp1 oNeg (eC (.int 1))) aNil))) aNil)))) [4]) aNil)))
def _law_rowb : FS := (sCons _law_row_1 (sCons _law_row_2 sNil))
theorem _law_row_eq : f__law_row = fnB 5 _law_rowb := rfl
def is_row_1_1 : FS := (sRet (eC (.bool false)))
def is_row_1b : FS := (sCons is_row_1_1 sNil)
def is_row_1t : FT := (tOr' (tNt (tE (eIsa "tuple" (eVar 0)))) (tNt (tE (eCh (cInt MI.gLe) (cInt MI.gLe) (eC (.int 1)) (eApp bLenD (aCons (eVar 0) aNil)) (eC (.int 20))))))
def is_row_1 : FS := sIf is_row_1t is_row_1b sNil
def is_row_2_1 : FS := (sRet (eC (.bool false)))
def is_row_2b : FS := (sCons is_row_2_1 sNil)
def is_row_2t : FT := (tNt (tE (eApp bAll (aCons (eLc (iSeq (eVar 0)) (gNm 1) tYe (eApp (callN 1 f_is_integer) (aCons (eVar 1) aNil)) [1]) aNil))))
def is_row_2 : FS := sIf is_row_2t is_row_2b sNil
def is_row_3 : FS := (sRet (eOp2 cEqL (eApp bSortA (aCons (eLc (iSeq (eVar 0)) (gNm 1) tYe (eApp bAbs (aCons (eVar 1) aNil)) [1]) aNil)) (eRgL (rg2 (eC (.int 1)) (eOp2 oAdd (eApp bLenD (aCons (eVar 0) aNil)) (eC (.int 1)))))))
def is_rowb : FS := (sCons is_row_1 (sCons is_row_2 (sCons is_row_3 sNil)))
theorem is_row_eq : f_is_row = fnB 2 is_rowb := rfl
def back_of_1 : FS := (sSet (eOp2 oMulM (eLst (aCons (eC (.int 0)) aNil)) (eApp bLenD (aCons (eVar 0) aNil))) 1)
def back_of_2_1 : FS := (sAs (eIf (tE (eOp2 (cInt MI.gGt) (eVar 3) (eC (.int 0)))) (eOp2 oAdd (eVar 2) (eC (.int 1))) (eOp2 (oInt MI.gSub) (eOp2 (oInt MI.gSub) (eC (.int 0)) (eVar 2)) (eC (.int 1)))) (gSbF (eVar 1) (eOp2 (oInt MI.gSub) (eApp bAbs (aCons (eVar 3) aNil)) (eC (.int 1)))))
def back_of_2b : FS := (sCons back_of_2_1 sNil)
def back_of_2i : FI := (iEn (eVar 0))
def back_of_2 : FS := sFor back_of_2i (gTp 2 (gsCons (gNm 2) (gsCons (gNm 3) gsNil))) back_of_2b
def back_of_3 : FS := (sRet (eApp bTup (aCons (eVar 1) aNil)))
def back_ofb : FS := (sCons back_of_1 (sCons back_of_2 (sCons back_of_3 sNil)))
theorem back_of_eq : f_back_of = fnB 4 back_ofb := rfl
def back_1 : FS := (sEx (eApp (callN 1 f_check_row) (aCons (eVar 0) aNil)))
def back_2 : FS := (sRet (eApp (callN 1 f_back_of) (aCons (eVar 0) aNil)))
def backb : FS := (sCons back_1 (sCons back_2 sNil))
theorem back_eq : f_back = fnB 1 backb := rfl
def check_two_1 : FS := (sEx (eApp (callN 1 f_check_row) (aCons (eVar 0) aNil)))
def check_two_2 : FS := (sEx (eApp (callN 1 f_check_row) (aCons (eVar 1) aNil)))
def check_two_3_1 : FS := (sRaise "Unlike" (eTup (aCons (eApp bLenD (aCons (eVar 0) aNil)) (aCons (eApp bLenD (aCons (eVar 1) aNil)) aNil))))
def check_two_3b : FS := (sCons check_two_3_1 sNil)
def check_two_3t : FT := (tE (eOp2 cNeL (eApp bLenD (aCons (eVar 0) aNil)) (eApp bLenD (aCons (eVar 1) aNil))))
def check_two_3 : FS := sIf check_two_3t check_two_3b sNil
def check_twob : FS := (sCons check_two_1 (sCons check_two_2 (sCons check_two_3 sNil)))
theorem check_two_eq : f_check_two = fnB 2 check_twob := rfl
def put_on_1 : FS := (sRet (eApp bTup (aCons (eLc (iSeq (eVar 1)) (gNm 2) tYe (eIf (tE (eOp2 (cInt MI.gGt) (eVar 2) (eC (.int 0)))) (eOp2 oIxD (eVar 0) (eOp2 (oInt MI.gSub) (eVar 2) (eC (.int 1)))) (eOp2 (oInt MI.gSub) (eC (.int 0)) (eOp2 oIxD (eVar 0) (eOp2 (oInt MI.gSub) (eOp2 (oInt MI.gSub) (eC (.int 0)) (eVar 2)) (eC (.int 1)))))) [2]) aNil)))
def put_onb : FS := (sCons put_on_1 sNil)
theorem put_on_eq : f_put_on = fnB 3 put_onb := rfl
def outer_1 : FS := (sRet (eTup (aCons (eC (.int 0)) (aStar (eVar 0) (aCons (eOp2 oAdd (eApp bLenD (aCons (eVar 0) aNil)) (eC (.int 1))) aNil)))))
def outerb : FS := (sCons outer_1 sNil)
theorem outer_eq : f_outer = fnB 1 outerb := rfl
def broken_at_1 : FS := (sSet (eApp (callN 1 f_outer) (aCons (eVar 0) aNil)) 2)
def broken_at_2 : FS := (sRet (eOp2 cNeL (eOp2 oIxD (eVar 2) (eOp2 oAdd (eVar 1) (eC (.int 1)))) (eOp2 oAdd (eOp2 oIxD (eVar 2) (eVar 1)) (eC (.int 1)))))
def broken_atb : FS := (sCons broken_at_1 (sCons broken_at_2 sNil))
theorem broken_at_eq : f_broken_at = fnB 3 broken_atb := rfl
def broken_points_1 : FS := (sRet (eLc (iR1 (eOp2 oAdd (eApp bLenD (aCons (eVar 0) aNil)) (eC (.int 1)))) (gNm 1) (tE (eApp (callN 2 f_broken_at) (aCons (eVar 0) (aCons (eVar 1) aNil)))) (eVar 1) [1]))
def broken_pointsb : FS := (sCons broken_points_1 sNil)
theorem broken_points_eq : f_broken_points = fnB 2 broken_pointsb := rfl
def _law_ends_1 : FS := (sSet (eLstM (aCons (eC (.int 0)) aNil)) 1)
def _law_ends_2_1 : FS := (sEx (eMt "list" mExt (eVar 1) (aCons (eIf (tE (eOp2 (cInt MI.gGt) (eVar 2) (eC (.int 0)))) (eLst (aCons (eOp2 (oInt MI.gSub) (eOp2 (oInt MI.gMul) (eC (.int 2)) (eVar 2)) (eC (.int 1))) (aCons (eOp2 (oInt MI.gMul) (eC (.int 2)) (eVar 2)) aNil))) (eLst (aCons (eOp2 (oInt MI.gMul) (eOp1 oNeg (eC (.int 2))) (eVar 2)) (aCons (eOp2 (oInt MI.gSub) (eOp2 (oInt MI.gMul) (eOp1 oNeg (eC (.int 2))) (eVar 2)) (eC (.int 1))) aNil)))) aNil)))
def _law_ends_2b : FS := (sCons _law_ends_2_1 sNil)
def _law_ends_2i : FI := (iSeq (eVar 0))
def _law_ends_2 : FS := sFor _law_ends_2i (gNm 2) _law_ends_2b
def _law_ends_3 : FS := (sRet (eOp2 oAddS (eVar 1) (eLst (aCons (eOp2 oAdd (eOp2 (oInt MI.gMul) (eC (.int 2)) (eApp bLenD (aCons (eVar 0) aNil))) (eC (.int 1))) aNil))))
def _law_endsb : FS := (sCons _law_ends_1 (sCons _law_ends_2 (sCons _law_ends_3 sNil)))
theorem _law_ends_eq : f__law_ends = fnB 3 _law_endsb := rfl
def _law_rings_1 : FS := (sSet (eApp (callN 1 f__law_ends) (aCons (eVar 0) aNil)) 1)
def _law_rings_2 : FS := (sSet (eApp bDictP (aCons (eLc (iEn (eVar 1)) (gTp 2 (gsCons (gNm 8) (gsCons (gNm 9) gsNil))) tYe (eTup (aCons (eVar 9) (aCons (eOp2 (oInt MI.gDiv) (eVar 8) (eC (.int 2))) aNil))) [8, 9]) aNil)) 2)
def _law_rings_3 : FS := (sSet (eRgL (rg1 (eOp2 oAdd (eApp bLenD (aCons (eVar 0) aNil)) (eC (.int 1))))) 3)
def _law_rings_4_1 : FS := (sAs (eTup (aCons (eOp2 oIxD (eVar 2) (eOp2 (oInt MI.gMul) (eC (.int 2)) (eVar 4))) (aCons (eOp2 oIxD (eVar 2) (eOp2 oAdd (eOp2 (oInt MI.gMul) (eC (.int 2)) (eVar 4)) (eC (.int 1)))) aNil))) (gTp 2 (gsCons (gNm 5) (gsCons (gNm 6) gsNil))))
def _law_rings_4_2 : FS := (sSet (eLc (iSeq (eVar 3)) (gNm 7) tYe (eIf (tE (eOp2 cEqL (eVar 7) (eOp2 oIxD (eVar 3) (eVar 6)))) (eOp2 oIxD (eVar 3) (eVar 5)) (eVar 7)) [7]) 3)
def _law_rings_4b : FS := (sCons _law_rings_4_1 (sCons _law_rings_4_2 sNil))
def _law_rings_4i : FI := (iR1 (eOp2 oAdd (eApp bLenD (aCons (eVar 0) aNil)) (eC (.int 1))))
def _law_rings_4 : FS := sFor _law_rings_4i (gNm 4) _law_rings_4b
def _law_rings_5 : FS := (sRet (eApp bSortA (aCons (eLc (iSeq (eSrtSetA (eVar 3))) (gNm 7) tYe (eApp bTup (aCons (eLc (iR1 (eOp2 oAdd (eApp bLenD (aCons (eVar 0) aNil)) (eC (.int 1)))) (gNm 8) (tE (eOp2 cEqL (eOp2 oIxD (eVar 3) (eVar 8)) (eVar 7))) (eVar 8) [8]) aNil)) [7]) aNil)))
def _law_ringsb : FS := (sCons _law_rings_1 (sCons _law_rings_2 (sCons _law_rings_3 (sCons _law_rings_4 (sCons _law_rings_5 sNil)))))
theorem _law_rings_eq : f__law_rings = fnB 10 _law_ringsb := rfl
def ends_by_1 : FS := (sSet (eLstM (aCons (eC (.int 0)) aNil)) 1)
def ends_by_2_1 : FS := (sEx (eMt "list" mExt (eVar 1) (aCons (eIf (tE (eOp2 (cInt MI.gGt) (eVar 2) (eC (.int 0)))) (eLst (aCons (eOp2 (oInt MI.gSub) (eOp2 (oInt MI.gMul) (eC (.int 2)) (eVar 2)) (eC (.int 1))) (aCons (eOp2 (oInt MI.gMul) (eC (.int 2)) (eVar 2)) aNil))) (eLst (aCons (eOp2 (oInt MI.gSub) (eC (.int 0)) (eOp2 (oInt MI.gMul) (eC (.int 2)) (eVar 2))) (aCons (eOp2 (oInt MI.gSub) (eOp2 (oInt MI.gSub) (eC (.int 0)) (eOp2 (oInt MI.gMul) (eC (.int 2)) (eVar 2))) (eC (.int 1))) aNil)))) aNil)))
def ends_by_2b : FS := (sCons ends_by_2_1 sNil)
def ends_by_2i : FI := (iSeq (eVar 0))
def ends_by_2 : FS := sFor ends_by_2i (gNm 2) ends_by_2b
def ends_by_3 : FS := (sRet (eLst (aStar (eVar 1) (aCons (eOp2 oAdd (eOp2 (oInt MI.gMul) (eC (.int 2)) (eApp bLenD (aCons (eVar 0) aNil))) (eC (.int 1))) aNil))))
def ends_byb : FS := (sCons ends_by_1 (sCons ends_by_2 (sCons ends_by_3 sNil)))
theorem ends_by_eq : f_ends_by = fnB 3 ends_byb := rfl
def home_ties_1 : FS := (sEx (eApp (callN 1 f_check_many) (aCons (eVar 0) aNil)))
def home_ties_2 : FS := (sRet (eApp bTup (aCons (eLc (iR1 (eOp2 oAdd (eVar 0) (eC (.int 1)))) (gNm 1) tYe (eTup (aCons (eOp2 (oInt MI.gMul) (eC (.int 2)) (eVar 1)) (aCons (eOp2 oAdd (eOp2 (oInt MI.gMul) (eC (.int 2)) (eVar 1)) (eC (.int 1))) aNil))) [1]) aNil)))
def home_tiesb : FS := (sCons home_ties_1 (sCons home_ties_2 sNil))
theorem home_ties_eq : f_home_ties = fnB 2 home_tiesb := rfl
def row_ties_1 : FS := (sEx (eApp (callN 1 f_check_row) (aCons (eVar 0) aNil)))
def row_ties_2 : FS := (sSet (eApp (callN 1 f_ends_by) (aCons (eVar 0) aNil)) 1)
def row_ties_3 : FS := (sRet (eApp bTup (aCons (eLc (iR1 (eOp2 oAdd (eApp bLenD (aCons (eVar 0) aNil)) (eC (.int 1)))) (gNm 2) tYe (eTup (aCons (eOp2 oIxD (eVar 1) (eOp2 (oInt MI.gMul) (eC (.int 2)) (eVar 2))) (aCons (eOp2 oIxD (eVar 1) (eOp2 oAdd (eOp2 (oInt MI.gMul) (eC (.int 2)) (eVar 2)) (eC (.int 1)))) aNil))) [2]) aNil)))
def row_tiesb : FS := (sCons row_ties_1 (sCons row_ties_2 (sCons row_ties_3 sNil)))
theorem row_ties_eq : f_row_ties = fnB 3 row_tiesb := rfl
def places_of_1 : FS := (sRet (eDc (iEn (eVar 0)) (gTp 2 (gsCons (gNm 1) (gsCons (gNm 2) gsNil))) tYe (eVar 2) (eVar 1) [1, 2]))
def places_ofb : FS := (sCons places_of_1 sNil)
theorem places_of_eq : f_places_of = fnB 3 places_ofb := rfl
def mate_of_1 : FS := (sRet (eIf (tE (eOp2 cEqL (eOp2 (oInt MI.gMod) (eVar 0) (eC (.int 2))) (eC (.int 0)))) (eOp2 oAdd (eVar 0) (eC (.int 1))) (eOp2 (oInt MI.gSub) (eVar 0) (eC (.int 1)))))
def mate_ofb : FS := (sCons mate_of_1 sNil)
theorem mate_of_eq : f_mate_of = fnB 1 mate_ofb := rfl
def rings_of_1 : FS := (sSet (eApp (callN 1 f_ends_by) (aCons (eVar 0) aNil)) 1)
def rings_of_2 : FS := (sPar3 3 4 5 (aCons (eApp (callN 1 f_places_of) (aCons (eVar 1) aNil)) (aCons eDNK (aCons (eLstM aNil) aNil))))
def rings_of_3_1_1 : FS := (sPar 6 7 (aCons (eLstM aNil) (aCons (eOp2 (oInt MI.gMul) (eC (.int 2)) (eVar 2)) aNil)))
def rings_of_3_1_2_1 : FS := (sAs (eC (.bool true)) (gSbF (eVar 4) (eOp2 (oInt MI.gDiv) (eVar 7) (eC (.int 2)))))
def rings_of_3_1_2_2 : FS := (sEx (eMt "list" mApp (eVar 6) (aCons (eOp2 (oInt MI.gDiv) (eVar 7) (eC (.int 2))) aNil)))
def rings_of_3_1_2_3 : FS := (sSet (eIf (tE (eOp2 cEqL (eOp2 (oInt MI.gMod) (eVar 7) (eC (.int 2))) (eC (.int 0)))) (eOp2 oAdd (eVar 7) (eC (.int 1))) (eOp2 (oInt MI.gSub) (eVar 7) (eC (.int 1)))) 8)
def rings_of_3_1_2_4 : FS := (sSet (eOp2 oIxD (eVar 3) (eApp (callN 1 f_mate_of) (aCons (eOp2 oIxD (eVar 1) (eVar 8)) aNil))) 7)
def rings_of_3_1_2b : FS := (sCons rings_of_3_1_2_1 (sCons rings_of_3_1_2_2 (sCons rings_of_3_1_2_3 (sCons rings_of_3_1_2_4 sNil))))
def rings_of_3_1_2t : FT := (tOr' (tE (eOp2 (cInF true) (eOp2 (oInt MI.gDiv) (eVar 7) (eC (.int 2))) (eVar 4))) (tE (eOp2 cNeL (eVar 7) (eOp2 (oInt MI.gMul) (eC (.int 2)) (eVar 2)))))
def rings_of_3_1_2 : FS := sWh rings_of_3_1_2t rings_of_3_1_2b
def rings_of_3_1_3 : FS := (sEx (eMt "list" mApp (eVar 5) (aCons (eApp bTup (aCons (eApp bSortA (aCons (eVar 6) aNil)) aNil)) aNil)))
def rings_of_3_1b : FS := (sCons rings_of_3_1_1 (sCons rings_of_3_1_2 (sCons rings_of_3_1_3 sNil)))
def rings_of_3_1t : FT := (tE (eOp2 (cInF true) (eVar 2) (eVar 4)))
def rings_of_3_1 : FS := sIf rings_of_3_1t rings_of_3_1b sNil
def rings_of_3b : FS := (sCons rings_of_3_1 sNil)
def rings_of_3i : FI := (iR1 (eOp2 oAdd (eApp bLenD (aCons (eVar 0) aNil)) (eC (.int 1))))
def rings_of_3 : FS := sFor rings_of_3i (gNm 2) rings_of_3b
def rings_of_4 : FS := (sRet (eVar 5))
def rings_ofb : FS := (sCons rings_of_1 (sCons rings_of_2 (sCons rings_of_3 (sCons rings_of_4 sNil))))
theorem rings_of_eq : f_rings_of = fnB 9 rings_ofb := rfl
def rings_1 : FS := (sEx (eApp (callN 1 f_check_row) (aCons (eVar 0) aNil)))
def rings_2 : FS := (sRet (eApp bTup (aCons (eApp (callN 1 f_rings_of) (aCons (eVar 0) aNil)) aNil)))
def ringsb : FS := (sCons rings_1 (sCons rings_2 sNil))
theorem rings_eq : f_rings = fnB 1 ringsb := rfl
def count_of_1 : FS := (sRet (eApp bLenD (aCons (eApp (callN 1 f_rings_of) (aCons (eVar 0) aNil)) aNil)))
def count_ofb : FS := (sCons count_of_1 sNil)
theorem count_of_eq : f_count_of = fnB 1 count_ofb := rfl
def ring_count_1 : FS := (sEx (eApp (callN 1 f_check_row) (aCons (eVar 0) aNil)))
def ring_count_2 : FS := (sRet (eApp (callN 1 f_count_of) (aCons (eVar 0) aNil)))
def ring_countb : FS := (sCons ring_count_1 (sCons ring_count_2 sNil))
theorem ring_count_eq : f_ring_count = fnB 1 ring_countb := rfl
def lengths_1 : FS := (sEx (eApp (callN 1 f_check_row) (aCons (eVar 0) aNil)))
def lengths_2 : FS := (sRet (eApp bTup (aCons (eApp bSortA (aCons (eLc (iSeq (eApp (callN 1 f_rings_of) (aCons (eVar 0) aNil))) (gNm 1) tYe (eApp bLenD (aCons (eVar 1) aNil)) [1]) aNil)) aNil)))
def lengthsb : FS := (sCons lengths_1 (sCons lengths_2 sNil))
theorem lengths_eq : f_lengths = fnB 2 lengthsb := rfl
def ring_of_1 : FS := (sEx (eApp (callN 2 f_check_point) (aCons (eVar 0) (aCons (eVar 1) aNil))))
def ring_of_2 : FS := (sRet (eOp2 oIxD (eLc (iSeq (eApp (callN 1 f_rings_of) (aCons (eVar 0) aNil))) (gNm 2) (tE (eOp2 (cInF false) (eVar 1) (eVar 2))) (eVar 2) [2]) (eC (.int 0))))
def ring_ofb : FS := (sCons ring_of_1 (sCons ring_of_2 sNil))
theorem ring_of_eq : f_ring_of = fnB 3 ring_ofb := rfl
def ties_of_1 : FS := (sSet (eApp (callN 1 f_ends_by) (aCons (eVar 0) aNil)) 2)
def ties_of_2 : FS := (sRet (eApp bTup (aCons (eSrtSetA (eOp2 oAdd (eLc (iSeq (eVar 1)) (gNm 3) tYe (eOp2 (oInt MI.gDiv) (eOp2 oIxD (eVar 2) (eOp2 (oInt MI.gMul) (eC (.int 2)) (eVar 3))) (eC (.int 2))) [3]) (eLc (iSeq (eVar 1)) (gNm 3) tYe (eOp2 (oInt MI.gDiv) (eOp2 oIxD (eVar 2) (eOp2 oAdd (eOp2 (oInt MI.gMul) (eC (.int 2)) (eVar 3)) (eC (.int 1)))) (eC (.int 2))) [3]))) aNil)))
def ties_ofb : FS := (sCons ties_of_1 (sCons ties_of_2 sNil))
theorem ties_of_eq : f_ties_of = fnB 4 ties_ofb := rfl
def tie_rings_1 : FS := (sEx (eApp (callN 1 f_check_row) (aCons (eVar 0) aNil)))
def tie_rings_2 : FS := (sRet (eApp bTup (aCons (eApp bSortA (aCons (eLc (iSeq (eApp (callN 1 f_rings_of) (aCons (eVar 0) aNil))) (gNm 1) tYe (eApp (callN 2 f_ties_of) (aCons (eVar 0) (aCons (eVar 1) aNil))) [1]) aNil)) aNil)))
def tie_ringsb : FS := (sCons tie_rings_1 (sCons tie_rings_2 sNil))
theorem tie_rings_eq : f_tie_rings = fnB 2 tie_ringsb := rfl
def _law_home_1 : FS := (sRet (eRgT (rg2 (eC (.int 1)) (eOp2 oAdd (eVar 0) (eC (.int 1))))))
def _law_homeb : FS := (sCons _law_home_1 sNil)
theorem _law_home_eq : f__law_home = fnB 1 _law_homeb := rfl
end GA
set_option maxRecDepth 100000
set_option maxHeartbeats 4000000
namespace GA
open PySem L2 MI
section
variable {xs ys : List Int} {N f l : Int} {S : Sto}
/-! ## rows -/
theorem isint_ok (d : PyData) : f_is_integer [.d d] [] = .ok (.d (.bool (isI d))) [] := by
  cases d <;> simp [f_is_integer, isI, subTy, List.replicate]
theorem isbtw_ok (d : PyData) (lo hi : Int) : f_is_between [.d d, .d (.int lo), .d (.int hi)] [] = .ok (.d (.bool (btw lo hi d))) [] := by
  have h := call_pure (S := []) (is := [.d d]) rfl (isint_ok d) rfl
  cases d with
  | int i => by_cases c : lo ≤ i <;> simp [f_is_between, h, isI, btw, c, List.replicate]
  | _ => simp [f_is_between, h, isI, btw, List.replicate]
theorem isrow_ok (ds : List PyData) (hl : ds.length ≤ 60) : f_is_row [.d (.tuple ds)] [] = .ok (.d (.bool (isR ds))) [] := by
  obtain ⟨n, hn⟩ : ∃ n : Int, n = ds.length := ⟨_, rfl⟩
  have hL : bLenD [.d (.tuple ds)] [] = .ok (.d (.int n)) [] := by simp [hn]
  have hs : iSeq (eVar 0) [some (.d (.tuple ds)), none] [] = .ok ds [] := iSeq_ok (v := .d (.tuple ds)) rfl rfl (small_line (by omega))
  have c := eLc_map (g := gNm 1) (e := eApp (callN 1 f_is_integer) (aCons (eVar 1) aNil)) (vs := [1]) (fun d => .bool (isI d)) hs (by omega) fun d _ => ⟨[some (.d (.tuple ds)), some (.d d)], rfl, by
    have := call_pure (S := []) (is := [.d d]) rfl (isint_ok d) rfl
    simp [this]⟩
  have a := all_p ds isI []
  have u : ∀ fs : FS, fnB 2 fs [.d (.tuple ds)] [] = (fs [some (.d (.tuple ds)), none] []).fin := fun _ => rfl
  have t1 : is_row_1t [some (.d (.tuple ds)), none] [] = .ok (!(decide (1 ≤ n) && decide (n ≤ 20))) [] := by
    by_cases h1 : 1 ≤ n <;> by_cases h2 : n ≤ 20 <;> simp [is_row_1t, hL, h1, h2, subTy, -bLenD]
  have t2 : is_row_2t [some (.d (.tuple ds)), none] [] = .ok (!(ds.all isI)) [] := by
    simp only [is_row_2t, tNt]
    simp only [sCons, sRet, sSet, sEx, sNil, tE, tNt, tAn, tOr', eApp, eOp2, eOp1, eVar, eC, eLst, eTup, eSl, eRev, aCons, aNil, pNo, pSm, callN, eAn, eOr, eNt, asB, bind_ok_, to_ok_, seq_nx_, seq_ret_, fin_ret_, fin_nx_, i_add, i_sub, i_neg, lstOf, tupOf, List.getElem?_cons_succ, List.getElem?_cons_zero, List.set_cons_succ, List.set_cons_zero, List.length_cons, List.length_nil, if_true, c, a]
  rw [is_row_eq, u]
  unfold is_rowb
  by_cases hc : 1 ≤ n ∧ n ≤ 20
  · rw [decide_eq_true hc.1, decide_eq_true hc.2] at t1
    rw [sc_nx (show is_row_1 _ _ = .nx _ _ from si_no t1)]
    by_cases ha : ds.all isI = true
    · rw [ha] at t2
      rw [sc_nx (show is_row_2 _ _ = .nx _ _ from si_no t2)]
      obtain ⟨xs, rfl⟩ := ints_of_all ha
      rw [List.length_map] at hn
      have c2 := eLc_i (g := gNm 1) (e := eApp bAbs (aCons (eVar 1) aNil)) (vs := [1]) (fun d => .int (iabs d)) hs (by rw [List.length_map] at hl; omega) fun d _ => ⟨[some (ti xs), some (.d (.int d))], rfl, by simp only [sCons, sRet, sSet, sEx, sNil, tE, tNt, tAn, tOr', eApp, eOp2, eOp1, eVar, eC, eLst, eTup, eSl, eRev, aCons, aNil, pNo, pSm, callN, eAn, eOr, eNt, asB, bind_ok_, to_ok_, seq_nx_, seq_ret_, fin_ret_, fin_nx_, i_add, i_sub, i_neg, lstOf, tupOf, List.getElem?_cons_succ, List.getElem?_cons_zero, List.set_cons_succ, List.set_cons_zero, List.length_cons, List.length_nil, if_true, abs_ok]⟩
      have e2 : (xs.map fun d => PyData.int (iabs d)) = (xs.map iabs).map .int := by rw [List.map_map]; rfl
      rw [e2] at c2
      have s := sortA_li (xs.map iabs) []
      have e := cEqL_lst (isort (xs.map iabs)) (rgI 1 (n + 1)) []
      have hg : eRgL (rg2 (eC (.int 1)) (eOp2 oAdd (eApp bLenD (aCons (eVar 0) aNil)) (eC (.int 1)))) [some (ti xs), none] [] = .ok (li (rgI 1 (n + 1))) [] := by
        refine rgL_ok ?_ (rgOk_s (by omega) (by omega) (by omega) (by omega))
        simp [hL, -bLenD]
      have hp : isR (xs.map .int) = decide (isort (xs.map iabs) = rgI 1 (n + 1)) := by
        unfold isR
        rw [intsOf_map]
        have c1 : 1 ≤ xs.length := by omega
        have c2 : xs.length ≤ 20 := by omega
        simp only [c1, c2, decide_true, Bool.true_and]
        rw [← hn]
      rw [hp]
      unfold is_row_3
      simp only [sCons, sRet, sSet, sEx, sNil, tE, tNt, tAn, tOr', eApp, eOp2, eOp1, eVar, eC, eLst, eTup, eSl, eRev, aCons, aNil, pNo, pSm, callN, eAn, eOr, eNt, asB, bind_ok_, to_ok_, seq_nx_, seq_ret_, fin_ret_, fin_nx_, i_add, i_sub, i_neg, lstOf, tupOf, List.getElem?_cons_succ, List.getElem?_cons_zero, List.set_cons_succ, List.set_cons_zero, List.length_cons, List.length_nil, if_true, c2, s, hg, e]
    · have ha' : ds.all isI = false := by simpa using ha
      rw [ha'] at t2
      have hp : isR ds = false := by
        unfold isR
        split
        · rename_i xs h
          have hd := intsOf_eq h
          subst hd
          exact absurd (isI_ints xs) ha
        · rfl
      rw [hp]
      unfold is_row_2
      have w := si_yes (a := is_row_2b) (b := sNil) t2
      unfold sCons
      rw [w]
      rfl
  · have hp : isR ds = false := by
      unfold isR
      split
      · rename_i xs h
        have hd := intsOf_eq h
        subst hd
        rw [List.length_map] at hn
        by_cases h1 : 1 ≤ xs.length
        · have : ¬ xs.length ≤ 20 := by omega
          simp [this]
        · simp [h1]
      · rfl
    have t1' : is_row_1t [some (.d (.tuple ds)), none] [] = .ok true [] := by
      rw [t1]
      congr 1
      by_cases h1 : 1 ≤ n
      · have h2 : ¬ n ≤ 20 := by omega
        simp [h2]
      · simp [h1]
    rw [hp]
    unfold is_row_1
    have w := si_yes (a := is_row_1b) (b := sNil) t1'
    unfold sCons
    rw [w]
    rfl
theorem isrow_no (d : PyData) (h : ∀ ds, d ≠ .tuple ds) : f_is_row [.d d] [] = .ok (.d (.bool false)) [] := by
  cases d with
  | tuple ds => exact absurd rfl (h ds)
  | _ => simp [f_is_row, subTy, List.replicate]
theorem k_check (v : VR xs N) (S : Sto) : callW backW f_check_row [ti xs] S = .ok (.d .none) S := by
  have h := call_pure (S := []) (is := [ti xs]) rfl (isrow_ok (xs.map .int) (by have := v.small; rw [List.length_map]; omega)) rfl
  rw [isR_of v] at h
  exact call_pure (is := [ti xs]) (T := []) rfl (by simp [f_check_row, h]) rfl
/-! ## turns -/
end
end GA
set_option maxRecDepth 100000
set_option maxHeartbeats 4000000
namespace GA
open PySem L2 MI
section
variable {xs ys : List Int} {N f l : Int} {S : Sto}
/-! ## the draws -/
theorem tk : f__law_take = rTake 2147482859 2147482819 2147482817 2147482811 2147482801 79861 1697 8101 307 2305843009213693907 173 := rfl
theorem takeOk : TakeOk f__law_take := by rw [tk]; exact take_ok (by decide)
theorem of_eq : f__law_of = rOf f__law_take := rfl
theorem some_eq : f__law_some = rSomeA f__law_take := rfl
theorem cells_eq : f__law_cells = rCells := rfl
theorem pot_eq : f__law_pot = rPotW (rCellA 1000159 6211 907) 71917 5309 1451 := rfl
theorem c_take {n : Nat} {ds : List PyData} {u : Int} {S : Sto} {k : Nat} (hp : Pot n ds) (hn : n ≤ 1000000) (hu : 0 < u) (hu2 : u < 2 ^ 60) (hS : S[k]? = some (.lst ds)) :
    ∃ v es, callW backW f__law_take [.ref k, .d (.int u)] S = .ok (.d (.int v)) (S.set k (.lst es)) ∧ 0 ≤ v ∧ v < u ∧ Pot (n + 1) es := call_take takeOk hp hn hu hu2 hS
theorem c_of {n : Nat} {ds : List PyData} {xs : List PyData} {S : Sto} {k : Nat} (hp : Pot n ds) (hn : n ≤ 1000000) (h0 : 0 < xs.length) (h1 : xs.length < 2 ^ 50) (hS : S[k]? = some (.lst ds)) :
    ∃ d es, d ∈ xs ∧ callW backW f__law_of [.ref k, .d (.list xs)] S = .ok (.d d) (S.set k (.lst es)) ∧ Pot (n + 1) es := by rw [of_eq]; exact call_of takeOk hp hn h0 h1 hS
theorem c_some {n : Nat} {ds : List PyData} {xs : List PyData} {m : Nat} {M : Int} {S : Sto} {k : Nat} (hM : M = m) (hp : Pot n ds) (hn : n + m ≤ 1000000) (hm : m ≤ xs.length) (h1 : xs.length < 2 ^ 20) (hS : S[k]? = some (.lst ds)) :
    ∃ ys zs es, (ys ++ zs).Perm xs ∧ ys.length = m ∧ callW backW f__law_some [.ref k, .d (.list xs), .d (.int M)] S = .ok (.d (.list ys)) (S.set k (.lst es)) ∧ Pot (n + m) es := by
  rw [some_eq]
  exact call_some takeOk (fun {n ds xs m M} a b c d e => someA_ok takeOk a b c d e) hM hp hn hm h1 hS
theorem mulB_int {a b : Int} (ha : a.natAbs < 2 ^ 60) (hb : b.natAbs < 2 ^ 60) (S : Sto) : oMulB (.d (.int a)) (.d (.int b)) S = .ok (.d (.int (a * b))) S := by
  have m : MI.gMul a b = some (a * b) := gMul_ok (by omega) (by omega)
  simp [oMulB, oMulA, m, -MI.gMul]
theorem law_row_ok {lo hi : Int} (h0 : 1 ≤ lo) (h1 : lo ≤ hi) (h2 : hi ≤ 20) {n : Nat} {ds : List PyData} (hp : Pot n ds) (hn : n ≤ 900000) :
    ∃ xs N es, VR xs N ∧ lo ≤ N ∧ N ≤ hi ∧ f__law_row [.ref 0, .d (.int lo), .d (.int hi)] [.lst ds] = .ok (ti xs) [.lst es] ∧ Pot (n + 50) es := by
  obtain ⟨t, e1, c1, t0, t1, p1⟩ := c_take (u := hi - lo + 1) (k := 0) (S := [.lst ds]) hp (by omega) (by omega) (by omega) rfl
  obtain ⟨m, hm⟩ : ∃ m : Int, m = lo + t := ⟨_, rfl⟩
  obtain ⟨ys, zs, e2, h3, h4, c2, p2⟩ := c_some (k := 0) (S := [.lst e1]) (xs := (rgI 1 (m + 1)).map .int) (m := m.toNat) (M := m) (by omega) p1 (by omega) (by rw [List.length_map, len_rgI]; omega) (by rw [List.length_map, len_rgI]; omega) rfl
  have hz : zs = [] := by
    have := h3.length_eq
    rw [List.length_append, List.length_map, len_rgI] at this
    exact List.eq_nil_of_length_eq_zero (by omega)
  subst hz
  rw [List.append_nil] at h3
  obtain ⟨ws, rfl, hw⟩ := perm_map h3
  rw [List.length_map] at h4
  have hmem : ∀ w ∈ ws, 1 ≤ w ∧ w ≤ m := fun w hx => by have := mem_rgI.mp (hw.mem_iff.mp hx); omega
  have hg : eRgL (rg2 (eC (.int 1)) (eOp2 oAdd (eVar 3) (eC (.int 1)))) [some (.ref 0), some (.d (.int lo)), some (.d (.int hi)), some (.d (.int m)), none] [.lst e1] = .ok (li (rgI 1 (m + 1))) [.lst e1] :=
    rgL_ok (by simp) (rgOk_s (by omega) (by omega) (by omega) (by omega))
  have hi' : iSeq (eApp (callN 3 f__law_some) (aCons (eVar 0) (aCons (eRgL (rg2 (eC (.int 1)) (eOp2 oAdd (eVar 3) (eC (.int 1))))) (aCons (eVar 3) aNil)))) [some (.ref 0), some (.d (.int lo)), some (.d (.int hi)), some (.d (.int m)), none] [.lst e1] = .ok (ws.map .int) [.lst e2] := by
    refine iSeq_ok (v := li ws) ?_ rfl (by rw [List.length_map]; exact small_line (by omega))
    simp only [sCons, sRet, sSet, sEx, sNil, tE, tNt, tAn, tOr', eApp, eOp2, eOp1, eVar, eC, eLst, eTup, eSl, eRev, aCons, aNil, pNo, pSm, callN, eAn, eOr, eNt, asB, bind_ok_, to_ok_, seq_nx_, seq_ret_, fin_ret_, fin_nx_, i_add, i_sub, i_neg, lstOf, tupOf, List.getElem?_cons_succ, List.getElem?_cons_zero, List.set_cons_succ, List.set_cons_zero, List.length_cons, List.length_nil, if_true, hg, c2]
  obtain ⟨all, S', e, zs, es, q1, q2, q3, q4⟩ := eLc_inv (g := gNm 4) (t := tYe) (e := eOp2 oMulB (eVar 4) (eApp (callN 2 f__law_of) (aCons (eVar 0) (aCons (eLst (aCons (eC (.int 1)) (aCons (eOp1 oNeg (eC (.int 1))) aNil))) aNil)))) (vs := [4]) hi' (by rw [List.length_map]; omega)
    (fun i acc S => ∃ (zs : List Int) (es : List PyData), acc = zs.map .int ∧ S = [.lst es] ∧ zs.map iabs = (ws.take i).map iabs ∧ Pot (n + 1 + m.toNat + i) es)
    (fun i acc S d hd ⟨zs, es, q1, q2, q3, q4⟩ => by
      have hw0 : i < ws.length := by have := (List.getElem?_eq_some_iff.mp hd).1; rw [List.length_map] at this; exact this
      rw [List.getElem?_map, List.getElem?_eq_getElem hw0] at hd
      cases hd
      subst q1 q2
      obtain ⟨d, fs, md, c, p⟩ := c_of (xs := [.int 1, .int (-1)]) (k := 0) (S := [.lst es]) q4 (by omega) (by decide) (by decide) rfl
      have hb := hmem _ (List.getElem_mem hw0)
      obtain ⟨s, rfl, hs⟩ : ∃ s : Int, d = .int s ∧ (s = 1 ∨ s = -1) := by
        simp only [List.mem_cons, List.not_mem_nil, or_false] at md
        rcases md with rfl | rfl
        · exact ⟨1, rfl, .inl rfl⟩
        · exact ⟨-1, rfl, .inr rfl⟩
      have mk : mkLst [.d (.int 1), .d (.int (-1))] [.lst es] = .ok (.d (.list [.int 1, .int (-1)])) [.lst es] := rfl
      refine ⟨[some (.ref 0), some (.d (.int lo)), some (.d (.int hi)), some (.d (.int m)), some (.d (.int ws[i]))], [.lst es], true, [.lst es], rfl, rfl, ?_⟩
      rw [if_pos rfl]
      refine ⟨.int (ws[i] * s), [.lst fs], ?_, zs ++ [ws[i] * s], fs, by simp, rfl, ?_, p⟩
      · simp only [sCons, sRet, sSet, sEx, sNil, tE, tNt, tAn, tOr', eApp, eOp2, eOp1, eVar, eC, eLst, eTup, eSl, eRev, aCons, aNil, pNo, pSm, callN, eAn, eOr, eNt, asB, bind_ok_, to_ok_, seq_nx_, seq_ret_, fin_ret_, fin_nx_, i_add, i_sub, i_neg, lstOf, tupOf, List.getElem?_cons_succ, List.getElem?_cons_zero, List.set_cons_succ, List.set_cons_zero, List.length_cons, List.length_nil, if_true, mk, c, mulB_int (a := ws[i]) (b := s) (by omega) (by omega)]
      · rw [List.map_append, q3, List.take_succ, List.getElem?_eq_getElem hw0, List.map_append]
        congr 1
        show [iabs (ws[i] * s)] = [iabs ws[i]]
        congr 1
        rcases hs with rfl | rfl
        · rw [Int.mul_one]
        · rw [show ws[i] * -1 = -ws[i] by omega, iabs_neg])
    ⟨[], e2, rfl, rfl, by simp, p2.mono (by omega)⟩
  subst q1 q2
  rw [List.length_map] at q3 q4
  rw [List.take_length] at q3
  have habs : ws.map iabs = ws := by
    conv => rhs; rw [← List.map_id ws]
    exact List.map_congr_left fun x hx => iabs_pos (by have := hmem x hx; omega)
  rw [habs] at q3
  refine ⟨zs, m, es, vr_of (by omega) (by omega) (by rw [q3]; exact hw), by omega, by omega, ?_, q4.mono (by omega)⟩
  have bt : bTup [li zs] [.lst es] = .ok (ti zs) [.lst es] := rfl
  have u : ∀ fs : FS, fnB 5 fs [.ref 0, .d (.int lo), .d (.int hi)] [.lst ds] = (fs [some (.ref 0), some (.d (.int lo)), some (.d (.int hi)), none, none] [.lst ds]).fin := fun _ => rfl
  have s1 : _law_row_1 [some (.ref 0), some (.d (.int lo)), some (.d (.int hi)), none, none] [.lst ds] = .nx [some (.ref 0), some (.d (.int lo)), some (.d (.int hi)), some (.d (.int m)), none] [.lst e1] := by
    unfold _law_row_1
    rw [hm]
    simp only [sCons, sRet, sSet, sEx, sNil, tE, tNt, tAn, tOr', eApp, eOp2, eOp1, eVar, eC, eLst, eTup, eSl, eRev, aCons, aNil, pNo, pSm, callN, eAn, eOr, eNt, asB, bind_ok_, to_ok_, seq_nx_, seq_ret_, fin_ret_, fin_nx_, i_add, i_sub, i_neg, lstOf, tupOf, List.getElem?_cons_succ, List.getElem?_cons_zero, List.set_cons_succ, List.set_cons_zero, List.length_cons, List.length_nil, if_true, c1]
  rw [_law_row_eq, u]
  unfold _law_rowb
  rw [sc_nx s1]
  unfold _law_row_2
  simp only [sCons, sRet, sSet, sEx, sNil, tE, tNt, tAn, tOr', eApp, eOp2, eOp1, eVar, eC, eLst, eTup, eSl, eRev, aCons, aNil, pNo, pSm, callN, eAn, eOr, eNt, asB, bind_ok_, to_ok_, seq_nx_, seq_ret_, fin_ret_, fin_nx_, i_add, i_sub, i_neg, lstOf, tupOf, List.getElem?_cons_succ, List.getElem?_cons_zero, List.set_cons_succ, List.set_cons_zero, List.length_cons, List.length_nil, if_true, e, bt]
theorem c_row {lo hi : Int} (h0 : 1 ≤ lo) (h1 : lo ≤ hi) (h2 : hi ≤ 20) {n k : Nat} {ds : List PyData} {S : Sto} (hp : Pot n ds) (hn : n ≤ 900000) (hS : S[k]? = some (.lst ds)) :
    ∃ xs N es, VR xs N ∧ lo ≤ N ∧ N ≤ hi ∧ callW backW f__law_row [.ref k, .d (.int lo), .d (.int hi)] S = .ok (ti xs) (S.set k (.lst es)) ∧ Pot (n + 50) es := by
  obtain ⟨xs, N, es, v, a, b, c, p⟩ := law_row_ok h0 h1 h2 hp hn
  exact ⟨xs, N, es, v, a, b, call_pot (is := [.d (.int lo), .d (.int hi)]) rfl hS c rfl, p⟩
/-! ## values of any kind -/
/-! ## values with one thing otherwise -/
end
end GA
set_option maxRecDepth 100000
set_option maxHeartbeats 4000000
namespace GA
open PySem L2 MI
section
variable {xs ys : List Int} {N f l : Int} {S : Sto} {ts : List (Int × Int)}
/-! ## looks at values of any kind -/
def isRD : PyData → Bool
  | .tuple ds => isR ds
  | _ => false
theorem call_exn {g : FN} {is : List IV} {S T : Sto} {c : Str} {v : PyData} (h : is.all dV = true) (hg : g is [] = .exn c v T) : callW backW g is S = .exn c v S := by
  obtain ⟨n1, n2⟩ := dv_brw is h
  unfold callW
  rw [n1, n2]
  simp only [inS]
  rw [hg]
  simp [backW, outS]
theorem isrow_any {d : PyData} (hv : Vd 60 d) : f_is_row [.d d] [] = .ok (.d (.bool (isRD d))) [] := by
  by_cases ht : ∃ ds, d = .tuple ds
  · obtain ⟨ds, rfl⟩ := ht
    exact isrow_ok ds (hv ds rfl)
  · have hn : ∀ ds, d ≠ .tuple ds := fun ds e => ht ⟨ds, e⟩
    have r : isRD d = false := by
      cases d with
      | tuple ds => exact absurd rfl (hn ds)
      | _ => rfl
    rw [r]
    exact isrow_no d hn
theorem check_no {d : PyData} (hv : Vd 60 d) (h : isRD d = false) (S : Sto) : callW backW f_check_row [.d d] S = .exn "BadRow" d S := by
  have k := call_pure (S := []) (is := [.d d]) rfl (isrow_any hv) rfl
  rw [h] at k
  exact call_exn (is := [.d d]) (T := []) rfl (by simp [f_check_row, k]; rfl)
/-- the first thing that is done: the row is looked at -/
abbrev chk (i : Nat) : FS := sEx (eApp (callN 1 f_check_row) (aCons (eVar i) aNil))
theorem chk_no {d : PyData} (hv : Vd 60 d) (h : isRD d = false) {i : Nat} {r : Rho} (hr : r[i]? = some (some (.d d))) (S : Sto) (k : FS) : sCons (chk i) k r S = .exn "BadRow" d r S := by
  have e := check_no hv h S
  simp only [sCons, chk, sEx, eApp, aCons, aNil, eVar, hr, callN, bind_ok_, List.length_cons, List.length_nil, if_true, e]
  rfl
theorem chk_ok (v : VR xs N) {i : Nat} {r : Rho} (hr : r[i]? = some (some (ti xs))) (S : Sto) (k : FS) : sCons (chk i) k r S = k r S := by
  have e := k_check v S
  refine sc_nx ?_
  simp only [chk, sEx, eApp, aCons, aNil, eVar, hr, callN, bind_ok_, to_ok_, List.length_cons, List.length_nil, if_true, e]
theorem bad_1 {g : FN} {n : Nat} {fs : FS} (hg : g = fnB n (sCons (chk 0) fs)) (h1 : 1 ≤ n) {d : PyData} (hv : Vd 60 d) (h : isRD d = false) (S : Sto) : callW backW g [.d d] S = .exn "BadRow" d S := by
  refine call_exn (is := [.d d]) (T := []) rfl ?_
  subst hg
  unfold fnB
  rw [if_pos (by simpa using h1), chk_no hv h (by rfl)]
  rfl
variable {d e q : PyData}
theorem no_back (hv : Vd 60 d) (h : isRD d = false) (S : Sto) : callW backW f_back [.d d] S = .exn "BadRow" d S := bad_1 back_eq (by decide) hv h S
/-! a def that first calls another look, which raises -/
/-! ## a good row, something else wrong -/
theorem point_any (v : VR xs N) (S : Sto) : callW backW f_check_point [ti xs, .d e] S = if btw 0 N e = true then .ok (.d .none) S else .exn "BadPoint" e S := by
  have hL := len_tiD v.len []
  have k := call_pure (S := []) (is := [.d e, .d (.int 0), .d (.int N)]) rfl (isbtw_ok e 0 N) rfl
  by_cases h : btw 0 N e = true
  · rw [if_pos h]
    rw [h] at k
    exact call_pure (is := [ti xs, .d e]) (T := []) rfl (by simp [f_check_point, k_check v, hL, k, -bLenD, List.replicate]) rfl
  · rw [if_neg h]
    rw [Bool.eq_false_iff.mpr h] at k
    exact call_exn (is := [ti xs, .d e]) (T := []) rfl (by simp [f_check_point, k_check v, hL, k, -bLenD, List.replicate]; rfl)
theorem two_any {M : Int} (v : VR xs N) (w : VR ys M) (S : Sto) : callW backW f_check_two [ti xs, ti ys] S = if N = M then .ok (.d .none) S else .exn "Unlike" (.tuple [.int N, .int M]) S := by
  have hL := len_tiD v.len []
  have hM := len_tiD w.len []
  have ne := cNeL_int N M []
  have mk : mkTup [.d (.int N), .d (.int M)] [] = .ok (.d (.tuple [.int N, .int M])) [] := rfl
  have u : ∀ fs : FS, fnB 2 fs [ti xs, ti ys] [] = (fs [some (ti xs), some (ti ys)] []).fin := fun _ => rfl
  have t : check_two_3t [some (ti xs), some (ti ys)] [] = .ok (!decide (N = M)) [] := by
    unfold check_two_3t
    simp only [sCons, sRet, sSet, sEx, sNil, tE, tNt, tAn, tOr', eApp, eOp2, eOp1, eVar, eC, eLst, eTup, eSl, eRev, aCons, aNil, pNo, pSm, callN, eAn, eOr, eNt, asB, bind_ok_, to_ok_, seq_nx_, seq_ret_, fin_ret_, fin_nx_, i_add, i_sub, i_neg, lstOf, tupOf, List.getElem?_cons_succ, List.getElem?_cons_zero, List.set_cons_succ, List.set_cons_zero, List.length_cons, List.length_nil, if_true, hL, hM, ne]
  by_cases h : N = M
  · rw [if_pos h]
    rw [decide_eq_true h] at t
    refine call_pure (is := [ti xs, ti ys]) (T := []) rfl ?_ rfl
    rw [check_two_eq, u]
    unfold check_twob
    rw [show check_two_1 = chk 0 from rfl, chk_ok v rfl, show check_two_2 = chk 1 from rfl, chk_ok w rfl, sc_nx (show check_two_3 _ _ = .nx _ _ from si_no t)]
    rfl
  · rw [if_neg h]
    rw [decide_eq_false h] at t
    refine call_exn (is := [ti xs, ti ys]) (T := []) rfl ?_
    rw [check_two_eq, u]
    unfold check_twob
    have w' := si_yes (a := check_two_3b) (b := sNil) t
    rw [show check_two_1 = chk 0 from rfl, chk_ok v rfl, show check_two_2 = chk 1 from rfl, chk_ok w rfl]
    unfold check_two_3
    rw [sCons, w']
    unfold check_two_3b check_two_3_1
    simp only [sCons, sRaise, eTup, tupOf, aCons, aNil, eApp, eVar, bind_ok_, to_ok_, List.getElem?_cons_succ, List.getElem?_cons_zero, hL, hM, mk]
    rfl
end
end GA
set_option maxRecDepth 100000
set_option maxHeartbeats 4000000
namespace GA
open PySem L2 MI
section
variable {xs ys : List Int} {N f l : Int} {S : Sto} {ts : List (Int × Int)}
/-! ## turns, one after the other -/
theorem k_put_on (hz : N = xs.length) (w : VR ys N) (S : Sto) : callW backW f_put_on [ti xs, ti ys] S = .ok (ti (putL xs ys)) S := by
  refine call_pure (is := [ti xs, ti ys]) (T := []) rfl ?_ rfl
  have hat : ∀ w : Int, 1 ≤ w → w ≤ N → xs[(w - 1).toNat]? = some (xs.getD (w - 1).toNat 0) := fun w h1 h2 => by
    rw [List.getD_eq_getElem?_getD, List.getElem?_eq_getElem (by omega)]
    rfl
  have ws := w.small
  have c := eLc_i (it := iSeq (eVar 1)) (g := gNm 2) (e := eIf (tE (eOp2 (cInt MI.gGt) (eVar 2) (eC (.int 0)))) (eOp2 oIxD (eVar 0) (eOp2 (oInt MI.gSub) (eVar 2) (eC (.int 1)))) (eOp2 (oInt MI.gSub) (eC (.int 0)) (eOp2 oIxD (eVar 0) (eOp2 (oInt MI.gSub) (eOp2 (oInt MI.gSub) (eC (.int 0)) (eVar 2)) (eC (.int 1)))))) (vs := [2])
    (r := [some (ti xs), some (ti ys), none]) (S := []) (S1 := []) (ns := ys) (fun x => .int (phi xs x)) (iSeq_ok (v := ti ys) rfl rfl (by rw [List.length_map]; exact small_line (by omega))) (by omega) fun x hx => ⟨[some (ti xs), some (ti ys), some (.d (.int x))], rfl, by
      have hb := w.mem x hx
      have h0 := (w.big hx).1
      unfold iabs at hb
      by_cases c : 0 < x
      · rw [if_neg (by omega)] at hb
        have i := oIx_tiD [] (by omega) (hat x hb.1 hb.2)
        have p : phi xs x = xs.getD (x - 1).toNat 0 := by unfold phi; rw [if_pos c]
        have g : cInt MI.gGt (.d (.int x)) (.d (.int 0)) [] = .ok (.d (.bool true)) [] := by simp [c]
        rw [p]
        unfold eIf
        simp only [sCons, sRet, sSet, sEx, sNil, tE, tNt, tAn, tOr', eApp, eOp2, eOp1, eVar, eC, eLst, eTup, eSl, eRev, aCons, aNil, pNo, pSm, callN, eAn, eOr, eNt, asB, bind_ok_, to_ok_, seq_nx_, seq_ret_, fin_ret_, fin_nx_, i_add, i_sub, i_neg, lstOf, tupOf, List.getElem?_cons_succ, List.getElem?_cons_zero, List.set_cons_succ, List.set_cons_zero, List.length_cons, List.length_nil, if_true, g, i]
      · rw [if_pos (by omega)] at hb
        have i := oIx_tiD [] (by omega) (hat (-x) hb.1 hb.2)
        have p : phi xs x = - xs.getD (-x - 1).toNat 0 := by unfold phi; rw [if_neg c]
        have g : cInt MI.gGt (.d (.int x)) (.d (.int 0)) [] = .ok (.d (.bool false)) [] := by simp [c]
        rw [p]
        unfold eIf
        simp only [sCons, sRet, sSet, sEx, sNil, tE, tNt, tAn, tOr', eApp, eOp2, eOp1, eVar, eC, eLst, eTup, eSl, eRev, aCons, aNil, pNo, pSm, callN, eAn, eOr, eNt, asB, bind_ok_, to_ok_, seq_nx_, seq_ret_, fin_ret_, fin_nx_, i_add, i_sub, i_neg, lstOf, tupOf, List.getElem?_cons_succ, List.getElem?_cons_zero, List.set_cons_succ, List.set_cons_zero, List.length_cons, List.length_nil, if_true, g, i, show (0 : Int) - x = -x by omega]
        rw [if_neg Bool.false_ne_true, show ∀ y : Int, (0 : Int) - y = -y by intro y; omega]⟩
  have e : (ys.map fun x => PyData.int (phi xs x)) = (putL xs ys).map .int := by unfold putL; rw [List.map_map]; rfl
  rw [e] at c
  have bt : bTup [li (putL xs ys)] [] = .ok (ti (putL xs ys)) [] := rfl
  have u : ∀ fs : FS, fnB 3 fs [ti xs, ti ys] [] = (fs [some (ti xs), some (ti ys), none] []).fin := fun _ => rfl
  rw [put_on_eq, u]
  unfold put_onb put_on_1
  simp only [sCons, sRet, sSet, sEx, sNil, tE, tNt, tAn, tOr', eApp, eOp2, eOp1, eVar, eC, eLst, eTup, eSl, eRev, aCons, aNil, pNo, pSm, callN, eAn, eOr, eNt, asB, bind_ok_, to_ok_, seq_nx_, seq_ret_, fin_ret_, fin_nx_, i_add, i_sub, i_neg, lstOf, tupOf, List.getElem?_cons_succ, List.getElem?_cons_zero, List.set_cons_succ, List.set_cons_zero, List.length_cons, List.length_nil, if_true, c, bt]
end
end GA
set_option maxRecDepth 100000
set_option maxHeartbeats 4000000
namespace GA
open PySem L2 MI
section
variable {xs ys : List Int} {N f l : Int} {S : Sto} {ts : List (Int × Int)}
/-! ## points, strips, bundle of a good row -/
theorem outer_ok (hn : N = xs.length) (hl : N ≤ 20) : f_outer [ti xs] [] = .ok (ti (ext xs N)) [] := by
  have hL := len_tiD hn []
  have e1 : IV.d (.int 0) :: ((xs.map PyData.int).map IV.d ++ [IV.d (.int (N + 1))]) = ((ext xs N).map PyData.int).map IV.d := by simp [ext]
  have hk : mkTup (IV.d (.int 0) :: ((xs.map PyData.int).map IV.d ++ [IV.d (.int (N + 1))])) [] = .ok (ti (ext xs N)) [] := by
    rw [e1]
    exact mkTup_d (by simp [ext]; omega) []
  have u : ∀ fs : FS, fnB 1 fs [ti xs] [] = (fs [some (ti xs)] []).fin := fun _ => rfl
  have hi : itemsOf (ti xs) [] = some (xs.map PyData.int) := rfl
  rw [outer_eq, u]
  unfold outerb outer_1
  simp only [sCons, sRet, sSet, sEx, sNil, tE, tNt, tAn, tOr', eApp, eOp2, eOp1, eVar, eC, eLst, eTup, eSl, eRev, aCons, aNil, pNo, pSm, callN, eAn, eOr, eNt, asB, bind_ok_, to_ok_, seq_nx_, seq_ret_, fin_ret_, fin_nx_, i_add, i_sub, i_neg, lstOf, tupOf, List.getElem?_cons_succ, List.getElem?_cons_zero, List.set_cons_succ, List.set_cons_zero, List.length_cons, List.length_nil, if_true, aStar, hL, hi, hk, List.map_map]
  simp only [← List.map_map, List.cons_append, List.nil_append, hk]
  rfl
def brk (xs : List Int) (N p : Int) : Bool := !decide (E xs N (p + 1) = E xs N p + 1)
theorem broken_at_ok (hn : N = xs.length) (hl : N ≤ 20) {p : Int} (h0 : 0 ≤ p) (h1 : p ≤ N) : f_broken_at [ti xs, .d (.int p)] [] = .ok (.d (.bool (brk xs N p))) [] := by
  have h := call_pure (S := []) (is := [ti xs]) rfl (outer_ok hn hl) rfl
  have a1 := oIx_tiD (ys := ext xs N) [] h0 (ext_at hn h0 (by omega))
  have a2 := oIx_tiD (ys := ext xs N) (p := p + 1) [] (by omega) (ext_at hn (by omega) (by omega))
  have c := cNeL_int (E xs N (p + 1)) (E xs N p + 1) []
  have u : ∀ fs : FS, fnB 3 fs [ti xs, .d (.int p)] [] = (fs [some (ti xs), some (.d (.int p)), none] []).fin := fun _ => rfl
  rw [broken_at_eq, u]
  unfold broken_atb broken_at_1 broken_at_2
  simp only [sCons, sRet, sSet, sEx, sNil, tE, tNt, tAn, tOr', eApp, eOp2, eOp1, eVar, eC, eLst, eTup, eSl, eRev, aCons, aNil, pNo, pSm, callN, eAn, eOr, eNt, asB, bind_ok_, to_ok_, seq_nx_, seq_ret_, fin_ret_, fin_nx_, i_add, i_sub, i_neg, lstOf, tupOf, List.getElem?_cons_succ, List.getElem?_cons_zero, List.set_cons_succ, List.set_cons_zero, List.length_cons, List.length_nil, if_true, h, a1, a2, c]
  rfl
def bps (xs : List Int) (N : Int) : List Int := (rgI 0 (N + 1)).filter (brk xs N)
theorem broken_points_ok (hn : N = xs.length) (hl : N ≤ 20) : f_broken_points [ti xs] [] = .ok (li (bps xs N)) [] := by
  have hL := len_tiD hn []
  have hi : iR1 (eOp2 oAdd (eApp bLenD (aCons (eVar 0) aNil)) (eC (.int 1))) [some (ti xs), none] [] = .ok ((rgI 0 (N + 1)).map .int) [] := by
    rw [← rngD_rg]
    exact iR1_ok (by simp only [sCons, sRet, sSet, sEx, sNil, tE, tNt, tAn, tOr', eApp, eOp2, eOp1, eVar, eC, eLst, eTup, eSl, eRev, aCons, aNil, pNo, pSm, callN, eAn, eOr, eNt, asB, bind_ok_, to_ok_, seq_nx_, seq_ret_, fin_ret_, fin_nx_, i_add, i_sub, i_neg, lstOf, tupOf, List.getElem?_cons_succ, List.getElem?_cons_zero, List.set_cons_succ, List.set_cons_zero, List.length_cons, List.length_nil, if_true, hL]) (by omega)
  have c := eLc_iF (g := gNm 1) (t := tE (eApp (callN 2 f_broken_at) (aCons (eVar 0) (aCons (eVar 1) aNil)))) (e := eVar 1) (vs := [1]) (brk xs N) .int hi (by rw [len_rgI]; omega) fun d hd => by
    have hd := mem_rgI.mp hd
    have h := call_pure (S := []) (is := [ti xs, .d (.int d)]) rfl (broken_at_ok hn hl (p := d) (by omega) (by omega)) rfl
    exact ⟨[some (ti xs), some (.d (.int d))], rfl, by simp only [sCons, sRet, sSet, sEx, sNil, tE, tNt, tAn, tOr', eApp, eOp2, eOp1, eVar, eC, eLst, eTup, eSl, eRev, aCons, aNil, pNo, pSm, callN, eAn, eOr, eNt, asB, bind_ok_, to_ok_, seq_nx_, seq_ret_, fin_ret_, fin_nx_, i_add, i_sub, i_neg, lstOf, tupOf, List.getElem?_cons_succ, List.getElem?_cons_zero, List.set_cons_succ, List.set_cons_zero, List.length_cons, List.length_nil, if_true, h], fun _ => rfl⟩
  have u : ∀ fs : FS, fnB 2 fs [ti xs] [] = (fs [some (ti xs), none] []).fin := fun _ => rfl
  rw [broken_points_eq, u]
  unfold broken_pointsb broken_points_1
  simp only [sCons, sRet, sSet, sEx, sNil, tE, tNt, tAn, tOr', eApp, eOp2, eOp1, eVar, eC, eLst, eTup, eSl, eRev, aCons, aNil, pNo, pSm, callN, eAn, eOr, eNt, asB, bind_ok_, to_ok_, seq_nx_, seq_ret_, fin_ret_, fin_nx_, i_add, i_sub, i_neg, lstOf, tupOf, List.getElem?_cons_succ, List.getElem?_cons_zero, List.set_cons_succ, List.set_cons_zero, List.length_cons, List.length_nil, if_true, c]
  rfl
theorem k_bps (hn : N = xs.length) (hl : N ≤ 20) (S : Sto) : callW backW f_broken_points [ti xs] S = .ok (li (bps xs N)) S := call_pure (is := [ti xs]) rfl (broken_points_ok hn hl) rfl
theorem k_breaks (v : VR xs N) (S : Sto) : callW backW f_breaks [ti xs] S = .ok (ti (bps xs N)) S := by
  refine call_pure (is := [ti xs]) (T := []) rfl ?_ rfl
  simp [f_breaks, k_check v, k_bps v.len v.hi]
/-! strips -/
def cuts (xs : List Int) (N : Int) : List Int := dsort (0 :: N :: bps xs N)
def prs (l : List Int) : List (Int × Int) := (l.zip (l.drop 1)).map fun p => (p.1 + 1, p.2)
def sps (xs : List Int) (N : Int) : List (Int × Int) := prs (cuts xs N)
end
end GA
set_option maxRecDepth 100000
set_option maxHeartbeats 4000000
namespace GA
open PySem L2 MI
section
variable {xs ys : List Int} {N f l : Int} {S : Sto} {ts : List (Int × Int)}
/-! ## the bundle -/
def heads (xs : List Int) (N : Int) : List Int := (sps xs N).map fun p => E xs N p.1
/-- where it stands -/
def ixO (l : List Int) (w : Int) : Option Nat := (l.map PyData.int).findIdx? (fun z => PyData.eqv z (.int (iabs w)))
def rk (l : List Int) (w : Int) : Int := ((ixO l w).getD 0 : Nat)
/-! ## where each stands -/
theorem back_of_ok (v : VR xs N) : ∃ (zs : List Int) (T : Sto), zs.length = xs.length ∧ f_back_of [ti xs] [] = .ok (ti zs) T := by
  have hL := len_tiD v.len []
  have hn := v.len
  have hs := v.small
  have hlo := v.lo
  have hi : back_of_2i [some (ti xs), some (.ref 0), none, none] [.lst ((List.replicate xs.length (0 : Int)).map .int)] = .ok (enumD (xs.map .int)) [.lst ((List.replicate xs.length (0 : Int)).map .int)] := by
    unfold back_of_2i
    simp only [iEn, eVar, List.getElem?_cons_zero, bind_ok_, frz_ti]
    rw [if_pos (by rw [List.length_map]; exact small_line (by omega))]
  have mem : ∀ d ∈ enumD (xs.map PyData.int), ∃ (i : Int) (w : Int), d = .tuple [.int i, .int w] ∧ w ∈ xs := fun d m => by
    unfold enumD at m
    obtain ⟨⟨i, e⟩, h1, rfl⟩ := List.mem_map.mp m
    obtain ⟨w, hw, rfl⟩ := List.mem_map.mp (List.of_mem_zip h1).2
    exact ⟨i, w, rfl, hw⟩
  obtain ⟨r', S', h, zs, p3, p4, rfl, hl, rfl⟩ := forL_pass (g := gTp 2 (gsCons (gNm 2) (gsCons (gNm 3) gsNil))) (b := back_of_2b) (ds := enumD (xs.map .int))
    (fun r S => ∃ (zs : List Int) (p3 p4 : Option IV), r = [some (ti xs), some (.ref 0), p3, p4] ∧ zs.length = xs.length ∧ S = [.lst (zs.map .int)]) (fun d hd r S ⟨zs, p3, p4, h1, h2, h3⟩ => by
      obtain ⟨i, w, rfl, hw⟩ := mem d hd
      subst h1 h3
      have hb := v.mem w hw
      have put : ∀ x : Int, stPutF (.ref 0) (.d (.int (iabs w - 1))) (.d (.int x)) [.lst (zs.map .int)] = some [.lst ((zs.set (iabs w - 1).toNat x).map .int)] := fun x => by
        have hx : ixN (zs.map PyData.int).length (iabs w - 1) = some (iabs w - 1).toNat := ixN_ok (by omega) (by rw [List.length_map]; omega)
        simp only [stPutF, stPutD, stPut, List.getElem?_cons_zero, hx]
        rw [List.map_set]
        rfl
      refine ⟨[some (ti xs), some (.ref 0), some (.d (.int i)), some (.d (.int w))], [.lst ((zs.set (iabs w - 1).toNat (if 0 < w then i + 1 else 0 - i - 1)).map .int)], ?_, _, _, _, rfl, by rw [List.length_set]; exact h2, rfl⟩
      have gt : (gTp 2 (gsCons (gNm 2) (gsCons (gNm 3) gsNil))) (.d (.tuple [.int i, .int w])) [some (ti xs), some (.ref 0), p3, p4] [.lst (zs.map .int)] = .nx [some (ti xs), some (.ref 0), some (.d (.int i)), some (.d (.int w))] [.lst (zs.map .int)] := rfl
      rw [gt]
      unfold back_of_2b back_of_2_1
      by_cases h : 0 < w
      · have g : cInt MI.gGt (.d (.int w)) (.d (.int 0)) [.lst (zs.map .int)] = .ok (.d (.bool true)) [.lst (zs.map .int)] := by simp [h]
        have q := put (i + 1)
        rw [if_pos h]
        unfold eIf gSbF
        simp only [sCons, sRet, sSet, sEx, sNil, tE, tNt, tAn, tOr', eApp, eOp2, eOp1, eVar, eC, eLst, eTup, eSl, eRev, aCons, aNil, pNo, pSm, callN, eAn, eOr, eNt, asB, bind_ok_, to_ok_, seq_nx_, seq_ret_, fin_ret_, fin_nx_, i_add, i_sub, i_neg, lstOf, tupOf, List.getElem?_cons_succ, List.getElem?_cons_zero, List.set_cons_succ, List.set_cons_zero, List.length_cons, List.length_nil, if_true, sAs, g, abs_ok, q]
      · have g : cInt MI.gGt (.d (.int w)) (.d (.int 0)) [.lst (zs.map .int)] = .ok (.d (.bool false)) [.lst (zs.map .int)] := by simp [h]
        have q := put (0 - i - 1)
        rw [if_neg h]
        unfold eIf gSbF
        simp only [sCons, sRet, sSet, sEx, sNil, tE, tNt, tAn, tOr', eApp, eOp2, eOp1, eVar, eC, eLst, eTup, eSl, eRev, aCons, aNil, pNo, pSm, callN, eAn, eOr, eNt, asB, bind_ok_, to_ok_, seq_nx_, seq_ret_, fin_ret_, fin_nx_, i_add, i_sub, i_neg, lstOf, tupOf, List.getElem?_cons_succ, List.getElem?_cons_zero, List.set_cons_succ, List.set_cons_zero, List.length_cons, List.length_nil, if_true, sAs, g, abs_ok, q, Bool.false_eq_true, if_false]) (r := [some (ti xs), some (.ref 0), none, none]) (S := [.lst ((List.replicate xs.length (0 : Int)).map .int)]) ⟨_, _, _, rfl, by rw [List.length_replicate], rfl⟩
  refine ⟨zs, [.lst (zs.map .int)], hl, ?_⟩
  have u : ∀ fs : FS, fnB 4 fs [ti xs] [] = (fs [some (ti xs), none, none, none] []).fin := fun _ => rfl
  have m0 : mkLst [.d (.int 0)] [] = .ok (.d (.list [.int 0])) [] := rfl
  have mu : oMulM (.d (.list [.int 0])) (.d (.int N)) [] = .ok (.ref 0) [.lst ((List.replicate xs.length (0 : Int)).map .int)] := by
    unfold oMulM
    simp only []
    rw [if_pos ⟨by omega, by simp⟩, show N.toNat = xs.length by omega]
    have : (List.replicate xs.length [PyData.int 0]).flatten = (List.replicate xs.length (0 : Int)).map .int := by
      rw [List.map_replicate]
      generalize xs.length = k
      induction k with
      | zero => rfl
      | succ k ih => rw [List.replicate_succ, List.replicate_succ, List.flatten_cons, ih]; rfl
    rw [this]
    rfl
  have s1 : back_of_1 [some (ti xs), none, none, none] [] = .nx [some (ti xs), some (.ref 0), none, none] [.lst ((List.replicate xs.length (0 : Int)).map .int)] := by
    unfold back_of_1
    simp only [sCons, sRet, sSet, sEx, sNil, tE, tNt, tAn, tOr', eApp, eOp2, eOp1, eVar, eC, eLst, eTup, eSl, eRev, aCons, aNil, pNo, pSm, callN, eAn, eOr, eNt, asB, bind_ok_, to_ok_, seq_nx_, seq_ret_, fin_ret_, fin_nx_, i_add, i_sub, i_neg, lstOf, tupOf, List.getElem?_cons_succ, List.getElem?_cons_zero, List.set_cons_succ, List.set_cons_zero, List.length_cons, List.length_nil, if_true, m0, hL, mu]
  have bt : bTup [.ref 0] [.lst (zs.map .int)] = .ok (ti zs) [.lst (zs.map .int)] := rfl
  rw [back_of_eq, u]
  unfold back_ofb
  rw [sc_nx s1]
  unfold back_of_2
  rw [sc_nx ((sf_eq hi).trans h)]
  unfold back_of_3
  simp only [sCons, sRet, sSet, sEx, sNil, tE, tNt, tAn, tOr', eApp, eOp2, eOp1, eVar, eC, eLst, eTup, eSl, eRev, aCons, aNil, pNo, pSm, callN, eAn, eOr, eNt, asB, bind_ok_, to_ok_, seq_nx_, seq_ret_, fin_ret_, fin_nx_, i_add, i_sub, i_neg, lstOf, tupOf, List.getElem?_cons_succ, List.getElem?_cons_zero, List.set_cons_succ, List.set_cons_zero, List.length_cons, List.length_nil, if_true, bt]
theorem k_back_of (v : VR xs N) : ∃ zs : List Int, zs.length = xs.length ∧ ∀ S, callW backW f_back_of [ti xs] S = .ok (ti zs) S := by
  obtain ⟨zs, T, h, e⟩ := back_of_ok v
  exact ⟨zs, h, fun S => call_pure (is := [ti xs]) rfl e rfl⟩
theorem k_back (v : VR xs N) (S : Sto) : ∃ d, callW backW f_back [ti xs] S = .ok (.d d) S := by
  obtain ⟨zs, h, k⟩ := k_back_of v
  refine ⟨.tuple (zs.map .int), call_pure (is := [ti xs]) (T := []) rfl ?_ rfl⟩
  simp [f_back, k_check v, k]
theorem k_put (v : VR xs N) (w : VR ys N) (S : Sto) : callW backW f_put [ti xs, ti ys] S = .ok (ti (putL xs ys)) S := by
  have p := k_put_on (xs := xs) (ys := ys) (N := N) v.len w []
  have t := two_any v w []
  rw [if_pos rfl] at t
  refine call_pure (is := [ti xs, ti ys]) (T := []) rfl ?_ rfl
  simp [f_put, t, p]
end
end GA
set_option maxRecDepth 100000
set_option maxHeartbeats 4000000
namespace GA
open PySem L2 MI GM
section
variable {xs ys : List Int} {N f l : Int} {S : Sto}
/-! ## the ends of a row -/
def eR (a : Int) : Nat := if 0 < a then 2 * a.toNat else 2 * (-a).toNat - 1
def eL (a : Int) : Nat := if 0 < a then 2 * a.toNat - 1 else 2 * (-a).toNat
def en (xs : List Int) (N : Int) : List Nat := (List.range (xs.length + 1)).flatMap fun (p : Nat) => [eR (E xs N p), eL (E xs N (p + 1 : Nat))]
theorem two_at {α : Type} (f g : Nat → α) : ∀ (n p : Nat), p < n → ((List.range n).flatMap fun p => [f p, g p])[2 * p]? = some (f p) ∧ ((List.range n).flatMap fun p => [f p, g p])[2 * p + 1]? = some (g p)
  | 0, p, h => absurd h (Nat.not_lt_zero _)
  | n + 1, p, h => by
    have hl : ∀ n, ((List.range n).flatMap fun p => [f p, g p]).length = 2 * n := fun n => by
      induction n with
      | zero => rfl
      | succ n ih => rw [List.range_succ, List.flatMap_append, List.length_append, ih]; simp; omega
    rw [List.range_succ, List.flatMap_append]
    by_cases e : p = n
    · subst e
      rw [List.getElem?_append_right (by rw [hl]; omega), List.getElem?_append_right (by rw [hl]; omega), hl, Nat.sub_self, show 2 * p + 1 - 2 * p = 1 by omega]
      exact ⟨rfl, rfl⟩
    · rw [List.getElem?_append_left (by rw [hl]; omega), List.getElem?_append_left (by rw [hl]; omega)]
      exact two_at f g n p (by omega)
theorem two_len {α : Type} (f g : Nat → α) (n : Nat) : ((List.range n).flatMap fun p => [f p, g p]).length = 2 * n := by
  induction n with
  | zero => rfl
  | succ n ih => rw [List.range_succ, List.flatMap_append, List.length_append, ih]; simp; omega
theorem en_len : (en xs N).length = 2 * (xs.length + 1) := two_len _ _ _
theorem en_even {p : Nat} (h : p < xs.length + 1) : at' (en xs N) (2 * p) = eR (E xs N p) := by
  have := (two_at (fun (p : Nat) => eR (E xs N p)) (fun (p : Nat) => eL (E xs N (p + 1 : Nat))) _ p h).1
  unfold at' en
  rw [List.getD_eq_getElem?_getD, this]
  rfl
theorem en_odd {p : Nat} (h : p < xs.length + 1) : at' (en xs N) (2 * p + 1) = eL (E xs N (p + 1 : Nat)) := by
  have := (two_at (fun (p : Nat) => eR (E xs N p)) (fun (p : Nat) => eL (E xs N (p + 1 : Nat))) _ p h).2
  unfold at' en
  rw [List.getD_eq_getElem?_getD, this]
  rfl
theorem eR_half (a : Int) : (eR a + 1) / 2 = (iabs a).toNat := by
  unfold eR iabs
  split <;> split <;> omega
theorem eL_half (a : Int) : (eL a + 1) / 2 = (iabs a).toNat := by
  unfold eL iabs
  split <;> split <;> omega
theorem E_mem (v : VR xs N) {p : Int} (h0 : 1 ≤ p) (h1 : p ≤ N) : E xs N p ∈ xs := by
  have := row_at v.len (p := p - 1) (by omega) (by omega)
  rw [show p - 1 + 1 = p by omega] at this
  exact List.mem_of_getElem? this
theorem En_at (v : VR xs N) {p : Nat} (h : p < xs.length) : xs[p]? = some (E xs N (p + 1 : Nat)) := by
  have := row_at v.len (p := (p : Int)) (by omega) (by have := v.len; omega)
  simpa using this
theorem E_inj (v : VR xs N) {p q : Nat} (hp : p ≤ xs.length + 1) (hq : q ≤ xs.length + 1) (e : iabs (E xs N p) = iabs (E xs N q)) : p = q := by
  have hn := v.len
  have z0 : iabs (E xs N (0 : Nat)) = 0 := rfl
  have zN : iabs (E xs N (xs.length + 1 : Nat)) = N + 1 := by
    have : ((xs.length + 1 : Nat) : Int) = N + 1 := by omega
    rw [this, E_last hn, iabs_pos (by have := v.lo; omega)]
  have mid : ∀ k : Nat, 1 ≤ k → k ≤ xs.length → 1 ≤ iabs (E xs N k) ∧ iabs (E xs N k) ≤ N := fun k h1 h2 => v.mem _ (E_mem v (by omega) (by omega))
  have cls : ∀ k : Nat, k ≤ xs.length + 1 → (k = 0 ∧ iabs (E xs N k) = 0) ∨ (k = xs.length + 1 ∧ iabs (E xs N k) = N + 1) ∨ (1 ≤ k ∧ k ≤ xs.length ∧ 1 ≤ iabs (E xs N k) ∧ iabs (E xs N k) ≤ N) := fun k hk => by
    by_cases c0 : k = 0
    · subst c0; exact .inl ⟨rfl, z0⟩
    · by_cases cN : k = xs.length + 1
      · subst cN; exact .inr (.inl ⟨rfl, zN⟩)
      · exact .inr (.inr ⟨by omega, by omega, mid k (by omega) (by omega)⟩)
  rcases cls p hp with h | h | h
  · rcases cls q hq with g | g | g <;> omega
  · rcases cls q hq with g | g | g <;> omega
  · rcases cls q hq with g | g | g
    · omega
    · omega
    · obtain ⟨p, rfl⟩ : ∃ k, p = k + 1 := ⟨p - 1, by omega⟩
      obtain ⟨q, rfl⟩ : ∃ k, q = k + 1 := ⟨q - 1, by omega⟩
      have h1 := En_at v (p := p) (by omega)
      have h2 := En_at v (p := q) (by omega)
      have nd := v.nd
      have e1 : (xs.map iabs)[p]? = some (iabs (E xs N (p + 1 : Nat))) := by rw [List.getElem?_map, h1]; rfl
      have e2 : (xs.map iabs)[q]? = some (iabs (E xs N (q + 1 : Nat))) := by rw [List.getElem?_map, h2]; rfl
      rw [e] at e1
      have := (List.getElem?_inj (by rw [List.length_map]; omega) nd).mp (e1.trans e2.symm)
      omega
theorem en_half {j : Nat} (h : j < 2 * (xs.length + 1)) : (at' (en xs N) j + 1) / 2 = (iabs (E xs N ((j + 1) / 2 : Nat))).toNat := by
  by_cases c : j % 2 = 0
  · obtain ⟨p, rfl⟩ : ∃ p, j = 2 * p := ⟨j / 2, by omega⟩
    rw [en_even (by omega), eR_half, show (2 * p + 1) / 2 = p by omega]
  · obtain ⟨p, rfl⟩ : ∃ p, j = 2 * p + 1 := ⟨j / 2, by omega⟩
    rw [en_odd (by omega), eL_half, show (2 * p + 1 + 1) / 2 = p + 1 by omega]
theorem E_abs_le (v : VR xs N) {p : Nat} (h : p ≤ xs.length + 1) : 0 ≤ iabs (E xs N p) ∧ iabs (E xs N p) ≤ N + 1 ∧ (p ≤ xs.length → iabs (E xs N p) ≤ N) := by
  have hn := v.len
  have hlo := v.lo
  by_cases c0 : p = 0
  · subst c0
    have z0 : iabs (E xs N (0 : Nat)) = 0 := rfl
    rw [z0]
    omega
  · by_cases cN : p = xs.length + 1
    · subst cN
      have : ((xs.length + 1 : Nat) : Int) = N + 1 := by omega
      rw [this, E_last hn, iabs_pos (by omega)]
      omega
    · have := v.mem _ (E_mem v (p := (p : Int)) (by omega) (by omega))
      omega
theorem ep_of (v : VR xs N) : EP (xs.length + 1) (en xs N) := by
  have hn := v.len
  have at_ : ∀ j, j < 2 * (xs.length + 1) → (en xs N)[j]? = some (at' (en xs N) j) := fun j hj => by
    unfold at'
    rw [List.getD_eq_getElem?_getD, List.getElem?_eq_getElem (by rw [en_len]; exact hj)]
    rfl
  refine ⟨en_len, ?_, fun e he => ?_⟩
  · rw [List.nodup_iff_pairwise_ne, List.pairwise_iff_getElem]
    intro i j hi hj hij e
    rw [en_len] at hi hj
    have h1 := at_ i hi
    have h2 := at_ j hj
    rw [List.getElem?_eq_getElem (by rw [en_len]; exact hi)] at h1
    rw [List.getElem?_eq_getElem (by rw [en_len]; exact hj)] at h2
    have e : at' (en xs N) i = at' (en xs N) j := by rw [← Option.some.inj h1, ← Option.some.inj h2]; exact e
    have k1 := en_half (N := N) hi
    have k2 := en_half (N := N) hj
    rw [e, k2] at k1
    have a1 := E_abs_le v (p := (i + 1) / 2) (by omega)
    have a2 := E_abs_le v (p := (j + 1) / 2) (by omega)
    have := E_inj v (p := (i + 1) / 2) (q := (j + 1) / 2) (by omega) (by omega) (by omega)
    obtain ⟨p, rfl⟩ : ∃ p, i = 2 * p + 1 := ⟨i / 2, by omega⟩
    have : j = 2 * (p + 1) := by omega
    subst this
    rw [en_odd (by omega), en_even (by omega)] at e
    have nz : E xs N (p + 1 : Nat) ≠ 0 := (v.big (E_mem v (p := (p + 1 : Nat)) (by omega) (by omega))).1
    unfold eL eR at e
    split at e <;> omega
  · obtain ⟨j, hj⟩ := List.getElem?_of_mem he
    have hl := (List.getElem?_eq_some_iff.mp hj).1
    rw [en_len] at hl
    rw [at_ j hl] at hj
    cases hj
    have k := en_half (N := N) hl
    have a := E_abs_le v (p := (j + 1) / 2) (by omega)
    by_cases c : (j + 1) / 2 ≤ xs.length
    · have := a.2.2 c
      omega
    · have : j = 2 * xs.length + 1 := by omega
      subst this
      rw [en_odd (by omega)]
      have : ((xs.length + 1 : Nat) : Int) = N + 1 := by omega
      rw [this, E_last hn]
      unfold eL
      rw [if_pos (by omega)]
      omega
/-- a whole point -/
theorem whole_iff (v : VR xs N) {p : Nat} (h : p < xs.length + 1) : xr (at' (en xs N) (2 * p + 1)) = at' (en xs N) (2 * p) ↔ E xs N (p + 1 : Nat) = E xs N p + 1 := by
  rw [en_odd h, en_even h]
  have nz : E xs N (p + 1 : Nat) ≠ 0 := by
    by_cases c : p + 1 ≤ xs.length
    · exact (v.big (E_mem v (p := (p + 1 : Nat)) (by omega) (by have := v.len; omega))).1
    · have : ((p + 1 : Nat) : Int) = N + 1 := by have := v.len; omega
      rw [this, E_last v.len]
      have := v.lo
      omega
  generalize E xs N (p + 1 : Nat) = b at nz ⊢
  generalize E xs N p = a
  unfold eL eR xr
  by_cases hb : 0 < b
  · rw [if_pos hb, if_neg (by omega)]
    by_cases ha : 0 < a
    · rw [if_pos ha]; omega
    · rw [if_neg ha]; omega
  · rw [if_neg hb, if_pos (by omega)]
    by_cases ha : 0 < a
    · rw [if_pos ha]; omega
    · rw [if_neg ha]; omega
theorem one_brk (v : VR xs N) {p : Nat} (h : p < xs.length + 1) : cls (xs.length + 1) (en xs N) p = [p] ↔ brk xs N p = false := by
  rw [(ep_of v).one_iff h, whole_iff v h]
  unfold brk
  rw [Bool.not_eq_false', decide_eq_true_iff]
  rfl
/-! ## the row behind -/
theorem inv_of (v : VR xs N) (w : VR ys N) (hb : ∀ (i : Nat) (x : Int), xs[i]? = some x → ys[(iabs x - 1).toNat]? = some (if 0 < x then (i : Int) + 1 else 0 - i - 1)) : GM.Inv (xs.length + 1) (en xs N) (en ys N) := by
  have h := ep_of v
  have hl : ys.length = xs.length := by have := v.len; have := w.len; omega
  have hn := v.len
  have go : ∀ j, j < 2 * (xs.length + 1) → at' (en ys N) (at' (en xs N) j) = j := fun j hj => by
    by_cases c : j % 2 = 0
    · obtain ⟨p, rfl⟩ : ∃ p, j = 2 * p := ⟨j / 2, by omega⟩
      rw [en_even (by omega)]
      cases p with
      | zero =>
        show at' (en ys N) (eR (E xs N (0 : Nat))) = 0
        have : eR (E xs N (0 : Nat)) = 2 * 0 := rfl
        rw [this, en_even (by omega)]
        rfl
      | succ p =>
        have hp := En_at v (p := p) (by omega)
        have q := hb p _ hp
        have m := v.mem _ (List.mem_of_getElem? hp)
        generalize E xs N (p + 1 : Nat) = x at q m
        have q1 : E ys N ((iabs x - 1).toNat + 1 : Nat) = if 0 < x then (p : Int) + 1 else 0 - p - 1 := by
          have := En_at w (p := (iabs x - 1).toNat) (by omega)
          rw [this] at q
          exact Option.some.inj q
        unfold eR
        by_cases hx : 0 < x
        · rw [if_pos hx] at q1 ⊢
          rw [iabs_pos (by omega)] at q1
          rw [show 2 * x.toNat = 2 * ((x - 1).toNat + 1) by omega, en_even (by rw [iabs_pos (by omega)] at m; omega), q1]
          unfold eR
          rw [if_pos (by omega)]
          omega
        · rw [if_neg hx] at q1 ⊢
          have ha : iabs x = -x := by unfold iabs; split <;> omega
          rw [ha] at q1 m
          rw [show 2 * (-x).toNat - 1 = 2 * (-x - 1).toNat + 1 by omega, en_odd (by omega), q1]
          unfold eL
          rw [if_neg (by omega)]
          omega
    · obtain ⟨p, rfl⟩ : ∃ p, j = 2 * p + 1 := ⟨j / 2, by omega⟩
      rw [en_odd (by omega)]
      by_cases cl : p < xs.length
      · have hp := En_at v (p := p) cl
        have q := hb p _ hp
        have m := v.mem _ (List.mem_of_getElem? hp)
        generalize E xs N (p + 1 : Nat) = x at q m
        have q1 : E ys N ((iabs x - 1).toNat + 1 : Nat) = if 0 < x then (p : Int) + 1 else 0 - p - 1 := by
          have := En_at w (p := (iabs x - 1).toNat) (by omega)
          rw [this] at q
          exact Option.some.inj q
        unfold eL
        by_cases hx : 0 < x
        · rw [if_pos hx] at q1 ⊢
          rw [iabs_pos (by omega)] at q1 m
          rw [show 2 * x.toNat - 1 = 2 * (x - 1).toNat + 1 by omega, en_odd (by omega), q1]
          unfold eL
          rw [if_pos (by omega)]
          omega
        · rw [if_neg hx] at q1 ⊢
          have ha : iabs x = -x := by unfold iabs; split <;> omega
          rw [ha] at q1 m
          rw [show 2 * (-x).toNat = 2 * ((-x - 1).toNat + 1) by omega, en_even (by omega), q1]
          unfold eR
          rw [if_neg (by omega)]
          omega
      · have : p = xs.length := by omega
        subst this
        have e1 : ((xs.length + 1 : Nat) : Int) = N + 1 := by omega
        rw [e1, E_last hn]
        have e2 : eL (N + 1) = 2 * ys.length + 1 := by unfold eL; rw [if_pos (by have := v.lo; omega)]; omega
        rw [e2, en_odd (by omega), show ((ys.length + 1 : Nat) : Int) = N + 1 by omega, E_last w.len, e2, hl]
  refine ⟨fun i hi => ?_⟩
  have := go (pl (en xs N) i) (h.pl_lt hi)
  rw [h.at_pl hi] at this
  exact this
end
end GA
set_option maxRecDepth 100000
set_option maxHeartbeats 4000000
namespace GA
open PySem L2 MI GM
abbrev zd (l : List Nat) : List PyData := (zi l).map .int
/-! ## while, dicts of ints -/
theorem whl_steps {t : FT} {b : FS} (Rk : Nat → Rho) (Tk : Nat → Sto) : ∀ (n k f : Nat), n < f → (∀ j, k ≤ j → j < k + n → t (Rk j) (Tk j) = .ok true (Tk j) ∧ b (Rk j) (Tk j) = .nx (Rk (j + 1)) (Tk (j + 1))) → t (Rk (k + n)) (Tk (k + n)) = .ok false (Tk (k + n)) →
    whl t b f (Rk k) (Tk k) = .nx (Rk (k + n)) (Tk (k + n))
  | 0, k, f, hf, _, he => by
    obtain ⟨f, rfl⟩ : ∃ g, f = g + 1 := ⟨f - 1, by omega⟩
    unfold whl
    rw [Nat.add_zero] at he ⊢
    rw [he]
    rfl
  | n + 1, k, f, hf, hs, he => by
    obtain ⟨f, rfl⟩ : ∃ g, f = g + 1 := ⟨f - 1, by omega⟩
    obtain ⟨h1, h2⟩ := hs k (Nat.le_refl _) (by omega)
    have e : k + (n + 1) = k + 1 + n := by omega
    unfold whl
    rw [h1, to_ok_, if_pos rfl, h2, e]
    exact whl_steps Rk Tk n (k + 1) f (by omega) (fun j h3 h4 => hs j (by omega) (by omega)) (by rw [← e]; exact he)
theorem swh_steps {t : FT} {b : FS} (Rk : Nat → Rho) (Tk : Nat → Sto) (n : Nat) (hn : n < 100000) (hs : ∀ j, j < n → t (Rk j) (Tk j) = .ok true (Tk j) ∧ b (Rk j) (Tk j) = .nx (Rk (j + 1)) (Tk (j + 1))) (he : t (Rk n) (Tk n) = .ok false (Tk n)) :
    sWh t b (Rk 0) (Tk 0) = .nx (Rk n) (Tk n) := by
  have := whl_steps (t := t) (b := b) Rk Tk n 0 100000 hn (fun j _ h => hs j (by omega)) (by rw [Nat.zero_add]; exact he)
  rw [Nat.zero_add] at this
  exact this
theorem kb_int (a b : Int) : kbeq (.int a) (.int b) = decide (a = b) := rfl
/-- a dict from ints to their places -/
def pd : List Nat → Nat → List (PyData × PyData)
  | [], _ => []
  | e :: t, o => (.int (e : Nat), .int (o : Nat)) :: pd t (o + 1)
theorem pd_app : ∀ (l t : List Nat) (o : Nat), pd (l ++ t) o = pd l o ++ pd t (o + l.length)
  | [], t, o => rfl
  | e :: l, t, o => by
    show (PyData.int (e : Nat), PyData.int (o : Nat)) :: pd (l ++ t) (o + 1) = ((PyData.int (e : Nat), PyData.int (o : Nat)) :: pd l (o + 1)) ++ pd t (o + (l.length + 1))
    rw [pd_app l t, List.cons_append, show o + (l.length + 1) = o + 1 + l.length by omega]
theorem pd_none {e : Nat} : ∀ {l : List Nat} {o : Nat}, e ∉ l → dAt (pd l o) (.int (e : Nat)) = none
  | [], _, _ => rfl
  | x :: t, o, h => by
    unfold pd dAt
    rw [kb_int, decide_eq_false (fun z : (x : Int) = (e : Int) => h (by rw [Int.ofNat.inj z]; exact List.mem_cons_self)), if_neg (by decide)]
    exact pd_none fun z => h (List.mem_cons_of_mem _ z)
theorem pd_at {e : Nat} : ∀ {l : List Nat} {o : Nat}, e ∈ l → dAt (pd l o) (.int (e : Nat)) = some (.int (o + l.idxOf e : Nat))
  | x :: t, o, h => by
    unfold pd dAt
    rw [kb_int]
    by_cases z : x = e
    · subst z
      rw [decide_eq_true rfl, if_pos rfl]
      simp
    · rw [decide_eq_false (fun q : (x : Int) = (e : Int) => z (Int.ofNat.inj q)), if_neg (by decide), pd_at ((List.mem_cons.mp h).resolve_left fun q => z q.symm), List.idxOf_cons]
      have : (x == e) = false := by simp [z]
      rw [this]
      show some (PyData.int ((o + 1 + t.idxOf e : Nat) : Int)) = some (PyData.int ((o + (t.idxOf e + 1) : Nat) : Int))
      rw [show o + 1 + t.idxOf e = o + (t.idxOf e + 1) by omega]
def en2 : List Nat → Nat → List PyData
  | [], _ => []
  | e :: t, o => .tuple [.int (o : Nat), .int (e : Nat)] :: en2 t (o + 1)
theorem en2_len : ∀ (l : List Nat) (o : Nat), (en2 l o).length = l.length
  | [], _ => rfl
  | _ :: t, o => by unfold en2; rw [List.length_cons, List.length_cons, en2_len t]
theorem en2_at : ∀ (l : List Nat) (o i : Nat), (en2 l o)[i]? = l[i]?.map fun (e : Nat) => PyData.tuple [.int ((o + i : Nat) : Int), .int (e : Int)]
  | [], _, _ => rfl
  | e :: t, o, 0 => rfl
  | e :: t, o, i + 1 => by
    unfold en2
    rw [List.getElem?_cons_succ, List.getElem?_cons_succ, en2_at t]
    cases t[i]? with
    | none => rfl
    | some x => simp only [Option.map_some]; rw [show o + 1 + i = o + (i + 1) by omega]
theorem enum_en2 (l : List Nat) : enumD (zd l) = en2 l 0 := by
  refine List.ext_getElem? fun i => ?_
  rw [en2_at, Nat.zero_add]
  unfold enumD zd zi
  by_cases h : i < l.length
  · simp [List.getElem?_map, List.getElem?_zip_eq_some, h]
  · simp [List.getElem?_eq_none, h]
theorem dc_pd {S : Sto} {r0 : Rho} {p0 : Option IV} (hr : r0 = [p0, none, none]) : ∀ (l pre : List Nat), (pre ++ l).Nodup → dcL (gTp 2 (gsCons (gNm 1) (gsCons (gNm 2) gsNil))) tYe (eVar 2) (eVar 1) r0 (en2 l pre.length) (pd pre 0) S = .ok (pd (pre ++ l) 0) S
  | [], pre, _ => by rw [List.append_nil]; rfl
  | e :: t, pre, nd => by
    have hn : e ∉ pre := fun z => by
      rw [List.nodup_append] at nd
      exact nd.2.2 e z e List.mem_cons_self rfl
    have ih := dc_pd (S := S) hr t (pre ++ [e]) (by rw [List.append_assoc]; exact nd)
    have hg : (gTp 2 (gsCons (gNm 1) (gsCons (gNm 2) gsNil))) (.d (.tuple [.int (pre.length : Nat), .int (e : Nat)])) r0 S = .nx [p0, some (.d (.int (pre.length : Nat))), some (.d (.int (e : Nat)))] S := by subst hr; rfl
    have hp : dPut (pd pre 0) (.int (e : Nat)) (.int (pre.length : Nat)) = pd (pre ++ [e]) 0 := by
      unfold dPut
      rw [pd_none hn, pd_app]
      show pd pre 0 ++ [_] = _
      unfold pd pd
      rw [Nat.zero_add]
    unfold en2 dcL
    rw [hg]
    show (if kOk false (.int (e : Nat)) = true then dcL _ tYe (eVar 2) (eVar 1) r0 (en2 t (pre.length + 1)) (dPut (pd pre 0) (.int (e : Nat)) (.int (pre.length : Nat))) S else .bad) = _
    rw [if_pos (show kOk false (.int (e : Nat)) = true from rfl), hp]
    rw [List.length_append, List.append_assoc] at ih
    exact ih
section
variable {xs ys : List Int} {N f l : Int} {S : Sto}
theorem places_ok {es : List Nat} (nd : es.Nodup) (hl : es.length ≤ 1000) : f_places_of [.d (.list (zd es))] [] = .ok (.d (.dict (pd es 0))) [] := by
  have u : ∀ fs : FS, fnB 3 fs [.d (.list (zd es))] [] = (fs [some (.d (.list (zd es))), none, none] []).fin := fun _ => rfl
  have lz : (zd es).length = es.length := by simp [zi]
  have hi : iEn (eVar 0) [some (.d (.list (zd es))), none, none] [] = .ok (en2 es 0) [] := by
    simp only [iEn, eVar, List.getElem?_cons_zero, bind_ok_]
    show (if (zd es).length < sizeLine then Out.ok (enumD (zd es)) [] else .bad) = _
    rw [if_pos (by rw [lz]; exact small_line (by omega)), enum_en2]
  have c := dc_pd (S := []) (r0 := [some (.d (.list (zd es))), none, none]) rfl es [] nd
  rw [List.length_nil, List.nil_append] at c
  have e : eDc (iEn (eVar 0)) (gTp 2 (gsCons (gNm 1) (gsCons (gNm 2) gsNil))) tYe (eVar 2) (eVar 1) [1, 2] [some (.d (.list (zd es))), none, none] [] = .ok (.d (.dict (pd es 0))) [] := by
    unfold eDc dcR
    rw [hi]
    show ((if (en2 es 0).length ≤ 1000000 then (match dcL _ tYe (eVar 2) (eVar 1) (wipeR [some (.d (.list (zd es))), none, none] [1, 2]) (en2 es 0) [] [] with
      | .exn _ _ _ => .bad
      | o => o) else .bad : Out (List (PyData × PyData))).bind _) = _
    rw [if_pos (by rw [en2_len]; omega)]
    have w : wipeR [some (.d (.list (zd es))), none, none] [1, 2] = [some (.d (.list (zd es))), none, none] := rfl
    rw [w, show (([] : List (PyData × PyData))) = pd [] 0 from rfl, c]
    rfl
  rw [places_of_eq, u]
  unfold places_ofb places_of_1
  simp only [sCons, sRet, e, to_ok_]
  rfl
theorem g_mod2 (e : Nat) (S : Sto) : oInt MI.gMod (.d (.int (e : Nat))) (.d (.int 2)) S = .ok (.d (.int ((e % 2 : Nat) : Int))) S := by
  have : ((e % 2 : Nat) : Int) = (e : Int) % 2 := by omega
  rw [this]
  rfl
theorem g_div2 (e : Nat) (S : Sto) : oInt MI.gDiv (.d (.int (e : Nat))) (.d (.int 2)) S = .ok (.d (.int ((e / 2 : Nat) : Int))) S := by
  have : ((e / 2 : Nat) : Int) = (e : Int) / 2 := by omega
  rw [this]
  rfl
theorem g_mul2 (e : Nat) (he : e < 1000000) (S : Sto) : oInt MI.gMul (.d (.int 2)) (.d (.int (e : Nat))) S = .ok (.d (.int ((2 * e : Nat) : Int))) S := by
  have : ((2 * e : Nat) : Int) = 2 * (e : Int) := by omega
  have k : (2 : Int).natAbs < 2 ^ 2000 ∧ ((e : Int)).natAbs < 2 ^ 2000 := ⟨by decide, by
    have : ((e : Int)).natAbs < 2 ^ 20 := by omega
    exact Nat.lt_of_lt_of_le this (Nat.pow_le_pow_right (by decide) (by decide))⟩
  rw [this]
  simp only [oInt, gMul]
  rw [if_pos k]
theorem mate_ok (e : Nat) : f_mate_of [.d (.int (e : Nat))] [] = .ok (.d (.int (xr e : Nat))) [] := by
  have u : ∀ fs : FS, fnB 1 fs [.d (.int (e : Nat))] [] = (fs [some (.d (.int (e : Nat)))] []).fin := fun _ => rfl
  have hm := g_mod2 e []
  have c := cEqL_int ((e % 2 : Nat) : Int) 0 []
  rw [mate_of_eq, u]
  unfold mate_ofb mate_of_1 xr
  by_cases h : e % 2 = 0
  · rw [decide_eq_true (by omega)] at c
    rw [if_pos h]
    unfold eIf
    simp only [sCons, sRet, sSet, sEx, sNil, tE, tNt, tAn, tOr', eApp, eOp2, eOp1, eVar, eC, eLst, eTup, eSl, eRev, aCons, aNil, pNo, pSm, callN, eAn, eOr, eNt, asB, bind_ok_, to_ok_, seq_nx_, seq_ret_, fin_ret_, fin_nx_, i_add, i_sub, i_neg, lstOf, tupOf, List.getElem?_cons_succ, List.getElem?_cons_zero, List.set_cons_succ, List.set_cons_zero, List.length_cons, List.length_nil, if_true, hm, c]
    rfl
  · rw [decide_eq_false (by omega)] at c
    rw [if_neg h]
    unfold eIf
    simp only [sCons, sRet, sSet, sEx, sNil, tE, tNt, tAn, tOr', eApp, eOp2, eOp1, eVar, eC, eLst, eTup, eSl, eRev, aCons, aNil, pNo, pSm, callN, eAn, eOr, eNt, asB, bind_ok_, to_ok_, seq_nx_, seq_ret_, fin_ret_, fin_nx_, i_add, i_sub, i_neg, lstOf, tupOf, List.getElem?_cons_succ, List.getElem?_cons_zero, List.set_cons_succ, List.set_cons_zero, List.length_cons, List.length_nil, if_true, hm, c, Bool.false_eq_true, if_false]
    have : ((e - 1 : Nat) : Int) = (e : Int) - 1 := by omega
    rw [this]
end
end GA
set_option maxRecDepth 100000
set_option maxHeartbeats 4000000
namespace GA
open PySem L2 MI GM
section
variable {xs ys : List Int} {N f l : Int} {S : Sto}
theorem pairs_at {α β : Type} (f g : α → β) : ∀ (xs : List α) (i : Nat), (xs.flatMap fun w => [f w, g w])[2 * i]? = xs[i]?.map f ∧ (xs.flatMap fun w => [f w, g w])[2 * i + 1]? = xs[i]?.map g
  | [], i => ⟨rfl, rfl⟩
  | x :: t, 0 => ⟨rfl, rfl⟩
  | x :: t, i + 1 => by
    rw [List.flatMap_cons, show 2 * (i + 1) = 2 * i + 1 + 1 by omega]
    exact pairs_at f g t i
theorem pairs_len {α β : Type} (f g : α → β) : ∀ (xs : List α), (xs.flatMap fun w => [f w, g w]).length = 2 * xs.length
  | [] => rfl
  | x :: t => by rw [List.flatMap_cons, List.length_append, pairs_len f g t, List.length_cons]; simp; omega
theorem en_list (v : VR xs N) : en xs N = 0 :: ((xs.flatMap fun w => [eL w, eR w]) ++ [2 * xs.length + 1]) := by
  have hn := v.len
  have hF := pairs_len eL eR xs
  refine List.ext_getElem? fun k => ?_
  by_cases hk : k < 2 * (xs.length + 1)
  · rw [(ep_of v).at_some hk]
    by_cases c : k % 2 = 0
    · obtain ⟨p, rfl⟩ : ∃ p, k = 2 * p := ⟨k / 2, by omega⟩
      rw [en_even (by omega)]
      cases p with
      | zero => rfl
      | succ p =>
        rw [show 2 * (p + 1) = 2 * p + 1 + 1 by omega, List.getElem?_cons_succ, List.getElem?_append_left (by omega), (pairs_at eL eR xs p).2, En_at v (by omega)]
        rfl
    · obtain ⟨p, rfl⟩ : ∃ p, k = 2 * p + 1 := ⟨k / 2, by omega⟩
      rw [en_odd (by omega), List.getElem?_cons_succ]
      by_cases cl : p < xs.length
      · rw [List.getElem?_append_left (by omega), (pairs_at eL eR xs p).1, En_at v cl]
        rfl
      · have : p = xs.length := by omega
        subst this
        rw [List.getElem?_append_right (by omega), hF, Nat.sub_self, show ((xs.length + 1 : Nat) : Int) = N + 1 by omega, E_last hn]
        unfold eL
        rw [if_pos (by have := v.lo; omega)]
        show some (2 * (N + 1).toNat - 1) = some (2 * xs.length + 1)
        congr 1
        omega
  · rw [List.getElem?_eq_none (by rw [en_len]; omega), List.getElem?_eq_none (by simp only [List.length_cons, List.length_append, List.length_nil, hF]; omega)]
def phE (w : Int) : List PyData := if 0 < w then [.int (2 * w - 1), .int (2 * w)] else [.int (0 - 2 * w), .int (0 - 2 * w - 1)]
theorem phE_ok {w : Int} (h : w ≠ 0) : phE w = zd [eL w, eR w] := by
  unfold phE zd zi eL eR
  by_cases c : 0 < w
  · rw [if_pos c, if_pos c, if_pos c]
    simp only [List.map_cons, List.map_nil]
    rw [show ((2 * w.toNat - 1 : Nat) : Int) = 2 * w - 1 by omega, show ((2 * w.toNat : Nat) : Int) = 2 * w by omega]
  · rw [if_neg c, if_neg c, if_neg c]
    simp only [List.map_cons, List.map_nil]
    rw [show ((2 * (-w).toNat : Nat) : Int) = 0 - 2 * w by omega, show ((2 * (-w).toNat - 1 : Nat) : Int) = 0 - 2 * w - 1 by omega]
theorem phE_all : ∀ (l : List Int), (∀ w ∈ l, w ≠ 0) → l.flatMap phE = zd (l.flatMap fun w => [eL w, eR w])
  | [], _ => rfl
  | w :: t, h => by
    rw [List.flatMap_cons, List.flatMap_cons, phE_ok (h w List.mem_cons_self), phE_all t fun x m => h x (List.mem_cons_of_mem _ m)]
    unfold zd zi
    rw [← List.map_append, ← List.map_append]
theorem g_mulI {w : Int} (h : w.natAbs < 1000000) (S : Sto) : oInt MI.gMul (.d (.int 2)) (.d (.int w)) S = .ok (.d (.int (2 * w))) S := by
  have k : (2 : Int).natAbs < 2 ^ 2000 ∧ w.natAbs < 2 ^ 2000 := ⟨by decide, by
    have : w.natAbs < 2 ^ 20 := by omega
    exact Nat.lt_of_lt_of_le this (Nat.pow_le_pow_right (by decide) (by decide))⟩
  simp only [oInt, gMul]
  rw [if_pos k]
theorem ends_by_ok (v : VR xs N) : f_ends_by [ti xs] [] = .ok (.d (.list (zd (en xs N)))) [.lst (.int 0 :: xs.flatMap phE)] := by
  have hL := len_tiD v.len
  have hn := v.len
  have hs := v.small
  obtain ⟨h, hI⟩ := forL_ei (g := gNm 2) (b := ends_by_2b) (xs := xs) PyData.int (σ := List PyData × Option IV)
    (fun s => [some (ti xs), some (.ref 0), s.2]) (fun s => [.lst s.1])
    (fun s w => (s.1 ++ phE w, some (.d (.int w))))
    (fun i s => s.1.length ≤ 2 * i + 1) (fun i s w hw hi => by
      have hlt := (List.getElem?_eq_some_iff.mp hw).1
      have hb := v.big (List.mem_of_getElem? hw)
      have hm := g_mulI (w := w) (by omega) [.lst s.1]
      have hlen : (phE w).length = 2 := by unfold phE; split <;> rfl
      have hx := ext_ok (S := [.lst s.1]) (n := 0) (acc := s.1) (ys := phE w) rfl (by omega)
      refine ⟨?_, by rw [List.length_append, hlen]; omega⟩
      show ends_by_2b [some (ti xs), some (.ref 0), some (.d (.int w))] [.lst s.1] = _
      unfold ends_by_2b ends_by_2_1
      have ml2 : ∀ (S : Sto) (x y : PyData), mkLst [.d x, .d y] S = .ok (.d (.list [x, y])) S := fun _ _ _ => rfl
      have ty : tyOk "list" [.lst s.1] (.ref 0) = true := rfl
      by_cases c : 0 < w
      · have g : cInt MI.gGt (.d (.int w)) (.d (.int 0)) [.lst s.1] = .ok (.d (.bool true)) [.lst s.1] := by simp [c]
        have e : phE w = [.int (2 * w - 1), .int (2 * w)] := if_pos c
        rw [e] at hx ⊢
        unfold eIf
        simp only [sCons, sRet, sSet, sEx, sNil, tE, tNt, tAn, tOr', eApp, eOp2, eOp1, eVar, eC, eLst, eTup, eSl, eRev, aCons, aNil, pNo, pSm, callN, eAn, eOr, eNt, asB, bind_ok_, to_ok_, seq_nx_, seq_ret_, fin_ret_, fin_nx_, i_add, i_sub, i_neg, lstOf, tupOf, List.getElem?_cons_succ, List.getElem?_cons_zero, List.set_cons_succ, List.set_cons_zero, List.length_cons, List.length_nil, if_true, eMt, ty, g, hm, ml2, hx]
      · have g : cInt MI.gGt (.d (.int w)) (.d (.int 0)) [.lst s.1] = .ok (.d (.bool false)) [.lst s.1] := by simp [c]
        have e : phE w = [.int (0 - 2 * w), .int (0 - 2 * w - 1)] := if_neg c
        rw [e] at hx ⊢
        unfold eIf
        simp only [sCons, sRet, sSet, sEx, sNil, tE, tNt, tAn, tOr', eApp, eOp2, eOp1, eVar, eC, eLst, eTup, eSl, eRev, aCons, aNil, pNo, pSm, callN, eAn, eOr, eNt, asB, bind_ok_, to_ok_, seq_nx_, seq_ret_, fin_ret_, fin_nx_, i_add, i_sub, i_neg, lstOf, tupOf, List.getElem?_cons_succ, List.getElem?_cons_zero, List.set_cons_succ, List.set_cons_zero, List.length_cons, List.length_nil, if_true, eMt, ty, g, hm, ml2, hx, Bool.false_eq_true, if_false]) (s := ([.int 0], none)) (by simp)
  have ha := foldl_ext phE (fun (s : List PyData × Option IV) (w : Int) => (s.1 ++ phE w, some (IV.d (.int w)))) (fun _ _ => rfl) xs ([.int 0], none)
  have u : ∀ fs : FS, fnB 3 fs [ti xs] [] = (fs [some (ti xs), none, none] []).fin := fun _ => rfl
  have s1 : ends_by_1 [some (ti xs), none, none] [] = .nx [some (ti xs), some (.ref 0), none] [.lst [.int 0]] := rfl
  have hi : ends_by_2i [some (ti xs), some (.ref 0), none] [.lst [.int 0]] = .ok (xs.map .int) [.lst [.int 0]] := iSeq_ok (v := ti xs) rfl rfl (by rw [List.length_map]; exact small_line (by omega))
  rw [ends_by_eq, u]
  unfold ends_byb
  rw [sc_nx s1]
  unfold ends_by_2
  rw [sc_nx ((sf_eq hi).trans h)]
  dsimp only at ha ⊢
  rw [ha]
  have em := phE_all xs fun w hw => (v.big hw).1
  have e2 : zd (en xs N) = (.int 0 :: xs.flatMap phE) ++ [.int (2 * N + 1)] := by
    rw [en_list v, em]
    unfold zd zi
    simp only [List.map_cons, List.map_append, List.map_nil, List.cons_append]
    rw [show ((2 * xs.length + 1 : Nat) : Int) = 2 * N + 1 by omega]
    rfl
  have hlen : (.int 0 :: xs.flatMap phE : List PyData).length ≤ 100 := by
    rw [List.length_cons, em]
    unfold zd zi
    rw [List.length_map, List.length_map, pairs_len]
    omega
  have it : itemsOf (.ref 0) [.lst (.int 0 :: xs.flatMap phE)] = some (.int 0 :: xs.flatMap phE) := rfl
  have hm := g_mulI (w := N) (by have := v.hi; have := v.lo; omega) [.lst (.int 0 :: xs.flatMap phE)]
  have ml : mkLst ((.int 0 :: xs.flatMap phE : List PyData).map IV.d ++ [.d (.int (2 * N + 1))]) [.lst (.int 0 :: xs.flatMap phE)] = .ok (.d (.list (zd (en xs N)))) [.lst (.int 0 :: xs.flatMap phE)] := by
    have : (.int 0 :: xs.flatMap phE : List PyData).map IV.d ++ [.d (.int (2 * N + 1))] = (zd (en xs N)).map IV.d := by rw [e2, List.map_append]; rfl
    rw [this]
    unfold mkLst
    rw [datas_d, if_pos (by rw [List.length_map, e2, List.length_append]; simp only [List.length_cons, List.length_nil] at hlen ⊢; omega)]
  unfold ends_by_3
  have st : ([PyData.int 0], (none : Option IV)).1 ++ xs.flatMap phE = .int 0 :: xs.flatMap phE := rfl
  rw [st]
  simp only [sCons, sRet, sSet, sEx, sNil, tE, tNt, tAn, tOr', eApp, eOp2, eOp1, eVar, eC, eLst, eTup, eSl, eRev, aCons, aNil, pNo, pSm, callN, eAn, eOr, eNt, asB, bind_ok_, to_ok_, seq_nx_, seq_ret_, fin_ret_, fin_nx_, i_add, i_sub, i_neg, lstOf, tupOf, List.getElem?_cons_succ, List.getElem?_cons_zero, List.set_cons_succ, List.set_cons_zero, List.length_cons, List.length_nil, if_true, aStar, it, hL, hm, ml]
theorem k_ends_by (v : VR xs N) (S : Sto) : callW backW f_ends_by [ti xs] S = .ok (.d (.list (zd (en xs N)))) S := call_pure (is := [ti xs]) rfl (ends_by_ok v) rfl
theorem k_places (v : VR xs N) (S : Sto) : callW backW f_places_of [.d (.list (zd (en xs N)))] S = .ok (.d (.dict (pd (en xs N) 0))) S :=
  call_pure (is := [.d (.list (zd (en xs N)))]) rfl (places_ok (ep_of v).nd (by rw [en_len]; have := v.small; omega)) rfl
theorem k_mate (e : Nat) (S : Sto) : callW backW f_mate_of [.d (.int (e : Nat))] S = .ok (.d (.int (xr e : Nat))) S := call_pure (is := [.d (.int (e : Nat))]) rfl (mate_ok e) rfl
theorem k_ends_of (v : VR xs N) (S : Sto) : callW backW f_ends_of [ti xs] S = .ok (.d (.tuple (zd (en xs N)))) S := by
  refine call_pure (is := [ti xs]) (T := []) rfl ?_ rfl
  simp [f_ends_of, k_check v, k_ends_by v]
/-- the end at a place, the place of an end -/
theorem ix_en (v : VR xs N) {j : Nat} (h : j < 2 * (xs.length + 1)) (S : Sto) : oIxD (.d (.list (zd (en xs N)))) (.d (.int (j : Nat))) S = .ok (.d (.int (at' (en xs N) j : Nat))) S := by
  refine oIx_lst S (by omega) ?_
  have := (ep_of v).at_some h
  unfold zd zi
  rw [List.getElem?_map, List.getElem?_map, Int.toNat_natCast, this]
  rfl
theorem ix_pl (v : VR xs N) {e : Nat} (h : e < 2 * (xs.length + 1)) (S : Sto) : oIxD (.d (.dict (pd (en xs N) 0))) (.d (.int (e : Nat))) S = .ok (.d (.int (pl (en xs N) e : Nat))) S := by
  have := pd_at (o := 0) ((ep_of v).all h)
  rw [Nat.zero_add] at this
  simp only [oIxD, dctOf]
  rw [if_pos (show kOk false (.int (e : Nat)) = true from rfl), this]
  rfl
end
end GA
set_option maxRecDepth 100000
set_option maxHeartbeats 4000000
namespace GA
open PySem L2 MI GM
/-! ## the rings of a row -/
theorem zd_app (a b : List Nat) : zd (a ++ b) = zd a ++ zd b := by unfold zd zi; rw [List.map_append, List.map_append]
def kd (K : List Nat) : List (PyData × PyData) := K.map fun (k : Nat) => (PyData.int (k : Int), PyData.bool true)
theorem kd_at (k : Nat) : ∀ K : List Nat, dAt (kd K) (.int (k : Nat)) = if k ∈ K then some (.bool true) else none
  | [] => rfl
  | x :: t => by
    unfold kd
    rw [List.map_cons]
    unfold dAt
    rw [kb_int]
    by_cases z : x = k
    · subst z
      rw [decide_eq_true rfl, if_pos rfl, if_pos List.mem_cons_self]
    · have ih := kd_at k t
      unfold kd at ih
      rw [decide_eq_false (fun q : (x : Int) = (k : Int) => z (Int.ofNat.inj q)), if_neg (by decide), ih]
      by_cases c : k ∈ t
      · rw [if_pos c, if_pos (List.mem_cons_of_mem _ c)]
      · rw [if_neg c, if_neg fun h => (List.mem_cons.mp h).elim (fun e => z e.symm) c]
theorem kd_put {k : Nat} {K : List Nat} (h : k ∉ K) : dPut (kd K) (.int (k : Nat)) (.bool true) = kd (K ++ [k]) := by
  unfold dPut
  rw [kd_at, if_neg h]
  unfold kd
  rw [List.map_append]
  rfl
def TS (K : List Nat) (F : List PyData) (rest : Sto) (Q : List Nat) : Sto := .dct (kd K) :: .lst F :: (rest ++ [.lst (zd Q)])
section
variable {xs ys : List Int} {N f l : Int} {S : Sto} {K Q : List Nat} {F : List PyData} {rest : Sto}
theorem ts_q : (TS K F rest Q)[rest.length + 2]? = some (.lst (zd Q)) := by
  unfold TS
  rw [List.getElem?_cons_succ, List.getElem?_cons_succ, List.getElem?_append_right (Nat.le_refl _), Nat.sub_self]
  rfl
theorem ts_set (D : List PyData) : (TS K F rest Q).set (rest.length + 2) (.lst D) = .dct (kd K) :: .lst F :: (rest ++ [.lst D]) := by
  unfold TS
  rw [List.set_cons_succ, List.set_cons_succ, List.set_append_right _ _ (Nat.le_refl _), Nat.sub_self]
  rfl
theorem in_known (neg : Bool) (k : Nat) {r : Sto} : cInF true (.d (.int (k : Nat))) (.ref 0) (.dct (kd K) :: r) = .ok (.d (.bool (!decide (k ∈ K)))) (.dct (kd K) :: r) := by
  unfold cInF
  simp only [dctOf, List.getElem?_cons_zero]
  rw [show kOk false (.int (k : Nat)) = true from rfl, dAtF_eq, kd_at]
  by_cases c : k ∈ K
  · rw [if_pos c, decide_eq_true c]
    rfl
  · rw [if_neg c, decide_eq_false c]
    rfl
def pts (es : List Nat) (b k : Nat) : List Nat := (List.range k).map fun j => it (sg es) j (2 * b) / 2
theorem pts_succ (es : List Nat) (b k : Nat) : pts es b (k + 1) = pts es b k ++ [it (sg es) k (2 * b) / 2] := by
  unfold pts
  rw [List.range_succ, List.map_append]
  rfl
/-- one ring is walked -/
theorem ring_walk (v : VR xs N) {b : Nat} (hb : b < xs.length + 1) (hK : ∀ p, p ∈ K → p < xs.length + 1 ∧ ¬ R (en xs N) (2 * b) (2 * p)) (hKl : K.length ≤ 1000) {p8 : Option IV} :
    ∃ q8, rings_of_3_1_2 [some (ti xs), some (.d (.list (zd (en xs N)))), some (.d (.int (b : Nat))), some (.d (.dict (pd (en xs N) 0))), some (.ref 0), some (.ref 1), some (.ref (rest.length + 2)), some (.d (.int (2 * b : Nat))), p8] (TS K F rest []) =
      .nx [some (ti xs), some (.d (.list (zd (en xs N)))), some (.d (.int (b : Nat))), some (.d (.dict (pd (en xs N) 0))), some (.ref 0), some (.ref 1), some (.ref (rest.length + 2)), some (.d (.int (2 * b : Nat))), q8]
        (TS (K ++ ring (xs.length + 1) (en xs N) b) F rest (ring (xs.length + 1) (en xs N) b)) := by
  have h := ep_of v
  have hs := v.small
  obtain ⟨es, hes⟩ : ∃ es, es = en xs N := ⟨_, rfl⟩
  rw [← hes] at h hK ⊢
  have x0 : 2 * b < 2 * (xs.length + 1) := by omega
  obtain ⟨n, hn⟩ : ∃ n, n = per (xs.length + 1) es (2 * b) := ⟨_, rfl⟩
  have hn1 := (h.per_ok x0).1
  have hn0 := per_pos (xs.length + 1) es (2 * b)
  rw [← hn] at hn1 hn0
  let q8 : Nat → Option IV := fun k => match k with
    | 0 => p8
    | k + 1 => some (.d (.int (xr (it (sg es) k (2 * b)) : Nat)))
  let Rk : Nat → Rho := fun k => [some (ti xs), some (.d (.list (zd es))), some (.d (.int (b : Nat))), some (.d (.dict (pd es 0))), some (.ref 0), some (.ref 1), some (.ref (rest.length + 2)), some (.d (.int (it (sg es) k (2 * b) : Nat))), q8 k]
  let Tk : Nat → Sto := fun k => TS (K ++ pts es b k) F rest (pts es b k)
  have e0 : Rk 0 = [some (ti xs), some (.d (.list (zd es))), some (.d (.int (b : Nat))), some (.d (.dict (pd es 0))), some (.ref 0), some (.ref 1), some (.ref (rest.length + 2)), some (.d (.int (2 * b : Nat))), p8] := rfl
  have e1 : Tk 0 = TS K F rest [] := by show TS (K ++ []) F rest [] = _; rw [List.append_nil]
  have hring : ring (xs.length + 1) es b = pts es b n := by unfold ring pts; rw [hn]
  have test : ∀ k (r : Option IV), rings_of_3_1_2t [some (ti xs), some (.d (.list (zd es))), some (.d (.int (b : Nat))), some (.d (.dict (pd es 0))), some (.ref 0), some (.ref 1), some (.ref (rest.length + 2)), some (.d (.int (it (sg es) k (2 * b) : Nat))), r] (Tk k) =
      .ok (!decide (it (sg es) k (2 * b) / 2 ∈ K ++ pts es b k) || !decide (it (sg es) k (2 * b) = 2 * b)) (Tk k) := fun k r => by
    have i1 := in_known (K := K ++ pts es b k) (r := .lst F :: (rest ++ [.lst (zd (pts es b k))])) true (it (sg es) k (2 * b) / 2)
    have d2 := g_div2 (it (sg es) k (2 * b)) (Tk k)
    have m2 := g_mul2 b (by omega) (Tk k)
    have ce := cNeL_int ((it (sg es) k (2 * b) : Nat) : Int) ((2 * b : Nat) : Int) (Tk k)
    have i1 : cInF true (.d (.int (it (sg es) k (2 * b) / 2 : Nat))) (.ref 0) (Tk k) = .ok (.d (.bool (!decide (it (sg es) k (2 * b) / 2 ∈ K ++ pts es b k)))) (Tk k) := i1
    unfold rings_of_3_1_2t
    have de : decide (((it (sg es) k (2 * b) : Nat) : Int) = ((2 * b : Nat) : Int)) = decide (it (sg es) k (2 * b) = 2 * b) := by
      rw [decide_eq_decide]
      omega
    rw [de] at ce
    cases hc : decide (it (sg es) k (2 * b) / 2 ∈ K ++ pts es b k) with
    | false =>
      rw [hc] at i1
      simp only [sCons, sRet, sSet, sEx, sNil, tE, tNt, tAn, tOr', eApp, eOp2, eOp1, eVar, eC, eLst, eTup, eSl, eRev, aCons, aNil, pNo, pSm, callN, eAn, eOr, eNt, asB, bind_ok_, to_ok_, seq_nx_, seq_ret_, fin_ret_, fin_nx_, i_add, i_sub, i_neg, lstOf, tupOf, List.getElem?_cons_succ, List.getElem?_cons_zero, List.set_cons_succ, List.set_cons_zero, List.length_cons, List.length_nil, if_true, d2, i1, m2, ce, Bool.not_false, Bool.true_or]
    | true =>
      rw [hc] at i1
      simp only [sCons, sRet, sSet, sEx, sNil, tE, tNt, tAn, tOr', eApp, eOp2, eOp1, eVar, eC, eLst, eTup, eSl, eRev, aCons, aNil, pNo, pSm, callN, eAn, eOr, eNt, asB, bind_ok_, to_ok_, seq_nx_, seq_ret_, fin_ret_, fin_nx_, i_add, i_sub, i_neg, lstOf, tupOf, List.getElem?_cons_succ, List.getElem?_cons_zero, List.set_cons_succ, List.set_cons_zero, List.length_cons, List.length_nil, if_true, d2, i1, m2, ce, Bool.not_true, Bool.false_or, Bool.false_eq_true, if_false]
  have main := swh_steps (t := rings_of_3_1_2t) (b := rings_of_3_1_2b) Rk Tk n (by omega) (fun k hk => ?_) ?_
  · refine ⟨q8 n, ?_⟩
    have e2 : Rk n = [some (ti xs), some (.d (.list (zd es))), some (.d (.int (b : Nat))), some (.d (.dict (pd es 0))), some (.ref 0), some (.ref 1), some (.ref (rest.length + 2)), some (.d (.int (2 * b : Nat))), q8 n] := by
      show [some (ti xs), some (IV.d (.list (zd es))), some (IV.d (.int (b : Nat))), some (IV.d (.dict (pd es 0))), some (IV.ref 0), some (IV.ref 1), some (IV.ref (rest.length + 2)), some (IV.d (.int (it (sg es) n (2 * b) : Nat))), q8 n] = _
      rw [hn, (h.per_ok x0).2.1]
    have e3 : Tk n = TS (K ++ ring (xs.length + 1) es b) F rest (ring (xs.length + 1) es b) := by rw [hring]
    rw [← e0, ← e1, ← e2, ← e3]
    exact main
  · -- a step
    have lk := h.it_lt x0 k
    have hdiv : it (sg es) k (2 * b) / 2 < xs.length + 1 := by omega
    have nK : it (sg es) k (2 * b) / 2 ∉ K := fun z => (hK _ z).2 ((show R es (2 * b) (it (sg es) k (2 * b)) from ⟨k, .inl rfl⟩).half (by omega))
    have nP : it (sg es) k (2 * b) / 2 ∉ pts es b k := fun z => by
      unfold pts at z
      obtain ⟨j, hj, e⟩ := List.mem_map.mp z
      exact h.pt_ne x0 (List.mem_range.mp hj) (by omega) e
    have nKP : it (sg es) k (2 * b) / 2 ∉ K ++ pts es b k := fun z => (List.mem_append.mp z).elim nK nP
    refine ⟨?_, ?_⟩
    · show rings_of_3_1_2t [some (ti xs), _, _, _, _, _, _, _, q8 k] (Tk k) = _
      rw [test, decide_eq_false nKP]
      rfl
    · have d2 := g_div2 (it (sg es) k (2 * b))
      have lp : (pts es b k).length = k := by unfold pts; rw [List.length_map, List.length_range]
      have put : stPutF (.ref 0) (.d (.int (it (sg es) k (2 * b) / 2 : Nat))) (.d (.bool true)) (Tk k) = some (TS (K ++ pts es b (k + 1)) F rest (pts es b k)) := by
        rw [stPutF_eq]
        show (if kOk false (.int (it (sg es) k (2 * b) / 2 : Nat)) = true ∧ (kd (K ++ pts es b k)).length < sizeLine then some (List.set (Tk k) 0 (.dct (dPut (kd (K ++ pts es b k)) (.int (it (sg es) k (2 * b) / 2 : Nat)) (.bool true)))) else none) = _
        rw [if_pos ⟨rfl, by unfold kd; rw [List.length_map, List.length_append, lp]; exact small_line (by omega)⟩, kd_put nKP, pts_succ, List.append_assoc]
        rfl
      have app := app_ok (S := TS (K ++ pts es b (k + 1)) F rest (pts es b k)) (n := rest.length + 2) (d := .int (it (sg es) k (2 * b) / 2 : Nat)) ts_q (by simp [zi, lp]; omega)
      rw [ts_set] at app
      have e4 : zd (pts es b k) ++ [.int (it (sg es) k (2 * b) / 2 : Nat)] = zd (pts es b (k + 1)) := by rw [pts_succ, zd_app]; rfl
      rw [e4] at app
      have ty : tyOk "list" (TS (K ++ pts es b (k + 1)) F rest (pts es b k)) (.ref (rest.length + 2)) = true := by
        simp only [tyOk, ts_q]
        rfl
      obtain ⟨T2, hT2⟩ : ∃ T, T = Tk (k + 1) := ⟨_, rfl⟩
      have app : mApp (.ref (rest.length + 2)) [.d (.int (it (sg es) k (2 * b) / 2 : Nat))] (TS (K ++ pts es b (k + 1)) F rest (pts es b k)) = .ok (.d .none) T2 := by rw [hT2]; exact app
      have m2 := g_mod2 (it (sg es) k (2 * b)) T2
      have ce := cEqL_int ((it (sg es) k (2 * b) % 2 : Nat) : Int) 0 T2
      have la := xr_lt lk
      have a1 : oIxD (.d (.list (zd es))) (.d (.int (xr (it (sg es) k (2 * b)) : Nat))) T2 = .ok (.d (.int (at' es (xr (it (sg es) k (2 * b))) : Nat))) T2 := by
        have := ix_en v la T2
        rw [← hes] at this
        exact this
      have a2 := k_mate (at' es (xr (it (sg es) k (2 * b)))) T2
      have a3 : oIxD (.d (.dict (pd es 0))) (.d (.int (xr (at' es (xr (it (sg es) k (2 * b)))) : Nat))) T2 = .ok (.d (.int (sg es (it (sg es) k (2 * b)) : Nat))) T2 := by
        have := ix_pl v (e := xr (at' es (xr (it (sg es) k (2 * b))))) (xr_lt (h.at_lt la)) T2
        rw [← hes] at this
        exact this
      have e5 : it (sg es) (k + 1) (2 * b) = sg es (it (sg es) k (2 * b)) := it_succ _ _ _
      have s3 : ∀ r : Option IV, rings_of_3_1_2_3 [some (ti xs), some (.d (.list (zd es))), some (.d (.int (b : Nat))), some (.d (.dict (pd es 0))), some (.ref 0), some (.ref 1), some (.ref (rest.length + 2)), some (.d (.int (it (sg es) k (2 * b) : Nat))), r] T2 =
          .nx [some (ti xs), some (.d (.list (zd es))), some (.d (.int (b : Nat))), some (.d (.dict (pd es 0))), some (.ref 0), some (.ref 1), some (.ref (rest.length + 2)), some (.d (.int (it (sg es) k (2 * b) : Nat))), some (.d (.int (xr (it (sg es) k (2 * b)) : Nat)))] T2 := fun r => by
        unfold rings_of_3_1_2_3 xr
        by_cases c : it (sg es) k (2 * b) % 2 = 0
        · rw [decide_eq_true (by omega)] at ce
          rw [if_pos c]
          unfold eIf
          simp only [sCons, sRet, sSet, sEx, sNil, tE, tNt, tAn, tOr', eApp, eOp2, eOp1, eVar, eC, eLst, eTup, eSl, eRev, aCons, aNil, pNo, pSm, callN, eAn, eOr, eNt, asB, bind_ok_, to_ok_, seq_nx_, seq_ret_, fin_ret_, fin_nx_, i_add, i_sub, i_neg, lstOf, tupOf, List.getElem?_cons_succ, List.getElem?_cons_zero, List.set_cons_succ, List.set_cons_zero, List.length_cons, List.length_nil, if_true, m2, ce]
          rfl
        · rw [decide_eq_false (by omega)] at ce
          rw [if_neg c, show ((it (sg es) k (2 * b) - 1 : Nat) : Int) = (it (sg es) k (2 * b) : Int) - 1 by omega]
          unfold eIf
          simp only [sCons, sRet, sSet, sEx, sNil, tE, tNt, tAn, tOr', eApp, eOp2, eOp1, eVar, eC, eLst, eTup, eSl, eRev, aCons, aNil, pNo, pSm, callN, eAn, eOr, eNt, asB, bind_ok_, to_ok_, seq_nx_, seq_ret_, fin_ret_, fin_nx_, i_add, i_sub, i_neg, lstOf, tupOf, List.getElem?_cons_succ, List.getElem?_cons_zero, List.set_cons_succ, List.set_cons_zero, List.length_cons, List.length_nil, if_true, m2, ce, Bool.false_eq_true, if_false]
      show rings_of_3_1_2b [some (ti xs), some (.d (.list (zd es))), some (.d (.int (b : Nat))), some (.d (.dict (pd es 0))), some (.ref 0), some (.ref 1), some (.ref (rest.length + 2)), some (.d (.int (it (sg es) k (2 * b) : Nat))), q8 k] (Tk k) =
        .nx [some (ti xs), some (.d (.list (zd es))), some (.d (.int (b : Nat))), some (.d (.dict (pd es 0))), some (.ref 0), some (.ref 1), some (.ref (rest.length + 2)), some (.d (.int (it (sg es) (k + 1) (2 * b) : Nat))), some (.d (.int (xr (it (sg es) k (2 * b)) : Nat)))] (Tk (k + 1))
      rw [← hT2, e5]
      have s1 : rings_of_3_1_2_1 [some (ti xs), some (.d (.list (zd es))), some (.d (.int (b : Nat))), some (.d (.dict (pd es 0))), some (.ref 0), some (.ref 1), some (.ref (rest.length + 2)), some (.d (.int (it (sg es) k (2 * b) : Nat))), q8 k] (Tk k) =
          .nx [some (ti xs), some (.d (.list (zd es))), some (.d (.int (b : Nat))), some (.d (.dict (pd es 0))), some (.ref 0), some (.ref 1), some (.ref (rest.length + 2)), some (.d (.int (it (sg es) k (2 * b) : Nat))), q8 k] (TS (K ++ pts es b (k + 1)) F rest (pts es b k)) := by
        unfold rings_of_3_1_2_1 gSbF
        simp only [sCons, sRet, sSet, sEx, sNil, tE, tNt, tAn, tOr', eApp, eOp2, eOp1, eVar, eC, eLst, eTup, eSl, eRev, aCons, aNil, pNo, pSm, callN, eAn, eOr, eNt, asB, bind_ok_, to_ok_, seq_nx_, seq_ret_, fin_ret_, fin_nx_, i_add, i_sub, i_neg, lstOf, tupOf, List.getElem?_cons_succ, List.getElem?_cons_zero, List.set_cons_succ, List.set_cons_zero, List.length_cons, List.length_nil, if_true, sAs, d2, put]
      have s2 : rings_of_3_1_2_2 [some (ti xs), some (.d (.list (zd es))), some (.d (.int (b : Nat))), some (.d (.dict (pd es 0))), some (.ref 0), some (.ref 1), some (.ref (rest.length + 2)), some (.d (.int (it (sg es) k (2 * b) : Nat))), q8 k] (TS (K ++ pts es b (k + 1)) F rest (pts es b k)) =
          .nx [some (ti xs), some (.d (.list (zd es))), some (.d (.int (b : Nat))), some (.d (.dict (pd es 0))), some (.ref 0), some (.ref 1), some (.ref (rest.length + 2)), some (.d (.int (it (sg es) k (2 * b) : Nat))), q8 k] T2 := by
        unfold rings_of_3_1_2_2
        simp only [sCons, sRet, sSet, sEx, sNil, tE, tNt, tAn, tOr', eApp, eOp2, eOp1, eVar, eC, eLst, eTup, eSl, eRev, aCons, aNil, pNo, pSm, callN, eAn, eOr, eNt, asB, bind_ok_, to_ok_, seq_nx_, seq_ret_, fin_ret_, fin_nx_, i_add, i_sub, i_neg, lstOf, tupOf, List.getElem?_cons_succ, List.getElem?_cons_zero, List.set_cons_succ, List.set_cons_zero, List.length_cons, List.length_nil, if_true, eMt, ty, d2, app]
      unfold rings_of_3_1_2b
      rw [sc_nx s1, sc_nx s2, sc_nx (s3 _)]
      unfold rings_of_3_1_2_4
      simp only [sCons, sRet, sSet, sEx, sNil, tE, tNt, tAn, tOr', eApp, eOp2, eOp1, eVar, eC, eLst, eTup, eSl, eRev, aCons, aNil, pNo, pSm, callN, eAn, eOr, eNt, asB, bind_ok_, to_ok_, seq_nx_, seq_ret_, fin_ret_, fin_nx_, i_add, i_sub, i_neg, lstOf, tupOf, List.getElem?_cons_succ, List.getElem?_cons_zero, List.set_cons_succ, List.set_cons_zero, List.length_cons, List.length_nil, if_true, a1, a2, a3]
  · -- the end
    have hin : it (sg es) n (2 * b) / 2 ∈ K ++ pts es b n := by
      rw [hn, (h.per_ok x0).2.1, ← hn]
      refine List.mem_append_right _ (List.mem_map.mpr ⟨0, List.mem_range.mpr hn0, rfl⟩)
    show rings_of_3_1_2t [some (ti xs), _, _, _, _, _, _, _, q8 n] (Tk n) = _
    rw [test, decide_eq_true hin, hn, (h.per_ok x0).2.1, decide_eq_true rfl]
    rfl
end
end GA
set_option maxRecDepth 100000
set_option maxHeartbeats 4000000
namespace GA
open PySem L2 MI GM
section
variable {xs ys : List Int} {N f l : Int} {S : Sto}
/-- tuples of points -/
def tz (T : List Nat) : PyData := .tuple (zd T)
theorem sort_ref {l : List Nat} {n : Nat} {S : Sto} (h : S[n]? = some (.lst (zd l))) : bSortA [.ref n] S = .ok (.d (.list ((isort (zi l)).map .int))) S := by
  unfold bSortA
  simp only [sintsOf, seqOf, lstOf, h, intsOf_map]
def rgs (xs : List Int) (N : Int) : List (List Nat) := ringsF (xs.length + 1) (en xs N)
theorem heads_succ (m : Nat) (es : List Nat) (i : Nat) : GM.heads m es (i + 1) = GM.heads m es i ++ if isHead m es i = true then [i] else [] := by
  unfold GM.heads
  rw [List.range_succ, List.filter_append]
  congr 1
  by_cases h : isHead m es i = true
  · simp [h]
  · simp [h]
theorem rings_of_ok (v : VR xs N) : ∃ T, f_rings_of [ti xs] [] = .ok (.ref 1) T ∧ T[1]? = some (.lst ((rgs xs N).map tz)) := by
  have h := ep_of v
  have hL := len_tiD v.len
  have hn := v.len
  have hs := v.small
  obtain ⟨m, hm⟩ : ∃ m, m = xs.length + 1 := ⟨_, rfl⟩
  obtain ⟨es, hes⟩ : ∃ es, es = en xs N := ⟨_, rfl⟩
  have h' := h
  rw [← hm, ← hes] at h'
  have hi : ∀ (p2 p6 p7 p8 : Option IV) (S : Sto), rings_of_3i [some (ti xs), some (.d (.list (zd es))), p2, some (.d (.dict (pd es 0))), some (.ref 0), some (.ref 1), p6, p7, p8] S = .ok ((rgI 0 (N + 1)).map .int) S := fun p2 p6 p7 p8 S => by
    unfold rings_of_3i
    rw [← rngD_rg]
    exact iR1_ok (by simp only [sCons, sRet, sSet, sEx, sNil, tE, tNt, tAn, tOr', eApp, eOp2, eOp1, eVar, eC, eLst, eTup, eSl, eRev, aCons, aNil, pNo, pSm, callN, eAn, eOr, eNt, asB, bind_ok_, to_ok_, seq_nx_, seq_ret_, fin_ret_, fin_nx_, i_add, i_sub, i_neg, lstOf, tupOf, List.getElem?_cons_succ, List.getElem?_cons_zero, List.set_cons_succ, List.set_cons_zero, List.length_cons, List.length_nil, if_true, hL]) (by have := v.hi; have := v.lo; omega)
  obtain ⟨r', S', e, K, F, rst, p2, p6, p7, p8, e1, e2, e3, e4, e5⟩ := forL_inv (g := gNm 2) (b := rings_of_3b) (ds := (rgI 0 (N + 1)).map .int)
    (fun i r S => ∃ (K : List Nat) (F : List PyData) (rst : Sto) (p2 p6 p7 p8 : Option IV), r = [some (ti xs), some (.d (.list (zd es))), p2, some (.d (.dict (pd es 0))), some (.ref 0), some (.ref 1), p6, p7, p8] ∧ S = .dct (kd K) :: .lst F :: rst ∧
      (∀ p, p ∈ K ↔ p < m ∧ ∃ c, c < i ∧ c < m ∧ R es (2 * c) (2 * p)) ∧ F = ((GM.heads m es i).map (cls m es)).map tz ∧ K.Nodup)
    (fun i r S d hd ⟨K, F, rst, p2, p6, p7, p8, e1, e2, e3, e4, e5⟩ => by
      have hlt := (List.getElem?_eq_some_iff.mp hd).1
      rw [List.length_map, len_rgI] at hlt
      have hd : d = .int (i : Nat) := by
        rw [List.getElem?_map, at_rgI (by omega)] at hd
        have := Option.some.inj hd
        rw [← this]
        congr 1
        omega
      subst hd e1 e2
      have hi : i < m := by omega
      have hK : ∀ p ∈ K, p < m := fun p hp => ((e3 p).mp hp).1
      have hKl : K.length ≤ m := by
        have := List.Nodup.length_le_of_subset e5 (fun p hp => List.mem_range.mpr (hK p hp) : K ⊆ List.range m)
        rwa [List.length_range] at this
      have hgo : (gNm 2) (.d (.int (i : Nat))) [some (ti xs), some (.d (.list (zd es))), p2, some (.d (.dict (pd es 0))), some (.ref 0), some (.ref 1), p6, p7, p8] (.dct (kd K) :: .lst F :: rst) =
        .nx [some (ti xs), some (.d (.list (zd es))), some (.d (.int (i : Nat))), some (.d (.dict (pd es 0))), some (.ref 0), some (.ref 1), p6, p7, p8] (.dct (kd K) :: .lst F :: rst) := rfl
      rw [hgo]
      have ik := in_known (K := K) (r := .lst F :: rst) true i
      have tt : rings_of_3_1t [some (ti xs), some (.d (.list (zd es))), some (.d (.int (i : Nat))), some (.d (.dict (pd es 0))), some (.ref 0), some (.ref 1), p6, p7, p8] (.dct (kd K) :: .lst F :: rst) = .ok (!decide (i ∈ K)) (.dct (kd K) :: .lst F :: rst) := by
        unfold rings_of_3_1t
        simp only [sCons, sRet, sSet, sEx, sNil, tE, tNt, tAn, tOr', eApp, eOp2, eOp1, eVar, eC, eLst, eTup, eSl, eRev, aCons, aNil, pNo, pSm, callN, eAn, eOr, eNt, asB, bind_ok_, to_ok_, seq_nx_, seq_ret_, fin_ret_, fin_nx_, i_add, i_sub, i_neg, lstOf, tupOf, List.getElem?_cons_succ, List.getElem?_cons_zero, List.set_cons_succ, List.set_cons_zero, List.length_cons, List.length_nil, if_true, ik]
      have hsu : ∀ {x y : SOut}, x = y → x.seq sNil = y.seq sNil := fun z => by rw [z]
      by_cases c : i ∈ K
      · rw [decide_eq_true c] at tt
        refine ⟨[some (ti xs), some (.d (.list (zd es))), some (.d (.int (i : Nat))), some (.d (.dict (pd es 0))), some (.ref 0), some (.ref 1), p6, p7, p8], .dct (kd K) :: .lst F :: rst, ?_, K, F, rst, _, _, _, _, rfl, rfl, fun p => ?_, ?_, e5⟩
        · show rings_of_3b _ _ = _
          unfold rings_of_3b
          rw [sc_nx (show rings_of_3_1 _ _ = .nx _ _ from si_no tt)]
          rfl
        · rw [e3]
          obtain ⟨_, c0, hc1, hc2, hc3⟩ := (e3 i).mp c
          constructor
          · rintro ⟨a1, a2, a3, a4, a5⟩
            exact ⟨a1, a2, by omega, a4, a5⟩
          · rintro ⟨a1, a2, a3, a4, a5⟩
            by_cases z : a2 = i
            · subst z
              exact ⟨a1, c0, hc1, hc2, hc3.trans h' (by omega) (by omega) a5⟩
            · exact ⟨a1, a2, by omega, a4, a5⟩
        · rw [heads_succ, if_neg (fun z => by
            obtain ⟨_, c0, hc1, hc2, hc3⟩ := (e3 i).mp c
            exact (h'.head_iff hi).mp z c0 hc1 hc3), List.append_nil]
          exact e4
      · rw [decide_eq_false c] at tt
        have hdn : isHead m es i = true := (h'.head_iff hi).mpr fun c0 hc r => c ((e3 i).mpr ⟨hi, c0, hc, by omega, r⟩)
        have nR : ∀ p, p ∈ K → p < xs.length + 1 ∧ ¬ R (en xs N) (2 * i) (2 * p) := fun p hp => by
          obtain ⟨a1, c0, a3, a4, a5⟩ := (e3 p).mp hp
          refine ⟨by omega, fun r => c ((e3 i).mpr ⟨hi, c0, a3, a4, ?_⟩)⟩
          rw [← hes] at r
          exact a5.trans h' (by omega) (by omega) (r.symm h' (by omega) (by omega))
        obtain ⟨q8, rw_⟩ := ring_walk (F := F) (rest := rst) (p8 := p8) v (b := i) (by omega) nR (by omega)
        rw [← hm, ← hes] at rw_
        have s1 : rings_of_3_1_1 [some (ti xs), some (.d (.list (zd es))), some (.d (.int (i : Nat))), some (.d (.dict (pd es 0))), some (.ref 0), some (.ref 1), p6, p7, p8] (.dct (kd K) :: .lst F :: rst) =
            .nx [some (ti xs), some (.d (.list (zd es))), some (.d (.int (i : Nat))), some (.d (.dict (pd es 0))), some (.ref 0), some (.ref 1), some (.ref (rst.length + 2)), some (.d (.int (2 * i : Nat))), p8] (TS K F rst []) := by
          have m2 := g_mul2 i (by omega) (TS K F rst [])
          have ml : (eLstM aNil) [some (ti xs), some (.d (.list (zd es))), some (.d (.int (i : Nat))), some (.d (.dict (pd es 0))), some (.ref 0), some (.ref 1), p6, p7, p8] (.dct (kd K) :: .lst F :: rst) = .ok (.ref (rst.length + 2)) (TS K F rst []) := rfl
          unfold rings_of_3_1_1
          simp only [sPar, aCons, aNil, ml, eOp2, eC, eVar, m2, bind_ok_, to_ok_, List.getElem?_cons_succ, List.getElem?_cons_zero]
          rfl
        obtain ⟨Rn, hRn⟩ : ∃ Rn, Rn = ring m es i := ⟨_, rfl⟩
        rw [← hRn] at rw_
        have so := sort_ref (l := Rn) (S := TS (K ++ Rn) F rst Rn) ts_q
        have e6 : (isort (zi Rn)).map PyData.int = zd (cls m es i) := by rw [hRn, h'.sort_ring hi]
        rw [e6] at so
        have bt : bTup [.d (.list (zd (cls m es i)))] (TS (K ++ Rn) F rst Rn) = .ok (.d (tz (cls m es i))) (TS (K ++ Rn) F rst Rn) := rfl
        have hFl : F.length ≤ m := by
          rw [e4, List.length_map, List.length_map]
          unfold GM.heads
          refine Nat.le_trans (List.length_filter_le _ _) ?_
          rw [List.length_range]
          omega
        have ap : mApp (.ref 1) [.d (tz (cls m es i))] (TS (K ++ Rn) F rst Rn) = .ok (.d .none) (TS (K ++ Rn) (F ++ [tz (cls m es i)]) rst Rn) := app_ok (acc := F) rfl (by omega)
        have ty : tyOk "list" (TS (K ++ Rn) F rst Rn) (.ref 1) = true := rfl
        have s3 : rings_of_3_1_3 [some (ti xs), some (.d (.list (zd es))), some (.d (.int (i : Nat))), some (.d (.dict (pd es 0))), some (.ref 0), some (.ref 1), some (.ref (rst.length + 2)), some (.d (.int (2 * i : Nat))), q8] (TS (K ++ Rn) F rst Rn) =
            .nx [some (ti xs), some (.d (.list (zd es))), some (.d (.int (i : Nat))), some (.d (.dict (pd es 0))), some (.ref 0), some (.ref 1), some (.ref (rst.length + 2)), some (.d (.int (2 * i : Nat))), q8] (TS (K ++ Rn) (F ++ [tz (cls m es i)]) rst Rn) := by
          unfold rings_of_3_1_3
          simp only [sCons, sRet, sSet, sEx, sNil, tE, tNt, tAn, tOr', eApp, eOp2, eOp1, eVar, eC, eLst, eTup, eSl, eRev, aCons, aNil, pNo, pSm, callN, eAn, eOr, eNt, asB, bind_ok_, to_ok_, seq_nx_, seq_ret_, fin_ret_, fin_nx_, i_add, i_sub, i_neg, lstOf, tupOf, List.getElem?_cons_succ, List.getElem?_cons_zero, List.set_cons_succ, List.set_cons_zero, List.length_cons, List.length_nil, if_true, eMt, ty, so, bt, ap]
        refine ⟨[some (ti xs), some (.d (.list (zd es))), some (.d (.int (i : Nat))), some (.d (.dict (pd es 0))), some (.ref 0), some (.ref 1), some (.ref (rst.length + 2)), some (.d (.int (2 * i : Nat))), q8], TS (K ++ Rn) (F ++ [tz (cls m es i)]) rst Rn, ?_, K ++ Rn, F ++ [tz (cls m es i)], rst ++ [.lst (zd Rn)], _, _, _, _, rfl, rfl, fun p => ?_, ?_, ?_⟩
        · show rings_of_3b _ _ = _
          unfold rings_of_3b
          have : rings_of_3_1 [some (ti xs), some (.d (.list (zd es))), some (.d (.int (i : Nat))), some (.d (.dict (pd es 0))), some (.ref 0), some (.ref 1), p6, p7, p8] (.dct (kd K) :: .lst F :: rst) =
              .nx [some (ti xs), some (.d (.list (zd es))), some (.d (.int (i : Nat))), some (.d (.dict (pd es 0))), some (.ref 0), some (.ref 1), some (.ref (rst.length + 2)), some (.d (.int (2 * i : Nat))), q8] (TS (K ++ Rn) (F ++ [tz (cls m es i)]) rst Rn) := by
            refine (si_yes tt).trans ?_
            unfold rings_of_3_1b
            rw [sc_nx s1, sc_nx rw_, sc_nx s3]
            rfl
          rw [sc_nx this]
          rfl
        · rw [List.mem_append, e3, hRn, h'.mem_ring hi]
          constructor
          · rintro (⟨a1, a2, a3, a4, a5⟩ | ⟨a1, a2⟩)
            · exact ⟨a1, a2, by omega, a4, a5⟩
            · exact ⟨a1, i, by omega, hi, a2⟩
          · rintro ⟨a1, a2, a3, a4, a5⟩
            by_cases z : a2 = i
            · subst z; exact .inr ⟨a1, a5⟩
            · exact .inl ⟨a1, a2, by omega, a4, a5⟩
        · rw [heads_succ, if_pos hdn, List.map_append, List.map_append, e4]
          rfl
        · rw [List.nodup_append]
          refine ⟨e5, by rw [hRn]; exact h'.ring_nd hi, fun a ha b hb e => ?_⟩
          subst e
          rw [hRn] at hb
          have := (h'.mem_ring hi).mp hb
          have n2 := (nR a ha).2
          rw [← hes] at n2
          exact n2 this.2)
    (r := [some (ti xs), some (.d (.list (zd es))), none, some (.d (.dict (pd es 0))), some (.ref 0), some (.ref 1), none, none, none]) (S := [.dct [], .lst []])
    ⟨[], [], [], _, _, _, _, rfl, rfl, fun p => ⟨fun z => (by cases z), fun ⟨_, _, z, _⟩ => absurd z (Nat.not_lt_zero _)⟩, rfl, List.nodup_nil⟩
  rw [List.length_map, len_rgI, show (N + 1 - 0).toNat = m by omega] at e4
  have u : ∀ fs : FS, fnB 9 fs [ti xs] [] = (fs [some (ti xs), none, none, none, none, none, none, none, none] []).fin := fun _ => rfl
  have k1 := k_ends_by v []
  have k2 := k_places v []
  rw [← hes] at k1 k2
  have s1 : rings_of_1 [some (ti xs), none, none, none, none, none, none, none, none] [] = .nx [some (ti xs), some (.d (.list (zd es))), none, none, none, none, none, none, none] [] := by
    unfold rings_of_1
    simp only [sCons, sRet, sSet, sEx, sNil, tE, tNt, tAn, tOr', eApp, eOp2, eOp1, eVar, eC, eLst, eTup, eSl, eRev, aCons, aNil, pNo, pSm, callN, eAn, eOr, eNt, asB, bind_ok_, to_ok_, seq_nx_, seq_ret_, fin_ret_, fin_nx_, i_add, i_sub, i_neg, lstOf, tupOf, List.getElem?_cons_succ, List.getElem?_cons_zero, List.set_cons_succ, List.set_cons_zero, List.length_cons, List.length_nil, if_true, k1]
  have s2 : rings_of_2 [some (ti xs), some (.d (.list (zd es))), none, none, none, none, none, none, none] [] = .nx [some (ti xs), some (.d (.list (zd es))), none, some (.d (.dict (pd es 0))), some (.ref 0), some (.ref 1), none, none, none] [.dct [], .lst []] := by
    have ed : ∀ (r : Rho), eDNK r [] = .ok (.ref 0) [.dct []] := fun _ => rfl
    have el : ∀ (r : Rho), (eLstM aNil) r [.dct []] = .ok (.ref 1) [.dct [], .lst []] := fun _ => rfl
    unfold rings_of_2
    simp only [sPar3, aCons, aNil, eApp, eVar, callN, k2, ed, el, bind_ok_, to_ok_, List.getElem?_cons_succ, List.getElem?_cons_zero, List.length_cons, List.length_nil, if_true]
    rfl
  refine ⟨S', ?_, ?_⟩
  · rw [rings_of_eq, u]
    unfold rings_ofb
    rw [sc_nx s1, sc_nx s2]
    unfold rings_of_3
    rw [sc_nx ((sf_eq (hi none none none none _)).trans e), e1]
    rfl
  · rw [e2, e4, hm, hes]
    rfl
theorem k_rings_of (v : VR xs N) (S : Sto) : callW backW f_rings_of [ti xs] S = .ok (.d (.list ((rgs xs N).map tz))) S := by
  obtain ⟨T, h1, h2⟩ := rings_of_ok v
  exact call_new (is := [ti xs]) rfl h1 h2
theorem rgs_len (v : VR xs N) : (rgs xs N).length ≤ 21 := by
  unfold rgs ringsF GM.heads
  rw [List.length_map]
  refine Nat.le_trans (List.length_filter_le _ _) ?_
  rw [List.length_range]
  have := v.small
  omega
theorem rgs_each (v : VR xs N) {T : List Nat} (h : T ∈ rgs xs N) : T.length ≤ 21 ∧ ∀ p ∈ T, p ≤ 20 := by
  obtain ⟨b, hb, rfl⟩ := (ep_of v).mem_ringsF.mp h
  have hs := v.small
  have hlt : ∀ p ∈ cls (xs.length + 1) (en xs N) b, p < xs.length + 1 := fun p hp => (((ep_of v).mem_cls hb).mp hp).1
  refine ⟨?_, fun p hp => by have := hlt p hp; omega⟩
  unfold cls
  refine Nat.le_trans (List.length_filter_le _ _) ?_
  rw [List.length_range]
  omega
end
end GA
set_option maxRecDepth 100000
set_option maxHeartbeats 4000000
namespace GA
open PySem L2 MI GM
section
variable {xs ys : List Int} {N f l : Int} {S : Sto}
/-! ## looks at rings -/
theorem in_ti (x : Int) (ys : List Int) (S : Sto) : cInF false (.d (.int x)) (ti ys) S = .ok (.d (.bool (decide (x ∈ ys)))) S := by
  show (if shp (.int x) = true ∧ shp (.list (ys.map .int)) = true then Out.ok (IV.d (.bool (isIn (.int x) (ys.map .int)))) S else .bad) = _
  rw [if_pos ⟨shp_int x, shp_lst ys⟩, isIn_ints]
theorem in_tz (p : Nat) (T : List Nat) (S : Sto) : cInF false (.d (.int (p : Nat))) (.d (tz T)) S = .ok (.d (.bool (decide (p ∈ T)))) S := by
  have := in_ti (p : Int) (zi T) S
  have e : decide ((p : Int) ∈ zi T) = decide (p ∈ T) := by
    rw [decide_eq_decide]
    unfold zi
    rw [List.mem_map]
    exact ⟨fun ⟨q, h, e⟩ => by rw [← Int.ofNat.inj e]; exact h, fun h => ⟨p, h, rfl⟩⟩
  rw [e] at this
  exact this
theorem k_check_many (h0 : 1 ≤ N) (h1 : N ≤ 20) (S : Sto) : callW backW f_check_many [.d (.int N)] S = .ok (.d .none) S := by
  have k := call_pure (S := []) (is := [.d (.int N), .d (.int 1), .d (.int 20)]) rfl (isbtw_ok (.int N) 1 20) rfl
  have b : btw 1 20 (.int N) = true := by simp [btw, h0, h1]
  rw [b] at k
  refine call_pure (is := [.d (.int N)]) (T := []) rfl ?_ rfl
  simp [f_check_many, k, List.replicate]
def hties (N : Int) : List PyData := (rgI 0 (N + 1)).map fun t => .tuple [.int (2 * t), .int (2 * t + 1)]
theorem mkt2 (a b : PyData) (S : Sto) : mkTup [.d a, .d b] S = .ok (.d (.tuple [a, b])) S := rfl
theorem k_home_ties (h0 : 1 ≤ N) (h1 : N ≤ 20) (S : Sto) : callW backW f_home_ties [.d (.int N)] S = .ok (.d (.tuple (hties N))) S := by
  refine call_pure (is := [.d (.int N)]) (T := []) rfl ?_ rfl
  have u : ∀ fs : FS, fnB 2 fs [.d (.int N)] [] = (fs [some (.d (.int N)), none] []).fin := fun _ => rfl
  have k := k_check_many h0 h1 []
  have hi : iR1 (eOp2 oAdd (eVar 0) (eC (.int 1))) [some (.d (.int N)), none] [] = .ok ((rgI 0 (N + 1)).map .int) [] := by
    rw [← rngD_rg]
    exact iR1_ok (by simp only [sCons, sRet, sSet, sEx, sNil, tE, tNt, tAn, tOr', eApp, eOp2, eOp1, eVar, eC, eLst, eTup, eSl, eRev, aCons, aNil, pNo, pSm, callN, eAn, eOr, eNt, asB, bind_ok_, to_ok_, seq_nx_, seq_ret_, fin_ret_, fin_nx_, i_add, i_sub, i_neg, lstOf, tupOf, List.getElem?_cons_succ, List.getElem?_cons_zero, List.set_cons_succ, List.set_cons_zero, List.length_cons, List.length_nil, if_true, ]) (by omega)
  have c := eLc_i (g := gNm 1) (e := eTup (aCons (eOp2 (oInt MI.gMul) (eC (.int 2)) (eVar 1)) (aCons (eOp2 oAdd (eOp2 (oInt MI.gMul) (eC (.int 2)) (eVar 1)) (eC (.int 1))) aNil))) (vs := [1]) (fun t => .tuple [.int (2 * t), .int (2 * t + 1)]) hi (by rw [len_rgI]; omega) fun t ht => by
    have ht := mem_rgI.mp ht
    have m := g_mulI (w := t) (by omega) []
    exact ⟨[some (.d (.int N)), some (.d (.int t))], rfl, by simp only [sCons, sRet, sSet, sEx, sNil, tE, tNt, tAn, tOr', eApp, eOp2, eOp1, eVar, eC, eLst, eTup, eSl, eRev, aCons, aNil, pNo, pSm, callN, eAn, eOr, eNt, asB, bind_ok_, to_ok_, seq_nx_, seq_ret_, fin_ret_, fin_nx_, i_add, i_sub, i_neg, lstOf, tupOf, List.getElem?_cons_succ, List.getElem?_cons_zero, List.set_cons_succ, List.set_cons_zero, List.length_cons, List.length_nil, if_true, m, mkt2]⟩
  have bt : bTup [.d (.list (hties N))] [] = .ok (.d (.tuple (hties N))) [] := rfl
  have c : eLc (iR1 (eOp2 oAdd (eVar 0) (eC (.int 1)))) (gNm 1) tYe (eTup (aCons (eOp2 (oInt MI.gMul) (eC (.int 2)) (eVar 1)) (aCons (eOp2 oAdd (eOp2 (oInt MI.gMul) (eC (.int 2)) (eVar 1)) (eC (.int 1))) aNil))) [1] [some (.d (.int N)), none] [] = .ok (.d (.list (hties N))) [] := c
  rw [home_ties_eq, u]
  unfold home_tiesb home_ties_1 home_ties_2
  simp only [sCons, sRet, sSet, sEx, sNil, tE, tNt, tAn, tOr', eApp, eOp2, eOp1, eVar, eC, eLst, eTup, eSl, eRev, aCons, aNil, pNo, pSm, callN, eAn, eOr, eNt, asB, bind_ok_, to_ok_, seq_nx_, seq_ret_, fin_ret_, fin_nx_, i_add, i_sub, i_neg, lstOf, tupOf, List.getElem?_cons_succ, List.getElem?_cons_zero, List.set_cons_succ, List.set_cons_zero, List.length_cons, List.length_nil, if_true, k, c, bt]
def rties (xs : List Int) (N : Int) : List PyData := (List.range (xs.length + 1)).map fun p => .tuple [.int (at' (en xs N) (2 * p) : Nat), .int (at' (en xs N) (2 * p + 1) : Nat)]
/-- points one by one: a comprehension over range(len(row) + 1) -/
theorem rng_pts (n : Nat) (h : N = n) : rgI 0 (N + 1) = zi (List.range (n + 1)) := by
  unfold rgI zi
  rw [show (N + 1 - 0).toNat = n + 1 by omega]
  refine List.map_congr_left fun k _ => ?_
  omega
theorem ix_en2 (v : VR xs N) {p : Nat} (h : p < xs.length + 1) (S : Sto) : oIxD (.d (.list (zd (en xs N)))) (.d (.int (2 * (p : Int)))) S = .ok (.d (.int (at' (en xs N) (2 * p) : Nat))) S ∧
    oIxD (.d (.list (zd (en xs N)))) (.d (.int (2 * (p : Int) + 1))) S = .ok (.d (.int (at' (en xs N) (2 * p + 1) : Nat))) S := by
  have h1 := ix_en v (j := 2 * p) (by omega) S
  have h2 := ix_en v (j := 2 * p + 1) (by omega) S
  rw [show ((2 * p : Nat) : Int) = 2 * (p : Int) by omega] at h1
  rw [show ((2 * p + 1 : Nat) : Int) = 2 * (p : Int) + 1 by omega] at h2
  exact ⟨h1, h2⟩
theorem k_row_ties (v : VR xs N) (S : Sto) : callW backW f_row_ties [ti xs] S = .ok (.d (.tuple (rties xs N))) S := by
  have hL := len_tiD v.len
  have hs := v.small
  have hn := v.len
  refine call_pure (is := [ti xs]) (T := []) rfl ?_ rfl
  have u : ∀ fs : FS, fnB 3 fs [ti xs] [] = (fs [some (ti xs), none, none] []).fin := fun _ => rfl
  have k := k_check v []
  have ke := k_ends_by v []
  have hi : iR1 (eOp2 oAdd (eApp bLenD (aCons (eVar 0) aNil)) (eC (.int 1))) [some (ti xs), some (.d (.list (zd (en xs N)))), none] [] = .ok ((List.range (xs.length + 1)).map fun (p : Nat) => PyData.int (p : Int)) [] := by
    have := iR1_ok (f := eOp2 oAdd (eApp bLenD (aCons (eVar 0) aNil)) (eC (.int 1))) (r := [some (ti xs), some (.d (.list (zd (en xs N)))), none]) (S := []) (S' := []) (j := N + 1) (by simp only [sCons, sRet, sSet, sEx, sNil, tE, tNt, tAn, tOr', eApp, eOp2, eOp1, eVar, eC, eLst, eTup, eSl, eRev, aCons, aNil, pNo, pSm, callN, eAn, eOr, eNt, asB, bind_ok_, to_ok_, seq_nx_, seq_ret_, fin_ret_, fin_nx_, i_add, i_sub, i_neg, lstOf, tupOf, List.getElem?_cons_succ, List.getElem?_cons_zero, List.set_cons_succ, List.set_cons_zero, List.length_cons, List.length_nil, if_true, hL]) (by have := v.hi; have := v.lo; omega)
    rw [this, rngD_rg, rng_pts _ hn]
    unfold zi
    rw [List.map_map]
    rfl
  have c := eLc_em (g := gNm 2) (e := eTup (aCons (eOp2 oIxD (eVar 1) (eOp2 (oInt MI.gMul) (eC (.int 2)) (eVar 2))) (aCons (eOp2 oIxD (eVar 1) (eOp2 oAdd (eOp2 (oInt MI.gMul) (eC (.int 2)) (eVar 2)) (eC (.int 1)))) aNil))) (vs := [2])
    (fun (p : Nat) => PyData.int (p : Int)) (fun p => .tuple [.int (at' (en xs N) (2 * p) : Nat), .int (at' (en xs N) (2 * p + 1) : Nat)]) hi (by rw [List.length_range]; omega) fun p hp => by
    have hp := List.mem_range.mp hp
    have m := g_mulI (w := (p : Int)) (by omega) []
    obtain ⟨a1, a2⟩ := ix_en2 v hp []
    exact ⟨[some (ti xs), some (.d (.list (zd (en xs N)))), some (.d (.int p))], rfl, by simp only [sCons, sRet, sSet, sEx, sNil, tE, tNt, tAn, tOr', eApp, eOp2, eOp1, eVar, eC, eLst, eTup, eSl, eRev, aCons, aNil, pNo, pSm, callN, eAn, eOr, eNt, asB, bind_ok_, to_ok_, seq_nx_, seq_ret_, fin_ret_, fin_nx_, i_add, i_sub, i_neg, lstOf, tupOf, List.getElem?_cons_succ, List.getElem?_cons_zero, List.set_cons_succ, List.set_cons_zero, List.length_cons, List.length_nil, if_true, m, a1, a2, mkt2]⟩
  have bt : bTup [.d (.list (rties xs N))] [] = .ok (.d (.tuple (rties xs N))) [] := rfl
  rw [row_ties_eq, u]
  unfold row_tiesb row_ties_1 row_ties_2 row_ties_3
  simp only [sCons, sRet, sSet, sEx, sNil, tE, tNt, tAn, tOr', eApp, eOp2, eOp1, eVar, eC, eLst, eTup, eSl, eRev, aCons, aNil, pNo, pSm, callN, eAn, eOr, eNt, asB, bind_ok_, to_ok_, seq_nx_, seq_ret_, fin_ret_, fin_nx_, i_add, i_sub, i_neg, lstOf, tupOf, List.getElem?_cons_succ, List.getElem?_cons_zero, List.set_cons_succ, List.set_cons_zero, List.length_cons, List.length_nil, if_true, k, ke, c]
  rw [show (List.range (xs.length + 1)).map (fun p => PyData.tuple [.int (at' (en xs N) (2 * p) : Nat), .int (at' (en xs N) (2 * p + 1) : Nat)]) = rties xs N from rfl]
  simp only [sCons, sRet, sSet, sEx, sNil, tE, tNt, tAn, tOr', eApp, eOp2, eOp1, eVar, eC, eLst, eTup, eSl, eRev, aCons, aNil, pNo, pSm, callN, eAn, eOr, eNt, asB, bind_ok_, to_ok_, seq_nx_, seq_ret_, fin_ret_, fin_nx_, i_add, i_sub, i_neg, lstOf, tupOf, List.getElem?_cons_succ, List.getElem?_cons_zero, List.set_cons_succ, List.set_cons_zero, List.length_cons, List.length_nil, if_true, bt]
theorem k_rings (v : VR xs N) (S : Sto) : callW backW f_rings [ti xs] S = .ok (.d (.tuple ((rgs xs N).map tz))) S := by
  have bt : bTup [.d (.list ((rgs xs N).map tz))] [] = .ok (.d (.tuple ((rgs xs N).map tz))) [] := rfl
  refine call_pure (is := [ti xs]) (T := []) rfl ?_ rfl
  have u : ∀ fs : FS, fnB 1 fs [ti xs] [] = (fs [some (ti xs)] []).fin := fun _ => rfl
  rw [rings_eq, u]
  unfold ringsb rings_1 rings_2
  simp only [sCons, sRet, sSet, sEx, sNil, tE, tNt, tAn, tOr', eApp, eOp2, eOp1, eVar, eC, eLst, eTup, eSl, eRev, aCons, aNil, pNo, pSm, callN, eAn, eOr, eNt, asB, bind_ok_, to_ok_, seq_nx_, seq_ret_, fin_ret_, fin_nx_, i_add, i_sub, i_neg, lstOf, tupOf, List.getElem?_cons_succ, List.getElem?_cons_zero, List.set_cons_succ, List.set_cons_zero, List.length_cons, List.length_nil, if_true, k_check v, k_rings_of v, bt]
theorem len_lst {ds : List PyData} (h : ds.length ≤ 1000000) (S : Sto) : bLenD [.d (.list ds)] S = .ok (.d (.int ds.length)) S := by simp
theorem k_count_of (v : VR xs N) (S : Sto) : callW backW f_count_of [ti xs] S = .ok (.d (.int (rgs xs N).length)) S := by
  refine call_pure (is := [ti xs]) (T := []) rfl ?_ rfl
  have u : ∀ fs : FS, fnB 1 fs [ti xs] [] = (fs [some (ti xs)] []).fin := fun _ => rfl
  have hl := len_lst (ds := (rgs xs N).map tz) (by rw [List.length_map]; have := rgs_len v; omega) []
  rw [List.length_map] at hl
  rw [count_of_eq, u]
  unfold count_ofb count_of_1
  simp only [sCons, sRet, sSet, sEx, sNil, tE, tNt, tAn, tOr', eApp, eOp2, eOp1, eVar, eC, eLst, eTup, eSl, eRev, aCons, aNil, pNo, pSm, callN, eAn, eOr, eNt, asB, bind_ok_, to_ok_, seq_nx_, seq_ret_, fin_ret_, fin_nx_, i_add, i_sub, i_neg, lstOf, tupOf, List.getElem?_cons_succ, List.getElem?_cons_zero, List.set_cons_succ, List.set_cons_zero, List.length_cons, List.length_nil, if_true, k_rings_of v, hl]
theorem k_ring_count (v : VR xs N) (S : Sto) : callW backW f_ring_count [ti xs] S = .ok (.d (.int (rgs xs N).length)) S := by
  refine call_pure (is := [ti xs]) (T := []) rfl ?_ rfl
  have u : ∀ fs : FS, fnB 1 fs [ti xs] [] = (fs [some (ti xs)] []).fin := fun _ => rfl
  rw [ring_count_eq, u]
  unfold ring_countb ring_count_1 ring_count_2
  simp only [sCons, sRet, sSet, sEx, sNil, tE, tNt, tAn, tOr', eApp, eOp2, eOp1, eVar, eC, eLst, eTup, eSl, eRev, aCons, aNil, pNo, pSm, callN, eAn, eOr, eNt, asB, bind_ok_, to_ok_, seq_nx_, seq_ret_, fin_ret_, fin_nx_, i_add, i_sub, i_neg, lstOf, tupOf, List.getElem?_cons_succ, List.getElem?_cons_zero, List.set_cons_succ, List.set_cons_zero, List.length_cons, List.length_nil, if_true, k_check v, k_count_of v]
/-- how long the rings are, ascending -/
def lens (xs : List Int) (N : Int) : List Int := isort (zi ((rgs xs N).map List.length))
theorem len_tz (T : List Nat) (S : Sto) : bLenD [.d (tz T)] S = .ok (.d (.int (T.length : Nat))) S := by
  have := len_tiD (xs := zi T) (N := (T.length : Nat)) (by simp [zi]) S
  exact this
theorem sort_li (l : List Int) (S : Sto) : bSortA [.d (.list (l.map .int))] S = .ok (.d (.list ((isort l).map .int))) S := by
  unfold bSortA
  simp only [sintsOf, seqOf, lstOf, intsOf_map]
theorem k_lengths (v : VR xs N) (S : Sto) : callW backW f_lengths [ti xs] S = .ok (ti (lens xs N)) S := by
  refine call_pure (is := [ti xs]) (T := []) rfl ?_ rfl
  have u : ∀ fs : FS, fnB 2 fs [ti xs] [] = (fs [some (ti xs), none] []).fin := fun _ => rfl
  have hi : iSeq (eApp (callN 1 f_rings_of) (aCons (eVar 0) aNil)) [some (ti xs), none] [] = .ok ((rgs xs N).map tz) [] :=
    iSeq_ok (v := .d (.list ((rgs xs N).map tz))) (by simp only [sCons, sRet, sSet, sEx, sNil, tE, tNt, tAn, tOr', eApp, eOp2, eOp1, eVar, eC, eLst, eTup, eSl, eRev, aCons, aNil, pNo, pSm, callN, eAn, eOr, eNt, asB, bind_ok_, to_ok_, seq_nx_, seq_ret_, fin_ret_, fin_nx_, i_add, i_sub, i_neg, lstOf, tupOf, List.getElem?_cons_succ, List.getElem?_cons_zero, List.set_cons_succ, List.set_cons_zero, List.length_cons, List.length_nil, if_true, k_rings_of v]) rfl (by rw [List.length_map]; exact small_line (by have := rgs_len v; omega))
  have c := eLc_em (g := gNm 1) (e := eApp bLenD (aCons (eVar 1) aNil)) (vs := [1]) tz (fun T => .int (T.length : Nat)) hi (by have := rgs_len v; omega) fun T hT =>
    ⟨[some (ti xs), some (.d (tz T))], rfl, by simp only [sCons, sRet, sSet, sEx, sNil, tE, tNt, tAn, tOr', eApp, eOp2, eOp1, eVar, eC, eLst, eTup, eSl, eRev, aCons, aNil, pNo, pSm, callN, eAn, eOr, eNt, asB, bind_ok_, to_ok_, seq_nx_, seq_ret_, fin_ret_, fin_nx_, i_add, i_sub, i_neg, lstOf, tupOf, List.getElem?_cons_succ, List.getElem?_cons_zero, List.set_cons_succ, List.set_cons_zero, List.length_cons, List.length_nil, if_true, len_tz T]⟩
  have e : (rgs xs N).map (fun T => PyData.int (T.length : Nat)) = (zi ((rgs xs N).map List.length)).map .int := by
    unfold zi
    rw [List.map_map, List.map_map]
    rfl
  rw [e] at c
  have so := sort_li (zi ((rgs xs N).map List.length)) []
  have bt : bTup [.d (.list ((lens xs N).map .int))] [] = .ok (ti (lens xs N)) [] := rfl
  have so : bSortA [.d (.list ((zi ((rgs xs N).map List.length)).map .int))] [] = .ok (.d (.list ((lens xs N).map .int))) [] := so
  rw [lengths_eq, u]
  unfold lengthsb lengths_1 lengths_2
  simp only [sCons, sRet, sSet, sEx, sNil, tE, tNt, tAn, tOr', eApp, eOp2, eOp1, eVar, eC, eLst, eTup, eSl, eRev, aCons, aNil, pNo, pSm, callN, eAn, eOr, eNt, asB, bind_ok_, to_ok_, seq_nx_, seq_ret_, fin_ret_, fin_nx_, i_add, i_sub, i_neg, lstOf, tupOf, List.getElem?_cons_succ, List.getElem?_cons_zero, List.set_cons_succ, List.set_cons_zero, List.length_cons, List.length_nil, if_true, k_check v, c, so, bt]
theorem first_all {α : Type} {a : α} {l : List α} (h : ∀ x ∈ l, x = a) (hm : a ∈ l) : ∃ t, l = a :: t := by
  cases l with
  | nil => cases hm
  | cons x t => rw [h x List.mem_cons_self]; exact ⟨t, rfl⟩
theorem rgs_of (v : VR xs N) {p : Nat} (h : p < xs.length + 1) : ∃ t, (rgs xs N).filter (fun T => decide (p ∈ T)) = cls (xs.length + 1) (en xs N) p :: t := by
  refine first_all (fun T hT => ?_) ?_
  · obtain ⟨h1, h2⟩ := List.mem_filter.mp hT
    obtain ⟨b, hb, rfl⟩ := (ep_of v).mem_ringsF.mp h1
    have := ((ep_of v).mem_cls hb).mp (of_decide_eq_true h2)
    exact (ep_of v).cls_eq hb h this.2
  · exact List.mem_filter.mpr ⟨(ep_of v).mem_ringsF.mpr ⟨p, h, rfl⟩, decide_eq_true ((ep_of v).self_cls h)⟩
/-- the first ring of some that has a point -/
theorem find_ring (v : VR xs N) {p : Nat} (h : p < xs.length + 1) {i j : Nat} {it : FI} {r r0 : Rho} {S : Sto} (hi : it r S = .ok ((rgs xs N).map tz) S) (hw : wipeR r [j] = r0) (hp : ∀ x, (r0.set j x)[i]? = some (some (.d (.int (p : Nat))))) (hj : j < r0.length) :
    eOp2 oIxD (eLc it (gNm j) (tE (eOp2 (cInF false) (eVar i) (eVar j))) (eVar j) [j]) (eC (.int 0)) r S = .ok (.d (tz (cls (xs.length + 1) (en xs N) p))) S := by
  have c := eLc_e (g := gNm j) (t := tE (eOp2 (cInF false) (eVar i) (eVar j))) (e := eVar j) (vs := [j]) tz (fun T => decide (p ∈ T)) tz hi (by have := rgs_len v; omega) fun T hT => by
    have h1 : (r0.set j (some (.d (tz T))))[j]? = some (some (.d (tz T))) := by rw [List.getElem?_set_self hj]
    refine ⟨r0.set j (some (.d (tz T))), by rw [hw]; rfl, ?_, fun _ => ?_⟩
    · simp only [sCons, sRet, sSet, sEx, sNil, tE, tNt, tAn, tOr', eApp, eOp2, eOp1, eVar, eC, eLst, eTup, eSl, eRev, aCons, aNil, pNo, pSm, callN, eAn, eOr, eNt, asB, bind_ok_, to_ok_, seq_nx_, seq_ret_, fin_ret_, fin_nx_, i_add, i_sub, i_neg, lstOf, tupOf, List.getElem?_cons_succ, List.getElem?_cons_zero, List.set_cons_succ, List.set_cons_zero, List.length_cons, List.length_nil, if_true, hp, h1, in_tz p T]
    · simp only [sCons, sRet, sSet, sEx, sNil, tE, tNt, tAn, tOr', eApp, eOp2, eOp1, eVar, eC, eLst, eTup, eSl, eRev, aCons, aNil, pNo, pSm, callN, eAn, eOr, eNt, asB, bind_ok_, to_ok_, seq_nx_, seq_ret_, fin_ret_, fin_nx_, i_add, i_sub, i_neg, lstOf, tupOf, List.getElem?_cons_succ, List.getElem?_cons_zero, List.set_cons_succ, List.set_cons_zero, List.length_cons, List.length_nil, if_true, h1]
  obtain ⟨t, e⟩ := rgs_of v h
  rw [e, List.map_cons] at c
  have x0 := oIx_lst (ds := tz (cls (xs.length + 1) (en xs N) p) :: t.map tz) (p := 0) S (by decide) rfl
  simp only [sCons, sRet, sSet, sEx, sNil, tE, tNt, tAn, tOr', eApp, eOp2, eOp1, eVar, eC, eLst, eTup, eSl, eRev, aCons, aNil, pNo, pSm, callN, eAn, eOr, eNt, asB, bind_ok_, to_ok_, seq_nx_, seq_ret_, fin_ret_, fin_nx_, i_add, i_sub, i_neg, lstOf, tupOf, List.getElem?_cons_succ, List.getElem?_cons_zero, List.set_cons_succ, List.set_cons_zero, List.length_cons, List.length_nil, if_true, c, x0]
theorem k_ring_of (v : VR xs N) {p : Nat} (h : p < xs.length + 1) (S : Sto) : callW backW f_ring_of [ti xs, .d (.int (p : Nat))] S = .ok (.d (tz (cls (xs.length + 1) (en xs N) p))) S := by
  refine call_pure (is := [ti xs, .d (.int (p : Nat))]) (T := []) rfl ?_ rfl
  have u : ∀ fs : FS, fnB 3 fs [ti xs, .d (.int (p : Nat))] [] = (fs [some (ti xs), some (.d (.int (p : Nat))), none] []).fin := fun _ => rfl
  have k := point_any (e := .int (p : Nat)) v []
  have hb : btw 0 N (.int (p : Nat)) = true := by
    have := v.len
    simp only [btw, Bool.and_eq_true, decide_eq_true_eq]
    omega
  rw [if_pos hb] at k
  have hi : iSeq (eApp (callN 1 f_rings_of) (aCons (eVar 0) aNil)) [some (ti xs), some (.d (.int (p : Nat))), none] [] = .ok ((rgs xs N).map tz) [] :=
    iSeq_ok (v := .d (.list ((rgs xs N).map tz))) (by simp only [sCons, sRet, sSet, sEx, sNil, tE, tNt, tAn, tOr', eApp, eOp2, eOp1, eVar, eC, eLst, eTup, eSl, eRev, aCons, aNil, pNo, pSm, callN, eAn, eOr, eNt, asB, bind_ok_, to_ok_, seq_nx_, seq_ret_, fin_ret_, fin_nx_, i_add, i_sub, i_neg, lstOf, tupOf, List.getElem?_cons_succ, List.getElem?_cons_zero, List.set_cons_succ, List.set_cons_zero, List.length_cons, List.length_nil, if_true, k_rings_of v]) rfl (by rw [List.length_map]; exact small_line (by have := rgs_len v; omega))
  have c := find_ring v h (i := 1) (j := 2) hi rfl (fun x => rfl) (show 2 < 3 by decide)
  rw [ring_of_eq, u]
  unfold ring_ofb ring_of_1
  have s1 : sEx (eApp (callN 2 f_check_point) (aCons (eVar 0) (aCons (eVar 1) aNil))) [some (ti xs), some (.d (.int (p : Nat))), none] [] = .nx [some (ti xs), some (.d (.int (p : Nat))), none] [] := by simp only [sCons, sRet, sSet, sEx, sNil, tE, tNt, tAn, tOr', eApp, eOp2, eOp1, eVar, eC, eLst, eTup, eSl, eRev, aCons, aNil, pNo, pSm, callN, eAn, eOr, eNt, asB, bind_ok_, to_ok_, seq_nx_, seq_ret_, fin_ret_, fin_nx_, i_add, i_sub, i_neg, lstOf, tupOf, List.getElem?_cons_succ, List.getElem?_cons_zero, List.set_cons_succ, List.set_cons_zero, List.length_cons, List.length_nil, if_true, k]
  rw [sc_nx s1]
  unfold ring_of_2
  simp only [sCons, sRet, c, to_ok_]
  rfl
/-- the ties of a ring -/
def tieI (xs : List Int) (N : Int) (T : List Nat) : List Int := dsort (zi (tieL (en xs N) T))
theorem half_list (v : VR xs N) {T : List Nat} (hT : ∀ p ∈ T, p < xs.length + 1) (hl : T.length ≤ 1000) {ie ir jp : Nat} {r r0 : Rho} {S : Sto} (hr : r[ir]? = some (some (.d (tz T)))) (hw : wipeR r [jp] = r0)
    (he : ∀ x, (r0.set jp x)[ie]? = some (some (.d (.list (zd (en xs N)))))) (hj : jp < r0.length) :
    eLc (iSeq (eVar ir)) (gNm jp) tYe (eOp2 (oInt MI.gDiv) (eOp2 oIxD (eVar ie) (eOp2 (oInt MI.gMul) (eC (.int 2)) (eVar jp))) (eC (.int 2))) [jp] r S = .ok (.d (.list (zd (T.map fun p => at' (en xs N) (2 * p) / 2)))) S ∧
    eLc (iSeq (eVar ir)) (gNm jp) tYe (eOp2 (oInt MI.gDiv) (eOp2 oIxD (eVar ie) (eOp2 oAdd (eOp2 (oInt MI.gMul) (eC (.int 2)) (eVar jp)) (eC (.int 1)))) (eC (.int 2))) [jp] r S = .ok (.d (.list (zd (T.map fun p => at' (en xs N) (2 * p + 1) / 2)))) S := by
  have hs := v.small
  have hi : iSeq (eVar ir) r S = .ok (T.map fun (p : Nat) => PyData.int (p : Int)) S := by
    have := iSeq_ok (f := eVar ir) (r := r) (S := S) (S' := S) (v := .d (tz T)) (by simp only [sCons, sRet, sSet, sEx, sNil, tE, tNt, tAn, tOr', eApp, eOp2, eOp1, eVar, eC, eLst, eTup, eSl, eRev, aCons, aNil, pNo, pSm, callN, eAn, eOr, eNt, asB, bind_ok_, to_ok_, seq_nx_, seq_ret_, fin_ret_, fin_nx_, i_add, i_sub, i_neg, lstOf, tupOf, List.getElem?_cons_succ, List.getElem?_cons_zero, List.set_cons_succ, List.set_cons_zero, List.length_cons, List.length_nil, if_true, hr]) rfl (by simp only [List.length_map, zi]; exact small_line (by omega))
    rw [this]
    unfold zd zi
    rw [List.map_map]
    rfl
  refine ⟨?_, ?_⟩
  · have c := eLc_em (g := gNm jp) (e := eOp2 (oInt MI.gDiv) (eOp2 oIxD (eVar ie) (eOp2 (oInt MI.gMul) (eC (.int 2)) (eVar jp))) (eC (.int 2))) (vs := [jp]) (fun (p : Nat) => PyData.int (p : Int)) (fun p => .int (at' (en xs N) (2 * p) / 2 : Nat)) hi (by omega) fun p hp => by
      have hp := hT p hp
      have h1 : (r0.set jp (some (.d (.int p))))[jp]? = some (some (.d (.int p))) := by rw [List.getElem?_set_self hj]
      have m := g_mulI (w := (p : Int)) (by omega) S
      obtain ⟨a1, a2⟩ := ix_en2 v hp S
      have d := g_div2 (at' (en xs N) (2 * p)) S
      exact ⟨r0.set jp (some (.d (.int p))), by rw [hw]; rfl, by simp only [sCons, sRet, sSet, sEx, sNil, tE, tNt, tAn, tOr', eApp, eOp2, eOp1, eVar, eC, eLst, eTup, eSl, eRev, aCons, aNil, pNo, pSm, callN, eAn, eOr, eNt, asB, bind_ok_, to_ok_, seq_nx_, seq_ret_, fin_ret_, fin_nx_, i_add, i_sub, i_neg, lstOf, tupOf, List.getElem?_cons_succ, List.getElem?_cons_zero, List.set_cons_succ, List.set_cons_zero, List.length_cons, List.length_nil, if_true, h1, he, m, a1, d]⟩
    rw [c]
    unfold zd zi
    rw [List.map_map, List.map_map]
    rfl
  · have c := eLc_em (g := gNm jp) (e := eOp2 (oInt MI.gDiv) (eOp2 oIxD (eVar ie) (eOp2 oAdd (eOp2 (oInt MI.gMul) (eC (.int 2)) (eVar jp)) (eC (.int 1)))) (eC (.int 2))) (vs := [jp]) (fun (p : Nat) => PyData.int (p : Int)) (fun p => .int (at' (en xs N) (2 * p + 1) / 2 : Nat)) hi (by omega) fun p hp => by
      have hp := hT p hp
      have h1 : (r0.set jp (some (.d (.int p))))[jp]? = some (some (.d (.int p))) := by rw [List.getElem?_set_self hj]
      have m := g_mulI (w := (p : Int)) (by omega) S
      obtain ⟨a1, a2⟩ := ix_en2 v hp S
      have d := g_div2 (at' (en xs N) (2 * p + 1)) S
      exact ⟨r0.set jp (some (.d (.int p))), by rw [hw]; rfl, by simp only [sCons, sRet, sSet, sEx, sNil, tE, tNt, tAn, tOr', eApp, eOp2, eOp1, eVar, eC, eLst, eTup, eSl, eRev, aCons, aNil, pNo, pSm, callN, eAn, eOr, eNt, asB, bind_ok_, to_ok_, seq_nx_, seq_ret_, fin_ret_, fin_nx_, i_add, i_sub, i_neg, lstOf, tupOf, List.getElem?_cons_succ, List.getElem?_cons_zero, List.set_cons_succ, List.set_cons_zero, List.length_cons, List.length_nil, if_true, h1, he, m, a2, d]⟩
    rw [c]
    unfold zd zi
    rw [List.map_map, List.map_map]
    rfl
/-- tuple(sorted(set(.. + ..))) of a ring's ties -/
theorem tie_expr (v : VR xs N) {T : List Nat} (hT : ∀ p ∈ T, p < xs.length + 1) (hl : T.length ≤ 21) {ie ir jp : Nat} {r r0 : Rho} {S : Sto} (hr : r[ir]? = some (some (.d (tz T)))) (hw : wipeR r [jp] = r0)
    (he : ∀ x, (r0.set jp x)[ie]? = some (some (.d (.list (zd (en xs N)))))) (hj : jp < r0.length) :
    eApp bTup (aCons (eSrtSetA (eOp2 oAdd (eLc (iSeq (eVar ir)) (gNm jp) tYe (eOp2 (oInt MI.gDiv) (eOp2 oIxD (eVar ie) (eOp2 (oInt MI.gMul) (eC (.int 2)) (eVar jp))) (eC (.int 2))) [jp])
      (eLc (iSeq (eVar ir)) (gNm jp) tYe (eOp2 (oInt MI.gDiv) (eOp2 oIxD (eVar ie) (eOp2 oAdd (eOp2 (oInt MI.gMul) (eC (.int 2)) (eVar jp)) (eC (.int 1)))) (eC (.int 2))) [jp]))) aNil) r S = .ok (ti (tieI xs N T)) S := by
  obtain ⟨c1, c2⟩ := half_list (S := S) v hT (by omega) hr hw he hj
  have ad : oAdd (.d (.list (zd (T.map fun p => at' (en xs N) (2 * p) / 2)))) (.d (.list (zd (T.map fun p => at' (en xs N) (2 * p + 1) / 2)))) S = .ok (.d (.list (zd (tieL (en xs N) T)))) S := by
    rw [add_lst (by simp [zi]; omega), ← zd_app]
    rfl
  have hli : lintsOf S (.d (.list (zd (tieL (en xs N) T)))) = some (zi (tieL (en xs N) T)) := by
    simp only [lintsOf, lstOf, intsOf_map]
  have so : eSrtSetA (eOp2 oAdd (eLc (iSeq (eVar ir)) (gNm jp) tYe (eOp2 (oInt MI.gDiv) (eOp2 oIxD (eVar ie) (eOp2 (oInt MI.gMul) (eC (.int 2)) (eVar jp))) (eC (.int 2))) [jp])
      (eLc (iSeq (eVar ir)) (gNm jp) tYe (eOp2 (oInt MI.gDiv) (eOp2 oIxD (eVar ie) (eOp2 oAdd (eOp2 (oInt MI.gMul) (eC (.int 2)) (eVar jp)) (eC (.int 1)))) (eC (.int 2))) [jp])) r S = .ok (.d (.list ((tieI xs N T).map .int))) S := by
    unfold eSrtSetA
    simp only [eOp2, c1, c2, ad, bind_ok_, hli]
    rw [if_pos (by unfold zi tieL; simp; omega)]
    rfl
  have bt : bTup [.d (.list ((tieI xs N T).map .int))] S = .ok (ti (tieI xs N T)) S := rfl
  simp only [eApp, aCons, aNil, so, bind_ok_, bt]
theorem k_ties_of (v : VR xs N) {T : List Nat} (hT : ∀ p ∈ T, p < xs.length + 1) (hl : T.length ≤ 21) (S : Sto) : callW backW f_ties_of [ti xs, .d (tz T)] S = .ok (ti (tieI xs N T)) S := by
  refine call_pure (is := [ti xs, .d (tz T)]) (T := []) rfl ?_ rfl
  have u : ∀ fs : FS, fnB 4 fs [ti xs, .d (tz T)] [] = (fs [some (ti xs), some (.d (tz T)), none, none] []).fin := fun _ => rfl
  have s1 : ties_of_1 [some (ti xs), some (.d (tz T)), none, none] [] = .nx [some (ti xs), some (.d (tz T)), some (.d (.list (zd (en xs N)))), none] [] := by
    unfold ties_of_1
    simp only [sCons, sRet, sSet, sEx, sNil, tE, tNt, tAn, tOr', eApp, eOp2, eOp1, eVar, eC, eLst, eTup, eSl, eRev, aCons, aNil, pNo, pSm, callN, eAn, eOr, eNt, asB, bind_ok_, to_ok_, seq_nx_, seq_ret_, fin_ret_, fin_nx_, i_add, i_sub, i_neg, lstOf, tupOf, List.getElem?_cons_succ, List.getElem?_cons_zero, List.set_cons_succ, List.set_cons_zero, List.length_cons, List.length_nil, if_true, k_ends_by v]
  have c := tie_expr v hT hl (ie := 2) (ir := 1) (jp := 3) (r := [some (ti xs), some (.d (tz T)), some (.d (.list (zd (en xs N)))), none]) (S := []) rfl rfl (fun x => rfl) (show 3 < 4 by decide)
  rw [ties_of_eq, u]
  unfold ties_ofb
  rw [sc_nx s1]
  unfold ties_of_2
  simp only [sCons, sRet, c, to_ok_]
  rfl
theorem dTups_ti : ∀ (us : List (List Int)), (∀ u ∈ us, u ≠ []) → dTups (us.map fun n => PyData.tuple (n.map .int)) = some us
  | [], _ => rfl
  | u :: t, h => by
    have hu := h u List.mem_cons_self
    rw [List.map_cons]
    unfold dTups
    rw [intsOf_map, dTups_ti t fun x m => h x (List.mem_cons_of_mem _ m)]
    cases u with
    | nil => exact absurd rfl hu
    | cons a b => rfl
theorem intsOf_tups : ∀ (us : List (List Int)), us ≠ [] → intsOf (us.map fun n => PyData.tuple (n.map .int)) = none
  | [], h => absurd rfl h
  | u :: t, _ => rfl
theorem sort_tups {us : List (List Int)} (hu : ∀ u ∈ us, u ≠ []) (S : Sto) : bSortA [.d (.list (us.map fun n => PyData.tuple (n.map .int)))] S = .ok (.d (.list ((lsort us).map fun n => .tuple (n.map .int)))) S := by
  by_cases h : us = []
  · subst h; rfl
  · unfold bSortA
    simp only [sintsOf, seqOf, lstOf, intsOf_tups us h, dTups_ti us hu]
theorem tieI_ne (v : VR xs N) {T : List Nat} (h : T ∈ rgs xs N) : tieI xs N T ≠ [] := by
  obtain ⟨b, hb, rfl⟩ := (ep_of v).mem_ringsF.mp h
  intro e
  have := (ep_of v).tie_len hb
  unfold tieI at e
  rw [e] at this
  have := List.length_pos_of_mem ((ep_of v).self_cls hb)
  simp at *
  omega
theorem ties_ne (v : VR xs N) : ∀ u ∈ (rgs xs N).map (tieI xs N), u ≠ [] := fun u hu => by
  obtain ⟨T, hT, rfl⟩ := List.mem_map.mp hu
  exact tieI_ne v hT
def trgs (xs : List Int) (N : Int) : List (List Int) := lsort ((rgs xs N).map (tieI xs N))
theorem k_tie_rings (v : VR xs N) (S : Sto) : callW backW f_tie_rings [ti xs] S = .ok (.d (.tuple ((trgs xs N).map fun n => .tuple (n.map .int)))) S := by
  refine call_pure (is := [ti xs]) (T := []) rfl ?_ rfl
  have u : ∀ fs : FS, fnB 2 fs [ti xs] [] = (fs [some (ti xs), none] []).fin := fun _ => rfl
  have hi : iSeq (eApp (callN 1 f_rings_of) (aCons (eVar 0) aNil)) [some (ti xs), none] [] = .ok ((rgs xs N).map tz) [] :=
    iSeq_ok (v := .d (.list ((rgs xs N).map tz))) (by simp only [sCons, sRet, sSet, sEx, sNil, tE, tNt, tAn, tOr', eApp, eOp2, eOp1, eVar, eC, eLst, eTup, eSl, eRev, aCons, aNil, pNo, pSm, callN, eAn, eOr, eNt, asB, bind_ok_, to_ok_, seq_nx_, seq_ret_, fin_ret_, fin_nx_, i_add, i_sub, i_neg, lstOf, tupOf, List.getElem?_cons_succ, List.getElem?_cons_zero, List.set_cons_succ, List.set_cons_zero, List.length_cons, List.length_nil, if_true, k_rings_of v]) rfl (by rw [List.length_map]; exact small_line (by have := rgs_len v; omega))
  have c := eLc_em (g := gNm 1) (e := eApp (callN 2 f_ties_of) (aCons (eVar 0) (aCons (eVar 1) aNil))) (vs := [1]) tz (fun T => .tuple ((tieI xs N T).map .int)) hi (by have := rgs_len v; omega) fun T hT => by
    obtain ⟨b, hb, rfl⟩ := (ep_of v).mem_ringsF.mp hT
    have k := k_ties_of v (T := cls (xs.length + 1) (en xs N) b) (fun p hp => (((ep_of v).mem_cls hb).mp hp).1) (rgs_each v hT).1 []
    exact ⟨[some (ti xs), some (.d (tz (cls (xs.length + 1) (en xs N) b)))], rfl, by simp only [sCons, sRet, sSet, sEx, sNil, tE, tNt, tAn, tOr', eApp, eOp2, eOp1, eVar, eC, eLst, eTup, eSl, eRev, aCons, aNil, pNo, pSm, callN, eAn, eOr, eNt, asB, bind_ok_, to_ok_, seq_nx_, seq_ret_, fin_ret_, fin_nx_, i_add, i_sub, i_neg, lstOf, tupOf, List.getElem?_cons_succ, List.getElem?_cons_zero, List.set_cons_succ, List.set_cons_zero, List.length_cons, List.length_nil, if_true, k]⟩
  have e : (rgs xs N).map (fun T => PyData.tuple ((tieI xs N T).map .int)) = ((rgs xs N).map (tieI xs N)).map fun n => .tuple (n.map .int) := by rw [List.map_map]; rfl
  rw [e] at c
  have so := sort_tups (us := (rgs xs N).map (tieI xs N)) (ties_ne v) []
  have bt : bTup [.d (.list ((trgs xs N).map fun n => .tuple (n.map .int)))] [] = .ok (.d (.tuple ((trgs xs N).map fun n => .tuple (n.map .int)))) [] := rfl
  have so : bSortA [.d (.list (((rgs xs N).map (tieI xs N)).map fun n => PyData.tuple (n.map .int)))] [] = .ok (.d (.list ((trgs xs N).map fun n => .tuple (n.map .int)))) [] := so
  rw [tie_rings_eq, u]
  unfold tie_ringsb tie_rings_1 tie_rings_2
  simp only [sCons, sRet, sSet, sEx, sNil, tE, tNt, tAn, tOr', eApp, eOp2, eOp1, eVar, eC, eLst, eTup, eSl, eRev, aCons, aNil, pNo, pSm, callN, eAn, eOr, eNt, asB, bind_ok_, to_ok_, seq_nx_, seq_ret_, fin_ret_, fin_nx_, i_add, i_sub, i_neg, lstOf, tupOf, List.getElem?_cons_succ, List.getElem?_cons_zero, List.set_cons_succ, List.set_cons_zero, List.length_cons, List.length_nil, if_true, k_check v, c, so, bt]
end
end GA
set_option maxRecDepth 100000
set_option maxHeartbeats 4000000
namespace GA
open PySem L2 MI GM
section
variable {xs ys : List Int} {N f l : Int} {S : Sto}
/-! ## where each stands: the very row -/
theorem back_val (v : VR xs N) : ∃ (zs : List Int) (T : Sto), f_back_of [ti xs] [] = .ok (ti zs) T ∧ VR zs N ∧ ∀ (i : Nat) (x : Int), xs[i]? = some x → zs[(iabs x - 1).toNat]? = some (if 0 < x then (i : Int) + 1 else 0 - i - 1) := by
  have hL := len_tiD v.len []
  have hn := v.len
  have hs := v.small
  have hlo := v.lo
  have hi : back_of_2i [some (ti xs), some (.ref 0), none, none] [.lst ((List.replicate xs.length (0 : Int)).map .int)] = .ok (enumD (xs.map .int)) [.lst ((List.replicate xs.length (0 : Int)).map .int)] := by
    unfold back_of_2i
    simp only [iEn, eVar, List.getElem?_cons_zero, bind_ok_, frz_ti]
    rw [if_pos (by rw [List.length_map]; exact small_line (by omega))]
  have elen : (enumD (xs.map PyData.int)).length = xs.length := by unfold enumD; simp
  have mem : ∀ (i : Nat) (d : PyData), (enumD (xs.map PyData.int))[i]? = some d → ∃ w : Int, d = .tuple [.int (i : Nat), .int w] ∧ xs[i]? = some w := fun i d m => by
    have hl := (List.getElem?_eq_some_iff.mp m).1
    rw [elen] at hl
    unfold enumD at m
    rw [List.getElem?_map, List.getElem?_eq_getElem (by simp; omega)] at m
    simp only [List.getElem_zip, List.getElem_range, List.getElem_map, Option.map_some, Option.some.injEq] at m
    exact ⟨xs[i], m.symm, List.getElem?_eq_getElem hl⟩
  have pinj : ∀ (i j : Nat) (x y : Int), xs[i]? = some x → xs[j]? = some y → iabs x = iabs y → i = j := fun i j x y h1 h2 e => by
    have e1 : (xs.map iabs)[i]? = some (iabs x) := by rw [List.getElem?_map, h1]; rfl
    have e2 : (xs.map iabs)[j]? = some (iabs x) := by rw [List.getElem?_map, h2, e]; rfl
    exact (List.getElem?_inj (by have := (List.getElem?_eq_some_iff.mp e1).1; exact this) v.nd).mp (e1.trans e2.symm)
  obtain ⟨r', S', h, zs, p3, p4, rfl, hl, rfl, hz⟩ := forL_inv (g := gTp 2 (gsCons (gNm 2) (gsCons (gNm 3) gsNil))) (b := back_of_2b) (ds := enumD (xs.map .int))
    (fun k r S => ∃ (zs : List Int) (p3 p4 : Option IV), r = [some (ti xs), some (.ref 0), p3, p4] ∧ zs.length = xs.length ∧ S = [.lst (zs.map .int)] ∧ ∀ (i : Nat) (x : Int), i < k → xs[i]? = some x → zs[(iabs x - 1).toNat]? = some (if 0 < x then (i : Int) + 1 else 0 - i - 1)) (fun k r S d hd ⟨zs, p3, p4, h1, h2, h3, h4⟩ => by
      obtain ⟨w, rfl, hw⟩ := mem k d hd
      subst h1 h3
      have hb := v.mem w (List.mem_of_getElem? hw)
      have put : ∀ x : Int, stPutF (.ref 0) (.d (.int (iabs w - 1))) (.d (.int x)) [.lst (zs.map .int)] = some [.lst ((zs.set (iabs w - 1).toNat x).map .int)] := fun x => by
        have hx : ixN (zs.map PyData.int).length (iabs w - 1) = some (iabs w - 1).toNat := ixN_ok (by omega) (by rw [List.length_map]; omega)
        simp only [stPutF, stPutD, stPut, List.getElem?_cons_zero, hx]
        rw [List.map_set]
        rfl
      refine ⟨[some (ti xs), some (.ref 0), some (.d (.int (k : Nat))), some (.d (.int w))], [.lst ((zs.set (iabs w - 1).toNat (if 0 < w then (k : Int) + 1 else 0 - k - 1)).map .int)], ?_, _, _, _, rfl, by rw [List.length_set]; exact h2, rfl, fun i x hik hx => ?_⟩
      · have gt : (gTp 2 (gsCons (gNm 2) (gsCons (gNm 3) gsNil))) (.d (.tuple [.int (k : Nat), .int w])) [some (ti xs), some (.ref 0), p3, p4] [.lst (zs.map .int)] = .nx [some (ti xs), some (.ref 0), some (.d (.int (k : Nat))), some (.d (.int w))] [.lst (zs.map .int)] := rfl
        rw [gt]
        unfold back_of_2b back_of_2_1
        by_cases h : 0 < w
        · have g : cInt MI.gGt (.d (.int w)) (.d (.int 0)) [.lst (zs.map .int)] = .ok (.d (.bool true)) [.lst (zs.map .int)] := by simp [h]
          have q := put ((k : Int) + 1)
          rw [if_pos h]
          unfold eIf gSbF
          simp only [sCons, sRet, sSet, sEx, sNil, tE, tNt, tAn, tOr', eApp, eOp2, eOp1, eVar, eC, eLst, eTup, eSl, eRev, aCons, aNil, pNo, pSm, callN, eAn, eOr, eNt, asB, bind_ok_, to_ok_, seq_nx_, seq_ret_, fin_ret_, fin_nx_, i_add, i_sub, i_neg, lstOf, tupOf, List.getElem?_cons_succ, List.getElem?_cons_zero, List.set_cons_succ, List.set_cons_zero, List.length_cons, List.length_nil, if_true, sAs, g, abs_ok, q]
        · have g : cInt MI.gGt (.d (.int w)) (.d (.int 0)) [.lst (zs.map .int)] = .ok (.d (.bool false)) [.lst (zs.map .int)] := by simp [h]
          have q := put (0 - (k : Int) - 1)
          rw [if_neg h]
          unfold eIf gSbF
          simp only [sCons, sRet, sSet, sEx, sNil, tE, tNt, tAn, tOr', eApp, eOp2, eOp1, eVar, eC, eLst, eTup, eSl, eRev, aCons, aNil, pNo, pSm, callN, eAn, eOr, eNt, asB, bind_ok_, to_ok_, seq_nx_, seq_ret_, fin_ret_, fin_nx_, i_add, i_sub, i_neg, lstOf, tupOf, List.getElem?_cons_succ, List.getElem?_cons_zero, List.set_cons_succ, List.set_cons_zero, List.length_cons, List.length_nil, if_true, sAs, g, abs_ok, q, Bool.false_eq_true, if_false]
      · have hbx := v.mem x (List.mem_of_getElem? hx)
        by_cases e : i = k
        · subst e
          rw [hw] at hx
          cases hx
          rw [List.getElem?_set_self (by omega)]
        · rw [List.getElem?_set_ne (fun z => e (pinj i k x w hx hw (by omega)))]
          exact h4 i x (by omega) hx) (r := [some (ti xs), some (.ref 0), none, none]) (S := [.lst ((List.replicate xs.length (0 : Int)).map .int)]) ⟨_, _, _, rfl, by rw [List.length_replicate], rfl, fun i x z => absurd z (Nat.not_lt_zero _)⟩
  have hz : ∀ (i : Nat) (x : Int), xs[i]? = some x → zs[(iabs x - 1).toNat]? = some (if 0 < x then (i : Int) + 1 else 0 - i - 1) := fun i x hx => hz i x (by rw [elen]; exact (List.getElem?_eq_some_iff.mp hx).1) hx
  have surj : ∀ q, q < zs.length → ∃ (i : Nat) (x : Int), xs[i]? = some x ∧ (iabs x - 1).toNat = q := fun q hq => by
    have : ((q : Int) + 1) ∈ xs.map iabs := v.perm.mem_iff.mpr (mem_rgI.mpr (by omega))
    obtain ⟨x, hx, e⟩ := List.mem_map.mp this
    obtain ⟨i, hi⟩ := List.getElem?_of_mem hx
    exact ⟨i, x, hi, by omega⟩
  have av : ∀ q, q < zs.length → ∃ (i : Nat) (x : Int), xs[i]? = some x ∧ (iabs x - 1).toNat = q ∧ ∃ z, zs[q]? = some z ∧ iabs z = (i : Int) + 1 := fun q hq => by
    obtain ⟨i, x, h1, h2⟩ := surj q hq
    refine ⟨i, x, h1, h2, _, by rw [← h2]; exact hz i x h1, ?_⟩
    split <;> unfold iabs <;> split <;> omega
  refine ⟨zs, [.lst (zs.map .int)], ?_, ⟨by omega, v.lo, v.hi, fun z hzm => ?_, ?_⟩, hz⟩
  · have u : ∀ fs : FS, fnB 4 fs [ti xs] [] = (fs [some (ti xs), none, none, none] []).fin := fun _ => rfl
    have m0 : mkLst [.d (.int 0)] [] = .ok (.d (.list [.int 0])) [] := rfl
    have mu : oMulM (.d (.list [.int 0])) (.d (.int N)) [] = .ok (.ref 0) [.lst ((List.replicate xs.length (0 : Int)).map .int)] := by
      unfold oMulM
      simp only []
      rw [if_pos ⟨by omega, by simp⟩, show N.toNat = xs.length by omega]
      have : (List.replicate xs.length [PyData.int 0]).flatten = (List.replicate xs.length (0 : Int)).map .int := by
        rw [List.map_replicate]
        generalize xs.length = k
        induction k with
        | zero => rfl
        | succ k ih => rw [List.replicate_succ, List.replicate_succ, List.flatten_cons, ih]; rfl
      rw [this]
      rfl
    have s1 : back_of_1 [some (ti xs), none, none, none] [] = .nx [some (ti xs), some (.ref 0), none, none] [.lst ((List.replicate xs.length (0 : Int)).map .int)] := by
      unfold back_of_1
      simp only [sCons, sRet, sSet, sEx, sNil, tE, tNt, tAn, tOr', eApp, eOp2, eOp1, eVar, eC, eLst, eTup, eSl, eRev, aCons, aNil, pNo, pSm, callN, eAn, eOr, eNt, asB, bind_ok_, to_ok_, seq_nx_, seq_ret_, fin_ret_, fin_nx_, i_add, i_sub, i_neg, lstOf, tupOf, List.getElem?_cons_succ, List.getElem?_cons_zero, List.set_cons_succ, List.set_cons_zero, List.length_cons, List.length_nil, if_true, m0, hL, mu]
    have bt : bTup [.ref 0] [.lst (zs.map .int)] = .ok (ti zs) [.lst (zs.map .int)] := rfl
    rw [back_of_eq, u]
    unfold back_ofb
    rw [sc_nx s1]
    unfold back_of_2
    rw [sc_nx ((sf_eq hi).trans h)]
    unfold back_of_3
    simp only [sCons, sRet, sSet, sEx, sNil, tE, tNt, tAn, tOr', eApp, eOp2, eOp1, eVar, eC, eLst, eTup, eSl, eRev, aCons, aNil, pNo, pSm, callN, eAn, eOr, eNt, asB, bind_ok_, to_ok_, seq_nx_, seq_ret_, fin_ret_, fin_nx_, i_add, i_sub, i_neg, lstOf, tupOf, List.getElem?_cons_succ, List.getElem?_cons_zero, List.set_cons_succ, List.set_cons_zero, List.length_cons, List.length_nil, if_true, bt]
  · obtain ⟨q, hq⟩ := List.getElem?_of_mem hzm
    obtain ⟨i, x, h1, h2, z2, h3, h4⟩ := av q (List.getElem?_eq_some_iff.mp hq).1
    rw [hq] at h3
    cases h3
    have := (List.getElem?_eq_some_iff.mp h1).1
    omega
  · rw [List.nodup_iff_pairwise_ne, List.pairwise_map, List.pairwise_iff_getElem]
    intro p q hp hq hpq e
    obtain ⟨i, x, h1, h2, z1, h3, h4⟩ := av p hp
    obtain ⟨j, y, g1, g2, z2, g3, g4⟩ := av q hq
    rw [List.getElem?_eq_getElem hp] at h3
    rw [List.getElem?_eq_getElem hq] at g3
    cases h3
    cases g3
    have : i = j := by omega
    subst this
    rw [h1] at g1
    cases g1
    omega
theorem k_back_ex (v : VR xs N) : ∃ zs : List Int, VR zs N ∧ (∀ (i : Nat) (x : Int), xs[i]? = some x → zs[(iabs x - 1).toNat]? = some (if 0 < x then (i : Int) + 1 else 0 - i - 1)) ∧ (∀ S, callW backW f_back_of [ti xs] S = .ok (ti zs) S) ∧ ∀ S, callW backW f_back [ti xs] S = .ok (ti zs) S := by
  obtain ⟨zs, T, h1, h2, h3⟩ := back_val v
  have k : ∀ S, callW backW f_back_of [ti xs] S = .ok (ti zs) S := fun S => call_pure (is := [ti xs]) rfl h1 rfl
  refine ⟨zs, h2, h3, k, fun S => call_pure (is := [ti xs]) (T := []) rfl ?_ rfl⟩
  simp [f_back, k_check v, k]
/-- the row behind has rings of the same lengths -/
theorem lens_back (v : VR xs N) (w : VR ys N) (hb : ∀ (i : Nat) (x : Int), xs[i]? = some x → ys[(iabs x - 1).toNat]? = some (if 0 < x then (i : Int) + 1 else 0 - i - 1)) : lens ys N = lens xs N := by
  have hl : ys.length = xs.length := by have := v.len; have := w.len; omega
  have p := (inv_of v w hb).lens (ep_of v) (by rw [← hl]; exact ep_of w)
  unfold lens rgs
  rw [hl]
  refine isort_of ((isort_perm _).trans ?_) (isort_pw _)
  exact p.map _
/-! ## the law's ends and rings -/
theorem law_ends_ok (v : VR xs N) : f__law_ends [ti xs] [] = .ok (.d (.list (zd (en xs N)))) [.lst (.int 0 :: xs.flatMap phE)] := by
  have hL := len_tiD v.len
  have hn := v.len
  have hs := v.small
  obtain ⟨h, hI⟩ := forL_ei (g := gNm 2) (b := _law_ends_2b) (xs := xs) PyData.int (σ := List PyData × Option IV)
    (fun s => [some (ti xs), some (.ref 0), s.2]) (fun s => [.lst s.1])
    (fun s w => (s.1 ++ phE w, some (.d (.int w))))
    (fun i s => s.1.length ≤ 2 * i + 1) (fun i s w hw hi => by
      have hlt := (List.getElem?_eq_some_iff.mp hw).1
      have hb := v.big (List.mem_of_getElem? hw)
      have hm := g_mulI (w := w) (by omega) [.lst s.1]
      have hm2 : oInt MI.gMul (.d (.int (-2))) (.d (.int w)) [.lst s.1] = .ok (.d (.int (0 - 2 * w))) [.lst s.1] := by
        have k : (-2 : Int).natAbs < 2 ^ 2000 ∧ w.natAbs < 2 ^ 2000 := ⟨by decide, by
          have : w.natAbs < 2 ^ 20 := by omega
          exact Nat.lt_of_lt_of_le this (Nat.pow_le_pow_right (by decide) (by decide))⟩
        simp only [oInt, gMul]
        rw [if_pos k, show -2 * w = 0 - 2 * w by omega]
      have hlen : (phE w).length = 2 := by unfold phE; split <;> rfl
      have hx := ext_ok (S := [.lst s.1]) (n := 0) (acc := s.1) (ys := phE w) rfl (by omega)
      refine ⟨?_, by rw [List.length_append, hlen]; omega⟩
      show _law_ends_2b [some (ti xs), some (.ref 0), some (.d (.int w))] [.lst s.1] = _
      unfold _law_ends_2b _law_ends_2_1
      have ml2 : ∀ (S : Sto) (x y : PyData), mkLst [.d x, .d y] S = .ok (.d (.list [x, y])) S := fun _ _ _ => rfl
      have ty : tyOk "list" [.lst s.1] (.ref 0) = true := rfl
      by_cases c : 0 < w
      · have g : cInt MI.gGt (.d (.int w)) (.d (.int 0)) [.lst s.1] = .ok (.d (.bool true)) [.lst s.1] := by simp [c]
        have e : phE w = [.int (2 * w - 1), .int (2 * w)] := if_pos c
        rw [e] at hx ⊢
        unfold eIf
        simp only [sCons, sRet, sSet, sEx, sNil, tE, tNt, tAn, tOr', eApp, eOp2, eOp1, eVar, eC, eLst, eTup, eSl, eRev, aCons, aNil, pNo, pSm, callN, eAn, eOr, eNt, asB, bind_ok_, to_ok_, seq_nx_, seq_ret_, fin_ret_, fin_nx_, i_add, i_sub, i_neg, lstOf, tupOf, List.getElem?_cons_succ, List.getElem?_cons_zero, List.set_cons_succ, List.set_cons_zero, List.length_cons, List.length_nil, if_true, eMt, ty, g, hm, ml2, hx]
      · have g : cInt MI.gGt (.d (.int w)) (.d (.int 0)) [.lst s.1] = .ok (.d (.bool false)) [.lst s.1] := by simp [c]
        have e : phE w = [.int (0 - 2 * w), .int (0 - 2 * w - 1)] := if_neg c
        rw [e] at hx ⊢
        unfold eIf
        simp only [sCons, sRet, sSet, sEx, sNil, tE, tNt, tAn, tOr', eApp, eOp2, eOp1, eVar, eC, eLst, eTup, eSl, eRev, aCons, aNil, pNo, pSm, callN, eAn, eOr, eNt, asB, bind_ok_, to_ok_, seq_nx_, seq_ret_, fin_ret_, fin_nx_, i_add, i_sub, i_neg, lstOf, tupOf, List.getElem?_cons_succ, List.getElem?_cons_zero, List.set_cons_succ, List.set_cons_zero, List.length_cons, List.length_nil, if_true, eMt, ty, g, hm2, ml2, hx, Bool.false_eq_true, if_false]) (s := ([.int 0], none)) (by simp)
  have ha := foldl_ext phE (fun (s : List PyData × Option IV) (w : Int) => (s.1 ++ phE w, some (IV.d (.int w)))) (fun _ _ => rfl) xs ([.int 0], none)
  have u : ∀ fs : FS, fnB 3 fs [ti xs] [] = (fs [some (ti xs), none, none] []).fin := fun _ => rfl
  have s1 : _law_ends_1 [some (ti xs), none, none] [] = .nx [some (ti xs), some (.ref 0), none] [.lst [.int 0]] := rfl
  have hi : _law_ends_2i [some (ti xs), some (.ref 0), none] [.lst [.int 0]] = .ok (xs.map .int) [.lst [.int 0]] := iSeq_ok (v := ti xs) rfl rfl (by rw [List.length_map]; exact small_line (by omega))
  rw [_law_ends_eq, u]
  unfold _law_endsb
  rw [sc_nx s1]
  unfold _law_ends_2
  rw [sc_nx ((sf_eq hi).trans h)]
  dsimp only at ha ⊢
  rw [ha]
  have em := phE_all xs fun w hw => (v.big hw).1
  have e2 : zd (en xs N) = (.int 0 :: xs.flatMap phE) ++ [.int (2 * N + 1)] := by
    rw [en_list v, em]
    unfold zd zi
    simp only [List.map_cons, List.map_append, List.map_nil, List.cons_append]
    rw [show ((2 * xs.length + 1 : Nat) : Int) = 2 * N + 1 by omega]
    rfl
  have hlen : (.int 0 :: xs.flatMap phE : List PyData).length ≤ 100 := by
    rw [List.length_cons, em]
    unfold zd zi
    rw [List.length_map, List.length_map, pairs_len]
    omega
  have hm := g_mulI (w := N) (by have := v.hi; have := v.lo; omega) [.lst (.int 0 :: xs.flatMap phE)]
  have ml1 : ∀ (S : Sto) (x : PyData), mkLst [.d x] S = .ok (.d (.list [x])) S := fun _ _ => rfl
  have as : oAddS (.ref 0) (.d (.list [.int (2 * N + 1)])) [.lst (.int 0 :: xs.flatMap phE)] = .ok (.d (.list (zd (en xs N)))) [.lst (.int 0 :: xs.flatMap phE)] := by
    unfold oAddS
    simp only [List.getElem?_cons_zero]
    rw [if_pos (by simp only [List.length_cons, List.length_nil, size_line] at hlen ⊢; omega), e2]
  unfold _law_ends_3
  have st : ([PyData.int 0], (none : Option IV)).1 ++ xs.flatMap phE = .int 0 :: xs.flatMap phE := rfl
  rw [st]
  simp only [sCons, sRet, sSet, sEx, sNil, tE, tNt, tAn, tOr', eApp, eOp2, eOp1, eVar, eC, eLst, eTup, eSl, eRev, aCons, aNil, pNo, pSm, callN, eAn, eOr, eNt, asB, bind_ok_, to_ok_, seq_nx_, seq_ret_, fin_ret_, fin_nx_, i_add, i_sub, i_neg, lstOf, tupOf, List.getElem?_cons_succ, List.getElem?_cons_zero, List.set_cons_succ, List.set_cons_zero, List.length_cons, List.length_nil, if_true, hL, hm, ml1, as]
theorem k_law_ends (v : VR xs N) (S : Sto) : callW backW f__law_ends [ti xs] S = .ok (.d (.list (zd (en xs N)))) S := call_pure (is := [ti xs]) rfl (law_ends_ok v) rfl
end
end GA
set_option maxRecDepth 100000
set_option maxHeartbeats 4000000
namespace GA
open PySem L2 MI GM
/-- a dict from ends to points -/
def qd : List Nat → Nat → List (Key × PyData)
  | [], _ => []
  | e :: t, o => (.inl (e : Nat), .int (o / 2 : Nat)) :: qd t (o + 1)
def qp (l : List Nat) (o : Nat) : List (PyData × PyData) := (qd l o).map fun p => (kD p.1, p.2)
theorem qd_keys : ∀ (l : List Nat) (o : Nat), (qd l o).map (·.1) = l.map fun (e : Nat) => (.inl (e : Int) : Key)
  | [], _ => rfl
  | e :: t, o => by
    unfold qd
    rw [List.map_cons, List.map_cons, qd_keys t]
theorem qp_at {e : Nat} : ∀ {l : List Nat} {o : Nat}, e ∈ l → dAt (qp l o) (.int (e : Nat)) = some (.int ((o + l.idxOf e) / 2 : Nat))
  | x :: t, o, h => by
    have ih := @qp_at e t (o + 1)
    unfold qp at ih ⊢
    unfold qd
    rw [List.map_cons]
    unfold dAt
    show (if kbeq (.int (x : Nat)) (.int (e : Nat)) = true then some (PyData.int (o / 2 : Nat)) else dAt ((qd t (o + 1)).map fun p => (kD p.1, p.2)) (.int (e : Nat))) = _
    rw [kb_int]
    by_cases z : x = e
    · subst z
      rw [decide_eq_true rfl, if_pos rfl]
      simp
    · rw [decide_eq_false (fun q : (x : Int) = (e : Int) => z (Int.ofNat.inj q)), if_neg (by decide), ih ((List.mem_cons.mp h).resolve_left fun q => z q.symm), List.idxOf_cons]
      have : (x == e) = false := by simp [z]
      rw [this]
      show some (PyData.int (((o + 1 + t.idxOf e) / 2 : Nat) : Int)) = some (PyData.int (((o + (t.idxOf e + 1)) / 2 : Nat) : Int))
      rw [show o + 1 + t.idxOf e = o + (t.idxOf e + 1) by omega]
def en3 : List Nat → Nat → List PyData
  | [], _ => []
  | e :: t, o => .tuple [.int (e : Nat), .int (o / 2 : Nat)] :: en3 t (o + 1)
theorem kvs_en3 : ∀ (l : List Nat) (o : Nat), kvsOf (en3 l o) = some (qd l o)
  | [], _ => rfl
  | e :: t, o => by
    unfold en3 kvsOf
    rw [kvs_en3 t]
    rfl
theorem lc_en3 {g : FG} {e : FE} {r0 : Rho} {S : Sto} (h : ∀ (o x : Nat), ∃ r1, g (.d (.tuple [.int (o : Nat), .int (x : Nat)])) r0 S = .nx r1 S ∧ e r1 S = .ok (.d (.tuple [.int (x : Nat), .int (o / 2 : Nat)])) S) :
    ∀ (l : List Nat) (o : Nat), lcL g tYe e r0 (en2 l o) S = .ok (en3 l o) S
  | [], _ => rfl
  | x :: t, o => by
    obtain ⟨r1, h1, h2⟩ := h o x
    unfold en2 en3 lcL
    rw [h1]
    have ty : tYe r1 S = .ok true S := rfl
    simp only [ty, bind_ok_, if_true, h2, lc_en3 h t (o + 1)]
theorem iEn_zd {es : List Nat} (hl : es.length ≤ 1000) {f : FE} {r : Rho} {S : Sto} (h : f r S = .ok (.d (.list (zd es))) S) : iEn f r S = .ok (en2 es 0) S := by
  have lz : (zd es).length = es.length := by simp [zi]
  simp only [iEn, h, bind_ok_]
  show (if (zd es).length < sizeLine then Out.ok (enumD (zd es)) S else .bad) = _
  rw [if_pos (by rw [lz]; exact small_line (by omega)), enum_en2]
section
variable {xs ys : List Int} {N f l : Int} {S : Sto}
theorem dict_qp {es : List Nat} (nd : es.Nodup) (S : Sto) : bDictP [.d (.list (en3 es 0))] S = .ok (.d (.dict (qp es 0))) S := by
  unfold bDictP
  simp only [lstOf, kvs_en3]
  rw [if_pos]
  · rfl
  · rw [qd_keys, List.nodup_iff_pairwise_ne, List.pairwise_map]
    exact (List.nodup_iff_pairwise_ne.mp nd).imp fun z e => z (by injection e with e; exact Int.ofNat.inj e)
theorem ix_qp (v : VR xs N) {e : Nat} (h : e < 2 * (xs.length + 1)) (S : Sto) : oIxD (.d (.dict (qp (en xs N) 0))) (.d (.int (e : Nat))) S = .ok (.d (.int (pl (en xs N) e / 2 : Nat))) S := by
  have := qp_at (o := 0) ((ep_of v).all h)
  rw [Nat.zero_add] at this
  simp only [oIxD, dctOf]
  rw [if_pos (show kOk false (.int (e : Nat)) = true from rfl), this]
  rfl
theorem eq_nat (a b : Nat) (S : Sto) : cEqL (.d (.int (a : Nat))) (.d (.int (b : Nat))) S = .ok (.d (.bool (decide (a = b)))) S := by
  rw [cEqL_int]
  have : decide ((a : Int) = (b : Int)) = decide (a = b) := by rw [decide_eq_decide]; omega
  rw [this]
theorem ix_z {l : List Nat} {i : Nat} (h : i < l.length) (S : Sto) : oIxD (.d (.list (zd l))) (.d (.int (i : Nat))) S = .ok (.d (.int (l.getD i 0 : Nat))) S := by
  refine oIx_lst S (by omega) ?_
  unfold zd zi
  rw [List.getElem?_map, List.getElem?_map, Int.toNat_natCast, List.getD_eq_getElem?_getD, List.getElem?_eq_getElem h]
  rfl
theorem iSeq_zd {l : List Nat} (hl : l.length ≤ 1000) {f : FE} {r : Rho} {S : Sto} (h : f r S = .ok (.d (.list (zd l))) S) : iSeq f r S = .ok (l.map fun (k : Nat) => PyData.int (k : Int)) S := by
  have := iSeq_ok (f := f) (r := r) (S := S) (S' := S) h rfl (by simp only [List.length_map, zi]; exact small_line (by omega))
  rw [this]
  unfold zd zi
  rw [List.map_map]
  rfl
theorem iR_pts (v : VR xs N) {f : FE} {r : Rho} {S : Sto} (h : f r S = .ok (.d (.int (N + 1))) S) : iR1 f r S = .ok ((List.range (xs.length + 1)).map fun (p : Nat) => PyData.int (p : Int)) S := by
  have := iR1_ok h (by have := v.hi; have := v.lo; omega)
  rw [this, rngD_rg, rng_pts _ v.len]
  unfold zi
  rw [List.map_map]
  rfl
/-! ## the law's rings -/
theorem law_rings_ok (v : VR xs N) : f__law_rings [ti xs] [] = .ok (.d (.list ((rgs xs N).map tz))) [] := by
  have h := ep_of v
  have hL := len_tiD v.len
  have hn := v.len
  have hs := v.small
  obtain ⟨es, hes⟩ : ∃ es, es = en xs N := ⟨_, rfl⟩
  obtain ⟨m, hm⟩ : ∃ m, m = xs.length + 1 := ⟨_, rfl⟩
  have h' := h
  rw [← hm, ← hes] at h'
  have hel : es.length ≤ 1000 := by rw [hes, en_len]; omega
  have k1 := k_law_ends v []
  rw [← hes] at k1
  have u : ∀ fs : FS, fnB 10 fs [ti xs] [] = (fs [some (ti xs), none, none, none, none, none, none, none, none, none] []).fin := fun _ => rfl
  have s1 : _law_rings_1 [some (ti xs), none, none, none, none, none, none, none, none, none] [] = .nx [some (ti xs), some (.d (.list (zd es))), none, none, none, none, none, none, none, none] [] := by
    unfold _law_rings_1
    simp only [sCons, sRet, sSet, sEx, sNil, tE, tNt, tAn, tOr', eApp, eOp2, eOp1, eVar, eC, eLst, eTup, eSl, eRev, aCons, aNil, pNo, pSm, callN, eAn, eOr, eNt, asB, bind_ok_, to_ok_, seq_nx_, seq_ret_, fin_ret_, fin_nx_, i_add, i_sub, i_neg, lstOf, tupOf, List.getElem?_cons_succ, List.getElem?_cons_zero, List.set_cons_succ, List.set_cons_zero, List.length_cons, List.length_nil, if_true, k1]
  have lc : eLc (iEn (eVar 1)) (gTp 2 (gsCons (gNm 8) (gsCons (gNm 9) gsNil))) tYe (eTup (aCons (eVar 9) (aCons (eOp2 (oInt MI.gDiv) (eVar 8) (eC (.int 2))) aNil))) [8, 9] [some (ti xs), some (.d (.list (zd es))), none, none, none, none, none, none, none, none] [] = .ok (.d (.list (en3 es 0))) [] := by
    have hi := iEn_zd hel (f := eVar 1) (r := [some (ti xs), some (.d (.list (zd es))), none, none, none, none, none, none, none, none]) (S := []) rfl
    unfold eLc lcR
    rw [hi]
    have c := lc_en3 (g := gTp 2 (gsCons (gNm 8) (gsCons (gNm 9) gsNil))) (e := eTup (aCons (eVar 9) (aCons (eOp2 (oInt MI.gDiv) (eVar 8) (eC (.int 2))) aNil))) (r0 := [some (ti xs), some (.d (.list (zd es))), none, none, none, none, none, none, none, none]) (S := []) (fun o x => by
      have d := g_div2 o []
      exact ⟨[some (ti xs), some (.d (.list (zd es))), none, none, none, none, none, none, some (.d (.int o)), some (.d (.int x))], rfl, by simp only [sCons, sRet, sSet, sEx, sNil, tE, tNt, tAn, tOr', eApp, eOp2, eOp1, eVar, eC, eLst, eTup, eSl, eRev, aCons, aNil, pNo, pSm, callN, eAn, eOr, eNt, asB, bind_ok_, to_ok_, seq_nx_, seq_ret_, fin_ret_, fin_nx_, i_add, i_sub, i_neg, lstOf, tupOf, List.getElem?_cons_succ, List.getElem?_cons_zero, List.set_cons_succ, List.set_cons_zero, List.length_cons, List.length_nil, if_true, d, mkt2]⟩) es 0
    show ((if (en2 es 0).length ≤ 1000000 then (lcL _ tYe _ (wipeR _ [8, 9]) (en2 es 0) []).nox else .bad : Out (List PyData)).bind _) = _
    rw [if_pos (by rw [en2_len]; omega)]
    have w : wipeR [some (ti xs), some (.d (.list (zd es))), none, none, none, none, none, none, none, none] [8, 9] = [some (ti xs), some (.d (.list (zd es))), none, none, none, none, none, none, none, none] := rfl
    rw [w, c]
    rfl
  have s2 : _law_rings_2 [some (ti xs), some (.d (.list (zd es))), none, none, none, none, none, none, none, none] [] = .nx [some (ti xs), some (.d (.list (zd es))), some (.d (.dict (qp es 0))), none, none, none, none, none, none, none] [] := by
    have dq := dict_qp h'.nd []
    unfold _law_rings_2
    simp only [sCons, sRet, sSet, sEx, sNil, tE, tNt, tAn, tOr', eApp, eOp2, eOp1, eVar, eC, eLst, eTup, eSl, eRev, aCons, aNil, pNo, pSm, callN, eAn, eOr, eNt, asB, bind_ok_, to_ok_, seq_nx_, seq_ret_, fin_ret_, fin_nx_, i_add, i_sub, i_neg, lstOf, tupOf, List.getElem?_cons_succ, List.getElem?_cons_zero, List.set_cons_succ, List.set_cons_zero, List.length_cons, List.length_nil, if_true, lc, dq]
  have s3 : _law_rings_3 [some (ti xs), some (.d (.list (zd es))), some (.d (.dict (qp es 0))), none, none, none, none, none, none, none] [] = .nx [some (ti xs), some (.d (.list (zd es))), some (.d (.dict (qp es 0))), some (.d (.list (zd (List.range m)))), none, none, none, none, none, none] [] := by
    have rg : rgOk 0 (N + 1) = true := by
      unfold rgOk
      rw [Bool.and_eq_true, decide_eq_true_iff, decide_eq_true_iff]
      have := v.hi
      have := v.lo
      omega
    have e : eRgL (rg1 (eOp2 oAdd (eApp bLenD (aCons (eVar 0) aNil)) (eC (.int 1)))) [some (ti xs), some (.d (.list (zd es))), some (.d (.dict (qp es 0))), none, none, none, none, none, none, none] [] = .ok (.d (.list (zd (List.range m)))) [] := by
      have e1 : rg1 (eOp2 oAdd (eApp bLenD (aCons (eVar 0) aNil)) (eC (.int 1))) [some (ti xs), some (.d (.list (zd es))), some (.d (.dict (qp es 0))), none, none, none, none, none, none, none] [] = .ok (0, N + 1) [] := by
        simp only [rg1]
        simp only [sCons, sRet, sSet, sEx, sNil, tE, tNt, tAn, tOr', eApp, eOp2, eOp1, eVar, eC, eLst, eTup, eSl, eRev, aCons, aNil, pNo, pSm, callN, eAn, eOr, eNt, asB, bind_ok_, to_ok_, seq_nx_, seq_ret_, fin_ret_, fin_nx_, i_add, i_sub, i_neg, lstOf, tupOf, List.getElem?_cons_succ, List.getElem?_cons_zero, List.set_cons_succ, List.set_cons_zero, List.length_cons, List.length_nil, if_true, hL]
      simp only [eRgL, e1, bind_ok_]
      rw [if_pos rg, rgD_rg, rng_pts _ hn, hm]
    unfold _law_rings_3
    simp only [sCons, sRet, sSet, sEx, sNil, tE, tNt, tAn, tOr', eApp, eOp2, eOp1, eVar, eC, eLst, eTup, eSl, eRev, aCons, aNil, pNo, pSm, callN, eAn, eOr, eNt, asB, bind_ok_, to_ok_, seq_nx_, seq_ret_, fin_ret_, fin_nx_, i_add, i_sub, i_neg, lstOf, tupOf, List.getElem?_cons_succ, List.getElem?_cons_zero, List.set_cons_succ, List.set_cons_zero, List.length_cons, List.length_nil, if_true, e]
  -- the loop
  have hi4 : _law_rings_4i [some (ti xs), some (.d (.list (zd es))), some (.d (.dict (qp es 0))), some (.d (.list (zd (List.range m)))), none, none, none, none, none, none] [] = .ok ((List.range (xs.length + 1)).map fun (p : Nat) => PyData.int (p : Int)) [] := by
    unfold _law_rings_4i
    exact iR_pts v (by simp only [sCons, sRet, sSet, sEx, sNil, tE, tNt, tAn, tOr', eApp, eOp2, eOp1, eVar, eC, eLst, eTup, eSl, eRev, aCons, aNil, pNo, pSm, callN, eAn, eOr, eNt, asB, bind_ok_, to_ok_, seq_nx_, seq_ret_, fin_ret_, fin_nx_, i_add, i_sub, i_neg, lstOf, tupOf, List.getElem?_cons_succ, List.getElem?_cons_zero, List.set_cons_succ, List.set_cons_zero, List.length_cons, List.length_nil, if_true, hL])
  obtain ⟨e4, hI⟩ := forL_ei (g := gNm 4) (b := _law_rings_4b) (xs := List.range (xs.length + 1)) (fun (p : Nat) => PyData.int (p : Int)) (σ := List Nat × Option IV × Option IV × Option IV)
    (fun s => [some (ti xs), some (.d (.list (zd es))), some (.d (.dict (qp es 0))), some (.d (.list (zd s.1))), s.2.1, s.2.2.1, s.2.2.2, none, none, none]) (fun _ => [])
    (fun s t => (uni es s.1 t, some (.d (.int (t : Nat))), some (.d (.int (pl es (2 * t) / 2 : Nat))), some (.d (.int (pl es (2 * t + 1) / 2 : Nat)))))
    (fun _ s => s.1.length = m) (fun i s t ht hs1 => by
      have ht := List.mem_range.mp (List.mem_of_getElem? ht)
      obtain ⟨hml, q4, q5, q6⟩ := s
      have hs1 : hml.length = m := hs1
      refine ⟨?_, by show (uni es hml t).length = m; unfold uni; rw [List.length_map]; exact hs1⟩
      show _law_rings_4b [some (ti xs), some (.d (.list (zd es))), some (.d (.dict (qp es 0))), some (.d (.list (zd hml))), some (.d (.int (t : Nat))), q5, q6, none, none, none] [] =
        .nx [some (ti xs), some (.d (.list (zd es))), some (.d (.dict (qp es 0))), some (.d (.list (zd (uni es hml t)))), some (.d (.int (t : Nat))), some (.d (.int (pl es (2 * t) / 2 : Nat))), some (.d (.int (pl es (2 * t + 1) / 2 : Nat))), none, none, none] []
      have p0 := h'.pl_lt (e := 2 * t) (by omega)
      have p1 := h'.pl_lt (e := 2 * t + 1) (by omega)
      have m2 := g_mulI (w := (t : Int)) (by omega) []
      have a1 := ix_qp v (e := 2 * t) (by omega) []
      have a2 := ix_qp v (e := 2 * t + 1) (by omega) []
      rw [← hes] at a1 a2
      rw [show ((2 * t : Nat) : Int) = 2 * (t : Int) by omega] at a1
      rw [show ((2 * t + 1 : Nat) : Int) = 2 * (t : Int) + 1 by omega] at a2
      have t1 : _law_rings_4_1 [some (ti xs), some (.d (.list (zd es))), some (.d (.dict (qp es 0))), some (.d (.list (zd hml))), some (.d (.int (t : Nat))), q5, q6, none, none, none] [] =
          .nx [some (ti xs), some (.d (.list (zd es))), some (.d (.dict (qp es 0))), some (.d (.list (zd hml))), some (.d (.int (t : Nat))), some (.d (.int (pl es (2 * t) / 2 : Nat))), some (.d (.int (pl es (2 * t + 1) / 2 : Nat))), none, none, none] [] := by
        unfold _law_rings_4_1
        simp only [sCons, sRet, sSet, sEx, sNil, tE, tNt, tAn, tOr', eApp, eOp2, eOp1, eVar, eC, eLst, eTup, eSl, eRev, aCons, aNil, pNo, pSm, callN, eAn, eOr, eNt, asB, bind_ok_, to_ok_, seq_nx_, seq_ret_, fin_ret_, fin_nx_, i_add, i_sub, i_neg, lstOf, tupOf, List.getElem?_cons_succ, List.getElem?_cons_zero, List.set_cons_succ, List.set_cons_zero, List.length_cons, List.length_nil, if_true, sAs, m2, a1, a2, mkt2]
        rfl
      have c := eLc_em (g := gNm 7) (e := eIf (tE (eOp2 cEqL (eVar 7) (eOp2 oIxD (eVar 3) (eVar 6)))) (eOp2 oIxD (eVar 3) (eVar 5)) (eVar 7)) (vs := [7]) (fun (k : Nat) => PyData.int (k : Int))
        (fun k => .int ((if k = hml.getD (pl es (2 * t + 1) / 2) 0 then hml.getD (pl es (2 * t) / 2) 0 else k : Nat) : Int))
        (iSeq_zd (l := hml) (f := eVar 3) (r := [some (ti xs), some (.d (.list (zd es))), some (.d (.dict (qp es 0))), some (.d (.list (zd hml))), some (.d (.int (t : Nat))), some (.d (.int (pl es (2 * t) / 2 : Nat))), some (.d (.int (pl es (2 * t + 1) / 2 : Nat))), none, none, none]) (S := []) (by omega) rfl) (by omega) fun k hk => by
          have b1 := ix_z (l := hml) (i := pl es (2 * t + 1) / 2) (by omega) []
          have b2 := ix_z (l := hml) (i := pl es (2 * t) / 2) (by omega) []
          have ce := eq_nat k (hml.getD (pl es (2 * t + 1) / 2) 0) []
          refine ⟨[some (ti xs), some (.d (.list (zd es))), some (.d (.dict (qp es 0))), some (.d (.list (zd hml))), some (.d (.int (t : Nat))), some (.d (.int (pl es (2 * t) / 2 : Nat))), some (.d (.int (pl es (2 * t + 1) / 2 : Nat))), some (.d (.int (k : Nat))), none, none], rfl, ?_⟩
          unfold eIf
          by_cases cc : k = hml.getD (pl es (2 * t + 1) / 2) 0
          · rw [decide_eq_true cc] at ce
            rw [if_pos cc]
            simp only [sCons, sRet, sSet, sEx, sNil, tE, tNt, tAn, tOr', eApp, eOp2, eOp1, eVar, eC, eLst, eTup, eSl, eRev, aCons, aNil, pNo, pSm, callN, eAn, eOr, eNt, asB, bind_ok_, to_ok_, seq_nx_, seq_ret_, fin_ret_, fin_nx_, i_add, i_sub, i_neg, lstOf, tupOf, List.getElem?_cons_succ, List.getElem?_cons_zero, List.set_cons_succ, List.set_cons_zero, List.length_cons, List.length_nil, if_true, b1, b2, ce]
          · rw [decide_eq_false cc] at ce
            rw [if_neg cc]
            simp only [sCons, sRet, sSet, sEx, sNil, tE, tNt, tAn, tOr', eApp, eOp2, eOp1, eVar, eC, eLst, eTup, eSl, eRev, aCons, aNil, pNo, pSm, callN, eAn, eOr, eNt, asB, bind_ok_, to_ok_, seq_nx_, seq_ret_, fin_ret_, fin_nx_, i_add, i_sub, i_neg, lstOf, tupOf, List.getElem?_cons_succ, List.getElem?_cons_zero, List.set_cons_succ, List.set_cons_zero, List.length_cons, List.length_nil, if_true, b1, b2, ce, Bool.false_eq_true, if_false]
      have ec : (hml.map fun k => PyData.int ((if k = hml.getD (pl es (2 * t + 1) / 2) 0 then hml.getD (pl es (2 * t) / 2) 0 else k : Nat) : Int)) = zd (uni es hml t) := by
        unfold zd zi uni
        rw [List.map_map, List.map_map]
        rfl
      rw [ec] at c
      unfold _law_rings_4b
      rw [sc_nx t1]
      unfold _law_rings_4_2
      simp only [sCons, sRet, sSet, sEx, sNil, tE, tNt, tAn, tOr', eApp, eOp2, eOp1, eVar, eC, eLst, eTup, eSl, eRev, aCons, aNil, pNo, pSm, callN, eAn, eOr, eNt, asB, bind_ok_, to_ok_, seq_nx_, seq_ret_, fin_ret_, fin_nx_, i_add, i_sub, i_neg, lstOf, tupOf, List.getElem?_cons_succ, List.getElem?_cons_zero, List.set_cons_succ, List.set_cons_zero, List.length_cons, List.length_nil, if_true, c])
    (s := (List.range m, none, none, none)) (by simp)
  have hfold : ∀ (l : List Nat) (a : List Nat) (b : Option IV × Option IV × Option IV), (l.foldl (fun (s : List Nat × Option IV × Option IV × Option IV) (t : Nat) => (uni es s.1 t, some (IV.d (.int (t : Nat))), some (IV.d (.int (pl es (2 * t) / 2 : Nat))), some (IV.d (.int (pl es (2 * t + 1) / 2 : Nat))))) (a, b)).1 = l.foldl (uni es) a := fun l => by
    induction l with
    | nil => intro a b; rfl
    | cons x t ih => intro a b; exact ih _ _
  obtain ⟨fin, hfin⟩ : ∃ s, s = (List.range (xs.length + 1)).foldl (fun (s : List Nat × Option IV × Option IV × Option IV) (t : Nat) => (uni es s.1 t, some (IV.d (.int (t : Nat))), some (IV.d (.int (pl es (2 * t) / 2 : Nat))), some (IV.d (.int (pl es (2 * t + 1) / 2 : Nat))))) (List.range m, none, none, none) := ⟨_, rfl⟩
  rw [← hfin] at e4
  have hf1 : fin.1 = homes es m m := by rw [hfin, hfold, ← hm]; rfl
  obtain ⟨fh, q4, q5, q6⟩ := fin
  have hf1 : fh = homes es m m := hf1
  subst hf1
  have hlen := homes_len (es := es) (m := m) m
  -- the end
  obtain ⟨vs, hvs⟩ : ∃ vs : List Nat, zi vs = dsort (zi (homes es m m)) := ⟨(dsort (zi (homes es m m))).map Int.toNat, by
    unfold zi
    rw [List.map_map]
    refine (List.map_congr_left fun k hk => ?_).trans (List.map_id _)
    have := (dsort_mem k _).mp hk
    unfold zi at this
    obtain ⟨n, _, rfl⟩ := List.mem_map.mp this
    rfl⟩
  have vmem : ∀ x, x ∈ vs ↔ x ∈ homes es m m := fun x => by
    have h1 : x ∈ vs ↔ (x : Int) ∈ zi vs := by
      unfold zi
      rw [List.mem_map]
      exact ⟨fun z => ⟨x, z, rfl⟩, fun ⟨y, hy, e⟩ => by rw [← Int.ofNat.inj e]; exact hy⟩
    have h2 : x ∈ homes es m m ↔ (x : Int) ∈ zi (homes es m m) := by
      unfold zi
      rw [List.mem_map]
      exact ⟨fun z => ⟨x, z, rfl⟩, fun ⟨y, hy, e⟩ => by rw [← Int.ofNat.inj e]; exact hy⟩
    rw [h1, h2, hvs, dsort_mem]
  have vnd : vs.Nodup := by
    have : (zi vs).Pairwise (· < ·) := by rw [hvs]; exact dsort_pw _
    unfold zi at this
    rw [List.pairwise_map] at this
    exact this.imp fun z e => by subst e; exact Int.lt_irrefl _ z
  have vlen : vs.length ≤ m := by
    have := List.Nodup.length_le_of_subset (l₂ := homes es m m) vnd (fun x hx => (vmem x).mp hx)
    rwa [hlen] at this
  have so1 : eSrtSetA (eVar 3) [some (ti xs), some (.d (.list (zd es))), some (.d (.dict (qp es 0))), some (.d (.list (zd (homes es m m)))), q4, q5, q6, none, none, none] [] = .ok (.d (.list (zd vs))) [] := by
    have hli : lintsOf [] (.d (.list (zd (homes es m m)))) = some (zi (homes es m m)) := by simp only [lintsOf, lstOf, intsOf_map]
    unfold eSrtSetA
    simp only [eVar, List.getElem?_cons_succ, List.getElem?_cons_zero, bind_ok_, hli]
    rw [if_pos (by unfold zi; rw [List.length_map, hlen]; omega), ← hvs]
  have c := eLc_em (g := gNm 7) (e := eApp bTup (aCons (eLc (iR1 (eOp2 oAdd (eApp bLenD (aCons (eVar 0) aNil)) (eC (.int 1)))) (gNm 8) (tE (eOp2 cEqL (eOp2 oIxD (eVar 3) (eVar 8)) (eVar 7))) (eVar 8) [8]) aNil)) (vs := [7]) (fun (k : Nat) => PyData.int (k : Int)) (fun k => tz (ofHome es m k))
    (iSeq_zd (l := vs) (f := eSrtSetA (eVar 3)) (r := [some (ti xs), some (.d (.list (zd es))), some (.d (.dict (qp es 0))), some (.d (.list (zd (homes es m m)))), q4, q5, q6, none, none, none]) (S := []) (by omega) so1) (by omega) fun k hk => by
      refine ⟨[some (ti xs), some (.d (.list (zd es))), some (.d (.dict (qp es 0))), some (.d (.list (zd (homes es m m)))), q4, q5, q6, some (.d (.int (k : Nat))), none, none], rfl, ?_⟩
      have c := eLc_e (g := gNm 8) (t := tE (eOp2 cEqL (eOp2 oIxD (eVar 3) (eVar 8)) (eVar 7))) (e := eVar 8) (vs := [8]) (fun (p : Nat) => PyData.int (p : Int)) (fun p => decide ((homes es m m).getD p 0 = k)) (fun p => .int (p : Nat))
        (iR_pts v (f := eOp2 oAdd (eApp bLenD (aCons (eVar 0) aNil)) (eC (.int 1))) (r := [some (ti xs), some (.d (.list (zd es))), some (.d (.dict (qp es 0))), some (.d (.list (zd (homes es m m)))), q4, q5, q6, some (.d (.int (k : Nat))), none, none]) (S := []) (by simp only [sCons, sRet, sSet, sEx, sNil, tE, tNt, tAn, tOr', eApp, eOp2, eOp1, eVar, eC, eLst, eTup, eSl, eRev, aCons, aNil, pNo, pSm, callN, eAn, eOr, eNt, asB, bind_ok_, to_ok_, seq_nx_, seq_ret_, fin_ret_, fin_nx_, i_add, i_sub, i_neg, lstOf, tupOf, List.getElem?_cons_succ, List.getElem?_cons_zero, List.set_cons_succ, List.set_cons_zero, List.length_cons, List.length_nil, if_true, hL])) (by rw [List.length_range]; omega) fun p hp => by
          have hp := List.mem_range.mp hp
          have b1 := ix_z (l := homes es m m) (i := p) (by omega) []
          have ce := eq_nat ((homes es m m).getD p 0) k []
          exact ⟨[some (ti xs), some (.d (.list (zd es))), some (.d (.dict (qp es 0))), some (.d (.list (zd (homes es m m)))), q4, q5, q6, some (.d (.int (k : Nat))), some (.d (.int (p : Nat))), none], rfl, by simp only [sCons, sRet, sSet, sEx, sNil, tE, tNt, tAn, tOr', eApp, eOp2, eOp1, eVar, eC, eLst, eTup, eSl, eRev, aCons, aNil, pNo, pSm, callN, eAn, eOr, eNt, asB, bind_ok_, to_ok_, seq_nx_, seq_ret_, fin_ret_, fin_nx_, i_add, i_sub, i_neg, lstOf, tupOf, List.getElem?_cons_succ, List.getElem?_cons_zero, List.set_cons_succ, List.set_cons_zero, List.length_cons, List.length_nil, if_true, b1, ce], fun _ => rfl⟩
      have e5 : ((List.range (xs.length + 1)).filter fun p => decide ((homes es m m).getD p 0 = k)).map (fun p => PyData.int (p : Nat)) = zd (ofHome es m k) := by
        unfold zd zi ofHome
        rw [hm, List.map_map]
        rfl
      rw [e5] at c
      have bt : bTup [.d (.list (zd (ofHome es m k)))] [] = .ok (.d (tz (ofHome es m k))) [] := rfl
      simp only [eApp, aCons, aNil, c, bind_ok_, bt]
  have e6 : (vs.map fun k => tz (ofHome es m k)) = ((vs.map (ofHome es m)).map zi).map fun n => PyData.tuple (n.map .int) := by
    rw [List.map_map, List.map_map]
    rfl
  rw [e6] at c
  have dr := h'.due_rings vnd vmem
  have so2 := sort_tups (us := (vs.map (ofHome es m)).map zi) (fun u hu => by
    obtain ⟨T, hT, rfl⟩ := List.mem_map.mp hu
    have : zi T ∈ (ringsF m es).map zi := by
      rw [← dr]
      exact (lsort_perm _).mem_iff.mpr (List.mem_map.mpr ⟨T, hT, rfl⟩)
    obtain ⟨T2, h2, e⟩ := List.mem_map.mp this
    obtain ⟨b, hb, rfl⟩ := h'.mem_ringsF.mp h2
    rw [← e]
    intro z
    have := h'.self_cls hb
    unfold zi at z
    rw [List.map_eq_nil_iff.mp z] at this
    cases this) []
  rw [dr] at so2
  have e7 : (((ringsF m es).map zi).map fun n => PyData.tuple (n.map .int)) = (rgs xs N).map tz := by
    rw [List.map_map, hm, hes]
    rfl
  rw [e7] at so2
  rw [_law_rings_eq, u]
  unfold _law_ringsb
  rw [sc_nx s1, sc_nx s2, sc_nx s3]
  unfold _law_rings_4
  rw [sc_nx ((sf_eq hi4).trans e4)]
  unfold _law_rings_5
  simp only [sCons, sRet, sSet, sEx, sNil, tE, tNt, tAn, tOr', eApp, eOp2, eOp1, eVar, eC, eLst, eTup, eSl, eRev, aCons, aNil, pNo, pSm, callN, eAn, eOr, eNt, asB, bind_ok_, to_ok_, seq_nx_, seq_ret_, fin_ret_, fin_nx_, i_add, i_sub, i_neg, lstOf, tupOf, List.getElem?_cons_succ, List.getElem?_cons_zero, List.set_cons_succ, List.set_cons_zero, List.length_cons, List.length_nil, if_true, c, so2]
theorem k_law_rings (v : VR xs N) (S : Sto) : callW backW f__law_rings [ti xs] S = .ok (.d (.list ((rgs xs N).map tz))) S := call_pure (is := [ti xs]) rfl (law_rings_ok v) rfl
theorem k_law_home (h0 : 1 ≤ N) (h1 : N ≤ 20) (S : Sto) : callW backW f__law_home [.d (.int N)] S = .ok (ti (rgI 1 (N + 1))) S := by
  refine call_pure (is := [.d (.int N)]) (T := []) rfl ?_ rfl
  have rg : rgOk 1 (N + 1) = true := by
    unfold rgOk
    rw [Bool.and_eq_true, decide_eq_true_iff, decide_eq_true_iff]
    omega
  have u : ∀ fs : FS, fnB 1 fs [.d (.int N)] [] = (fs [some (.d (.int N))] []).fin := fun _ => rfl
  have e1 : rg2 (eC (.int 1)) (eOp2 oAdd (eVar 0) (eC (.int 1))) [some (.d (.int N))] [] = .ok (1, N + 1) [] := by
    simp only [rg2]
    simp only [sCons, sRet, sSet, sEx, sNil, tE, tNt, tAn, tOr', eApp, eOp2, eOp1, eVar, eC, eLst, eTup, eSl, eRev, aCons, aNil, pNo, pSm, callN, eAn, eOr, eNt, asB, bind_ok_, to_ok_, seq_nx_, seq_ret_, fin_ret_, fin_nx_, i_add, i_sub, i_neg, lstOf, tupOf, List.getElem?_cons_succ, List.getElem?_cons_zero, List.set_cons_succ, List.set_cons_zero, List.length_cons, List.length_nil, if_true, ]
  have e : eRgT (rg2 (eC (.int 1)) (eOp2 oAdd (eVar 0) (eC (.int 1)))) [some (.d (.int N))] [] = .ok (ti (rgI 1 (N + 1))) [] := by
    simp only [eRgT, e1, bind_ok_]
    rw [if_pos rg, rgD_rg]
  rw [_law_home_eq, u]
  unfold _law_homeb _law_home_1
  simp only [sCons, sRet, sSet, sEx, sNil, tE, tNt, tAn, tOr', eApp, eOp2, eOp1, eVar, eC, eLst, eTup, eSl, eRev, aCons, aNil, pNo, pSm, callN, eAn, eOr, eNt, asB, bind_ok_, to_ok_, seq_nx_, seq_ret_, fin_ret_, fin_nx_, i_add, i_sub, i_neg, lstOf, tupOf, List.getElem?_cons_succ, List.getElem?_cons_zero, List.set_cons_succ, List.set_cons_zero, List.length_cons, List.length_nil, if_true, e]
end
end GA
set_option maxRecDepth 100000
set_option maxHeartbeats 4000000
namespace GA
open PySem L2 MI GM
/-! ## repr told, lists of tuples -/
def rpOk (d : PyData) : Bool := prOk d || prOkD d
theorem reprD_ok {d : PyData} (h : rpOk d = true) (S : Sto) : bReprD [.d d] S = .ok (.d (.str d.shown)) S := by
  unfold rpOk at h
  rw [Bool.or_eq_true] at h
  unfold bReprD
  simp only [toD]
  rcases h with h | h
  · rw [if_pos h]
  · by_cases h2 : prOk d = true
    · rw [if_pos h2]
    · rw [if_neg h2, if_pos h]
theorem rp_sm {d : PyData} {k n : Nat} (h : Sm d k n) (hk : k ≤ 64) (hn : n ≤ 8000) : rpOk d = true := by
  unfold rpOk
  rw [h.pr hk hn]
  rfl
/-- repr(x) != repr(y) of the same data -/
theorem ne_rp {d : PyData} (h : rpOk d = true) {f g : FE} {r : Rho} {S S1 S2 : Sto} (hf : f r S = .ok (.d d) S1) (hg : g r S1 = .ok (.d d) S2) :
    tE (eOp2 cNeL (eApp bReprD (aCons f aNil)) (eApp bReprD (aCons g aNil))) r S = .ok false S2 := by
  simp only [tE, eOp2, eApp, aCons, aNil, hf, hg, bind_ok_, reprD_ok h, cNeL_str, asB]
  simp
theorem eq_rp {d : PyData} (h : rpOk d = true) {f g : FE} {r : Rho} {S S1 S2 : Sto} (hf : f r S = .ok (.d d) S1) (hg : g r S1 = .ok (.d d) S2) :
    eOp2 cEqL (eApp bReprD (aCons f aNil)) (eApp bReprD (aCons g aNil)) r S = .ok (.d (.bool true)) S2 := by
  simp only [eOp2, eApp, aCons, aNil, hf, hg, bind_ok_, reprD_ok h, cEqL_str]
  simp
theorem cNeL_lst (xs ys : List Int) (S : Sto) : cNeL (li xs) (li ys) S = .ok (.d (.bool (!decide (xs = ys)))) S := by
  unfold cNeL lenTell
  dsimp only
  by_cases h : (xs.map PyData.int).length = (ys.map PyData.int).length
  · rw [if_pos h]
    show (if shp (.list (xs.map .int)) = true ∧ shp (.list (ys.map .int)) = true then Out.ok (IV.d (.bool (!PyData.eqv (.list (xs.map .int)) (.list (ys.map .int))))) S else .bad) = _
    rw [if_pos ⟨shp_lst xs, shp_lst ys⟩, eqv_lst]
  · rw [if_neg h, decide_eq_false (fun e => h (by rw [e]))]
theorem eq_bool (a b : Bool) (S : Sto) : cEqL (.d (.bool a)) (.d (.bool b)) S = .ok (.d (.bool (decide (a = b)))) S := by
  cases a <;> cases b <;> rfl
theorem depth_tups : ∀ us : List (List Int), PyData.depthAll (us.map fun n => PyData.tuple (n.map .int)) ≤ 1
  | [] => by simp [PyData.depthAll]
  | u :: t => by
    have := depth_tups t
    simp only [List.map_cons, PyData.depthAll, PyData.depth, depth_ints]
    omega
theorem lay_tups : ∀ us : List (List Int), PyData.canLayAll0 (us.map fun n => PyData.tuple (n.map .int)) = true
  | [] => by simp [PyData.canLayAll0]
  | u :: t => by simp [PyData.canLayAll0, PyData.canLay0, lay_ints, lay_tups t]
theorem shp_tups (us : List (List Int)) : shp (.list (us.map fun n => PyData.tuple (n.map .int))) = true := by
  have := depth_tups us
  simp [shp, SeqAt.shaped, PyData.canLay0, PyData.depth, lay_tups]
  omega
theorem isIn_tups (x : List Int) : ∀ us : List (List Int), isIn (.tuple (x.map .int)) (us.map fun n => PyData.tuple (n.map .int)) = decide (x ∈ us)
  | [] => rfl
  | u :: t => by
    have ih := isIn_tups x t
    unfold isIn at ih ⊢
    rw [List.map_cons, List.any_cons, ih, eqv_tup]
    by_cases h : u = x
    · simp [h]
    · have : ¬ x = u := fun e => h e.symm
      simp [h, this]
theorem in_tups (neg : Bool) (x : List Int) (us : List (List Int)) (S : Sto) : cInF neg (ti x) (.d (.list (us.map fun n => PyData.tuple (n.map .int)))) S = .ok (.d (.bool (if neg then !decide (x ∈ us) else decide (x ∈ us)))) S := by
  show (if shp (.tuple (x.map .int)) = true ∧ shp (.list (us.map fun n => PyData.tuple (n.map .int))) = true then Out.ok (IV.d (.bool (if neg then !isIn (.tuple (x.map .int)) (us.map fun n => PyData.tuple (n.map .int)) else isIn (.tuple (x.map .int)) (us.map fun n => PyData.tuple (n.map .int))))) S else .bad) = _
  rw [if_pos ⟨shp_tup x, shp_tups us⟩, isIn_tups]
theorem tz_map (L : List (List Nat)) : L.map tz = (L.map zi).map fun n => PyData.tuple (n.map .int) := by rw [List.map_map]; rfl
section
variable {xs ys : List Int} {N f l : Int} {S : Sto}
theorem sm_zd {l : List Nat} (hl : l.length ≤ 60) (h : ∀ e ∈ l, e < 1000) : Sm (.tuple (zd l)) 1 61 := by
  refine (Sm.ti (xs := zi l) (m := 60) (fun x hx => ?_) (by unfold zi; rw [List.length_map]; exact hl)).mono (Nat.le_refl _) (by omega)
  unfold zi at hx
  obtain ⟨e, he, rfl⟩ := List.mem_map.mp hx
  have := h e he
  omega
theorem sm_en (v : VR xs N) : Sm (.tuple (zd (en xs N))) 1 61 := sm_zd (by rw [en_len]; have := v.small; omega) fun e he => by have := (ep_of v).lt e he; have := v.small; omega
theorem sm_tz (v : VR xs N) {T : List Nat} (h : T ∈ rgs xs N) : Sm (tz T) 1 61 := sm_zd (by have := (rgs_each v h).1; omega) fun e he => by have := (rgs_each v h).2 e he; omega
theorem sm_rgs (v : VR xs N) : Sm (.tuple ((rgs xs N).map tz)) 2 1400 := (Sm.tup (k := 1) (n := 61) (m := 21) (fun d hd => by
  obtain ⟨T, hT, rfl⟩ := List.mem_map.mp hd
  exact sm_tz v hT) (by rw [List.length_map]; exact rgs_len v)).mono (by decide) (by decide)
theorem lens_small (v : VR xs N) : (lens xs N).length ≤ 21 ∧ ∀ x ∈ lens xs N, x.natAbs < 2 ^ 60 := by
  have p := isort_perm (zi ((rgs xs N).map List.length))
  refine ⟨?_, fun x hx => ?_⟩
  · unfold lens
    rw [p.length_eq]
    unfold zi
    rw [List.length_map, List.length_map]
    exact rgs_len v
  · have := p.mem_iff.mp hx
    unfold zi at this
    obtain ⟨k, hk, rfl⟩ := List.mem_map.mp this
    obtain ⟨T, hT, rfl⟩ := List.mem_map.mp hk
    have := (rgs_each v hT).1
    omega
theorem home_iff (v : VR xs N) : (rgs xs N).length = xs.length + 1 ↔ xs = rgI 1 (N + 1) := by
  have hn := v.len
  unfold rgs
  rw [(ep_of v).all_iff]
  have hE : (∀ p, p < xs.length + 1 → cls (xs.length + 1) (en xs N) p = [p]) ↔ ∀ p, p < xs.length + 1 → E xs N (p + 1 : Nat) = E xs N p + 1 := by
    constructor
    · intro h p hp
      have := (one_brk v hp).mp (h p hp)
      unfold brk at this
      rw [Bool.not_eq_false', decide_eq_true_iff] at this
      exact this
    · intro h p hp
      refine (one_brk v hp).mpr ?_
      unfold brk
      rw [Bool.not_eq_false', decide_eq_true_iff]
      exact h p hp
  rw [hE]
  constructor
  · intro h
    have go : ∀ p : Nat, p ≤ xs.length + 1 → E xs N p = p := fun p => by
      induction p with
      | zero => intro _; rfl
      | succ p ih =>
        intro hp
        rw [h p (by omega), ih (by omega)]
        omega
    refine List.ext_getElem? fun i => ?_
    by_cases hi : i < xs.length
    · rw [En_at v hi, go (i + 1) (by omega), at_rgI (by omega)]
      congr 1
      omega
    · rw [List.getElem?_eq_none (by omega), List.getElem?_eq_none (by rw [len_rgI]; omega)]
  · intro h p hp
    have go : ∀ p : Nat, p ≤ xs.length + 1 → E xs N p = p := fun p hp => by
      by_cases c0 : p = 0
      · subst c0; rfl
      · by_cases cN : p = xs.length + 1
        · subst cN
          have : ((xs.length + 1 : Nat) : Int) = N + 1 := by omega
          rw [this, E_last hn]
        · obtain ⟨q, rfl⟩ : ∃ q, p = q + 1 := ⟨p - 1, by omega⟩
          have h1 := En_at v (p := q) (by omega)
          have h2 : xs[q]? = some (1 + (q : Int)) := by
            conv => lhs; rw [h]
            rw [at_rgI (by omega)]
          rw [h1] at h2
          have := Option.some.inj h2
          rw [this]
          omega
    rw [go p (by omega), go (p + 1) (by omega)]
    omega
theorem trgs_lens (v : VR xs N) : isort ((trgs xs N).map fun n => (n.length : Int)) = lens xs N := by
  unfold lens
  refine isort_of ?_ (isort_pw _)
  refine (isort_perm _).trans ?_
  unfold trgs
  refine ((lsort_perm _).map _).trans ?_
  rw [List.map_map]
  unfold zi
  rw [List.map_map]
  refine List.Perm.of_eq (List.map_congr_left fun T hT => ?_)
  obtain ⟨b, hb, rfl⟩ := (ep_of v).mem_ringsF.mp hT
  show ((tieI xs N (cls (xs.length + 1) (en xs N) b)).length : Int) = ((cls (xs.length + 1) (en xs N) b).length : Nat)
  have := (ep_of v).tie_len hb
  unfold tieI
  rw [this]
/-- the points that are no ring by themselves are the broken ones -/
theorem bps_rings (v : VR xs N) : zi ((List.range (xs.length + 1)).filter fun p => !decide ([(p : Int)] ∈ (rgs xs N).map zi)) = bps xs N := by
  unfold bps
  rw [rng_pts _ v.len]
  unfold zi
  rw [List.filter_map]
  congr 1
  refine List.filter_congr fun p hp => ?_
  have hp := List.mem_range.mp hp
  show (!decide ([(p : Int)] ∈ (rgs xs N).map fun l => l.map fun (k : Nat) => (k : Int))) = brk xs N p
  have h1 : [(p : Int)] ∈ ((rgs xs N).map fun l => l.map fun (k : Nat) => (k : Int)) ↔ [p] ∈ rgs xs N := by
    constructor
    · intro h
      obtain ⟨T, hT, e⟩ := List.mem_map.mp h
      have : zi T = zi [p] := e
      rw [← zi_inj this]
      exact hT
    · intro h
      exact List.mem_map.mpr ⟨[p], h, rfl⟩
  have h2 : [p] ∈ rgs xs N ↔ brk xs N p = false := ((ep_of v).single hp).trans (one_brk v hp)
  cases hb : brk xs N p with
  | true =>
    rw [decide_eq_false (fun z => by have := h2.mp (h1.mp z); rw [hb] at this; cases this)]
    rfl
  | false =>
    rw [decide_eq_true (h1.mpr (h2.mpr hb))]
    rfl
end
end GA
set_option maxRecDepth 100000
set_option maxHeartbeats 0
namespace K44
open GA
open PySem PySem.Spec PyProof.Rows L2 MI LamX
/-! ## the text -/
def top (i : Nat) : Stmt := PySem.Challenge.pw_endforend_k44_whole_ends_ties_and_rings.main.body.getD i (.Pass ⟨0, 0, 0, 0⟩)
/-- the names that are not the text's own, its constants -/
structure Blt (c : Ct) : Prop where
  abs_ : c.mg "abs" = none
  all_ : c.mg "all" = none
  bool_ : c.mg "bool" = none
  dict_ : c.mg "dict" = none
  enumerate_ : c.mg "enumerate" = none
  int_ : c.mg "int" = none
  isinstance_ : c.mg "isinstance" = none
  len_ : c.mg "len" = none
  list_ : c.mg "list" = none
  max_ : c.mg "max" = none
  min_ : c.mg "min" = none
  range_ : c.mg "range" = none
  repr_ : c.mg "repr" = none
  set_ : c.mg "set" = none
  sorted_ : c.mg "sorted" = none
  sum_ : c.mg "sum" = none
  tuple_ : c.mg "tuple" = none
  MOST_WAGONS_ : ∃ t, c.mg "MOST_WAGONS" = some (.int 20 t)
theorem bo_abs : bootBuiltins "abs" = some (.builtin "abs") := by decide +kernel
theorem bo_all : bootBuiltins "all" = some (.builtin "all") := by decide +kernel
theorem bo_bool : bootBuiltins "bool" = some (.type "bool") := by decide +kernel
theorem bo_dict : bootBuiltins "dict" = some (.type "dict") := by decide +kernel
theorem bo_int : bootBuiltins "int" = some (.type "int") := by decide +kernel
theorem bo_isinstance : bootBuiltins "isinstance" = some (.builtin "isinstance") := by decide +kernel
theorem bo_len : bootBuiltins "len" = some (.builtin "len") := by decide +kernel
theorem bo_list : bootBuiltins "list" = some (.type "list") := by decide +kernel
theorem bo_max : bootBuiltins "max" = some (.builtin "max") := by decide +kernel
theorem bo_min : bootBuiltins "min" = some (.builtin "min") := by decide +kernel
theorem bo_repr : bootBuiltins "repr" = some (.builtin "repr") := by decide +kernel
theorem bo_sorted : bootBuiltins "sorted" = some (.builtin "sorted") := by decide +kernel
theorem bo_sum : bootBuiltins "sum" = some (.builtin "sum") := by decide +kernel
theorem bo_tuple : bootBuiltins "tuple" = some (.type "tuple") := by decide +kernel
abbrev excs : List Str := ["BadMany", "BadPoint", "BadRow"]
/-! _law_cells -/
abbrev N__law_cells : List Str := ["script", "most"]
/-! _law_pot -/
abbrev N__law_pot : List Str := ["script", "place", "cell", "own", "small"]
/-! _law_ends -/
abbrev N__law_ends : List Str := ["row", "found", "wagon"]
/-! _law_rings -/
abbrev N__law_rings : List Str := ["row", "ends", "point", "home", "tie", "one", "other", "it", "at", "end"]
/-! is_integer -/
abbrev N_is_integer : List Str := ["value"]
/-! is_row -/
abbrev N_is_row : List Str := ["value", "one"]
/-! check_row -/
abbrev N_check_row : List Str := ["value"]
/-! ends_by -/
abbrev N_ends_by : List Str := ["row", "found", "wagon"]
/-! ends_of -/
abbrev N_ends_of : List Str := ["row"]
/-! is_between -/
abbrev N_is_between : List Str := ["value", "low", "high"]
/-! check_many -/
abbrev N_check_many : List Str := ["value"]
/-! home_ties -/
abbrev N_home_ties : List Str := ["many", "tie"]
/-! row_ties -/
abbrev N_row_ties : List Str := ["row", "ends", "point"]
/-! places_of -/
abbrev N_places_of : List Str := ["ends", "place", "end"]
/-! mate_of -/
abbrev N_mate_of : List Str := ["end"]
/-! rings_of -/
abbrev N_rings_of : List Str := ["row", "ends", "begin", "places", "known", "found", "ring", "place", "across"]
/-! rings -/
abbrev N_rings : List Str := ["row"]
/-! count_of -/
abbrev N_count_of : List Str := ["row"]
/-! ring_count -/
abbrev N_ring_count : List Str := ["row"]
/-! lengths -/
abbrev N_lengths : List Str := ["row", "ring"]
/-! check_point -/
abbrev N_check_point : List Str := ["row", "point"]
/-! ring_of -/
abbrev N_ring_of : List Str := ["row", "point", "ring"]
/-! ties_of -/
abbrev N_ties_of : List Str := ["row", "ring", "ends", "point"]
/-! tie_rings -/
abbrev N_tie_rings : List Str := ["row", "ring"]
/-! outer -/
abbrev N_outer : List Str := ["row"]
/-! broken_at -/
abbrev N_broken_at : List Str := ["row", "point", "rows"]
/-! broken_points -/
abbrev N_broken_points : List Str := ["row", "point"]
/-! breaks -/
abbrev N_breaks : List Str := ["row"]
/-! back_of -/
abbrev N_back_of : List Str := ["row", "found", "place", "wagon"]
/-! back -/
abbrev N_back : List Str := ["row"]
/-! _law_home -/
abbrev N__law_home : List Str := ["many"]
/-! _law_is_right -/
abbrev N__law_is_right : List Str := ["row", "told", "some", "many", "ends", "due", "ring", "point", "tie"]
def f__law_is_right : FN := fnB 9 ((sCons (sAs (eTup (aCons (eApp bLenD (aCons (eVar 0) aNil)) (aCons (eApp (callN 1 f__law_ends) (aCons (eVar 0) aNil)) (aCons (eApp (callN 1 f__law_rings) (aCons (eVar 0) aNil)) aNil)))) (gTp 3 (gsCons (gNm 3) (gsCons (gNm 4) (gsCons (gNm 5) gsNil)))))
  (sCons (sIf (tOr' (tE (eOp2 cNeL (eApp bReprD (aCons (eApp (callN 1 f_ends_of) (aCons (eVar 0) aNil)) aNil)) (eApp bReprD (aCons (eApp bTup (aCons (eVar 4) aNil)) aNil)))) (tE (eOp2 cNeL (eApp bReprD (aCons (eApp (callN 1 f_home_ties) (aCons (eVar 3) aNil)) aNil)) (eApp bReprD (aCons (eApp bTup (aCons (eLc (iR1 (eOp2 oAdd (eVar 3) (eC (.int 1)))) (gNm 8) tYe (eTup (aCons (eOp2 (oInt gMul) (eC (.int 2)) (eVar 8)) (aCons (eOp2 oAdd (eOp2 (oInt gMul) (eC (.int 2)) (eVar 8)) (eC (.int 1))) aNil))) [8]) aNil)) aNil))))) (sCons (sRet (eC (.bool false)))
  sNil) sNil)
  (sCons (sIf (tE (eOp2 cNeL (eApp bReprD (aCons (eApp (callN 1 f_row_ties) (aCons (eVar 0) aNil)) aNil)) (eApp bReprD (aCons (eApp bTup (aCons (eLc (iR1 (eOp2 oAdd (eVar 3) (eC (.int 1)))) (gNm 7) tYe (eTup (aCons (eOp2 oIxD (eVar 4) (eOp2 (oInt gMul) (eC (.int 2)) (eVar 7))) (aCons (eOp2 oIxD (eVar 4) (eOp2 oAdd (eOp2 (oInt gMul) (eC (.int 2)) (eVar 7)) (eC (.int 1)))) aNil))) [7]) aNil)) aNil)))) (sCons (sRet (eC (.bool false)))
  sNil) sNil)
  (sCons (sIf (tE (eOp2 cNeL (eApp bReprD (aCons (eTup (aCons (eApp (callN 1 f_rings) (aCons (eVar 0) aNil)) (aCons (eApp (callN 1 f_ring_count) (aCons (eVar 0) aNil)) (aCons (eApp (callN 1 f_lengths) (aCons (eVar 0) aNil)) aNil)))) aNil)) (eApp bReprD (aCons (eTup (aCons (eApp bTup (aCons (eVar 5) aNil)) (aCons (eApp bLenD (aCons (eVar 5) aNil)) (aCons (eApp bTup (aCons (eApp bSortA (aCons (eLc (iSeq (eVar 5)) (gNm 6) tYe (eApp bLenD (aCons (eVar 6) aNil)) [6]) aNil)) aNil)) aNil)))) aNil)))) (sCons (sRet (eC (.bool false)))
  sNil) sNil)
  (sCons (sIf (tNt (tE (eApp bAll (aCons (eLc (iR1 (eOp2 oAdd (eVar 3) (eC (.int 1)))) (gNm 7) tYe (eOp2 cEqL (eApp bReprD (aCons (eApp (callN 2 f_ring_of) (aCons (eVar 0) (aCons (eVar 7) aNil))) aNil)) (eApp bReprD (aCons (eOp2 oIxD (eLc (iSeq (eVar 5)) (gNm 6) (tE (eOp2 (cInF false) (eVar 7) (eVar 6))) (eVar 6) [6]) (eC (.int 0))) aNil))) [7]) aNil)))) (sCons (sRet (eC (.bool false)))
  sNil) sNil)
  (sCons (sSet (eApp (callN 1 f_tie_rings) (aCons (eVar 0) aNil)) 1)
  (sCons (sSet (eApp bSortA (aCons (eLc (iSeq (eVar 5)) (gNm 6) tYe (eApp bTup (aCons (eSrtSetA (eOp2 oAdd (eLc (iSeq (eVar 6)) (gNm 7) tYe (eOp2 (oInt gDiv) (eOp2 oIxD (eVar 4) (eOp2 (oInt gMul) (eC (.int 2)) (eVar 7))) (eC (.int 2))) [7]) (eLc (iSeq (eVar 6)) (gNm 7) tYe (eOp2 (oInt gDiv) (eOp2 oIxD (eVar 4) (eOp2 oAdd (eOp2 (oInt gMul) (eC (.int 2)) (eVar 7)) (eC (.int 1)))) (eC (.int 2))) [7]))) aNil)) [6]) aNil)) 2)
  (sCons (sIf (tOr' (tE (eOp2 cNeL (eApp bReprD (aCons (eVar 1) aNil)) (eApp bReprD (aCons (eApp bTup (aCons (eVar 2) aNil)) aNil)))) (tE (eOp2 cNeL (eApp bSortA (aCons (eLc (iSeq (eVar 1)) (gNm 6) tYe (eApp bLenD (aCons (eVar 6) aNil)) [6]) aNil)) (eApp bSortA (aCons (eLc (iSeq (eVar 5)) (gNm 6) tYe (eApp bLenD (aCons (eVar 6) aNil)) [6]) aNil))))) (sCons (sRet (eC (.bool false)))
  sNil) sNil)
  (sCons (sIf (tE (eOp2 cNeL (eLc (iR1 (eOp2 oAdd (eVar 3) (eC (.int 1)))) (gNm 7) (tE (eOp2 (cInF true) (eTup (aCons (eVar 7) aNil)) (eVar 5))) (eVar 7) [7]) (eApp bList (aCons (eApp (callN 1 f_breaks) (aCons (eVar 0) aNil)) aNil)))) (sCons (sRet (eC (.bool false)))
  sNil) sNil)
  (sCons (sRet (eAn (eOp2 cEqL (eApp (callN 1 f_lengths) (aCons (eApp (callN 1 f_back) (aCons (eVar 0) aNil)) aNil)) (eApp (callN 1 f_lengths) (aCons (eVar 0) aNil))) (eOp2 cEqL (eOp2 cEqL (eApp bLenD (aCons (eVar 5) aNil)) (eOp2 oAdd (eVar 3) (eC (.int 1)))) (eOp2 cEqL (eVar 0) (eApp (callN 1 f__law_home) (aCons (eVar 3) aNil))))))
  sNil)))))))))))
/-! _law_take -/
abbrev N__law_take : List Str := ["pot", "upto", "prime", "blend", "digit"]
/-! _law_of -/
abbrev N__law_of : List Str := ["pot", "some"]
/-! _law_some -/
abbrev N__law_some : List Str := ["pot", "some", "many", "lap", "left", "found"]
/-! _law_row -/
abbrev N__law_row : List Str := ["pot", "low", "high", "many", "wagon"]
/-! law -/
abbrev N_law : List Str := ["script", "place", "pot", "lap"]
def f_law : FN := fnB 4 ((sCons (sFor (iSeq (eApp (callN 2 f__law_cells) (aCons (eVar 0) (aCons (eC (.int 3)) aNil)))) (gNm 1) (sCons (sSet (eApp (callNM 2 f__law_pot) (aCons (eVar 0) (aCons (eVar 1) aNil))) 2)
  (sCons (sIf (tOr' (tNt (tE (eApp bAll (aCons (eLc (iR1 (eC (.int 4))) (gNm 3) tYe (eApp (callN 1 f__law_is_right) (aCons (eApp (callN 3 f__law_row) (aCons (eVar 2) (aCons (eC (.int 1)) (aCons (eC (.int 6)) aNil)))) aNil)) [3]) aNil)))) (tNt (tE (eApp bAll (aCons (eLc (iR1 (eC (.int 2))) (gNm 3) tYe (eApp (callN 1 f__law_is_right) (aCons (eApp (callN 3 f__law_row) (aCons (eVar 2) (aCons (eC (.int 7)) (aCons (eC (.int 20)) aNil)))) aNil)) [3]) aNil))))) (sCons (sRet (eC (.bool false)))
  sNil) sNil)
  (sCons (sIf (tNt (tE (eApp (callN 1 f__law_is_right) (aCons (eApp (callN 1 f__law_home) (aCons (eOp2 oAdd (eC (.int 1)) (eApp (callN 2 f__law_take) (aCons (eVar 2) (aCons (eC (.int 20)) aNil)))) aNil)) aNil)))) (sCons (sRet (eC (.bool false)))
  sNil) sNil)
  sNil))))
  (sCons (sRet (eC (.bool true)))
  sNil)))
section
variable {P : Program} {w : World} {c : Ct} {base : Heap} {f : Addr} {fd : FuncData}
theorem sc__law_cells : FnScope N__law_cells ["script", "most"] (defScope (top 42)) := ⟨rfl, rfl, rfl, by decide +kernel, rfl, by decide +kernel, by decide +kernel⟩
theorem ok__law_cells (F : FunD c.K "_law_cells" "_law_cells" (defArgs (top 42)) (defBody (top 42)) (defScope (top 42)) [] [] f fd) (b : Blt c) : FnG P w c base 1 f fd ["script", "most"] f__law_cells := by
  refine fun_okG F sc__law_cells fun cdv A outer s H E hr hgu => ?_
  have nd := sc__law_cells.nd
  have cx := cxg_of (P := P) (w := w) (c := c) (base := base) (N := N__law_cells) (qual := "_law_cells") (scope := defScope (top 42)) (f := f) (cdv := cdv) (A := A) (outer := outer) (s := s) (H := H) (E := E) hgu
  exact (s_scons (s_ret (s_rgL rfl rfl b.list_ (s_rg1 rfl b.range_ (v_blt (f_max2 rfl) rfl b.max_ bo_max (s_cons s_int (s_cons (v_blt (f_min2 rfl) rfl b.min_ bo_min (s_cons (v_v 1 rfl rfl) (s_cons (v_blt (f_len cx) rfl b.len_ bo_len (s_cons (v_v 0 rfl rfl) s_nil)) s_nil))) s_nil))))))
  s_snil)
theorem sc__law_pot : FnScope N__law_pot ["script", "place"] (defScope (top 38)) := ⟨rfl, rfl, rfl, by decide +kernel, rfl, by decide +kernel, by decide +kernel⟩
theorem ok__law_pot (F : FunD c.K "_law_pot" "_law_pot" (defArgs (top 38)) (defBody (top 38)) (defScope (top 38)) [] [] f fd) (b : Blt c) : FnG P w c base 1 f fd ["script", "place"] f__law_pot := by
  refine fun_okG F sc__law_pot fun cdv A outer s H E hr hgu => ?_
  have nd := sc__law_pot.nd
  have cx := cxg_of (P := P) (w := w) (c := c) (base := base) (N := N__law_pot) (qual := "_law_pot") (scope := defScope (top 38)) (f := f) (cdv := cdv) (A := A) (outer := outer) (s := s) (H := H) (E := E) hgu
  exact (s_scons (s_set (i := 2) nd rfl (loc_by rfl) (s_if (v_tcmp m_lt (v_v 1 rfl rfl) (v_blt (f_len cx) rfl b.len_ bo_len (s_cons (v_v 0 rfl rfl) s_nil))) (v_ix cx (v_v 0 rfl rfl) (v_v 1 rfl rfl)) (v_add cx (v_add cx (v_mod (v_blt (f_sum cx rfl) rfl b.sum_ bo_sum (s_cons (v_sl cx (v_v 0 rfl rfl) s_pno (s_psm s_int)) s_nil)) s_int) (v_mul s_int (v_v 1 rfl rfl))) s_int)))
  (s_scons (s_set (i := 3) nd rfl (loc_by rfl) (v_mul (v_mod (v_bty f_int rfl b.int_ bo_int (s_cons (v_blt (f_abs) rfl b.abs_ bo_abs (s_cons (v_v 2 rfl rfl) s_nil)) s_nil)) (v_pow (v_pow s_int s_int) s_int)) (v_bty f_int rfl b.int_ bo_int (s_cons (v_cmp m_ge (v_blt (f_abs) rfl b.abs_ bo_abs (s_cons (v_v 2 rfl rfl) s_nil)) (v_pow s_int s_int)) s_nil))))
  (s_scons (s_set (i := 4) nd rfl (loc_by rfl) (v_mod (v_bty f_int rfl b.int_ bo_int (s_cons (v_v 2 rfl rfl) s_nil)) s_int))
  (s_scons (s_ret (s_lstM (s_cons (v_v 3 rfl rfl) (s_cons (v_mod (v_bty f_int rfl b.int_ bo_int (s_cons (v_add cx (v_add cx (v_mul (v_v 4 rfl rfl) s_int) (v_mul (v_mul s_int (v_v 1 rfl rfl)) (v_v 1 rfl rfl))) s_int) s_nil)) s_int) (s_cons s_int s_nil)))))
  s_snil))))
theorem sc__law_ends : FnScope N__law_ends ["row"] (defScope (top 45)) := ⟨rfl, rfl, rfl, by decide +kernel, rfl, by decide +kernel, by decide +kernel⟩
theorem ok__law_ends (F : FunD c.K "_law_ends" "_law_ends" (defArgs (top 45)) (defBody (top 45)) (defScope (top 45)) [] [] f fd) (b : Blt c) : FnG P w c base 1 f fd ["row"] f__law_ends := by
  refine fun_okG F sc__law_ends fun cdv A outer s H E hr hgu => ?_
  have nd := sc__law_ends.nd
  have cx := cxg_of (P := P) (w := w) (c := c) (base := base) (N := N__law_ends) (qual := "_law_ends") (scope := defScope (top 45)) (f := f) (cdv := cdv) (A := A) (outer := outer) (s := s) (H := H) (E := E) hgu
  exact (s_scons (s_set (i := 1) nd rfl (loc_by rfl) (s_lstM (s_cons s_int s_nil)))
  (s_scons (s_for (passes_of rfl) rfl (s_iseq rfl (v_v 0 rfl rfl)) (s_gnm (pg_name (i := 2) nd rfl (loc_by rfl))) g_nm (s_scons (s_ex (v_mt cx d_extend (v_v 1 rfl rfl) (s_cons (s_if (v_tcmp m_gt (v_v 2 rfl rfl) s_int) (s_lst (s_cons (v_sub (v_mul s_int (v_v 2 rfl rfl)) s_int) (s_cons (v_mul s_int (v_v 2 rfl rfl)) s_nil))) (s_lst (s_cons (v_mul (v_neg s_int) (v_v 2 rfl rfl)) (s_cons (v_sub (v_mul (v_neg s_int) (v_v 2 rfl rfl)) s_int) s_nil)))) s_nil)))
  s_snil))
  (s_scons (s_ret (v_addS cx (v_v 1 rfl rfl) (s_lst (s_cons (v_add cx (v_mul s_int (v_blt (f_lenD cx) rfl b.len_ bo_len (s_cons (v_v 0 rfl rfl) s_nil))) s_int) s_nil))))
  s_snil)))
theorem sc__law_rings : FnScope N__law_rings ["row"] (defScope (top 46)) := ⟨rfl, rfl, rfl, by decide +kernel, rfl, by decide +kernel, by decide +kernel⟩
theorem ok__law_rings (F : FunD c.K "_law_rings" "_law_rings" (defArgs (top 46)) (defBody (top 46)) (defScope (top 46)) [] [] f fd) (b : Blt c) (k__law_ends : Kn P w c base 1 "_law_ends" 1 f__law_ends) : FnG P w c base 2 f fd ["row"] f__law_rings := by
  refine fun_okG F sc__law_rings fun cdv A outer s H E hr hgu => ?_
  have nd := sc__law_rings.nd
  have cx := cxg_of (P := P) (w := w) (c := c) (base := base) (N := N__law_rings) (qual := "_law_rings") (scope := defScope (top 46)) (f := f) (cdv := cdv) (A := A) (outer := outer) (s := s) (H := H) (E := E) hgu
  exact (s_scons (s_set (i := 1) nd rfl (loc_by rfl) (v_kn cx hr k__law_ends (by decide) rfl (s_cons (v_v 0 rfl rfl) s_nil)))
  (s_scons (s_set (i := 2) nd rfl (loc_by rfl) (v_bty (f_dictP cx rfl) rfl b.dict_ bo_dict (s_cons (s_lc rfl nd (s_ien rfl rfl b.enumerate_ (v_v 1 rfl rfl)) (own := [("at", 8), ("end", 9)]) (blkOk_by (by kernel_rfl)) (g_tp (g_scons g_nm (g_scons g_nm g_snil))) (fun s1 H1 C1 l1 f1 => (w_gtp rfl rfl (w_gscons (w_gnm (by decide) (pg_name (i := 8) nd rfl (loc_by rfl))) (w_gscons (w_gnm (by decide) (pg_name (i := 9) nd rfl (loc_by rfl))) w_gsnil)))) (fun s1 H1 C1 l1 f1 => s_tnil) (fun s1 H1 C1 l1 f1 => (s_tup (s_cons (v_v 9 rfl rfl) (s_cons (v_div (v_v 8 rfl rfl) s_int) s_nil))))) s_nil)))
  (s_scons (s_set (i := 3) nd rfl (loc_by rfl) (s_rgL rfl rfl b.list_ (s_rg1 rfl b.range_ (v_add cx (v_blt (f_lenD cx) rfl b.len_ bo_len (s_cons (v_v 0 rfl rfl) s_nil)) s_int))))
  (s_scons (s_for (passes_of rfl) rfl (s_ir1 rfl b.range_ (v_add cx (v_blt (f_lenD cx) rfl b.len_ bo_len (s_cons (v_v 0 rfl rfl) s_nil)) s_int)) (s_gnm (pg_name (i := 4) nd rfl (loc_by rfl))) g_nm (s_scons (s_as (s_tup (s_cons (v_ixD cx hr (v_v 2 rfl rfl) (v_mul s_int (v_v 4 rfl rfl))) (s_cons (v_ixD cx hr (v_v 2 rfl rfl) (v_add cx (v_mul s_int (v_v 4 rfl rfl)) s_int)) s_nil))) (s_gtp rfl rfl (s_gscons (s_gnm (pg_name (i := 5) nd rfl (loc_by rfl))) (s_gscons (s_gnm (pg_name (i := 6) nd rfl (loc_by rfl))) s_gsnil))) (g_tp (g_scons g_nm (g_scons g_nm g_snil))))
  (s_scons (s_set (i := 3) nd rfl (loc_by rfl) (s_lc rfl nd (s_iseq rfl (v_v 3 rfl rfl)) (own := [("it", 7)]) (blkOk_by (by kernel_rfl)) g_nm (fun s1 H1 C1 l1 f1 => (w_gnm (by decide) (pg_name (i := 7) nd rfl (loc_by rfl)))) (fun s1 H1 C1 l1 f1 => s_tnil) (fun s1 H1 C1 l1 f1 => (s_if (v_tcmp (m_eqL (Cxg.blk cx) hr) (v_v 7 rfl rfl) (v_ixD (Cxg.blk cx) hr (v_v 3 rfl rfl) (v_v 6 rfl rfl))) (v_ixD (Cxg.blk cx) hr (v_v 3 rfl rfl) (v_v 5 rfl rfl)) (v_v 7 rfl rfl)))))
  s_snil)))
  (s_scons (s_ret (v_blt (f_sortedA cx) rfl b.sorted_ bo_sorted (s_cons (s_lc rfl nd (s_iseq rfl (s_srtSetA cx hr rfl b.sorted_ rfl b.set_ (v_v 3 rfl rfl) rfl)) (own := [("it", 7)]) (blkOk_by (by kernel_rfl)) g_nm (fun s1 H1 C1 l1 f1 => (w_gnm (by decide) (pg_name (i := 7) nd rfl (loc_by rfl)))) (fun s1 H1 C1 l1 f1 => s_tnil) (fun s1 H1 C1 l1 f1 => (v_bty (f_tuple (Cxg.blk cx)) rfl b.tuple_ bo_tuple (s_cons (s_lc rfl nd (s_ir1 rfl b.range_ (v_add (Cxg.blk cx) (v_blt (f_lenD (Cxg.blk cx)) rfl b.len_ bo_len (s_cons (v_v 0 rfl rfl) s_nil)) s_int)) (own := [("at", 8)]) (blkOk_by (by kernel_rfl)) g_nm (fun s2 H2 C2 l2 f2 => (w_gnm (by decide) (pg_name (i := 8) nd rfl (loc_by rfl)))) (fun s2 H2 C2 l2 f2 => (s_tone (v_tcmp (m_eqL (Cxg.blk (Cxg.blk cx)) hr) (v_ixD (Cxg.blk (Cxg.blk cx)) hr (v_v 3 rfl rfl) (v_v 8 rfl rfl)) (v_v 7 rfl rfl)))) (fun s2 H2 C2 l2 f2 => (v_v 8 rfl rfl))) s_nil)))) s_nil)))
  s_snil)))))
theorem sc_is_integer : FnScope N_is_integer ["value"] (defScope (top 6)) := ⟨rfl, rfl, rfl, by decide +kernel, rfl, by decide +kernel, by decide +kernel⟩
theorem ok_is_integer (F : FunD c.K "is_integer" "is_integer" (defArgs (top 6)) (defBody (top 6)) (defScope (top 6)) [] [] f fd) (b : Blt c) : FnG P w c base 1 f fd ["value"] f_is_integer := by
  refine fun_okG F sc_is_integer fun cdv A outer s H E hr hgu => ?_
  have nd := sc_is_integer.nd
  have cx := cxg_of (P := P) (w := w) (c := c) (base := base) (N := N_is_integer) (qual := "is_integer") (scope := defScope (top 6)) (f := f) (cdv := cdv) (A := A) (outer := outer) (s := s) (H := H) (E := E) hgu
  exact (s_scons (s_ret (s_and (s_isa cx rfl b.isinstance_ bo_isinstance rfl b.int_ bo_int (by decide) (v_v 0 rfl rfl)) (s_one (s_not (s_isa cx rfl b.isinstance_ bo_isinstance rfl b.bool_ bo_bool (by decide) (v_v 0 rfl rfl))))))
  s_snil)
theorem sc_is_row : FnScope N_is_row ["value"] (defScope (top 11)) := ⟨rfl, rfl, rfl, by decide +kernel, rfl, by decide +kernel, by decide +kernel⟩
theorem ok_is_row (F : FunD c.K "is_row" "is_row" (defArgs (top 11)) (defBody (top 11)) (defScope (top 11)) [] [] f fd) (b : Blt c) (k_is_integer : Kn P w c base 1 "is_integer" 1 f_is_integer) : FnG P w c base 2 f fd ["value"] f_is_row := by
  refine fun_okG F sc_is_row fun cdv A outer s H E hr hgu => ?_
  have nd := sc_is_row.nd
  have cx := cxg_of (P := P) (w := w) (c := c) (base := base) (N := N_is_row) (qual := "is_row") (scope := defScope (top 11)) (f := f) (cdv := cdv) (A := A) (outer := outer) (s := s) (H := H) (E := E) hgu
  exact (s_scons (s_sif (PW.pt (s_tor (s_tnot (s_tval (s_isa cx rfl b.isinstance_ bo_isinstance rfl b.tuple_ bo_tuple (by decide) (v_v 0 rfl rfl)))) (s_tor1 (s_tnot (v_tchain m_le m_le s_int (v_blt (f_lenD cx) rfl b.len_ bo_len (s_cons (v_v 0 rfl rfl) s_nil)) (s_gint rfl b.MOST_WAGONS_)))))) (s_scons (s_ret s_bool)
  s_snil) s_snil)
  (s_scons (s_sif (s_tnot (s_tval (v_blt (f_all cx rfl) rfl b.all_ bo_all (s_cons (s_lc rfl nd (s_iseq rfl (v_v 0 rfl rfl)) (own := [("one", 1)]) (blkOk_by (by kernel_rfl)) g_nm (fun s1 H1 C1 l1 f1 => (w_gnm (by decide) (pg_name (i := 1) nd rfl (loc_by rfl)))) (fun s1 H1 C1 l1 f1 => s_tnil) (fun s1 H1 C1 l1 f1 => (v_kn (Cxg.blk cx) hr k_is_integer (by decide) rfl (s_cons (v_v 1 rfl rfl) s_nil)))) s_nil)))) (s_scons (s_ret s_bool)
  s_snil) s_snil)
  (s_scons (s_ret (v_cmp (m_eqL cx hr) (v_blt (f_sortedA cx) rfl b.sorted_ bo_sorted (s_cons (s_lc rfl nd (s_iseq rfl (v_v 0 rfl rfl)) (own := [("one", 1)]) (blkOk_by (by kernel_rfl)) g_nm (fun s1 H1 C1 l1 f1 => (w_gnm (by decide) (pg_name (i := 1) nd rfl (loc_by rfl)))) (fun s1 H1 C1 l1 f1 => s_tnil) (fun s1 H1 C1 l1 f1 => (v_blt (f_abs) rfl b.abs_ bo_abs (s_cons (v_v 1 rfl rfl) s_nil)))) s_nil)) (s_rgL rfl rfl b.list_ (s_rg2 rfl b.range_ s_int (v_add cx (v_blt (f_lenD cx) rfl b.len_ bo_len (s_cons (v_v 0 rfl rfl) s_nil)) s_int)))))
  s_snil)))
theorem sc_check_row : FnScope N_check_row ["value"] (defScope (top 12)) := ⟨rfl, rfl, rfl, by decide +kernel, rfl, by decide +kernel, by decide +kernel⟩
theorem ok_check_row (F : FunD c.K "check_row" "check_row" (defArgs (top 12)) (defBody (top 12)) (defScope (top 12)) [] [] f fd) (b : Blt c) (k_is_row : Kn P w c base 2 "is_row" 1 f_is_row) (ke_BadRow : KnE P w c base 1 "BadRow") : FnG P w c base 3 f fd ["value"] f_check_row := by
  refine fun_okG F sc_check_row fun cdv A outer s H E hr hgu => ?_
  have nd := sc_check_row.nd
  have cx := cxg_of (P := P) (w := w) (c := c) (base := base) (N := N_check_row) (qual := "check_row") (scope := defScope (top 12)) (f := f) (cdv := cdv) (A := A) (outer := outer) (s := s) (H := H) (E := E) hgu
  exact (s_scons (s_sif (s_tnot (s_tval (v_kn cx hr k_is_row (by decide) rfl (s_cons (v_v 0 rfl rfl) s_nil)))) (s_scons (s_raise cx hr ke_BadRow (by decide) rfl rfl (v_v 0 rfl rfl))
  s_snil) s_snil)
  s_snil)
theorem sc_ends_by : FnScope N_ends_by ["row"] (defScope (top 22)) := ⟨rfl, rfl, rfl, by decide +kernel, rfl, by decide +kernel, by decide +kernel⟩
theorem ok_ends_by (F : FunD c.K "ends_by" "ends_by" (defArgs (top 22)) (defBody (top 22)) (defScope (top 22)) [] [] f fd) (b : Blt c) : FnG P w c base 1 f fd ["row"] f_ends_by := by
  refine fun_okG F sc_ends_by fun cdv A outer s H E hr hgu => ?_
  have nd := sc_ends_by.nd
  have cx := cxg_of (P := P) (w := w) (c := c) (base := base) (N := N_ends_by) (qual := "ends_by") (scope := defScope (top 22)) (f := f) (cdv := cdv) (A := A) (outer := outer) (s := s) (H := H) (E := E) hgu
  exact (s_scons (s_set (i := 1) nd rfl (loc_by rfl) (s_lstM (s_cons s_int s_nil)))
  (s_scons (s_for (passes_of rfl) rfl (s_iseq rfl (v_v 0 rfl rfl)) (s_gnm (pg_name (i := 2) nd rfl (loc_by rfl))) g_nm (s_scons (s_ex (v_mt cx d_extend (v_v 1 rfl rfl) (s_cons (s_if (v_tcmp m_gt (v_v 2 rfl rfl) s_int) (s_lst (s_cons (v_sub (v_mul s_int (v_v 2 rfl rfl)) s_int) (s_cons (v_mul s_int (v_v 2 rfl rfl)) s_nil))) (s_lst (s_cons (v_sub s_int (v_mul s_int (v_v 2 rfl rfl))) (s_cons (v_sub (v_sub s_int (v_mul s_int (v_v 2 rfl rfl))) s_int) s_nil)))) s_nil)))
  s_snil))
  (s_scons (s_ret (s_lst (s_star rfl rfl (v_v 1 rfl rfl) (s_cons (v_add cx (v_mul s_int (v_blt (f_lenD cx) rfl b.len_ bo_len (s_cons (v_v 0 rfl rfl) s_nil))) s_int) s_nil))))
  s_snil)))
theorem sc_ends_of : FnScope N_ends_of ["row"] (defScope (top 23)) := ⟨rfl, rfl, rfl, by decide +kernel, rfl, by decide +kernel, by decide +kernel⟩
theorem ok_ends_of (F : FunD c.K "ends_of" "ends_of" (defArgs (top 23)) (defBody (top 23)) (defScope (top 23)) [] [] f fd) (b : Blt c) (k_check_row : Kn P w c base 3 "check_row" 1 f_check_row) (k_ends_by : Kn P w c base 1 "ends_by" 1 f_ends_by) : FnG P w c base 4 f fd ["row"] f_ends_of := by
  refine fun_okG F sc_ends_of fun cdv A outer s H E hr hgu => ?_
  have nd := sc_ends_of.nd
  have cx := cxg_of (P := P) (w := w) (c := c) (base := base) (N := N_ends_of) (qual := "ends_of") (scope := defScope (top 23)) (f := f) (cdv := cdv) (A := A) (outer := outer) (s := s) (H := H) (E := E) hgu
  exact (s_scons (s_ex (v_kn cx hr k_check_row (by decide) rfl (s_cons (v_v 0 rfl rfl) s_nil)))
  (s_scons (s_ret (v_bty (f_tuple cx) rfl b.tuple_ bo_tuple (s_cons (v_kn cx hr k_ends_by (by decide) rfl (s_cons (v_v 0 rfl rfl) s_nil)) s_nil)))
  s_snil))
theorem sc_is_between : FnScope N_is_between ["value", "low", "high"] (defScope (top 7)) := ⟨rfl, rfl, rfl, by decide +kernel, rfl, by decide +kernel, by decide +kernel⟩
theorem ok_is_between (F : FunD c.K "is_between" "is_between" (defArgs (top 7)) (defBody (top 7)) (defScope (top 7)) [] [] f fd) (b : Blt c) (k_is_integer : Kn P w c base 1 "is_integer" 1 f_is_integer) : FnG P w c base 2 f fd ["value", "low", "high"] f_is_between := by
  refine fun_okG F sc_is_between fun cdv A outer s H E hr hgu => ?_
  have nd := sc_is_between.nd
  have cx := cxg_of (P := P) (w := w) (c := c) (base := base) (N := N_is_between) (qual := "is_between") (scope := defScope (top 7)) (f := f) (cdv := cdv) (A := A) (outer := outer) (s := s) (H := H) (E := E) hgu
  exact (s_scons (s_ret (s_and (v_kn cx hr k_is_integer (by decide) rfl (s_cons (v_v 0 rfl rfl) s_nil)) (s_one (v_chain m_le m_le (v_v 1 rfl rfl) (v_v 0 rfl rfl) (v_v 2 rfl rfl)))))
  s_snil)
theorem sc_check_many : FnScope N_check_many ["value"] (defScope (top 10)) := ⟨rfl, rfl, rfl, by decide +kernel, rfl, by decide +kernel, by decide +kernel⟩
theorem ok_check_many (F : FunD c.K "check_many" "check_many" (defArgs (top 10)) (defBody (top 10)) (defScope (top 10)) [] [] f fd) (b : Blt c) (k_is_between : Kn P w c base 2 "is_between" 3 f_is_between) (ke_BadMany : KnE P w c base 1 "BadMany") : FnG P w c base 3 f fd ["value"] f_check_many := by
  refine fun_okG F sc_check_many fun cdv A outer s H E hr hgu => ?_
  have nd := sc_check_many.nd
  have cx := cxg_of (P := P) (w := w) (c := c) (base := base) (N := N_check_many) (qual := "check_many") (scope := defScope (top 10)) (f := f) (cdv := cdv) (A := A) (outer := outer) (s := s) (H := H) (E := E) hgu
  exact (s_scons (s_sif (s_tnot (s_tval (v_kn cx hr k_is_between (by decide) rfl (s_cons (v_v 0 rfl rfl) (s_cons s_int (s_cons (s_gint rfl b.MOST_WAGONS_) s_nil)))))) (s_scons (s_raise cx hr ke_BadMany (by decide) rfl rfl (v_v 0 rfl rfl))
  s_snil) s_snil)
  s_snil)
theorem sc_home_ties : FnScope N_home_ties ["many"] (defScope (top 25)) := ⟨rfl, rfl, rfl, by decide +kernel, rfl, by decide +kernel, by decide +kernel⟩
theorem ok_home_ties (F : FunD c.K "home_ties" "home_ties" (defArgs (top 25)) (defBody (top 25)) (defScope (top 25)) [] [] f fd) (b : Blt c) (k_check_many : Kn P w c base 3 "check_many" 1 f_check_many) : FnG P w c base 4 f fd ["many"] f_home_ties := by
  refine fun_okG F sc_home_ties fun cdv A outer s H E hr hgu => ?_
  have nd := sc_home_ties.nd
  have cx := cxg_of (P := P) (w := w) (c := c) (base := base) (N := N_home_ties) (qual := "home_ties") (scope := defScope (top 25)) (f := f) (cdv := cdv) (A := A) (outer := outer) (s := s) (H := H) (E := E) hgu
  exact (s_scons (s_ex (v_kn cx hr k_check_many (by decide) rfl (s_cons (v_v 0 rfl rfl) s_nil)))
  (s_scons (s_ret (v_bty (f_tuple cx) rfl b.tuple_ bo_tuple (s_cons (s_lc rfl nd (s_ir1 rfl b.range_ (v_add cx (v_v 0 rfl rfl) s_int)) (own := [("tie", 1)]) (blkOk_by (by kernel_rfl)) g_nm (fun s1 H1 C1 l1 f1 => (w_gnm (by decide) (pg_name (i := 1) nd rfl (loc_by rfl)))) (fun s1 H1 C1 l1 f1 => s_tnil) (fun s1 H1 C1 l1 f1 => (s_tup (s_cons (v_mul s_int (v_v 1 rfl rfl)) (s_cons (v_add (Cxg.blk cx) (v_mul s_int (v_v 1 rfl rfl)) s_int) s_nil))))) s_nil)))
  s_snil))
theorem sc_row_ties : FnScope N_row_ties ["row"] (defScope (top 24)) := ⟨rfl, rfl, rfl, by decide +kernel, rfl, by decide +kernel, by decide +kernel⟩
theorem ok_row_ties (F : FunD c.K "row_ties" "row_ties" (defArgs (top 24)) (defBody (top 24)) (defScope (top 24)) [] [] f fd) (b : Blt c) (k_check_row : Kn P w c base 3 "check_row" 1 f_check_row) (k_ends_by : Kn P w c base 1 "ends_by" 1 f_ends_by) : FnG P w c base 4 f fd ["row"] f_row_ties := by
  refine fun_okG F sc_row_ties fun cdv A outer s H E hr hgu => ?_
  have nd := sc_row_ties.nd
  have cx := cxg_of (P := P) (w := w) (c := c) (base := base) (N := N_row_ties) (qual := "row_ties") (scope := defScope (top 24)) (f := f) (cdv := cdv) (A := A) (outer := outer) (s := s) (H := H) (E := E) hgu
  exact (s_scons (s_ex (v_kn cx hr k_check_row (by decide) rfl (s_cons (v_v 0 rfl rfl) s_nil)))
  (s_scons (s_set (i := 1) nd rfl (loc_by rfl) (v_kn cx hr k_ends_by (by decide) rfl (s_cons (v_v 0 rfl rfl) s_nil)))
  (s_scons (s_ret (v_bty (f_tuple cx) rfl b.tuple_ bo_tuple (s_cons (s_lc rfl nd (s_ir1 rfl b.range_ (v_add cx (v_blt (f_lenD cx) rfl b.len_ bo_len (s_cons (v_v 0 rfl rfl) s_nil)) s_int)) (own := [("point", 2)]) (blkOk_by (by kernel_rfl)) g_nm (fun s1 H1 C1 l1 f1 => (w_gnm (by decide) (pg_name (i := 2) nd rfl (loc_by rfl)))) (fun s1 H1 C1 l1 f1 => s_tnil) (fun s1 H1 C1 l1 f1 => (s_tup (s_cons (v_ixD (Cxg.blk cx) hr (v_v 1 rfl rfl) (v_mul s_int (v_v 2 rfl rfl))) (s_cons (v_ixD (Cxg.blk cx) hr (v_v 1 rfl rfl) (v_add (Cxg.blk cx) (v_mul s_int (v_v 2 rfl rfl)) s_int)) s_nil))))) s_nil)))
  s_snil)))
theorem sc_places_of : FnScope N_places_of ["ends"] (defScope (top 28)) := ⟨rfl, rfl, rfl, by decide +kernel, rfl, by decide +kernel, by decide +kernel⟩
theorem ok_places_of (F : FunD c.K "places_of" "places_of" (defArgs (top 28)) (defBody (top 28)) (defScope (top 28)) [] [] f fd) (b : Blt c) : FnG P w c base 1 f fd ["ends"] f_places_of := by
  refine fun_okG F sc_places_of fun cdv A outer s H E hr hgu => ?_
  have nd := sc_places_of.nd
  have cx := cxg_of (P := P) (w := w) (c := c) (base := base) (N := N_places_of) (qual := "places_of") (scope := defScope (top 28)) (f := f) (cdv := cdv) (A := A) (outer := outer) (s := s) (H := H) (E := E) hgu
  exact (s_scons (s_ret (s_dc rfl nd (s_ien rfl rfl b.enumerate_ (v_v 0 rfl rfl)) (own := [("place", 1), ("end", 2)]) (blkOk_by (by kernel_rfl)) (g_tp (g_scons g_nm (g_scons g_nm g_snil))) (fun s1 H1 C1 l1 f1 => (w_gtp rfl rfl (w_gscons (w_gnm (by decide) (pg_name (i := 1) nd rfl (loc_by rfl))) (w_gscons (w_gnm (by decide) (pg_name (i := 2) nd rfl (loc_by rfl))) w_gsnil)))) (fun s1 H1 C1 l1 f1 => s_tnil) (fun s1 H1 C1 l1 f1 => (v_v 2 rfl rfl)) (fun s1 H1 C1 l1 f1 => (v_v 1 rfl rfl))))
  s_snil)
theorem sc_mate_of : FnScope N_mate_of ["end"] (defScope (top 27)) := ⟨rfl, rfl, rfl, by decide +kernel, rfl, by decide +kernel, by decide +kernel⟩
theorem ok_mate_of (F : FunD c.K "mate_of" "mate_of" (defArgs (top 27)) (defBody (top 27)) (defScope (top 27)) [] [] f fd) (b : Blt c) : FnG P w c base 1 f fd ["end"] f_mate_of := by
  refine fun_okG F sc_mate_of fun cdv A outer s H E hr hgu => ?_
  have nd := sc_mate_of.nd
  have cx := cxg_of (P := P) (w := w) (c := c) (base := base) (N := N_mate_of) (qual := "mate_of") (scope := defScope (top 27)) (f := f) (cdv := cdv) (A := A) (outer := outer) (s := s) (H := H) (E := E) hgu
  exact (s_scons (s_ret (s_if (v_tcmp (m_eqL cx hr) (v_mod (v_v 0 rfl rfl) s_int) s_int) (v_add cx (v_v 0 rfl rfl) s_int) (v_sub (v_v 0 rfl rfl) s_int)))
  s_snil)
theorem sc_rings_of : FnScope N_rings_of ["row"] (defScope (top 29)) := ⟨rfl, rfl, rfl, by decide +kernel, rfl, by decide +kernel, by decide +kernel⟩
theorem ok_rings_of (F : FunD c.K "rings_of" "rings_of" (defArgs (top 29)) (defBody (top 29)) (defScope (top 29)) [] [] f fd) (b : Blt c) (k_ends_by : Kn P w c base 1 "ends_by" 1 f_ends_by) (k_places_of : Kn P w c base 1 "places_of" 1 f_places_of) (k_mate_of : Kn P w c base 1 "mate_of" 1 f_mate_of) : FnG P w c base 2 f fd ["row"] f_rings_of := by
  refine fun_okG F sc_rings_of fun cdv A outer s H E hr hgu => ?_
  have nd := sc_rings_of.nd
  have cx := cxg_of (P := P) (w := w) (c := c) (base := base) (N := N_rings_of) (qual := "rings_of") (scope := defScope (top 29)) (f := f) (cdv := cdv) (A := A) (outer := outer) (s := s) (H := H) (E := E) hgu
  exact (s_scons (s_set (i := 1) nd rfl (loc_by rfl) (v_kn cx hr k_ends_by (by decide) rfl (s_cons (v_v 0 rfl rfl) s_nil)))
  (s_scons (s_par3 (i := 3) (j := 4) (l := 5) rfl nd rfl rfl rfl (by decide) (by decide) (by decide) rfl rfl rfl (s_cons (v_kn cx hr k_places_of (by decide) rfl (s_cons (v_v 1 rfl rfl) s_nil)) (s_cons s_dnk (s_cons (s_lstM s_nil) s_nil))) rfl)
  (s_scons (s_for (passes_of rfl) rfl (s_ir1 rfl b.range_ (v_add cx (v_blt (f_lenD cx) rfl b.len_ bo_len (s_cons (v_v 0 rfl rfl) s_nil)) s_int)) (s_gnm (pg_name (i := 2) nd rfl (loc_by rfl))) g_nm (s_scons (s_sif (v_tcmp (m_niF cx hr) (v_v 2 rfl rfl) (v_v 4 rfl rfl)) (s_scons (s_par (i := 6) (j := 7) rfl nd rfl rfl (by decide) rfl rfl (s_cons (s_lstM s_nil) (s_cons (v_mul s_int (v_v 2 rfl rfl)) s_nil)) rfl)
  (s_scons (s_wh (passes_of rfl) (PW.pt (s_tor (v_tcmp (m_niF cx hr) (v_div (v_v 7 rfl rfl) s_int) (v_v 4 rfl rfl)) (s_tor1 (v_tcmp (m_neL cx hr) (v_v 7 rfl rfl) (v_mul s_int (v_v 2 rfl rfl)))))) (s_scons (s_as s_bool (s_gsbF cx hr (v_v 4 rfl rfl) (v_div (v_v 7 rfl rfl) s_int)) g_sbF)
  (s_scons (s_ex (v_mt cx d_append (v_v 6 rfl rfl) (s_cons (v_div (v_v 7 rfl rfl) s_int) s_nil)))
  (s_scons (s_set (i := 8) nd rfl (loc_by rfl) (s_if (v_tcmp (m_eqL cx hr) (v_mod (v_v 7 rfl rfl) s_int) s_int) (v_add cx (v_v 7 rfl rfl) s_int) (v_sub (v_v 7 rfl rfl) s_int)))
  (s_scons (s_set (i := 7) nd rfl (loc_by rfl) (v_ixD cx hr (v_v 3 rfl rfl) (v_kn cx hr k_mate_of (by decide) rfl (s_cons (v_ixD cx hr (v_v 1 rfl rfl) (v_v 8 rfl rfl)) s_nil))))
  s_snil)))))
  (s_scons (s_ex (v_mt cx d_append (v_v 5 rfl rfl) (s_cons (v_bty (f_tuple cx) rfl b.tuple_ bo_tuple (s_cons (v_blt (f_sortedA cx) rfl b.sorted_ bo_sorted (s_cons (v_v 6 rfl rfl) s_nil)) s_nil)) s_nil)))
  s_snil))) s_snil)
  s_snil))
  (s_scons (s_ret (v_v 5 rfl rfl))
  s_snil))))
theorem sc_rings : FnScope N_rings ["row"] (defScope (top 30)) := ⟨rfl, rfl, rfl, by decide +kernel, rfl, by decide +kernel, by decide +kernel⟩
theorem ok_rings (F : FunD c.K "rings" "rings" (defArgs (top 30)) (defBody (top 30)) (defScope (top 30)) [] [] f fd) (b : Blt c) (k_check_row : Kn P w c base 3 "check_row" 1 f_check_row) (k_rings_of : Kn P w c base 2 "rings_of" 1 f_rings_of) : FnG P w c base 4 f fd ["row"] f_rings := by
  refine fun_okG F sc_rings fun cdv A outer s H E hr hgu => ?_
  have nd := sc_rings.nd
  have cx := cxg_of (P := P) (w := w) (c := c) (base := base) (N := N_rings) (qual := "rings") (scope := defScope (top 30)) (f := f) (cdv := cdv) (A := A) (outer := outer) (s := s) (H := H) (E := E) hgu
  exact (s_scons (s_ex (v_kn cx hr k_check_row (by decide) rfl (s_cons (v_v 0 rfl rfl) s_nil)))
  (s_scons (s_ret (v_bty (f_tuple cx) rfl b.tuple_ bo_tuple (s_cons (v_kn cx hr k_rings_of (by decide) rfl (s_cons (v_v 0 rfl rfl) s_nil)) s_nil)))
  s_snil))
theorem sc_count_of : FnScope N_count_of ["row"] (defScope (top 34)) := ⟨rfl, rfl, rfl, by decide +kernel, rfl, by decide +kernel, by decide +kernel⟩
theorem ok_count_of (F : FunD c.K "count_of" "count_of" (defArgs (top 34)) (defBody (top 34)) (defScope (top 34)) [] [] f fd) (b : Blt c) (k_rings_of : Kn P w c base 2 "rings_of" 1 f_rings_of) : FnG P w c base 3 f fd ["row"] f_count_of := by
  refine fun_okG F sc_count_of fun cdv A outer s H E hr hgu => ?_
  have nd := sc_count_of.nd
  have cx := cxg_of (P := P) (w := w) (c := c) (base := base) (N := N_count_of) (qual := "count_of") (scope := defScope (top 34)) (f := f) (cdv := cdv) (A := A) (outer := outer) (s := s) (H := H) (E := E) hgu
  exact (s_scons (s_ret (v_blt (f_lenD cx) rfl b.len_ bo_len (s_cons (v_kn cx hr k_rings_of (by decide) rfl (s_cons (v_v 0 rfl rfl) s_nil)) s_nil)))
  s_snil)
theorem sc_ring_count : FnScope N_ring_count ["row"] (defScope (top 35)) := ⟨rfl, rfl, rfl, by decide +kernel, rfl, by decide +kernel, by decide +kernel⟩
theorem ok_ring_count (F : FunD c.K "ring_count" "ring_count" (defArgs (top 35)) (defBody (top 35)) (defScope (top 35)) [] [] f fd) (b : Blt c) (k_check_row : Kn P w c base 3 "check_row" 1 f_check_row) (k_count_of : Kn P w c base 3 "count_of" 1 f_count_of) : FnG P w c base 4 f fd ["row"] f_ring_count := by
  refine fun_okG F sc_ring_count fun cdv A outer s H E hr hgu => ?_
  have nd := sc_ring_count.nd
  have cx := cxg_of (P := P) (w := w) (c := c) (base := base) (N := N_ring_count) (qual := "ring_count") (scope := defScope (top 35)) (f := f) (cdv := cdv) (A := A) (outer := outer) (s := s) (H := H) (E := E) hgu
  exact (s_scons (s_ex (v_kn cx hr k_check_row (by decide) rfl (s_cons (v_v 0 rfl rfl) s_nil)))
  (s_scons (s_ret (v_kn cx hr k_count_of (by decide) rfl (s_cons (v_v 0 rfl rfl) s_nil)))
  s_snil))
theorem sc_lengths : FnScope N_lengths ["row"] (defScope (top 36)) := ⟨rfl, rfl, rfl, by decide +kernel, rfl, by decide +kernel, by decide +kernel⟩
theorem ok_lengths (F : FunD c.K "lengths" "lengths" (defArgs (top 36)) (defBody (top 36)) (defScope (top 36)) [] [] f fd) (b : Blt c) (k_check_row : Kn P w c base 3 "check_row" 1 f_check_row) (k_rings_of : Kn P w c base 2 "rings_of" 1 f_rings_of) : FnG P w c base 4 f fd ["row"] f_lengths := by
  refine fun_okG F sc_lengths fun cdv A outer s H E hr hgu => ?_
  have nd := sc_lengths.nd
  have cx := cxg_of (P := P) (w := w) (c := c) (base := base) (N := N_lengths) (qual := "lengths") (scope := defScope (top 36)) (f := f) (cdv := cdv) (A := A) (outer := outer) (s := s) (H := H) (E := E) hgu
  exact (s_scons (s_ex (v_kn cx hr k_check_row (by decide) rfl (s_cons (v_v 0 rfl rfl) s_nil)))
  (s_scons (s_ret (v_bty (f_tuple cx) rfl b.tuple_ bo_tuple (s_cons (v_blt (f_sortedA cx) rfl b.sorted_ bo_sorted (s_cons (s_lc rfl nd (s_iseq rfl (v_kn cx hr k_rings_of (by decide) rfl (s_cons (v_v 0 rfl rfl) s_nil))) (own := [("ring", 1)]) (blkOk_by (by kernel_rfl)) g_nm (fun s1 H1 C1 l1 f1 => (w_gnm (by decide) (pg_name (i := 1) nd rfl (loc_by rfl)))) (fun s1 H1 C1 l1 f1 => s_tnil) (fun s1 H1 C1 l1 f1 => (v_blt (f_lenD (Cxg.blk cx)) rfl b.len_ bo_len (s_cons (v_v 1 rfl rfl) s_nil)))) s_nil)) s_nil)))
  s_snil))
theorem sc_check_point : FnScope N_check_point ["row", "point"] (defScope (top 19)) := ⟨rfl, rfl, rfl, by decide +kernel, rfl, by decide +kernel, by decide +kernel⟩
theorem ok_check_point (F : FunD c.K "check_point" "check_point" (defArgs (top 19)) (defBody (top 19)) (defScope (top 19)) [] [] f fd) (b : Blt c) (k_check_row : Kn P w c base 3 "check_row" 1 f_check_row) (k_is_between : Kn P w c base 2 "is_between" 3 f_is_between) (ke_BadPoint : KnE P w c base 1 "BadPoint") : FnG P w c base 4 f fd ["row", "point"] f_check_point := by
  refine fun_okG F sc_check_point fun cdv A outer s H E hr hgu => ?_
  have nd := sc_check_point.nd
  have cx := cxg_of (P := P) (w := w) (c := c) (base := base) (N := N_check_point) (qual := "check_point") (scope := defScope (top 19)) (f := f) (cdv := cdv) (A := A) (outer := outer) (s := s) (H := H) (E := E) hgu
  exact (s_scons (s_ex (v_kn cx hr k_check_row (by decide) rfl (s_cons (v_v 0 rfl rfl) s_nil)))
  (s_scons (s_sif (s_tnot (s_tval (v_kn cx hr k_is_between (by decide) rfl (s_cons (v_v 1 rfl rfl) (s_cons s_int (s_cons (v_blt (f_lenD cx) rfl b.len_ bo_len (s_cons (v_v 0 rfl rfl) s_nil)) s_nil)))))) (s_scons (s_raise cx hr ke_BadPoint (by decide) rfl rfl (v_v 1 rfl rfl))
  s_snil) s_snil)
  s_snil))
theorem sc_ring_of : FnScope N_ring_of ["row", "point"] (defScope (top 31)) := ⟨rfl, rfl, rfl, by decide +kernel, rfl, by decide +kernel, by decide +kernel⟩
theorem ok_ring_of (F : FunD c.K "ring_of" "ring_of" (defArgs (top 31)) (defBody (top 31)) (defScope (top 31)) [] [] f fd) (b : Blt c) (k_check_point : Kn P w c base 4 "check_point" 2 f_check_point) (k_rings_of : Kn P w c base 2 "rings_of" 1 f_rings_of) : FnG P w c base 5 f fd ["row", "point"] f_ring_of := by
  refine fun_okG F sc_ring_of fun cdv A outer s H E hr hgu => ?_
  have nd := sc_ring_of.nd
  have cx := cxg_of (P := P) (w := w) (c := c) (base := base) (N := N_ring_of) (qual := "ring_of") (scope := defScope (top 31)) (f := f) (cdv := cdv) (A := A) (outer := outer) (s := s) (H := H) (E := E) hgu
  exact (s_scons (s_ex (v_kn cx hr k_check_point (by decide) rfl (s_cons (v_v 0 rfl rfl) (s_cons (v_v 1 rfl rfl) s_nil))))
  (s_scons (s_ret (v_ixD cx hr (s_lc rfl nd (s_iseq rfl (v_kn cx hr k_rings_of (by decide) rfl (s_cons (v_v 0 rfl rfl) s_nil))) (own := [("ring", 2)]) (blkOk_by (by kernel_rfl)) g_nm (fun s1 H1 C1 l1 f1 => (w_gnm (by decide) (pg_name (i := 2) nd rfl (loc_by rfl)))) (fun s1 H1 C1 l1 f1 => (s_tone (v_tcmp (m_inF (Cxg.blk cx) hr) (v_v 1 rfl rfl) (v_v 2 rfl rfl)))) (fun s1 H1 C1 l1 f1 => (v_v 2 rfl rfl))) s_int))
  s_snil))
theorem sc_ties_of : FnScope N_ties_of ["row", "ring"] (defScope (top 32)) := ⟨rfl, rfl, rfl, by decide +kernel, rfl, by decide +kernel, by decide +kernel⟩
theorem ok_ties_of (F : FunD c.K "ties_of" "ties_of" (defArgs (top 32)) (defBody (top 32)) (defScope (top 32)) [] [] f fd) (b : Blt c) (k_ends_by : Kn P w c base 1 "ends_by" 1 f_ends_by) : FnG P w c base 2 f fd ["row", "ring"] f_ties_of := by
  refine fun_okG F sc_ties_of fun cdv A outer s H E hr hgu => ?_
  have nd := sc_ties_of.nd
  have cx := cxg_of (P := P) (w := w) (c := c) (base := base) (N := N_ties_of) (qual := "ties_of") (scope := defScope (top 32)) (f := f) (cdv := cdv) (A := A) (outer := outer) (s := s) (H := H) (E := E) hgu
  exact (s_scons (s_set (i := 2) nd rfl (loc_by rfl) (v_kn cx hr k_ends_by (by decide) rfl (s_cons (v_v 0 rfl rfl) s_nil)))
  (s_scons (s_ret (v_bty (f_tuple cx) rfl b.tuple_ bo_tuple (s_cons (s_srtSetA cx hr rfl b.sorted_ rfl b.set_ (v_add cx (s_lc rfl nd (s_iseq rfl (v_v 1 rfl rfl)) (own := [("point", 3)]) (blkOk_by (by kernel_rfl)) g_nm (fun s1 H1 C1 l1 f1 => (w_gnm (by decide) (pg_name (i := 3) nd rfl (loc_by rfl)))) (fun s1 H1 C1 l1 f1 => s_tnil) (fun s1 H1 C1 l1 f1 => (v_div (v_ixD (Cxg.blk cx) hr (v_v 2 rfl rfl) (v_mul s_int (v_v 3 rfl rfl))) s_int))) (s_lc rfl nd (s_iseq rfl (v_v 1 rfl rfl)) (own := [("point", 3)]) (blkOk_by (by kernel_rfl)) g_nm (fun s1 H1 C1 l1 f1 => (w_gnm (by decide) (pg_name (i := 3) nd rfl (loc_by rfl)))) (fun s1 H1 C1 l1 f1 => s_tnil) (fun s1 H1 C1 l1 f1 => (v_div (v_ixD (Cxg.blk cx) hr (v_v 2 rfl rfl) (v_add (Cxg.blk cx) (v_mul s_int (v_v 3 rfl rfl)) s_int)) s_int)))) rfl) s_nil)))
  s_snil))
theorem sc_tie_rings : FnScope N_tie_rings ["row"] (defScope (top 33)) := ⟨rfl, rfl, rfl, by decide +kernel, rfl, by decide +kernel, by decide +kernel⟩
theorem ok_tie_rings (F : FunD c.K "tie_rings" "tie_rings" (defArgs (top 33)) (defBody (top 33)) (defScope (top 33)) [] [] f fd) (b : Blt c) (k_check_row : Kn P w c base 3 "check_row" 1 f_check_row) (k_rings_of : Kn P w c base 2 "rings_of" 1 f_rings_of) (k_ties_of : Kn P w c base 2 "ties_of" 2 f_ties_of) : FnG P w c base 4 f fd ["row"] f_tie_rings := by
  refine fun_okG F sc_tie_rings fun cdv A outer s H E hr hgu => ?_
  have nd := sc_tie_rings.nd
  have cx := cxg_of (P := P) (w := w) (c := c) (base := base) (N := N_tie_rings) (qual := "tie_rings") (scope := defScope (top 33)) (f := f) (cdv := cdv) (A := A) (outer := outer) (s := s) (H := H) (E := E) hgu
  exact (s_scons (s_ex (v_kn cx hr k_check_row (by decide) rfl (s_cons (v_v 0 rfl rfl) s_nil)))
  (s_scons (s_ret (v_bty (f_tuple cx) rfl b.tuple_ bo_tuple (s_cons (v_blt (f_sortedA cx) rfl b.sorted_ bo_sorted (s_cons (s_lc rfl nd (s_iseq rfl (v_kn cx hr k_rings_of (by decide) rfl (s_cons (v_v 0 rfl rfl) s_nil))) (own := [("ring", 1)]) (blkOk_by (by kernel_rfl)) g_nm (fun s1 H1 C1 l1 f1 => (w_gnm (by decide) (pg_name (i := 1) nd rfl (loc_by rfl)))) (fun s1 H1 C1 l1 f1 => s_tnil) (fun s1 H1 C1 l1 f1 => (v_kn (Cxg.blk cx) hr k_ties_of (by decide) rfl (s_cons (v_v 0 rfl rfl) (s_cons (v_v 1 rfl rfl) s_nil))))) s_nil)) s_nil)))
  s_snil))
theorem sc_outer : FnScope N_outer ["row"] (defScope (top 16)) := ⟨rfl, rfl, rfl, by decide +kernel, rfl, by decide +kernel, by decide +kernel⟩
theorem ok_outer (F : FunD c.K "outer" "outer" (defArgs (top 16)) (defBody (top 16)) (defScope (top 16)) [] [] f fd) (b : Blt c) : FnG P w c base 1 f fd ["row"] f_outer := by
  refine fun_okG F sc_outer fun cdv A outer s H E hr hgu => ?_
  have nd := sc_outer.nd
  have cx := cxg_of (P := P) (w := w) (c := c) (base := base) (N := N_outer) (qual := "outer") (scope := defScope (top 16)) (f := f) (cdv := cdv) (A := A) (outer := outer) (s := s) (H := H) (E := E) hgu
  exact (s_scons (s_ret (s_tup (s_cons s_int (s_star rfl rfl (v_v 0 rfl rfl) (s_cons (v_add cx (v_blt (f_lenD cx) rfl b.len_ bo_len (s_cons (v_v 0 rfl rfl) s_nil)) s_int) s_nil)))))
  s_snil)
theorem sc_broken_at : FnScope N_broken_at ["row", "point"] (defScope (top 17)) := ⟨rfl, rfl, rfl, by decide +kernel, rfl, by decide +kernel, by decide +kernel⟩
theorem ok_broken_at (F : FunD c.K "broken_at" "broken_at" (defArgs (top 17)) (defBody (top 17)) (defScope (top 17)) [] [] f fd) (b : Blt c) (k_outer : Kn P w c base 1 "outer" 1 f_outer) : FnG P w c base 2 f fd ["row", "point"] f_broken_at := by
  refine fun_okG F sc_broken_at fun cdv A outer s H E hr hgu => ?_
  have nd := sc_broken_at.nd
  have cx := cxg_of (P := P) (w := w) (c := c) (base := base) (N := N_broken_at) (qual := "broken_at") (scope := defScope (top 17)) (f := f) (cdv := cdv) (A := A) (outer := outer) (s := s) (H := H) (E := E) hgu
  exact (s_scons (s_set (i := 2) nd rfl (loc_by rfl) (v_kn cx hr k_outer (by decide) rfl (s_cons (v_v 0 rfl rfl) s_nil)))
  (s_scons (s_ret (v_cmp (m_neL cx hr) (v_ixD cx hr (v_v 2 rfl rfl) (v_add cx (v_v 1 rfl rfl) s_int)) (v_add cx (v_ixD cx hr (v_v 2 rfl rfl) (v_v 1 rfl rfl)) s_int)))
  s_snil))
theorem sc_broken_points : FnScope N_broken_points ["row"] (defScope (top 18)) := ⟨rfl, rfl, rfl, by decide +kernel, rfl, by decide +kernel, by decide +kernel⟩
theorem ok_broken_points (F : FunD c.K "broken_points" "broken_points" (defArgs (top 18)) (defBody (top 18)) (defScope (top 18)) [] [] f fd) (b : Blt c) (k_broken_at : Kn P w c base 2 "broken_at" 2 f_broken_at) : FnG P w c base 3 f fd ["row"] f_broken_points := by
  refine fun_okG F sc_broken_points fun cdv A outer s H E hr hgu => ?_
  have nd := sc_broken_points.nd
  have cx := cxg_of (P := P) (w := w) (c := c) (base := base) (N := N_broken_points) (qual := "broken_points") (scope := defScope (top 18)) (f := f) (cdv := cdv) (A := A) (outer := outer) (s := s) (H := H) (E := E) hgu
  exact (s_scons (s_ret (s_lc rfl nd (s_ir1 rfl b.range_ (v_add cx (v_blt (f_lenD cx) rfl b.len_ bo_len (s_cons (v_v 0 rfl rfl) s_nil)) s_int)) (own := [("point", 1)]) (blkOk_by (by kernel_rfl)) g_nm (fun s1 H1 C1 l1 f1 => (w_gnm (by decide) (pg_name (i := 1) nd rfl (loc_by rfl)))) (fun s1 H1 C1 l1 f1 => (s_tone (s_tval (v_kn (Cxg.blk cx) hr k_broken_at (by decide) rfl (s_cons (v_v 0 rfl rfl) (s_cons (v_v 1 rfl rfl) s_nil)))))) (fun s1 H1 C1 l1 f1 => (v_v 1 rfl rfl))))
  s_snil)
theorem sc_breaks : FnScope N_breaks ["row"] (defScope (top 20)) := ⟨rfl, rfl, rfl, by decide +kernel, rfl, by decide +kernel, by decide +kernel⟩
theorem ok_breaks (F : FunD c.K "breaks" "breaks" (defArgs (top 20)) (defBody (top 20)) (defScope (top 20)) [] [] f fd) (b : Blt c) (k_check_row : Kn P w c base 3 "check_row" 1 f_check_row) (k_broken_points : Kn P w c base 3 "broken_points" 1 f_broken_points) : FnG P w c base 4 f fd ["row"] f_breaks := by
  refine fun_okG F sc_breaks fun cdv A outer s H E hr hgu => ?_
  have nd := sc_breaks.nd
  have cx := cxg_of (P := P) (w := w) (c := c) (base := base) (N := N_breaks) (qual := "breaks") (scope := defScope (top 20)) (f := f) (cdv := cdv) (A := A) (outer := outer) (s := s) (H := H) (E := E) hgu
  exact (s_scons (s_ex (v_kn cx hr k_check_row (by decide) rfl (s_cons (v_v 0 rfl rfl) s_nil)))
  (s_scons (s_ret (v_bty (f_tuple cx) rfl b.tuple_ bo_tuple (s_cons (v_kn cx hr k_broken_points (by decide) rfl (s_cons (v_v 0 rfl rfl) s_nil)) s_nil)))
  s_snil))
theorem sc_back_of : FnScope N_back_of ["row"] (defScope (top 13)) := ⟨rfl, rfl, rfl, by decide +kernel, rfl, by decide +kernel, by decide +kernel⟩
theorem ok_back_of (F : FunD c.K "back_of" "back_of" (defArgs (top 13)) (defBody (top 13)) (defScope (top 13)) [] [] f fd) (b : Blt c) : FnG P w c base 1 f fd ["row"] f_back_of := by
  refine fun_okG F sc_back_of fun cdv A outer s H E hr hgu => ?_
  have nd := sc_back_of.nd
  have cx := cxg_of (P := P) (w := w) (c := c) (base := base) (N := N_back_of) (qual := "back_of") (scope := defScope (top 13)) (f := f) (cdv := cdv) (A := A) (outer := outer) (s := s) (H := H) (E := E) hgu
  exact (s_scons (s_set (i := 1) nd rfl (loc_by rfl) (v_mulM cx (s_lst (s_cons s_int s_nil)) (v_blt (f_lenD cx) rfl b.len_ bo_len (s_cons (v_v 0 rfl rfl) s_nil))))
  (s_scons (s_for (passes_of rfl) rfl (s_ien rfl rfl b.enumerate_ (v_v 0 rfl rfl)) (s_gtp rfl rfl (s_gscons (s_gnm (pg_name (i := 2) nd rfl (loc_by rfl))) (s_gscons (s_gnm (pg_name (i := 3) nd rfl (loc_by rfl))) s_gsnil))) (g_tp (g_scons g_nm (g_scons g_nm g_snil))) (s_scons (s_as (s_if (v_tcmp m_gt (v_v 3 rfl rfl) s_int) (v_add cx (v_v 2 rfl rfl) s_int) (v_sub (v_sub s_int (v_v 2 rfl rfl)) s_int)) (s_gsbF cx hr (v_v 1 rfl rfl) (v_sub (v_blt (f_abs) rfl b.abs_ bo_abs (s_cons (v_v 3 rfl rfl) s_nil)) s_int)) g_sbF)
  s_snil))
  (s_scons (s_ret (v_bty (f_tuple cx) rfl b.tuple_ bo_tuple (s_cons (v_v 1 rfl rfl) s_nil)))
  s_snil)))
theorem sc_back : FnScope N_back ["row"] (defScope (top 14)) := ⟨rfl, rfl, rfl, by decide +kernel, rfl, by decide +kernel, by decide +kernel⟩
theorem ok_back (F : FunD c.K "back" "back" (defArgs (top 14)) (defBody (top 14)) (defScope (top 14)) [] [] f fd) (b : Blt c) (k_check_row : Kn P w c base 3 "check_row" 1 f_check_row) (k_back_of : Kn P w c base 1 "back_of" 1 f_back_of) : FnG P w c base 4 f fd ["row"] f_back := by
  refine fun_okG F sc_back fun cdv A outer s H E hr hgu => ?_
  have nd := sc_back.nd
  have cx := cxg_of (P := P) (w := w) (c := c) (base := base) (N := N_back) (qual := "back") (scope := defScope (top 14)) (f := f) (cdv := cdv) (A := A) (outer := outer) (s := s) (H := H) (E := E) hgu
  exact (s_scons (s_ex (v_kn cx hr k_check_row (by decide) rfl (s_cons (v_v 0 rfl rfl) s_nil)))
  (s_scons (s_ret (v_kn cx hr k_back_of (by decide) rfl (s_cons (v_v 0 rfl rfl) s_nil)))
  s_snil))
theorem sc__law_home : FnScope N__law_home ["many"] (defScope (top 44)) := ⟨rfl, rfl, rfl, by decide +kernel, rfl, by decide +kernel, by decide +kernel⟩
theorem ok__law_home (F : FunD c.K "_law_home" "_law_home" (defArgs (top 44)) (defBody (top 44)) (defScope (top 44)) [] [] f fd) (b : Blt c) : FnG P w c base 1 f fd ["many"] f__law_home := by
  refine fun_okG F sc__law_home fun cdv A outer s H E hr hgu => ?_
  have nd := sc__law_home.nd
  have cx := cxg_of (P := P) (w := w) (c := c) (base := base) (N := N__law_home) (qual := "_law_home") (scope := defScope (top 44)) (f := f) (cdv := cdv) (A := A) (outer := outer) (s := s) (H := H) (E := E) hgu
  exact (s_scons (s_ret (s_rgT rfl rfl b.tuple_ (s_rg2 rfl b.range_ s_int (v_add cx (v_v 0 rfl rfl) s_int))))
  s_snil)
theorem sc__law_is_right : FnScope N__law_is_right ["row"] (defScope (top 47)) := ⟨rfl, rfl, rfl, by decide +kernel, rfl, by decide +kernel, by decide +kernel⟩
theorem ok__law_is_right (F : FunD c.K "_law_is_right" "_law_is_right" (defArgs (top 47)) (defBody (top 47)) (defScope (top 47)) [] [] f fd) (b : Blt c) (k__law_ends : Kn P w c base 1 "_law_ends" 1 f__law_ends) (k__law_rings : Kn P w c base 2 "_law_rings" 1 f__law_rings) (k_ends_of : Kn P w c base 4 "ends_of" 1 f_ends_of) (k_home_ties : Kn P w c base 4 "home_ties" 1 f_home_ties) (k_row_ties : Kn P w c base 4 "row_ties" 1 f_row_ties) (k_rings : Kn P w c base 4 "rings" 1 f_rings) (k_ring_count : Kn P w c base 4 "ring_count" 1 f_ring_count) (k_lengths : Kn P w c base 4 "lengths" 1 f_lengths) (k_ring_of : Kn P w c base 5 "ring_of" 2 f_ring_of) (k_tie_rings : Kn P w c base 4 "tie_rings" 1 f_tie_rings) (k_breaks : Kn P w c base 4 "breaks" 1 f_breaks) (k_back : Kn P w c base 4 "back" 1 f_back) (k__law_home : Kn P w c base 1 "_law_home" 1 f__law_home) : FnG P w c base 6 f fd ["row"] f__law_is_right := by
  refine fun_okG F sc__law_is_right fun cdv A outer s H E hr hgu => ?_
  have nd := sc__law_is_right.nd
  have cx := cxg_of (P := P) (w := w) (c := c) (base := base) (N := N__law_is_right) (qual := "_law_is_right") (scope := defScope (top 47)) (f := f) (cdv := cdv) (A := A) (outer := outer) (s := s) (H := H) (E := E) hgu
  exact (s_scons (s_as (s_tup (s_cons (v_blt (f_lenD cx) rfl b.len_ bo_len (s_cons (v_v 0 rfl rfl) s_nil)) (s_cons (v_kn cx hr k__law_ends (by decide) rfl (s_cons (v_v 0 rfl rfl) s_nil)) (s_cons (v_kn cx hr k__law_rings (by decide) rfl (s_cons (v_v 0 rfl rfl) s_nil)) s_nil)))) (s_gtp rfl rfl (s_gscons (s_gnm (pg_name (i := 3) nd rfl (loc_by rfl))) (s_gscons (s_gnm (pg_name (i := 4) nd rfl (loc_by rfl))) (s_gscons (s_gnm (pg_name (i := 5) nd rfl (loc_by rfl))) s_gsnil)))) (g_tp (g_scons g_nm (g_scons g_nm (g_scons g_nm g_snil)))))
  (s_scons (s_sif (PW.pt (s_tor (v_tcmp (m_neL cx hr) (v_blt (f_reprD cx hr) rfl b.repr_ bo_repr (s_cons (v_kn cx hr k_ends_of (by decide) rfl (s_cons (v_v 0 rfl rfl) s_nil)) s_nil)) (v_blt (f_reprD cx hr) rfl b.repr_ bo_repr (s_cons (v_bty (f_tuple cx) rfl b.tuple_ bo_tuple (s_cons (v_v 4 rfl rfl) s_nil)) s_nil))) (s_tor1 (v_tcmp (m_neL cx hr) (v_blt (f_reprD cx hr) rfl b.repr_ bo_repr (s_cons (v_kn cx hr k_home_ties (by decide) rfl (s_cons (v_v 3 rfl rfl) s_nil)) s_nil)) (v_blt (f_reprD cx hr) rfl b.repr_ bo_repr (s_cons (v_bty (f_tuple cx) rfl b.tuple_ bo_tuple (s_cons (s_lc rfl nd (s_ir1 rfl b.range_ (v_add cx (v_v 3 rfl rfl) s_int)) (own := [("tie", 8)]) (blkOk_by (by kernel_rfl)) g_nm (fun s1 H1 C1 l1 f1 => (w_gnm (by decide) (pg_name (i := 8) nd rfl (loc_by rfl)))) (fun s1 H1 C1 l1 f1 => s_tnil) (fun s1 H1 C1 l1 f1 => (s_tup (s_cons (v_mul s_int (v_v 8 rfl rfl)) (s_cons (v_add (Cxg.blk cx) (v_mul s_int (v_v 8 rfl rfl)) s_int) s_nil))))) s_nil)) s_nil)))))) (s_scons (s_ret s_bool)
  s_snil) s_snil)
  (s_scons (s_sif (v_tcmp (m_neL cx hr) (v_blt (f_reprD cx hr) rfl b.repr_ bo_repr (s_cons (v_kn cx hr k_row_ties (by decide) rfl (s_cons (v_v 0 rfl rfl) s_nil)) s_nil)) (v_blt (f_reprD cx hr) rfl b.repr_ bo_repr (s_cons (v_bty (f_tuple cx) rfl b.tuple_ bo_tuple (s_cons (s_lc rfl nd (s_ir1 rfl b.range_ (v_add cx (v_v 3 rfl rfl) s_int)) (own := [("point", 7)]) (blkOk_by (by kernel_rfl)) g_nm (fun s1 H1 C1 l1 f1 => (w_gnm (by decide) (pg_name (i := 7) nd rfl (loc_by rfl)))) (fun s1 H1 C1 l1 f1 => s_tnil) (fun s1 H1 C1 l1 f1 => (s_tup (s_cons (v_ixD (Cxg.blk cx) hr (v_v 4 rfl rfl) (v_mul s_int (v_v 7 rfl rfl))) (s_cons (v_ixD (Cxg.blk cx) hr (v_v 4 rfl rfl) (v_add (Cxg.blk cx) (v_mul s_int (v_v 7 rfl rfl)) s_int)) s_nil))))) s_nil)) s_nil))) (s_scons (s_ret s_bool)
  s_snil) s_snil)
  (s_scons (s_sif (v_tcmp (m_neL cx hr) (v_blt (f_reprD cx hr) rfl b.repr_ bo_repr (s_cons (s_tup (s_cons (v_kn cx hr k_rings (by decide) rfl (s_cons (v_v 0 rfl rfl) s_nil)) (s_cons (v_kn cx hr k_ring_count (by decide) rfl (s_cons (v_v 0 rfl rfl) s_nil)) (s_cons (v_kn cx hr k_lengths (by decide) rfl (s_cons (v_v 0 rfl rfl) s_nil)) s_nil)))) s_nil)) (v_blt (f_reprD cx hr) rfl b.repr_ bo_repr (s_cons (s_tup (s_cons (v_bty (f_tuple cx) rfl b.tuple_ bo_tuple (s_cons (v_v 5 rfl rfl) s_nil)) (s_cons (v_blt (f_lenD cx) rfl b.len_ bo_len (s_cons (v_v 5 rfl rfl) s_nil)) (s_cons (v_bty (f_tuple cx) rfl b.tuple_ bo_tuple (s_cons (v_blt (f_sortedA cx) rfl b.sorted_ bo_sorted (s_cons (s_lc rfl nd (s_iseq rfl (v_v 5 rfl rfl)) (own := [("ring", 6)]) (blkOk_by (by kernel_rfl)) g_nm (fun s1 H1 C1 l1 f1 => (w_gnm (by decide) (pg_name (i := 6) nd rfl (loc_by rfl)))) (fun s1 H1 C1 l1 f1 => s_tnil) (fun s1 H1 C1 l1 f1 => (v_blt (f_lenD (Cxg.blk cx)) rfl b.len_ bo_len (s_cons (v_v 6 rfl rfl) s_nil)))) s_nil)) s_nil)) s_nil)))) s_nil))) (s_scons (s_ret s_bool)
  s_snil) s_snil)
  (s_scons (s_sif (s_tnot (s_tval (v_blt (f_all cx rfl) rfl b.all_ bo_all (s_cons (s_lc rfl nd (s_ir1 rfl b.range_ (v_add cx (v_v 3 rfl rfl) s_int)) (own := [("point", 7)]) (blkOk_by (by kernel_rfl)) g_nm (fun s1 H1 C1 l1 f1 => (w_gnm (by decide) (pg_name (i := 7) nd rfl (loc_by rfl)))) (fun s1 H1 C1 l1 f1 => s_tnil) (fun s1 H1 C1 l1 f1 => (v_cmp (m_eqL (Cxg.blk cx) hr) (v_blt (f_reprD (Cxg.blk cx) hr) rfl b.repr_ bo_repr (s_cons (v_kn (Cxg.blk cx) hr k_ring_of (by decide) rfl (s_cons (v_v 0 rfl rfl) (s_cons (v_v 7 rfl rfl) s_nil))) s_nil)) (v_blt (f_reprD (Cxg.blk cx) hr) rfl b.repr_ bo_repr (s_cons (v_ixD (Cxg.blk cx) hr (s_lc rfl nd (s_iseq rfl (v_v 5 rfl rfl)) (own := [("ring", 6)]) (blkOk_by (by kernel_rfl)) g_nm (fun s2 H2 C2 l2 f2 => (w_gnm (by decide) (pg_name (i := 6) nd rfl (loc_by rfl)))) (fun s2 H2 C2 l2 f2 => (s_tone (v_tcmp (m_inF (Cxg.blk (Cxg.blk cx)) hr) (v_v 7 rfl rfl) (v_v 6 rfl rfl)))) (fun s2 H2 C2 l2 f2 => (v_v 6 rfl rfl))) s_int) s_nil))))) s_nil)))) (s_scons (s_ret s_bool)
  s_snil) s_snil)
  (s_scons (s_set (i := 1) nd rfl (loc_by rfl) (v_kn cx hr k_tie_rings (by decide) rfl (s_cons (v_v 0 rfl rfl) s_nil)))
  (s_scons (s_set (i := 2) nd rfl (loc_by rfl) (v_blt (f_sortedA cx) rfl b.sorted_ bo_sorted (s_cons (s_lc rfl nd (s_iseq rfl (v_v 5 rfl rfl)) (own := [("ring", 6)]) (blkOk_by (by kernel_rfl)) g_nm (fun s1 H1 C1 l1 f1 => (w_gnm (by decide) (pg_name (i := 6) nd rfl (loc_by rfl)))) (fun s1 H1 C1 l1 f1 => s_tnil) (fun s1 H1 C1 l1 f1 => (v_bty (f_tuple (Cxg.blk cx)) rfl b.tuple_ bo_tuple (s_cons (s_srtSetA (Cxg.blk cx) hr rfl b.sorted_ rfl b.set_ (v_add (Cxg.blk cx) (s_lc rfl nd (s_iseq rfl (v_v 6 rfl rfl)) (own := [("point", 7)]) (blkOk_by (by kernel_rfl)) g_nm (fun s2 H2 C2 l2 f2 => (w_gnm (by decide) (pg_name (i := 7) nd rfl (loc_by rfl)))) (fun s2 H2 C2 l2 f2 => s_tnil) (fun s2 H2 C2 l2 f2 => (v_div (v_ixD (Cxg.blk (Cxg.blk cx)) hr (v_v 4 rfl rfl) (v_mul s_int (v_v 7 rfl rfl))) s_int))) (s_lc rfl nd (s_iseq rfl (v_v 6 rfl rfl)) (own := [("point", 7)]) (blkOk_by (by kernel_rfl)) g_nm (fun s2 H2 C2 l2 f2 => (w_gnm (by decide) (pg_name (i := 7) nd rfl (loc_by rfl)))) (fun s2 H2 C2 l2 f2 => s_tnil) (fun s2 H2 C2 l2 f2 => (v_div (v_ixD (Cxg.blk (Cxg.blk cx)) hr (v_v 4 rfl rfl) (v_add (Cxg.blk (Cxg.blk cx)) (v_mul s_int (v_v 7 rfl rfl)) s_int)) s_int)))) rfl) s_nil)))) s_nil)))
  (s_scons (s_sif (PW.pt (s_tor (v_tcmp (m_neL cx hr) (v_blt (f_reprD cx hr) rfl b.repr_ bo_repr (s_cons (v_v 1 rfl rfl) s_nil)) (v_blt (f_reprD cx hr) rfl b.repr_ bo_repr (s_cons (v_bty (f_tuple cx) rfl b.tuple_ bo_tuple (s_cons (v_v 2 rfl rfl) s_nil)) s_nil))) (s_tor1 (v_tcmp (m_neL cx hr) (v_blt (f_sortedA cx) rfl b.sorted_ bo_sorted (s_cons (s_lc rfl nd (s_iseq rfl (v_v 1 rfl rfl)) (own := [("ring", 6)]) (blkOk_by (by kernel_rfl)) g_nm (fun s1 H1 C1 l1 f1 => (w_gnm (by decide) (pg_name (i := 6) nd rfl (loc_by rfl)))) (fun s1 H1 C1 l1 f1 => s_tnil) (fun s1 H1 C1 l1 f1 => (v_blt (f_lenD (Cxg.blk cx)) rfl b.len_ bo_len (s_cons (v_v 6 rfl rfl) s_nil)))) s_nil)) (v_blt (f_sortedA cx) rfl b.sorted_ bo_sorted (s_cons (s_lc rfl nd (s_iseq rfl (v_v 5 rfl rfl)) (own := [("ring", 6)]) (blkOk_by (by kernel_rfl)) g_nm (fun s1 H1 C1 l1 f1 => (w_gnm (by decide) (pg_name (i := 6) nd rfl (loc_by rfl)))) (fun s1 H1 C1 l1 f1 => s_tnil) (fun s1 H1 C1 l1 f1 => (v_blt (f_lenD (Cxg.blk cx)) rfl b.len_ bo_len (s_cons (v_v 6 rfl rfl) s_nil)))) s_nil)))))) (s_scons (s_ret s_bool)
  s_snil) s_snil)
  (s_scons (s_sif (v_tcmp (m_neL cx hr) (s_lc rfl nd (s_ir1 rfl b.range_ (v_add cx (v_v 3 rfl rfl) s_int)) (own := [("point", 7)]) (blkOk_by (by kernel_rfl)) g_nm (fun s1 H1 C1 l1 f1 => (w_gnm (by decide) (pg_name (i := 7) nd rfl (loc_by rfl)))) (fun s1 H1 C1 l1 f1 => (s_tone (v_tcmp (m_niF (Cxg.blk cx) hr) (s_tup (s_cons (v_v 7 rfl rfl) s_nil)) (v_v 5 rfl rfl)))) (fun s1 H1 C1 l1 f1 => (v_v 7 rfl rfl))) (v_bty (f_list cx) rfl b.list_ bo_list (s_cons (v_kn cx hr k_breaks (by decide) rfl (s_cons (v_v 0 rfl rfl) s_nil)) s_nil))) (s_scons (s_ret s_bool)
  s_snil) s_snil)
  (s_scons (s_ret (s_and (v_cmp (m_eqL cx hr) (v_kn cx hr k_lengths (by decide) rfl (s_cons (v_kn cx hr k_back (by decide) rfl (s_cons (v_v 0 rfl rfl) s_nil)) s_nil)) (v_kn cx hr k_lengths (by decide) rfl (s_cons (v_v 0 rfl rfl) s_nil))) (s_one (v_cmp (m_eqL cx hr) (v_cmp (m_eqL cx hr) (v_blt (f_lenD cx) rfl b.len_ bo_len (s_cons (v_v 5 rfl rfl) s_nil)) (v_add cx (v_v 3 rfl rfl) s_int)) (v_cmp (m_eqL cx hr) (v_v 0 rfl rfl) (v_kn cx hr k__law_home (by decide) rfl (s_cons (v_v 3 rfl rfl) s_nil)))))))
  s_snil))))))))))
theorem sc__law_take : FnScope N__law_take ["pot", "upto"] (defScope (top 39)) := ⟨rfl, rfl, rfl, by decide +kernel, rfl, by decide +kernel, by decide +kernel⟩
theorem ok__law_take (F : FunD c.K "_law_take" "_law_take" (defArgs (top 39)) (defBody (top 39)) (defScope (top 39)) [] [] f fd) (b : Blt c) : FnG P w c base 1 f fd ["pot", "upto"] f__law_take := by
  refine fun_okG F sc__law_take fun cdv A outer s H E hr hgu => ?_
  have nd := sc__law_take.nd
  have cx := cxg_of (P := P) (w := w) (c := c) (base := base) (N := N__law_take) (qual := "_law_take") (scope := defScope (top 39)) (f := f) (cdv := cdv) (A := A) (outer := outer) (s := s) (H := H) (E := E) hgu
  exact (s_scons (s_sif (v_tcmp m_gt (v_ix cx (v_v 0 rfl rfl) s_int) s_int) (s_scons (s_set (i := 4) nd rfl (loc_by rfl) (v_mod (v_bty f_int rfl b.int_ bo_int (s_cons (v_ix cx (v_v 0 rfl rfl) s_int) s_nil)) (v_v 1 rfl rfl)))
  (s_scons (s_as (v_div (v_ix cx (v_v 0 rfl rfl) s_int) (v_v 1 rfl rfl)) (s_gsb (v_v 0 rfl rfl) s_int) g_sb)
  (s_scons (s_ret (v_v 4 rfl rfl))
  s_snil))) s_snil)
  (s_scons (s_as (v_add cx (v_ix cx (v_v 0 rfl rfl) s_int) s_int) (s_gsb (v_v 0 rfl rfl) s_int) g_sb)
  (s_scons (s_set (i := 2) nd rfl (loc_by rfl) (v_ix cx (s_lst (s_cons s_int (s_cons s_int (s_cons s_int (s_cons s_int (s_cons s_int s_nil)))))) (v_mod (v_bty f_int rfl b.int_ bo_int (s_cons (v_ix cx (v_v 0 rfl rfl) s_int) s_nil)) s_int)))
  (s_scons (s_set (i := 3) nd rfl (loc_by rfl) (v_mod (v_bty f_int rfl b.int_ bo_int (s_cons (v_pow (v_bty f_int rfl b.int_ bo_int (s_cons (v_add cx (v_add cx (v_ix cx (v_v 0 rfl rfl) s_int) (v_mul (v_mul s_int (v_ix cx (v_v 0 rfl rfl) s_int)) (v_ix cx (v_v 0 rfl rfl) s_int))) s_int) s_nil)) s_int) s_nil)) (v_v 2 rfl rfl)))
  (s_scons (s_set (i := 3) nd rfl (loc_by rfl) (v_mod (v_bty f_int rfl b.int_ bo_int (s_cons (v_mul (v_v 3 rfl rfl) (v_add cx (v_mod (v_bty f_int rfl b.int_ bo_int (s_cons (v_v 3 rfl rfl) s_nil)) s_int) (v_mul s_int (v_ix cx (v_v 0 rfl rfl) s_int)))) s_nil)) s_int))
  (s_scons (s_ret (v_mod (v_bty f_int rfl b.int_ bo_int (s_cons (v_div (v_v 3 rfl rfl) s_int) s_nil)) (v_v 1 rfl rfl)))
  s_snil))))))
theorem sc__law_of : FnScope N__law_of ["pot", "some"] (defScope (top 40)) := ⟨rfl, rfl, rfl, by decide +kernel, rfl, by decide +kernel, by decide +kernel⟩
theorem ok__law_of (F : FunD c.K "_law_of" "_law_of" (defArgs (top 40)) (defBody (top 40)) (defScope (top 40)) [] [] f fd) (b : Blt c) (k__law_take : Kn P w c base 1 "_law_take" 2 f__law_take) : FnG P w c base 2 f fd ["pot", "some"] f__law_of := by
  refine fun_okG F sc__law_of fun cdv A outer s H E hr hgu => ?_
  have nd := sc__law_of.nd
  have cx := cxg_of (P := P) (w := w) (c := c) (base := base) (N := N__law_of) (qual := "_law_of") (scope := defScope (top 40)) (f := f) (cdv := cdv) (A := A) (outer := outer) (s := s) (H := H) (E := E) hgu
  exact (s_scons (s_ret (v_ix cx (v_v 1 rfl rfl) (v_kn cx hr k__law_take (by decide) rfl (s_cons (v_v 0 rfl rfl) (s_cons (v_blt (f_len cx) rfl b.len_ bo_len (s_cons (v_v 1 rfl rfl) s_nil)) s_nil)))))
  s_snil)
theorem sc__law_some : FnScope N__law_some ["pot", "some", "many"] (defScope (top 41)) := ⟨rfl, rfl, rfl, by decide +kernel, rfl, by decide +kernel, by decide +kernel⟩
theorem ok__law_some (F : FunD c.K "_law_some" "_law_some" (defArgs (top 41)) (defBody (top 41)) (defScope (top 41)) [] [] f fd) (b : Blt c) (k__law_take : Kn P w c base 1 "_law_take" 2 f__law_take) : FnG P w c base 2 f fd ["pot", "some", "many"] f__law_some := by
  refine fun_okG F sc__law_some fun cdv A outer s H E hr hgu => ?_
  have nd := sc__law_some.nd
  have cx := cxg_of (P := P) (w := w) (c := c) (base := base) (N := N__law_some) (qual := "_law_some") (scope := defScope (top 41)) (f := f) (cdv := cdv) (A := A) (outer := outer) (s := s) (H := H) (E := E) hgu
  exact (s_scons (s_par (i := 4) (j := 5) rfl nd rfl rfl (by decide) rfl rfl (s_cons (v_bty (f_listM cx) rfl b.list_ bo_list (s_cons (v_v 1 rfl rfl) s_nil)) (s_cons (s_lstM s_nil) s_nil)) rfl)
  (s_scons (s_for (passes_of rfl) rfl (s_ir1 rfl b.range_ (v_v 2 rfl rfl)) (s_gnm (pg_name (i := 3) nd rfl (loc_by rfl))) g_nm (s_scons (s_ex (v_mt cx d_append (v_v 5 rfl rfl) (s_cons (v_mt cx d_popA (v_v 4 rfl rfl) (s_cons (v_kn cx hr k__law_take (by decide) rfl (s_cons (v_v 0 rfl rfl) (s_cons (v_blt (f_len cx) rfl b.len_ bo_len (s_cons (v_v 4 rfl rfl) s_nil)) s_nil))) s_nil)) s_nil)))
  s_snil))
  (s_scons (s_ret (v_v 5 rfl rfl))
  s_snil)))
theorem sc__law_row : FnScope N__law_row ["pot", "low", "high"] (defScope (top 43)) := ⟨rfl, rfl, rfl, by decide +kernel, rfl, by decide +kernel, by decide +kernel⟩
theorem ok__law_row (F : FunD c.K "_law_row" "_law_row" (defArgs (top 43)) (defBody (top 43)) (defScope (top 43)) [] [] f fd) (b : Blt c) (k__law_take : Kn P w c base 1 "_law_take" 2 f__law_take) (k__law_some : Kn P w c base 2 "_law_some" 3 f__law_some) (k__law_of : Kn P w c base 2 "_law_of" 2 f__law_of) : FnG P w c base 3 f fd ["pot", "low", "high"] f__law_row := by
  refine fun_okG F sc__law_row fun cdv A outer s H E hr hgu => ?_
  have nd := sc__law_row.nd
  have cx := cxg_of (P := P) (w := w) (c := c) (base := base) (N := N__law_row) (qual := "_law_row") (scope := defScope (top 43)) (f := f) (cdv := cdv) (A := A) (outer := outer) (s := s) (H := H) (E := E) hgu
  exact (s_scons (s_set (i := 3) nd rfl (loc_by rfl) (v_add cx (v_v 1 rfl rfl) (v_kn cx hr k__law_take (by decide) rfl (s_cons (v_v 0 rfl rfl) (s_cons (v_add cx (v_sub (v_v 2 rfl rfl) (v_v 1 rfl rfl)) s_int) s_nil)))))
  (s_scons (s_ret (v_bty (f_tuple cx) rfl b.tuple_ bo_tuple (s_cons (s_lc rfl nd (s_iseq rfl (v_kn cx hr k__law_some (by decide) rfl (s_cons (v_v 0 rfl rfl) (s_cons (s_rgL rfl rfl b.list_ (s_rg2 rfl b.range_ s_int (v_add cx (v_v 3 rfl rfl) s_int))) (s_cons (v_v 3 rfl rfl) s_nil))))) (own := [("wagon", 4)]) (blkOk_by (by kernel_rfl)) g_nm (fun s1 H1 C1 l1 f1 => (w_gnm (by decide) (pg_name (i := 4) nd rfl (loc_by rfl)))) (fun s1 H1 C1 l1 f1 => s_tnil) (fun s1 H1 C1 l1 f1 => (v_mulB (Cxg.blk cx) (v_v 4 rfl rfl) (v_kn (Cxg.blk cx) hr k__law_of (by decide) rfl (s_cons (v_v 0 rfl rfl) (s_cons (s_lst (s_cons s_int (s_cons (v_neg s_int) s_nil))) s_nil)))))) s_nil)))
  s_snil))
theorem sc_law : FnScope N_law ["script"] (defScope (top 48)) := ⟨rfl, rfl, rfl, by decide +kernel, rfl, by decide +kernel, by decide +kernel⟩
theorem ok_law (F : FunD c.K "law" "law" (defArgs (top 48)) (defBody (top 48)) (defScope (top 48)) [] [] f fd) (b : Blt c) (k__law_cells : Kn P w c base 1 "_law_cells" 2 f__law_cells) (k__law_pot : Kn P w c base 1 "_law_pot" 2 f__law_pot) (k__law_is_right : Kn P w c base 6 "_law_is_right" 1 f__law_is_right) (k__law_row : Kn P w c base 3 "_law_row" 3 f__law_row) (k__law_home : Kn P w c base 1 "_law_home" 1 f__law_home) (k__law_take : Kn P w c base 1 "_law_take" 2 f__law_take) : FnG P w c base 7 f fd ["script"] f_law := by
  refine fun_okG F sc_law fun cdv A outer s H E hr hgu => ?_
  have nd := sc_law.nd
  have cx := cxg_of (P := P) (w := w) (c := c) (base := base) (N := N_law) (qual := "law") (scope := defScope (top 48)) (f := f) (cdv := cdv) (A := A) (outer := outer) (s := s) (H := H) (E := E) hgu
  exact (s_scons (s_for (passes_of rfl) rfl (s_iseq rfl (v_kn cx hr k__law_cells (by decide) rfl (s_cons (v_v 0 rfl rfl) (s_cons s_int s_nil)))) (s_gnm (pg_name (i := 1) nd rfl (loc_by rfl))) g_nm (s_scons (s_set (i := 2) nd rfl (loc_by rfl) (v_knM cx hr k__law_pot (by decide) rfl (s_cons (v_v 0 rfl rfl) (s_cons (v_v 1 rfl rfl) s_nil))))
  (s_scons (s_sif (PW.pt (s_tor (s_tnot (s_tval (v_blt (f_all cx rfl) rfl b.all_ bo_all (s_cons (s_lc rfl nd (s_ir1 rfl b.range_ s_int) (own := [("lap", 3)]) (blkOk_by (by kernel_rfl)) g_nm (fun s1 H1 C1 l1 f1 => (w_gnm (by decide) (pg_name (i := 3) nd rfl (loc_by rfl)))) (fun s1 H1 C1 l1 f1 => s_tnil) (fun s1 H1 C1 l1 f1 => (v_kn (Cxg.blk cx) hr k__law_is_right (by decide) rfl (s_cons (v_kn (Cxg.blk cx) hr k__law_row (by decide) rfl (s_cons (v_v 2 rfl rfl) (s_cons s_int (s_cons s_int s_nil)))) s_nil)))) s_nil)))) (s_tor1 (s_tnot (s_tval (v_blt (f_all cx rfl) rfl b.all_ bo_all (s_cons (s_lc rfl nd (s_ir1 rfl b.range_ s_int) (own := [("lap", 3)]) (blkOk_by (by kernel_rfl)) g_nm (fun s1 H1 C1 l1 f1 => (w_gnm (by decide) (pg_name (i := 3) nd rfl (loc_by rfl)))) (fun s1 H1 C1 l1 f1 => s_tnil) (fun s1 H1 C1 l1 f1 => (v_kn (Cxg.blk cx) hr k__law_is_right (by decide) rfl (s_cons (v_kn (Cxg.blk cx) hr k__law_row (by decide) rfl (s_cons (v_v 2 rfl rfl) (s_cons s_int (s_cons s_int s_nil)))) s_nil)))) s_nil))))))) (s_scons (s_ret s_bool)
  s_snil) s_snil)
  (s_scons (s_sif (s_tnot (s_tval (v_kn cx hr k__law_is_right (by decide) rfl (s_cons (v_kn cx hr k__law_home (by decide) rfl (s_cons (v_add cx s_int (v_kn cx hr k__law_take (by decide) rfl (s_cons (v_v 2 rfl rfl) (s_cons s_int s_nil)))) s_nil)) s_nil)))) (s_scons (s_ret s_bool)
  s_snil) s_snil)
  s_snil))))
  (s_scons (s_ret s_bool)
  s_snil))
end
/-! ## the head -/
def d__law_cells : He.DefD := ⟨("_law_cells", none), "_law_cells", "_law_cells", defArgs (top 42), defBody (top 42), defScope (top 42), [], []⟩
def d__law_pot : He.DefD := ⟨("_law_pot", none), "_law_pot", "_law_pot", defArgs (top 38), defBody (top 38), defScope (top 38), [], []⟩
def d__law_ends : He.DefD := ⟨("_law_ends", none), "_law_ends", "_law_ends", defArgs (top 45), defBody (top 45), defScope (top 45), [], []⟩
def d__law_rings : He.DefD := ⟨("_law_rings", none), "_law_rings", "_law_rings", defArgs (top 46), defBody (top 46), defScope (top 46), [], []⟩
def d_is_integer : He.DefD := ⟨("is_integer", none), "is_integer", "is_integer", defArgs (top 6), defBody (top 6), defScope (top 6), [], []⟩
def d_is_row : He.DefD := ⟨("is_row", none), "is_row", "is_row", defArgs (top 11), defBody (top 11), defScope (top 11), [], []⟩
def d_check_row : He.DefD := ⟨("check_row", none), "check_row", "check_row", defArgs (top 12), defBody (top 12), defScope (top 12), [], []⟩
def d_ends_by : He.DefD := ⟨("ends_by", none), "ends_by", "ends_by", defArgs (top 22), defBody (top 22), defScope (top 22), [], []⟩
def d_ends_of : He.DefD := ⟨("ends_of", none), "ends_of", "ends_of", defArgs (top 23), defBody (top 23), defScope (top 23), [], []⟩
def d_is_between : He.DefD := ⟨("is_between", none), "is_between", "is_between", defArgs (top 7), defBody (top 7), defScope (top 7), [], []⟩
def d_check_many : He.DefD := ⟨("check_many", none), "check_many", "check_many", defArgs (top 10), defBody (top 10), defScope (top 10), [], []⟩
def d_home_ties : He.DefD := ⟨("home_ties", none), "home_ties", "home_ties", defArgs (top 25), defBody (top 25), defScope (top 25), [], []⟩
def d_row_ties : He.DefD := ⟨("row_ties", none), "row_ties", "row_ties", defArgs (top 24), defBody (top 24), defScope (top 24), [], []⟩
def d_places_of : He.DefD := ⟨("places_of", none), "places_of", "places_of", defArgs (top 28), defBody (top 28), defScope (top 28), [], []⟩
def d_mate_of : He.DefD := ⟨("mate_of", none), "mate_of", "mate_of", defArgs (top 27), defBody (top 27), defScope (top 27), [], []⟩
def d_rings_of : He.DefD := ⟨("rings_of", none), "rings_of", "rings_of", defArgs (top 29), defBody (top 29), defScope (top 29), [], []⟩
def d_rings : He.DefD := ⟨("rings", none), "rings", "rings", defArgs (top 30), defBody (top 30), defScope (top 30), [], []⟩
def d_count_of : He.DefD := ⟨("count_of", none), "count_of", "count_of", defArgs (top 34), defBody (top 34), defScope (top 34), [], []⟩
def d_ring_count : He.DefD := ⟨("ring_count", none), "ring_count", "ring_count", defArgs (top 35), defBody (top 35), defScope (top 35), [], []⟩
def d_lengths : He.DefD := ⟨("lengths", none), "lengths", "lengths", defArgs (top 36), defBody (top 36), defScope (top 36), [], []⟩
def d_check_point : He.DefD := ⟨("check_point", none), "check_point", "check_point", defArgs (top 19), defBody (top 19), defScope (top 19), [], []⟩
def d_ring_of : He.DefD := ⟨("ring_of", none), "ring_of", "ring_of", defArgs (top 31), defBody (top 31), defScope (top 31), [], []⟩
def d_ties_of : He.DefD := ⟨("ties_of", none), "ties_of", "ties_of", defArgs (top 32), defBody (top 32), defScope (top 32), [], []⟩
def d_tie_rings : He.DefD := ⟨("tie_rings", none), "tie_rings", "tie_rings", defArgs (top 33), defBody (top 33), defScope (top 33), [], []⟩
def d_outer : He.DefD := ⟨("outer", none), "outer", "outer", defArgs (top 16), defBody (top 16), defScope (top 16), [], []⟩
def d_broken_at : He.DefD := ⟨("broken_at", none), "broken_at", "broken_at", defArgs (top 17), defBody (top 17), defScope (top 17), [], []⟩
def d_broken_points : He.DefD := ⟨("broken_points", none), "broken_points", "broken_points", defArgs (top 18), defBody (top 18), defScope (top 18), [], []⟩
def d_breaks : He.DefD := ⟨("breaks", none), "breaks", "breaks", defArgs (top 20), defBody (top 20), defScope (top 20), [], []⟩
def d_back_of : He.DefD := ⟨("back_of", none), "back_of", "back_of", defArgs (top 13), defBody (top 13), defScope (top 13), [], []⟩
def d_back : He.DefD := ⟨("back", none), "back", "back", defArgs (top 14), defBody (top 14), defScope (top 14), [], []⟩
def d__law_home : He.DefD := ⟨("_law_home", none), "_law_home", "_law_home", defArgs (top 44), defBody (top 44), defScope (top 44), [], []⟩
def d__law_is_right : He.DefD := ⟨("_law_is_right", none), "_law_is_right", "_law_is_right", defArgs (top 47), defBody (top 47), defScope (top 47), [], []⟩
def d__law_take : He.DefD := ⟨("_law_take", none), "_law_take", "_law_take", defArgs (top 39), defBody (top 39), defScope (top 39), [], []⟩
def d__law_of : He.DefD := ⟨("_law_of", none), "_law_of", "_law_of", defArgs (top 40), defBody (top 40), defScope (top 40), [], []⟩
def d__law_some : He.DefD := ⟨("_law_some", none), "_law_some", "_law_some", defArgs (top 41), defBody (top 41), defScope (top 41), [], []⟩
def d__law_row : He.DefD := ⟨("_law_row", none), "_law_row", "_law_row", defArgs (top 43), defBody (top 43), defScope (top 43), [], []⟩
def d_law : He.DefD := ⟨("law", none), "law", "law", defArgs (top 48), defBody (top 48), defScope (top 48), [], []⟩
def fns : List He.DefD := [d__law_cells, d__law_pot, d__law_ends, d__law_rings, d_is_integer, d_is_row, d_check_row, d_ends_by, d_ends_of, d_is_between, d_check_many, d_home_ties, d_row_ties, d_places_of, d_mate_of, d_rings_of, d_rings, d_count_of, d_ring_count, d_lengths, d_check_point, d_ring_of, d_ties_of, d_tie_rings, d_outer, d_broken_at, d_broken_points, d_breaks, d_back_of, d_back, d__law_home, d__law_is_right, d__law_take, d__law_of, d__law_some, d__law_row, d_law]
def fas : List He.Fa := [.glo "_law_cells", .glo "_law_pot", .glo "_law_ends", .glo "_law_rings", .glo "is_integer", .glo "is_row", .glo "check_row", .glo "ends_by", .glo "ends_of", .glo "is_between", .glo "check_many", .glo "home_ties", .glo "row_ties", .glo "places_of", .glo "mate_of", .glo "rings_of", .glo "rings", .glo "count_of", .glo "ring_count", .glo "lengths", .glo "check_point", .glo "ring_of", .glo "ties_of", .glo "tie_rings", .glo "outer", .glo "broken_at", .glo "broken_points", .glo "breaks", .glo "back_of", .glo "back", .glo "_law_home", .glo "_law_is_right", .glo "_law_take", .glo "_law_of", .glo "_law_some", .glo "_law_row", .glo "law", .free "abs", .free "all", .free "bool", .free "dict", .free "enumerate", .free "int", .free "isinstance", .free "len", .free "list", .free "max", .free "min", .free "range", .free "repr", .free "set", .free "sorted", .free "sum", .free "tuple", .int "MOST_WAGONS" 20, .glo "TurnError", .glo "BadMany", .glo "BadPoint", .glo "BadRow", .free "super"]
def lamI : Nat → Option LI := fun _ => none
def im : Stmt := (C8.clsBody (top 1)).getD 0 (.Pass ⟨0, 0, 0, 0⟩)
abbrev aD (K : PySem.W.Frag) : Addr := He.ga K "TurnError"
abbrev aI (K : PySem.W.Frag) : Addr := He.fAd K ("TurnError", some "__init__")
def prog : Program := PySem.Challenge.pw_endforend_k44_whole_ends_ties_and_rings
/-- all that is asked of the written part by one Bool -/
def exK (K : PySem.W.Frag) : Bool := iniB prog.main.file K (aD K) (aI K) && ((excs.all fun n => exB K (aD K) (aI K) (He.ga K n)) && ((excs.all fun n => excs.all fun y => decide (PySem.W.kitOne K (.ref (He.ga K n)) (.ref (He.ga K y)) = some (decide (n = y)))) && (true)))
def zI : FnZ := some ("__init__", "TurnError.__init__", defArgs im, .stmts (defBody im), defScope im, mainGlobals, ["__class__"], builtinsNs)
abbrev tfs : List He.Defn := []
end K44
set_option maxRecDepth 100000
set_option maxHeartbeats 0
namespace K44
open GA
open PySem PySem.Spec PyProof.Rows L2 MI LamX
abbrev R : PySem.W.OpenRow := PySem.W.OpenLaw.row PySem.Challenge.rw_endforend_k44_whole_ends_ties_and_rings
abbrev loose : List PySem.Str := ("TurnError" : PySem.Str) :: ("BadMany" : PySem.Str) :: ("BadPoint" : PySem.Str) :: ("BadRow" : PySem.Str) :: ("is_integer" : PySem.Str) :: ("is_between" : PySem.Str) :: ("MOST_WAGONS" : PySem.Str) :: ("check_many" : PySem.Str) :: ("is_row" : PySem.Str) :: ("check_row" : PySem.Str) :: ("back_of" : PySem.Str) :: ("back" : PySem.Str) :: ("outer" : PySem.Str) :: ("broken_at" : PySem.Str) :: ("broken_points" : PySem.Str) :: ("check_point" : PySem.Str) :: ("breaks" : PySem.Str) :: ("ends_by" : PySem.Str) :: ("ends_of" : PySem.Str) :: ("row_ties" : PySem.Str) :: ("home_ties" : PySem.Str) :: ("mate_of" : PySem.Str) :: ("places_of" : PySem.Str) :: ("rings_of" : PySem.Str) :: ("rings" : PySem.Str) :: ("ring_of" : PySem.Str) :: ("ties_of" : PySem.Str) :: ("tie_rings" : PySem.Str) :: ("count_of" : PySem.Str) :: ("ring_count" : PySem.Str) :: ("lengths" : PySem.Str) :: ("_law_pot" : PySem.Str) :: ("_law_take" : PySem.Str) :: ("_law_of" : PySem.Str) :: ("_law_some" : PySem.Str) :: ("_law_cells" : PySem.Str) :: ("_law_row" : PySem.Str) :: ("_law_home" : PySem.Str) :: ("_law_ends" : PySem.Str) :: ("_law_rings" : PySem.Str) :: ("_law_is_right" : PySem.Str) :: []
abbrev hk : PySem.W.Hook := He.hookI 8 fas fns tfs exK aI zI
def ob (s : PySem.W.SharedT) : He.AlX × FnZ := He.obsI 8 fas fns tfs exK aI (HandSHeadRun.getT s)
theorem ob_eq (s : PySem.W.SharedT) : ob s = hk.obs s.abs := He.obsI_eq (z := zI) (HandSHeadRun.getT_eq s)
theorem map3 {α β γ δ : Type} {o : Option α} {f : α → β} {g : α → γ} {h : α → δ} {a : β} {b : γ} {c : δ} (h1 : o.map f = some a) (h2 : o.map g = some b) (h3 : o.map h = some c) : o.map (fun s => (f s, g s, h s)) = some (a, b, c) := by
  cases o with
  | none => cases h1
  | some s => cases h1; cases h2; cases h3; rfl
section
open HandSHeadRun PySem.W PySem.Calls
theorem r1 (w : World) (os : OsState) : (endF (stepQ (denQ tabQ) R.prog w) 4000 R.prog w os).map (fun s => looksF R.prog (boot_heap w.params) s.abs) = some true := by kernel_rfl
theorem r2 (w : World) (os : OsState) : (endF (stepQ (denQ tabQ) R.prog w) 4000 R.prog w os).map (fun s => seenQ (PySem.W.view R.prog [48]) loose (importedModules R.prog.main.body) (fun s => xlAt (PySem.W.view R.prog [48]) [] s && recOk R.toRowW.records s) s.abs) = some (openGood (PySem.W.view R.prog [48]) loose) := by kernel_rfl
theorem r3 (w : World) (os : OsState) : (endF (stepQ (denQ tabQ) R.prog w) 4000 R.prog w os).map ob = some (hk.val w) := by kernel_rfl
end
theorem run (w : World) : HandSHeadRun.RunEq R (PySem.W.view R.prog [48]) hk ob 4000 loose w := fun os => map3 (r1 w os) (r2 w os) (r3 w os)
end K44
set_option maxRecDepth 100000
set_option maxHeartbeats 0
namespace K44
open GA
open PySem PySem.Spec PyProof.Rows L2 MI LamX
/-- what the head tells -/
theorem facts (w : World) (mg : Str → Option Value) (fa : Addr) (h : Heap) (Y : hk.says w h) (G : h.Ns mainGlobals mg) (hfa : mg ("law" : Str) = some (.ref fa)) : LawT PySem.Challenge.rw_endforend_k44_whole_ends_ties_and_rings w 7 "script" f_law mg fa h := by
  obtain ⟨K, X, sx, hz⟩ := Y
  have c : He.SaysD fas fns K := sx.t.d
  have hex : exK K = true := sx.more
  unfold exK at hex
  simp only [Bool.and_eq_true, List.all_eq_true, decide_eq_true_eq] at hex
  obtain ⟨x1, x2, x3, x4⟩ := hex
  obtain ⟨fdI, hI⟩ := ini_ok (P := prog) hz x1
  refine ⟨K, ?_⟩
  obtain ⟨fd, F⟩ := c.def_ 36 (d := d_law) rfl
  have e := hfa.symm.trans (He.glo_ok X G (c.fact 36 (f := .glo "law") rfl))
  cases e
  have bs := FunD.bindsA (ps := ["script"]) F fun _ _ _ _ _ _ us hl => match us, hl with | [_], _ => rfl
  refine ⟨fd, tfs.map (He.cT K), (fun a => ("" : Str)), lamI, X, ?_, ?_, ?_, fun s v => bs s [v] rfl, fun base XB GB TB => ?_⟩
  · intro p hp
    obtain ⟨q, hq, rfl⟩ := List.mem_map.mp hp
    exact sx.empty q hq
  · intro p hp
    obtain ⟨q, hq, rfl⟩ := List.mem_map.mp hp
    exact sx.out q hq
  · intro p hp
    obtain ⟨q, hq, rfl⟩ := List.mem_map.mp hp
    exact PySem.W.codeHd_of_K X (sx.hd q hq)
  generalize hT : ((tfs.map (He.cT K)).map fun p => (p.2, (fun a => ("" : Str)) p.2)) = T
  have inT : ∀ q ∈ tfs, ((He.cT K q).2, (fun a => ("" : Str)) (He.cT K q).2) ∈ T := fun q hq => by rw [← hT]; exact List.mem_map.mpr ⟨_, List.mem_map.mpr ⟨q, hq, rfl⟩, rfl⟩
  have unT : ∀ p ∈ T, p.2 = (fun a => ("" : Str)) p.1 := fun p hp => by rw [← hT] at hp; obtain ⟨x, _, rfl⟩ := List.mem_map.mp hp; rfl
  have b : ∀ own, Blt ⟨K, mg, T, lamI, own⟩ := fun own => ⟨He.free_ok X G (c.fact 37 (f := .free "abs") rfl), He.free_ok X G (c.fact 38 (f := .free "all") rfl), He.free_ok X G (c.fact 39 (f := .free "bool") rfl), He.free_ok X G (c.fact 40 (f := .free "dict") rfl), He.free_ok X G (c.fact 41 (f := .free "enumerate") rfl), He.free_ok X G (c.fact 42 (f := .free "int") rfl), He.free_ok X G (c.fact 43 (f := .free "isinstance") rfl), He.free_ok X G (c.fact 44 (f := .free "len") rfl), He.free_ok X G (c.fact 45 (f := .free "list") rfl), He.free_ok X G (c.fact 46 (f := .free "max") rfl), He.free_ok X G (c.fact 47 (f := .free "min") rfl), He.free_ok X G (c.fact 48 (f := .free "range") rfl), He.free_ok X G (c.fact 49 (f := .free "repr") rfl), He.free_ok X G (c.fact 50 (f := .free "set") rfl), He.free_ok X G (c.fact 51 (f := .free "sorted") rfl), He.free_ok X G (c.fact 52 (f := .free "sum") rfl), He.free_ok X G (c.fact 53 (f := .free "tuple") rfl), He.int_ok X G (c.fact 54 (f := .int "MOST_WAGONS" 20) rfl)⟩
  have gD := He.glo_ok X G (c.fact 55 (f := .glo "TurnError") rfl)
  have gE : ∀ n, n ∈ excs → mg n = some (.ref (He.ga K n)) := fun n hn => He.glo_ok X G (c.facts (f := .glo n) (by
    simp only [excs, List.mem_cons, List.not_mem_nil, or_false] at hn
    rcases hn with rfl | rfl | rfl <;> simp [fas]))
  have exf : ∀ n, n ∈ excs → ExF K (aD K) (aI K) (He.ga K n) := fun n hn => exB_ok (x2 n hn)
  have kx : ∀ own, KxF ⟨K, mg, T, lamI, own⟩ excs := fun own => ⟨⟨aD K, aI K, fun n hn => ⟨_, gE n hn, exf n hn⟩⟩, fun n y C E hn hy hC hE => by
    have e1 := (gE n hn).symm.trans hC
    have e2 := (gE y hy).symm.trans hE
    cases e1
    cases e2
    exact x3 n hn y hy⟩
  have rt : ∀ own, RtF ⟨K, mg, T, lamI, own⟩ excs "TurnError" := fun own => ⟨⟨aD K, aI K, gD, fun n hn => ⟨_, gE n hn, exf n hn⟩⟩⟩
  have tyI := ini_ty x1
  have bI : Binds K fdI ["self", "value"] [] := ini_binds hI fun _ _ _ _ _ us hl => match us, hl with | [_, _], _ => rfl
  have fI : FnOk prog w K mg base (L2.CX prog w) 1 (aI K) fdI ["self", "value"] (spI K (aD K)) := init_fn hI rfl (NdefX.nscope_by (by kernel_rfl)) rfl (He.free_ok X G (c.fact 59 (f := .free "super") rfl)) rfl (by decide +kernel) (fun env => ⟨_, rfl⟩)
  have ke : ∀ n, n ∈ excs → ∀ own, KnE prog w ⟨K, mg, T, lamI, own⟩ base 1 n := fun n hn own => kne_of (D := aD K) (fI := aI K) ⟨_, gE n hn, exf n hn⟩ tyI fI bI
  have ke_BadMany := ke "BadMany" (by decide)
  have ke_BadPoint := ke "BadPoint" (by decide)
  have ke_BadRow := ke "BadRow" (by decide)
  obtain ⟨fd__law_cells, F__law_cells⟩ := c.def_ 0 (d := d__law_cells) rfl
  have k__law_cells : ∀ own, Kn prog w ⟨K, mg, T, lamI, own⟩ base 1 "_law_cells" 2 f__law_cells := fun own => ⟨_, fd__law_cells, ["script", "most"], ok__law_cells F__law_cells (b own), (He.glo_ok X G (c.fact 0 (f := .glo "_law_cells") rfl)), F__law_cells.kp, (FunD.bindsN (ps := ["script", "most"]) F__law_cells fun _ _ _ _ _ _ us hl => match us, hl with | [_, _], _ => rfl), rfl⟩
  obtain ⟨fd__law_pot, F__law_pot⟩ := c.def_ 1 (d := d__law_pot) rfl
  have k__law_pot : ∀ own, Kn prog w ⟨K, mg, T, lamI, own⟩ base 1 "_law_pot" 2 f__law_pot := fun own => ⟨_, fd__law_pot, ["script", "place"], ok__law_pot F__law_pot (b own), (He.glo_ok X G (c.fact 1 (f := .glo "_law_pot") rfl)), F__law_pot.kp, (FunD.bindsN (ps := ["script", "place"]) F__law_pot fun _ _ _ _ _ _ us hl => match us, hl with | [_, _], _ => rfl), rfl⟩
  obtain ⟨fd__law_ends, F__law_ends⟩ := c.def_ 2 (d := d__law_ends) rfl
  have k__law_ends : ∀ own, Kn prog w ⟨K, mg, T, lamI, own⟩ base 1 "_law_ends" 1 f__law_ends := fun own => ⟨_, fd__law_ends, ["row"], ok__law_ends F__law_ends (b own), (He.glo_ok X G (c.fact 2 (f := .glo "_law_ends") rfl)), F__law_ends.kp, (FunD.bindsN (ps := ["row"]) F__law_ends fun _ _ _ _ _ _ us hl => match us, hl with | [_], _ => rfl), rfl⟩
  obtain ⟨fd__law_rings, F__law_rings⟩ := c.def_ 3 (d := d__law_rings) rfl
  have k__law_rings : ∀ own, Kn prog w ⟨K, mg, T, lamI, own⟩ base 2 "_law_rings" 1 f__law_rings := fun own => ⟨_, fd__law_rings, ["row"], ok__law_rings F__law_rings (b own) (k__law_ends own), (He.glo_ok X G (c.fact 3 (f := .glo "_law_rings") rfl)), F__law_rings.kp, (FunD.bindsN (ps := ["row"]) F__law_rings fun _ _ _ _ _ _ us hl => match us, hl with | [_], _ => rfl), rfl⟩
  obtain ⟨fd_is_integer, F_is_integer⟩ := c.def_ 4 (d := d_is_integer) rfl
  have k_is_integer : ∀ own, Kn prog w ⟨K, mg, T, lamI, own⟩ base 1 "is_integer" 1 f_is_integer := fun own => ⟨_, fd_is_integer, ["value"], ok_is_integer F_is_integer (b own), (He.glo_ok X G (c.fact 4 (f := .glo "is_integer") rfl)), F_is_integer.kp, (FunD.bindsN (ps := ["value"]) F_is_integer fun _ _ _ _ _ _ us hl => match us, hl with | [_], _ => rfl), rfl⟩
  obtain ⟨fd_is_row, F_is_row⟩ := c.def_ 5 (d := d_is_row) rfl
  have k_is_row : ∀ own, Kn prog w ⟨K, mg, T, lamI, own⟩ base 2 "is_row" 1 f_is_row := fun own => ⟨_, fd_is_row, ["value"], ok_is_row F_is_row (b own) (k_is_integer own), (He.glo_ok X G (c.fact 5 (f := .glo "is_row") rfl)), F_is_row.kp, (FunD.bindsN (ps := ["value"]) F_is_row fun _ _ _ _ _ _ us hl => match us, hl with | [_], _ => rfl), rfl⟩
  obtain ⟨fd_check_row, F_check_row⟩ := c.def_ 6 (d := d_check_row) rfl
  have k_check_row : ∀ own, Kn prog w ⟨K, mg, T, lamI, own⟩ base 3 "check_row" 1 f_check_row := fun own => ⟨_, fd_check_row, ["value"], ok_check_row F_check_row (b own) (k_is_row own) (ke_BadRow own), (He.glo_ok X G (c.fact 6 (f := .glo "check_row") rfl)), F_check_row.kp, (FunD.bindsN (ps := ["value"]) F_check_row fun _ _ _ _ _ _ us hl => match us, hl with | [_], _ => rfl), rfl⟩
  obtain ⟨fd_ends_by, F_ends_by⟩ := c.def_ 7 (d := d_ends_by) rfl
  have k_ends_by : ∀ own, Kn prog w ⟨K, mg, T, lamI, own⟩ base 1 "ends_by" 1 f_ends_by := fun own => ⟨_, fd_ends_by, ["row"], ok_ends_by F_ends_by (b own), (He.glo_ok X G (c.fact 7 (f := .glo "ends_by") rfl)), F_ends_by.kp, (FunD.bindsN (ps := ["row"]) F_ends_by fun _ _ _ _ _ _ us hl => match us, hl with | [_], _ => rfl), rfl⟩
  obtain ⟨fd_ends_of, F_ends_of⟩ := c.def_ 8 (d := d_ends_of) rfl
  have k_ends_of : ∀ own, Kn prog w ⟨K, mg, T, lamI, own⟩ base 4 "ends_of" 1 f_ends_of := fun own => ⟨_, fd_ends_of, ["row"], ok_ends_of F_ends_of (b own) (k_check_row own) (k_ends_by own), (He.glo_ok X G (c.fact 8 (f := .glo "ends_of") rfl)), F_ends_of.kp, (FunD.bindsN (ps := ["row"]) F_ends_of fun _ _ _ _ _ _ us hl => match us, hl with | [_], _ => rfl), rfl⟩
  obtain ⟨fd_is_between, F_is_between⟩ := c.def_ 9 (d := d_is_between) rfl
  have k_is_between : ∀ own, Kn prog w ⟨K, mg, T, lamI, own⟩ base 2 "is_between" 3 f_is_between := fun own => ⟨_, fd_is_between, ["value", "low", "high"], ok_is_between F_is_between (b own) (k_is_integer own), (He.glo_ok X G (c.fact 9 (f := .glo "is_between") rfl)), F_is_between.kp, (FunD.bindsN (ps := ["value", "low", "high"]) F_is_between fun _ _ _ _ _ _ us hl => match us, hl with | [_, _, _], _ => rfl), rfl⟩
  obtain ⟨fd_check_many, F_check_many⟩ := c.def_ 10 (d := d_check_many) rfl
  have k_check_many : ∀ own, Kn prog w ⟨K, mg, T, lamI, own⟩ base 3 "check_many" 1 f_check_many := fun own => ⟨_, fd_check_many, ["value"], ok_check_many F_check_many (b own) (k_is_between own) (ke_BadMany own), (He.glo_ok X G (c.fact 10 (f := .glo "check_many") rfl)), F_check_many.kp, (FunD.bindsN (ps := ["value"]) F_check_many fun _ _ _ _ _ _ us hl => match us, hl with | [_], _ => rfl), rfl⟩
  obtain ⟨fd_home_ties, F_home_ties⟩ := c.def_ 11 (d := d_home_ties) rfl
  have k_home_ties : ∀ own, Kn prog w ⟨K, mg, T, lamI, own⟩ base 4 "home_ties" 1 f_home_ties := fun own => ⟨_, fd_home_ties, ["many"], ok_home_ties F_home_ties (b own) (k_check_many own), (He.glo_ok X G (c.fact 11 (f := .glo "home_ties") rfl)), F_home_ties.kp, (FunD.bindsN (ps := ["many"]) F_home_ties fun _ _ _ _ _ _ us hl => match us, hl with | [_], _ => rfl), rfl⟩
  obtain ⟨fd_row_ties, F_row_ties⟩ := c.def_ 12 (d := d_row_ties) rfl
  have k_row_ties : ∀ own, Kn prog w ⟨K, mg, T, lamI, own⟩ base 4 "row_ties" 1 f_row_ties := fun own => ⟨_, fd_row_ties, ["row"], ok_row_ties F_row_ties (b own) (k_check_row own) (k_ends_by own), (He.glo_ok X G (c.fact 12 (f := .glo "row_ties") rfl)), F_row_ties.kp, (FunD.bindsN (ps := ["row"]) F_row_ties fun _ _ _ _ _ _ us hl => match us, hl with | [_], _ => rfl), rfl⟩
  obtain ⟨fd_places_of, F_places_of⟩ := c.def_ 13 (d := d_places_of) rfl
  have k_places_of : ∀ own, Kn prog w ⟨K, mg, T, lamI, own⟩ base 1 "places_of" 1 f_places_of := fun own => ⟨_, fd_places_of, ["ends"], ok_places_of F_places_of (b own), (He.glo_ok X G (c.fact 13 (f := .glo "places_of") rfl)), F_places_of.kp, (FunD.bindsN (ps := ["ends"]) F_places_of fun _ _ _ _ _ _ us hl => match us, hl with | [_], _ => rfl), rfl⟩
  obtain ⟨fd_mate_of, F_mate_of⟩ := c.def_ 14 (d := d_mate_of) rfl
  have k_mate_of : ∀ own, Kn prog w ⟨K, mg, T, lamI, own⟩ base 1 "mate_of" 1 f_mate_of := fun own => ⟨_, fd_mate_of, ["end"], ok_mate_of F_mate_of (b own), (He.glo_ok X G (c.fact 14 (f := .glo "mate_of") rfl)), F_mate_of.kp, (FunD.bindsN (ps := ["end"]) F_mate_of fun _ _ _ _ _ _ us hl => match us, hl with | [_], _ => rfl), rfl⟩
  obtain ⟨fd_rings_of, F_rings_of⟩ := c.def_ 15 (d := d_rings_of) rfl
  have k_rings_of : ∀ own, Kn prog w ⟨K, mg, T, lamI, own⟩ base 2 "rings_of" 1 f_rings_of := fun own => ⟨_, fd_rings_of, ["row"], ok_rings_of F_rings_of (b own) (k_ends_by own) (k_places_of own) (k_mate_of own), (He.glo_ok X G (c.fact 15 (f := .glo "rings_of") rfl)), F_rings_of.kp, (FunD.bindsN (ps := ["row"]) F_rings_of fun _ _ _ _ _ _ us hl => match us, hl with | [_], _ => rfl), rfl⟩
  obtain ⟨fd_rings, F_rings⟩ := c.def_ 16 (d := d_rings) rfl
  have k_rings : ∀ own, Kn prog w ⟨K, mg, T, lamI, own⟩ base 4 "rings" 1 f_rings := fun own => ⟨_, fd_rings, ["row"], ok_rings F_rings (b own) (k_check_row own) (k_rings_of own), (He.glo_ok X G (c.fact 16 (f := .glo "rings") rfl)), F_rings.kp, (FunD.bindsN (ps := ["row"]) F_rings fun _ _ _ _ _ _ us hl => match us, hl with | [_], _ => rfl), rfl⟩
  obtain ⟨fd_count_of, F_count_of⟩ := c.def_ 17 (d := d_count_of) rfl
  have k_count_of : ∀ own, Kn prog w ⟨K, mg, T, lamI, own⟩ base 3 "count_of" 1 f_count_of := fun own => ⟨_, fd_count_of, ["row"], ok_count_of F_count_of (b own) (k_rings_of own), (He.glo_ok X G (c.fact 17 (f := .glo "count_of") rfl)), F_count_of.kp, (FunD.bindsN (ps := ["row"]) F_count_of fun _ _ _ _ _ _ us hl => match us, hl with | [_], _ => rfl), rfl⟩
  obtain ⟨fd_ring_count, F_ring_count⟩ := c.def_ 18 (d := d_ring_count) rfl
  have k_ring_count : ∀ own, Kn prog w ⟨K, mg, T, lamI, own⟩ base 4 "ring_count" 1 f_ring_count := fun own => ⟨_, fd_ring_count, ["row"], ok_ring_count F_ring_count (b own) (k_check_row own) (k_count_of own), (He.glo_ok X G (c.fact 18 (f := .glo "ring_count") rfl)), F_ring_count.kp, (FunD.bindsN (ps := ["row"]) F_ring_count fun _ _ _ _ _ _ us hl => match us, hl with | [_], _ => rfl), rfl⟩
  obtain ⟨fd_lengths, F_lengths⟩ := c.def_ 19 (d := d_lengths) rfl
  have k_lengths : ∀ own, Kn prog w ⟨K, mg, T, lamI, own⟩ base 4 "lengths" 1 f_lengths := fun own => ⟨_, fd_lengths, ["row"], ok_lengths F_lengths (b own) (k_check_row own) (k_rings_of own), (He.glo_ok X G (c.fact 19 (f := .glo "lengths") rfl)), F_lengths.kp, (FunD.bindsN (ps := ["row"]) F_lengths fun _ _ _ _ _ _ us hl => match us, hl with | [_], _ => rfl), rfl⟩
  obtain ⟨fd_check_point, F_check_point⟩ := c.def_ 20 (d := d_check_point) rfl
  have k_check_point : ∀ own, Kn prog w ⟨K, mg, T, lamI, own⟩ base 4 "check_point" 2 f_check_point := fun own => ⟨_, fd_check_point, ["row", "point"], ok_check_point F_check_point (b own) (k_check_row own) (k_is_between own) (ke_BadPoint own), (He.glo_ok X G (c.fact 20 (f := .glo "check_point") rfl)), F_check_point.kp, (FunD.bindsN (ps := ["row", "point"]) F_check_point fun _ _ _ _ _ _ us hl => match us, hl with | [_, _], _ => rfl), rfl⟩
  obtain ⟨fd_ring_of, F_ring_of⟩ := c.def_ 21 (d := d_ring_of) rfl
  have k_ring_of : ∀ own, Kn prog w ⟨K, mg, T, lamI, own⟩ base 5 "ring_of" 2 f_ring_of := fun own => ⟨_, fd_ring_of, ["row", "point"], ok_ring_of F_ring_of (b own) (k_check_point own) (k_rings_of own), (He.glo_ok X G (c.fact 21 (f := .glo "ring_of") rfl)), F_ring_of.kp, (FunD.bindsN (ps := ["row", "point"]) F_ring_of fun _ _ _ _ _ _ us hl => match us, hl with | [_, _], _ => rfl), rfl⟩
  obtain ⟨fd_ties_of, F_ties_of⟩ := c.def_ 22 (d := d_ties_of) rfl
  have k_ties_of : ∀ own, Kn prog w ⟨K, mg, T, lamI, own⟩ base 2 "ties_of" 2 f_ties_of := fun own => ⟨_, fd_ties_of, ["row", "ring"], ok_ties_of F_ties_of (b own) (k_ends_by own), (He.glo_ok X G (c.fact 22 (f := .glo "ties_of") rfl)), F_ties_of.kp, (FunD.bindsN (ps := ["row", "ring"]) F_ties_of fun _ _ _ _ _ _ us hl => match us, hl with | [_, _], _ => rfl), rfl⟩
  obtain ⟨fd_tie_rings, F_tie_rings⟩ := c.def_ 23 (d := d_tie_rings) rfl
  have k_tie_rings : ∀ own, Kn prog w ⟨K, mg, T, lamI, own⟩ base 4 "tie_rings" 1 f_tie_rings := fun own => ⟨_, fd_tie_rings, ["row"], ok_tie_rings F_tie_rings (b own) (k_check_row own) (k_rings_of own) (k_ties_of own), (He.glo_ok X G (c.fact 23 (f := .glo "tie_rings") rfl)), F_tie_rings.kp, (FunD.bindsN (ps := ["row"]) F_tie_rings fun _ _ _ _ _ _ us hl => match us, hl with | [_], _ => rfl), rfl⟩
  obtain ⟨fd_outer, F_outer⟩ := c.def_ 24 (d := d_outer) rfl
  have k_outer : ∀ own, Kn prog w ⟨K, mg, T, lamI, own⟩ base 1 "outer" 1 f_outer := fun own => ⟨_, fd_outer, ["row"], ok_outer F_outer (b own), (He.glo_ok X G (c.fact 24 (f := .glo "outer") rfl)), F_outer.kp, (FunD.bindsN (ps := ["row"]) F_outer fun _ _ _ _ _ _ us hl => match us, hl with | [_], _ => rfl), rfl⟩
  obtain ⟨fd_broken_at, F_broken_at⟩ := c.def_ 25 (d := d_broken_at) rfl
  have k_broken_at : ∀ own, Kn prog w ⟨K, mg, T, lamI, own⟩ base 2 "broken_at" 2 f_broken_at := fun own => ⟨_, fd_broken_at, ["row", "point"], ok_broken_at F_broken_at (b own) (k_outer own), (He.glo_ok X G (c.fact 25 (f := .glo "broken_at") rfl)), F_broken_at.kp, (FunD.bindsN (ps := ["row", "point"]) F_broken_at fun _ _ _ _ _ _ us hl => match us, hl with | [_, _], _ => rfl), rfl⟩
  obtain ⟨fd_broken_points, F_broken_points⟩ := c.def_ 26 (d := d_broken_points) rfl
  have k_broken_points : ∀ own, Kn prog w ⟨K, mg, T, lamI, own⟩ base 3 "broken_points" 1 f_broken_points := fun own => ⟨_, fd_broken_points, ["row"], ok_broken_points F_broken_points (b own) (k_broken_at own), (He.glo_ok X G (c.fact 26 (f := .glo "broken_points") rfl)), F_broken_points.kp, (FunD.bindsN (ps := ["row"]) F_broken_points fun _ _ _ _ _ _ us hl => match us, hl with | [_], _ => rfl), rfl⟩
  obtain ⟨fd_breaks, F_breaks⟩ := c.def_ 27 (d := d_breaks) rfl
  have k_breaks : ∀ own, Kn prog w ⟨K, mg, T, lamI, own⟩ base 4 "breaks" 1 f_breaks := fun own => ⟨_, fd_breaks, ["row"], ok_breaks F_breaks (b own) (k_check_row own) (k_broken_points own), (He.glo_ok X G (c.fact 27 (f := .glo "breaks") rfl)), F_breaks.kp, (FunD.bindsN (ps := ["row"]) F_breaks fun _ _ _ _ _ _ us hl => match us, hl with | [_], _ => rfl), rfl⟩
  obtain ⟨fd_back_of, F_back_of⟩ := c.def_ 28 (d := d_back_of) rfl
  have k_back_of : ∀ own, Kn prog w ⟨K, mg, T, lamI, own⟩ base 1 "back_of" 1 f_back_of := fun own => ⟨_, fd_back_of, ["row"], ok_back_of F_back_of (b own), (He.glo_ok X G (c.fact 28 (f := .glo "back_of") rfl)), F_back_of.kp, (FunD.bindsN (ps := ["row"]) F_back_of fun _ _ _ _ _ _ us hl => match us, hl with | [_], _ => rfl), rfl⟩
  obtain ⟨fd_back, F_back⟩ := c.def_ 29 (d := d_back) rfl
  have k_back : ∀ own, Kn prog w ⟨K, mg, T, lamI, own⟩ base 4 "back" 1 f_back := fun own => ⟨_, fd_back, ["row"], ok_back F_back (b own) (k_check_row own) (k_back_of own), (He.glo_ok X G (c.fact 29 (f := .glo "back") rfl)), F_back.kp, (FunD.bindsN (ps := ["row"]) F_back fun _ _ _ _ _ _ us hl => match us, hl with | [_], _ => rfl), rfl⟩
  obtain ⟨fd__law_home, F__law_home⟩ := c.def_ 30 (d := d__law_home) rfl
  have k__law_home : ∀ own, Kn prog w ⟨K, mg, T, lamI, own⟩ base 1 "_law_home" 1 f__law_home := fun own => ⟨_, fd__law_home, ["many"], ok__law_home F__law_home (b own), (He.glo_ok X G (c.fact 30 (f := .glo "_law_home") rfl)), F__law_home.kp, (FunD.bindsN (ps := ["many"]) F__law_home fun _ _ _ _ _ _ us hl => match us, hl with | [_], _ => rfl), rfl⟩
  obtain ⟨fd__law_is_right, F__law_is_right⟩ := c.def_ 31 (d := d__law_is_right) rfl
  have k__law_is_right : ∀ own, Kn prog w ⟨K, mg, T, lamI, own⟩ base 6 "_law_is_right" 1 f__law_is_right := fun own => ⟨_, fd__law_is_right, ["row"], ok__law_is_right F__law_is_right (b own) (k__law_ends own) (k__law_rings own) (k_ends_of own) (k_home_ties own) (k_row_ties own) (k_rings own) (k_ring_count own) (k_lengths own) (k_ring_of own) (k_tie_rings own) (k_breaks own) (k_back own) (k__law_home own), (He.glo_ok X G (c.fact 31 (f := .glo "_law_is_right") rfl)), F__law_is_right.kp, (FunD.bindsN (ps := ["row"]) F__law_is_right fun _ _ _ _ _ _ us hl => match us, hl with | [_], _ => rfl), rfl⟩
  obtain ⟨fd__law_take, F__law_take⟩ := c.def_ 32 (d := d__law_take) rfl
  have k__law_take : ∀ own, Kn prog w ⟨K, mg, T, lamI, own⟩ base 1 "_law_take" 2 f__law_take := fun own => ⟨_, fd__law_take, ["pot", "upto"], ok__law_take F__law_take (b own), (He.glo_ok X G (c.fact 32 (f := .glo "_law_take") rfl)), F__law_take.kp, (FunD.bindsN (ps := ["pot", "upto"]) F__law_take fun _ _ _ _ _ _ us hl => match us, hl with | [_, _], _ => rfl), rfl⟩
  obtain ⟨fd__law_of, F__law_of⟩ := c.def_ 33 (d := d__law_of) rfl
  have k__law_of : ∀ own, Kn prog w ⟨K, mg, T, lamI, own⟩ base 2 "_law_of" 2 f__law_of := fun own => ⟨_, fd__law_of, ["pot", "some"], ok__law_of F__law_of (b own) (k__law_take own), (He.glo_ok X G (c.fact 33 (f := .glo "_law_of") rfl)), F__law_of.kp, (FunD.bindsN (ps := ["pot", "some"]) F__law_of fun _ _ _ _ _ _ us hl => match us, hl with | [_, _], _ => rfl), rfl⟩
  obtain ⟨fd__law_some, F__law_some⟩ := c.def_ 34 (d := d__law_some) rfl
  have k__law_some : ∀ own, Kn prog w ⟨K, mg, T, lamI, own⟩ base 2 "_law_some" 3 f__law_some := fun own => ⟨_, fd__law_some, ["pot", "some", "many"], ok__law_some F__law_some (b own) (k__law_take own), (He.glo_ok X G (c.fact 34 (f := .glo "_law_some") rfl)), F__law_some.kp, (FunD.bindsN (ps := ["pot", "some", "many"]) F__law_some fun _ _ _ _ _ _ us hl => match us, hl with | [_, _, _], _ => rfl), rfl⟩
  obtain ⟨fd__law_row, F__law_row⟩ := c.def_ 35 (d := d__law_row) rfl
  have k__law_row : ∀ own, Kn prog w ⟨K, mg, T, lamI, own⟩ base 3 "_law_row" 3 f__law_row := fun own => ⟨_, fd__law_row, ["pot", "low", "high"], ok__law_row F__law_row (b own) (k__law_take own) (k__law_some own) (k__law_of own), (He.glo_ok X G (c.fact 35 (f := .glo "_law_row") rfl)), F__law_row.kp, (FunD.bindsN (ps := ["pot", "low", "high"]) F__law_row fun _ _ _ _ _ _ us hl => match us, hl with | [_, _, _], _ => rfl), rfl⟩
  exact ok_law F (b []) (k__law_cells []) (k__law_pot []) (k__law_is_right []) (k__law_row []) (k__law_home []) (k__law_take [])
end K44
set_option maxRecDepth 100000
set_option maxHeartbeats 4000000
namespace K44
open PySem L2 MI GA
def _law_is_right_1 : FS := (sAs (eTup (aCons (eApp bLenD (aCons (eVar 0) aNil)) (aCons (eApp (callN 1 f__law_ends) (aCons (eVar 0) aNil)) (aCons (eApp (callN 1 f__law_rings) (aCons (eVar 0) aNil)) aNil)))) (gTp 3 (gsCons (gNm 3) (gsCons (gNm 4) (gsCons (gNm 5) gsNil)))))
def _law_is_right_2_1 : FS := (sRet (eC (.bool false)))
def _law_is_right_2b : FS := (sCons _law_is_right_2_1 sNil)
def _law_is_right_2t : FT := (tOr' (tE (eOp2 cNeL (eApp bReprD (aCons (eApp (callN 1 f_ends_of) (aCons (eVar 0) aNil)) aNil)) (eApp bReprD (aCons (eApp bTup (aCons (eVar 4) aNil)) aNil)))) (tE (eOp2 cNeL (eApp bReprD (aCons (eApp (callN 1 f_home_ties) (aCons (eVar 3) aNil)) aNil)) (eApp bReprD (aCons (eApp bTup (aCons (eLc (iR1 (eOp2 oAdd (eVar 3) (eC (.int 1)))) (gNm 8) tYe (eTup (aCons (eOp2 (oInt MI.gMul) (eC (.int 2)) (eVar 8)) (aCons (eOp2 oAdd (eOp2 (oInt MI.gMul) (eC (.int 2)) (eVar 8)) (eC (.int 1))) aNil))) [8]) aNil)) aNil)))))
def _law_is_right_2 : FS := sIf _law_is_right_2t _law_is_right_2b sNil
def _law_is_right_3_1 : FS := (sRet (eC (.bool false)))
def _law_is_right_3b : FS := (sCons _law_is_right_3_1 sNil)
def _law_is_right_3t : FT := (tE (eOp2 cNeL (eApp bReprD (aCons (eApp (callN 1 f_row_ties) (aCons (eVar 0) aNil)) aNil)) (eApp bReprD (aCons (eApp bTup (aCons (eLc (iR1 (eOp2 oAdd (eVar 3) (eC (.int 1)))) (gNm 7) tYe (eTup (aCons (eOp2 oIxD (eVar 4) (eOp2 (oInt MI.gMul) (eC (.int 2)) (eVar 7))) (aCons (eOp2 oIxD (eVar 4) (eOp2 oAdd (eOp2 (oInt MI.gMul) (eC (.int 2)) (eVar 7)) (eC (.int 1)))) aNil))) [7]) aNil)) aNil))))
def _law_is_right_3 : FS := sIf _law_is_right_3t _law_is_right_3b sNil
def _law_is_right_4_1 : FS := (sRet (eC (.bool false)))
def _law_is_right_4b : FS := (sCons _law_is_right_4_1 sNil)
def _law_is_right_4t : FT := (tE (eOp2 cNeL (eApp bReprD (aCons (eTup (aCons (eApp (callN 1 f_rings) (aCons (eVar 0) aNil)) (aCons (eApp (callN 1 f_ring_count) (aCons (eVar 0) aNil)) (aCons (eApp (callN 1 f_lengths) (aCons (eVar 0) aNil)) aNil)))) aNil)) (eApp bReprD (aCons (eTup (aCons (eApp bTup (aCons (eVar 5) aNil)) (aCons (eApp bLenD (aCons (eVar 5) aNil)) (aCons (eApp bTup (aCons (eApp bSortA (aCons (eLc (iSeq (eVar 5)) (gNm 6) tYe (eApp bLenD (aCons (eVar 6) aNil)) [6]) aNil)) aNil)) aNil)))) aNil))))
def _law_is_right_4 : FS := sIf _law_is_right_4t _law_is_right_4b sNil
def _law_is_right_5_1 : FS := (sRet (eC (.bool false)))
def _law_is_right_5b : FS := (sCons _law_is_right_5_1 sNil)
def _law_is_right_5t : FT := (tNt (tE (eApp bAll (aCons (eLc (iR1 (eOp2 oAdd (eVar 3) (eC (.int 1)))) (gNm 7) tYe (eOp2 cEqL (eApp bReprD (aCons (eApp (callN 2 f_ring_of) (aCons (eVar 0) (aCons (eVar 7) aNil))) aNil)) (eApp bReprD (aCons (eOp2 oIxD (eLc (iSeq (eVar 5)) (gNm 6) (tE (eOp2 (cInF false) (eVar 7) (eVar 6))) (eVar 6) [6]) (eC (.int 0))) aNil))) [7]) aNil))))
def _law_is_right_5 : FS := sIf _law_is_right_5t _law_is_right_5b sNil
def _law_is_right_6 : FS := (sSet (eApp (callN 1 f_tie_rings) (aCons (eVar 0) aNil)) 1)
def _law_is_right_7 : FS := (sSet (eApp bSortA (aCons (eLc (iSeq (eVar 5)) (gNm 6) tYe (eApp bTup (aCons (eSrtSetA (eOp2 oAdd (eLc (iSeq (eVar 6)) (gNm 7) tYe (eOp2 (oInt MI.gDiv) (eOp2 oIxD (eVar 4) (eOp2 (oInt MI.gMul) (eC (.int 2)) (eVar 7))) (eC (.int 2))) [7]) (eLc (iSeq (eVar 6)) (gNm 7) tYe (eOp2 (oInt MI.gDiv) (eOp2 oIxD (eVar 4) (eOp2 oAdd (eOp2 (oInt MI.gMul) (eC (.int 2)) (eVar 7)) (eC (.int 1)))) (eC (.int 2))) [7]))) aNil)) [6]) aNil)) 2)
def _law_is_right_8_1 : FS := (sRet (eC (.bool false)))
def _law_is_right_8b : FS := (sCons _law_is_right_8_1 sNil)
def _law_is_right_8t : FT := (tOr' (tE (eOp2 cNeL (eApp bReprD (aCons (eVar 1) aNil)) (eApp bReprD (aCons (eApp bTup (aCons (eVar 2) aNil)) aNil)))) (tE (eOp2 cNeL (eApp bSortA (aCons (eLc (iSeq (eVar 1)) (gNm 6) tYe (eApp bLenD (aCons (eVar 6) aNil)) [6]) aNil)) (eApp bSortA (aCons (eLc (iSeq (eVar 5)) (gNm 6) tYe (eApp bLenD (aCons (eVar 6) aNil)) [6]) aNil)))))
def _law_is_right_8 : FS := sIf _law_is_right_8t _law_is_right_8b sNil
def _law_is_right_9_1 : FS := (sRet (eC (.bool false)))
def _law_is_right_9b : FS := (sCons _law_is_right_9_1 sNil)
def _law_is_right_9t : FT := (tE (eOp2 cNeL (eLc (iR1 (eOp2 oAdd (eVar 3) (eC (.int 1)))) (gNm 7) (tE (eOp2 (cInF true) (eTup (aCons (eVar 7) aNil)) (eVar 5))) (eVar 7) [7]) (eApp bList (aCons (eApp (callN 1 f_breaks) (aCons (eVar 0) aNil)) aNil))))
def _law_is_right_9 : FS := sIf _law_is_right_9t _law_is_right_9b sNil
def _law_is_right_10 : FS := (sRet (eAn (eOp2 cEqL (eApp (callN 1 f_lengths) (aCons (eApp (callN 1 f_back) (aCons (eVar 0) aNil)) aNil)) (eApp (callN 1 f_lengths) (aCons (eVar 0) aNil))) (eOp2 cEqL (eOp2 cEqL (eApp bLenD (aCons (eVar 5) aNil)) (eOp2 oAdd (eVar 3) (eC (.int 1)))) (eOp2 cEqL (eVar 0) (eApp (callN 1 f__law_home) (aCons (eVar 3) aNil))))))
def _law_is_rightb : FS := (sCons _law_is_right_1 (sCons _law_is_right_2 (sCons _law_is_right_3 (sCons _law_is_right_4 (sCons _law_is_right_5 (sCons _law_is_right_6 (sCons _law_is_right_7 (sCons _law_is_right_8 (sCons _law_is_right_9 (sCons _law_is_right_10 sNil))))))))))
theorem _law_is_right_eq : f__law_is_right = fnB 9 _law_is_rightb := rfl
def law_1_1 : FS := (sSet (eApp (callNM 2 f__law_pot) (aCons (eVar 0) (aCons (eVar 1) aNil))) 2)
def law_1_2_1 : FS := (sRet (eC (.bool false)))
def law_1_2b : FS := (sCons law_1_2_1 sNil)
def law_1_2t : FT := (tOr' (tNt (tE (eApp bAll (aCons (eLc (iR1 (eC (.int 4))) (gNm 3) tYe (eApp (callN 1 f__law_is_right) (aCons (eApp (callN 3 f__law_row) (aCons (eVar 2) (aCons (eC (.int 1)) (aCons (eC (.int 6)) aNil)))) aNil)) [3]) aNil)))) (tNt (tE (eApp bAll (aCons (eLc (iR1 (eC (.int 2))) (gNm 3) tYe (eApp (callN 1 f__law_is_right) (aCons (eApp (callN 3 f__law_row) (aCons (eVar 2) (aCons (eC (.int 7)) (aCons (eC (.int 20)) aNil)))) aNil)) [3]) aNil)))))
def law_1_2 : FS := sIf law_1_2t law_1_2b sNil
def law_1_3_1 : FS := (sRet (eC (.bool false)))
def law_1_3b : FS := (sCons law_1_3_1 sNil)
def law_1_3t : FT := (tNt (tE (eApp (callN 1 f__law_is_right) (aCons (eApp (callN 1 f__law_home) (aCons (eOp2 oAdd (eC (.int 1)) (eApp (callN 2 f__law_take) (aCons (eVar 2) (aCons (eC (.int 20)) aNil)))) aNil)) aNil))))
def law_1_3 : FS := sIf law_1_3t law_1_3b sNil
def law_1b : FS := (sCons law_1_1 (sCons law_1_2 (sCons law_1_3 sNil)))
def law_1i : FI := (iSeq (eApp (callN 2 f__law_cells) (aCons (eVar 0) (aCons (eC (.int 3)) aNil))))
def law_1 : FS := sFor law_1i (gNm 1) law_1b
def law_2 : FS := (sRet (eC (.bool true)))
def lawb : FS := (sCons law_1 (sCons law_2 sNil))
theorem law_eq : f_law = fnB 4 lawb := rfl
end K44
set_option maxRecDepth 100000
set_option maxHeartbeats 4000000
namespace K44
open PySem L2 MI GA GM
section
variable {xs ys : List Int} {N : Int} {S : Sto}
theorem is_right_ok (v : VR xs N) : f__law_is_right [ti xs] [] = .ok (.d (.bool true)) [] := by
  have hn := v.len
  have hs := v.small
  have hL := len_tiD v.len
  have hlo := v.lo
  have hhi := v.hi
  obtain ⟨es, hes⟩ : ∃ es, es = en xs N := ⟨_, rfl⟩
  obtain ⟨G, hG⟩ : ∃ G, G = rgs xs N := ⟨_, rfl⟩
  have hGl := rgs_len v
  rw [← hG] at hGl
  have u : ∀ fs : FS, fnB 9 fs [ti xs] [] = (fs [some (ti xs), none, none, none, none, none, none, none, none] []).fin := fun _ => rfl
  have k1 := k_law_ends v []
  have k2 := k_law_rings v []
  rw [← hes] at k1
  rw [← hG] at k2
  have mk3 : ∀ (a b c : PyData) (S : Sto), mkTup [.d a, .d b, .d c] S = .ok (.d (.tuple [a, b, c])) S := fun _ _ _ _ => rfl
  have s1 : _law_is_right_1 [some (ti xs), none, none, none, none, none, none, none, none] [] = .nx [some (ti xs), none, none, some (.d (.int N)), some (.d (.list (zd es))), some (.d (.list (G.map tz))), none, none, none] [] := by
    unfold _law_is_right_1
    simp only [sCons, sRet, sSet, sEx, sNil, tE, tNt, tAn, tOr', eApp, eOp2, eOp1, eVar, eC, eLst, eTup, eSl, eRev, aCons, aNil, pNo, pSm, callN, eAn, eOr, eNt, asB, bind_ok_, to_ok_, seq_nx_, seq_ret_, fin_ret_, fin_nx_, i_add, i_sub, i_neg, lstOf, tupOf, List.getElem?_cons_succ, List.getElem?_cons_zero, List.set_cons_succ, List.set_cons_zero, List.length_cons, List.length_nil, if_true, sAs, hL, k1, k2, mk3]
    rfl
  -- ends, home ties
  have t2 : _law_is_right_2t [some (ti xs), none, none, some (.d (.int N)), some (.d (.list (zd es))), some (.d (.list (G.map tz))), none, none, none] [] = .ok false [] := by
    have e1 := k_ends_of v []
    rw [← hes] at e1
    have e2 := k_home_ties (N := N) hlo hhi []
    have bt : ∀ l : List PyData, bTup [.d (.list l)] [] = .ok (.d (.tuple l)) [] := fun _ => rfl
    have a := ne_rp (d := .tuple (zd es)) (by rw [hes]; exact rp_sm (sm_en v) (by decide) (by decide)) (f := eApp (callN 1 f_ends_of) (aCons (eVar 0) aNil)) (g := eApp bTup (aCons (eVar 4) aNil)) (r := [some (ti xs), none, none, some (.d (.int N)), some (.d (.list (zd es))), some (.d (.list (G.map tz))), none, none, none]) (S := []) (S1 := []) (S2 := []) (by simp only [sCons, sRet, sSet, sEx, sNil, tE, tNt, tAn, tOr', eApp, eOp2, eOp1, eVar, eC, eLst, eTup, eSl, eRev, aCons, aNil, pNo, pSm, callN, eAn, eOr, eNt, asB, bind_ok_, to_ok_, seq_nx_, seq_ret_, fin_ret_, fin_nx_, i_add, i_sub, i_neg, lstOf, tupOf, List.getElem?_cons_succ, List.getElem?_cons_zero, List.set_cons_succ, List.set_cons_zero, List.length_cons, List.length_nil, if_true, e1]) (by simp only [sCons, sRet, sSet, sEx, sNil, tE, tNt, tAn, tOr', eApp, eOp2, eOp1, eVar, eC, eLst, eTup, eSl, eRev, aCons, aNil, pNo, pSm, callN, eAn, eOr, eNt, asB, bind_ok_, to_ok_, seq_nx_, seq_ret_, fin_ret_, fin_nx_, i_add, i_sub, i_neg, lstOf, tupOf, List.getElem?_cons_succ, List.getElem?_cons_zero, List.set_cons_succ, List.set_cons_zero, List.length_cons, List.length_nil, if_true, bt])
    have hi : iR1 (eOp2 oAdd (eVar 3) (eC (.int 1))) [some (ti xs), none, none, some (.d (.int N)), some (.d (.list (zd es))), some (.d (.list (G.map tz))), none, none, none] [] = .ok ((rgI 0 (N + 1)).map .int) [] := by
      rw [← rngD_rg]
      exact iR1_ok (by simp only [sCons, sRet, sSet, sEx, sNil, tE, tNt, tAn, tOr', eApp, eOp2, eOp1, eVar, eC, eLst, eTup, eSl, eRev, aCons, aNil, pNo, pSm, callN, eAn, eOr, eNt, asB, bind_ok_, to_ok_, seq_nx_, seq_ret_, fin_ret_, fin_nx_, i_add, i_sub, i_neg, lstOf, tupOf, List.getElem?_cons_succ, List.getElem?_cons_zero, List.set_cons_succ, List.set_cons_zero, List.length_cons, List.length_nil, if_true, ]) (by omega)
    have c : eLc (iR1 (eOp2 oAdd (eVar 3) (eC (.int 1)))) (gNm 8) tYe (eTup (aCons (eOp2 (oInt MI.gMul) (eC (.int 2)) (eVar 8)) (aCons (eOp2 oAdd (eOp2 (oInt MI.gMul) (eC (.int 2)) (eVar 8)) (eC (.int 1))) aNil))) [8] [some (ti xs), none, none, some (.d (.int N)), some (.d (.list (zd es))), some (.d (.list (G.map tz))), none, none, none] [] = .ok (.d (.list (hties N))) [] :=
      eLc_i (fun t => .tuple [.int (2 * t), .int (2 * t + 1)]) hi (by rw [len_rgI]; omega) fun t ht => by
        have ht := mem_rgI.mp ht
        have m := g_mulI (w := t) (by omega) []
        exact ⟨[some (ti xs), none, none, some (.d (.int N)), some (.d (.list (zd es))), some (.d (.list (G.map tz))), none, none, some (.d (.int t))], rfl, by simp only [sCons, sRet, sSet, sEx, sNil, tE, tNt, tAn, tOr', eApp, eOp2, eOp1, eVar, eC, eLst, eTup, eSl, eRev, aCons, aNil, pNo, pSm, callN, eAn, eOr, eNt, asB, bind_ok_, to_ok_, seq_nx_, seq_ret_, fin_ret_, fin_nx_, i_add, i_sub, i_neg, lstOf, tupOf, List.getElem?_cons_succ, List.getElem?_cons_zero, List.set_cons_succ, List.set_cons_zero, List.length_cons, List.length_nil, if_true, m, mkt2]⟩
    have sm : Sm (.tuple (hties N)) 2 200 := (Sm.tup (k := 1) (n := 3) (m := 21) (fun d hd => by
      unfold hties at hd
      obtain ⟨t, ht, rfl⟩ := List.mem_map.mp hd
      have ht := mem_rgI.mp ht
      exact (Sm.ti (xs := [2 * t, 2 * t + 1]) (m := 2) (fun x hx => by simp at hx; omega) (by simp)).mono (by decide) (by decide)) (by unfold hties; rw [List.length_map, len_rgI]; omega)).mono (by decide) (by decide)
    have b := ne_rp (d := .tuple (hties N)) (rp_sm sm (by decide) (by decide)) (f := eApp (callN 1 f_home_ties) (aCons (eVar 3) aNil)) (g := eApp bTup (aCons (eLc (iR1 (eOp2 oAdd (eVar 3) (eC (.int 1)))) (gNm 8) tYe (eTup (aCons (eOp2 (oInt MI.gMul) (eC (.int 2)) (eVar 8)) (aCons (eOp2 oAdd (eOp2 (oInt MI.gMul) (eC (.int 2)) (eVar 8)) (eC (.int 1))) aNil))) [8]) aNil))
      (r := [some (ti xs), none, none, some (.d (.int N)), some (.d (.list (zd es))), some (.d (.list (G.map tz))), none, none, none]) (S := []) (S1 := []) (S2 := []) (by simp only [sCons, sRet, sSet, sEx, sNil, tE, tNt, tAn, tOr', eApp, eOp2, eOp1, eVar, eC, eLst, eTup, eSl, eRev, aCons, aNil, pNo, pSm, callN, eAn, eOr, eNt, asB, bind_ok_, to_ok_, seq_nx_, seq_ret_, fin_ret_, fin_nx_, i_add, i_sub, i_neg, lstOf, tupOf, List.getElem?_cons_succ, List.getElem?_cons_zero, List.set_cons_succ, List.set_cons_zero, List.length_cons, List.length_nil, if_true, e2]) (by simp only [eApp, aCons, aNil, c, bind_ok_, bt])
    unfold _law_is_right_2t
    rw [tOr', a, bind_ok_, if_neg Bool.false_ne_true]
    exact b
  have t3 : _law_is_right_3t [some (ti xs), none, none, some (.d (.int N)), some (.d (.list (zd es))), some (.d (.list (G.map tz))), none, none, none] [] = .ok false [] := by
    have e1 := k_row_ties v []
    have bt : ∀ l : List PyData, bTup [.d (.list l)] [] = .ok (.d (.tuple l)) [] := fun _ => rfl
    have c : eLc (iR1 (eOp2 oAdd (eVar 3) (eC (.int 1)))) (gNm 7) tYe (eTup (aCons (eOp2 oIxD (eVar 4) (eOp2 (oInt MI.gMul) (eC (.int 2)) (eVar 7))) (aCons (eOp2 oIxD (eVar 4) (eOp2 oAdd (eOp2 (oInt MI.gMul) (eC (.int 2)) (eVar 7)) (eC (.int 1)))) aNil))) [7] [some (ti xs), none, none, some (.d (.int N)), some (.d (.list (zd es))), some (.d (.list (G.map tz))), none, none, none] [] = .ok (.d (.list (rties xs N))) [] :=
      eLc_em (fun (p : Nat) => PyData.int (p : Int)) (fun p => .tuple [.int (at' (en xs N) (2 * p) : Nat), .int (at' (en xs N) (2 * p + 1) : Nat)]) (iR_pts v (by simp only [sCons, sRet, sSet, sEx, sNil, tE, tNt, tAn, tOr', eApp, eOp2, eOp1, eVar, eC, eLst, eTup, eSl, eRev, aCons, aNil, pNo, pSm, callN, eAn, eOr, eNt, asB, bind_ok_, to_ok_, seq_nx_, seq_ret_, fin_ret_, fin_nx_, i_add, i_sub, i_neg, lstOf, tupOf, List.getElem?_cons_succ, List.getElem?_cons_zero, List.set_cons_succ, List.set_cons_zero, List.length_cons, List.length_nil, if_true, ])) (by rw [List.length_range]; omega) fun p hp => by
        have hp := List.mem_range.mp hp
        have m := g_mulI (w := (p : Int)) (by omega) []
        obtain ⟨a1, a2⟩ := ix_en2 v hp []
        rw [← hes] at a1 a2 ⊢
        exact ⟨[some (ti xs), none, none, some (.d (.int N)), some (.d (.list (zd es))), some (.d (.list (G.map tz))), none, some (.d (.int p)), none], rfl, by simp only [sCons, sRet, sSet, sEx, sNil, tE, tNt, tAn, tOr', eApp, eOp2, eOp1, eVar, eC, eLst, eTup, eSl, eRev, aCons, aNil, pNo, pSm, callN, eAn, eOr, eNt, asB, bind_ok_, to_ok_, seq_nx_, seq_ret_, fin_ret_, fin_nx_, i_add, i_sub, i_neg, lstOf, tupOf, List.getElem?_cons_succ, List.getElem?_cons_zero, List.set_cons_succ, List.set_cons_zero, List.length_cons, List.length_nil, if_true, m, a1, a2, mkt2]⟩
    have sm : Sm (.tuple (rties xs N)) 2 200 := (Sm.tup (k := 1) (n := 3) (m := 21) (fun d hd => by
      unfold rties at hd
      obtain ⟨p, hp, rfl⟩ := List.mem_map.mp hd
      have hp := List.mem_range.mp hp
      have h1 := (ep_of v).at_lt (i := 2 * p) (by omega)
      have h2 := (ep_of v).at_lt (i := 2 * p + 1) (by omega)
      exact (Sm.ti (xs := [(at' (en xs N) (2 * p) : Int), (at' (en xs N) (2 * p + 1) : Int)]) (m := 2) (fun x hx => by simp at hx; omega) (by simp)).mono (by decide) (by decide)) (by unfold rties; rw [List.length_map, List.length_range]; omega)).mono (by decide) (by decide)
    exact ne_rp (d := .tuple (rties xs N)) (rp_sm sm (by decide) (by decide)) (S1 := []) (by simp only [sCons, sRet, sSet, sEx, sNil, tE, tNt, tAn, tOr', eApp, eOp2, eOp1, eVar, eC, eLst, eTup, eSl, eRev, aCons, aNil, pNo, pSm, callN, eAn, eOr, eNt, asB, bind_ok_, to_ok_, seq_nx_, seq_ret_, fin_ret_, fin_nx_, i_add, i_sub, i_neg, lstOf, tupOf, List.getElem?_cons_succ, List.getElem?_cons_zero, List.set_cons_succ, List.set_cons_zero, List.length_cons, List.length_nil, if_true, e1]) (by simp only [eApp, aCons, aNil, c, bind_ok_, bt])
  have t4 : _law_is_right_4t [some (ti xs), none, none, some (.d (.int N)), some (.d (.list (zd es))), some (.d (.list (G.map tz))), none, none, none] [] = .ok false [] := by
    have e1 := k_rings v []
    have e2 := k_ring_count v []
    have e3 := k_lengths v []
    rw [← hG] at e1 e2
    have bt : ∀ l : List PyData, bTup [.d (.list l)] [] = .ok (.d (.tuple l)) [] := fun _ => rfl
    have c : eLc (iSeq (eVar 5)) (gNm 6) tYe (eApp bLenD (aCons (eVar 6) aNil)) [6] [some (ti xs), none, none, some (.d (.int N)), some (.d (.list (zd es))), some (.d (.list (G.map tz))), none, none, none] [] = .ok (.d (.list (G.map fun T => .int (T.length : Nat)))) [] :=
      eLc_em tz (fun T => .int (T.length : Nat)) (iSeq_ok (v := .d (.list (G.map tz))) rfl rfl (by rw [List.length_map]; exact small_line (by omega))) (by omega) fun T hT =>
        ⟨[some (ti xs), none, none, some (.d (.int N)), some (.d (.list (zd es))), some (.d (.list (G.map tz))), some (.d (tz T)), none, none], rfl, by simp only [sCons, sRet, sSet, sEx, sNil, tE, tNt, tAn, tOr', eApp, eOp2, eOp1, eVar, eC, eLst, eTup, eSl, eRev, aCons, aNil, pNo, pSm, callN, eAn, eOr, eNt, asB, bind_ok_, to_ok_, seq_nx_, seq_ret_, fin_ret_, fin_nx_, i_add, i_sub, i_neg, lstOf, tupOf, List.getElem?_cons_succ, List.getElem?_cons_zero, List.set_cons_succ, List.set_cons_zero, List.length_cons, List.length_nil, if_true, len_tz T]⟩
    have e : G.map (fun T => PyData.int (T.length : Nat)) = (zi (G.map List.length)).map .int := by
      unfold zi
      rw [List.map_map, List.map_map]
      rfl
    rw [e] at c
    have so : bSortA [.d (.list ((zi (G.map List.length)).map .int))] [] = .ok (.d (.list ((lens xs N).map .int))) [] := by
      rw [sort_li, hG]
      rfl
    have l5 := len_lst (ds := G.map tz) (by rw [List.length_map]; omega) []
    rw [List.length_map] at l5
    have sm : Sm (.tuple [.tuple (G.map tz), .int (G.length : Nat), .tuple ((lens xs N).map .int)]) 3 4300 := (Sm.tup (k := 2) (n := 1400) (m := 3) (fun d hd => by
      simp only [List.mem_cons, List.not_mem_nil, or_false] at hd
      rcases hd with rfl | rfl | rfl
      · rw [hG]; exact sm_rgs v
      · exact (Sm.int (by omega)).mono (by decide) (by decide)
      · exact (Sm.ti (lens_small v).2 (m := 21) (lens_small v).1).mono (by decide) (by decide)) (by simp)).mono (by decide) (by decide)
    exact ne_rp (rp_sm sm (by decide) (by decide)) (S1 := []) (by simp only [sCons, sRet, sSet, sEx, sNil, tE, tNt, tAn, tOr', eApp, eOp2, eOp1, eVar, eC, eLst, eTup, eSl, eRev, aCons, aNil, pNo, pSm, callN, eAn, eOr, eNt, asB, bind_ok_, to_ok_, seq_nx_, seq_ret_, fin_ret_, fin_nx_, i_add, i_sub, i_neg, lstOf, tupOf, List.getElem?_cons_succ, List.getElem?_cons_zero, List.set_cons_succ, List.set_cons_zero, List.length_cons, List.length_nil, if_true, e1, e2, e3, mk3]) (by simp only [sCons, sRet, sSet, sEx, sNil, tE, tNt, tAn, tOr', eApp, eOp2, eOp1, eVar, eC, eLst, eTup, eSl, eRev, aCons, aNil, pNo, pSm, callN, eAn, eOr, eNt, asB, bind_ok_, to_ok_, seq_nx_, seq_ret_, fin_ret_, fin_nx_, i_add, i_sub, i_neg, lstOf, tupOf, List.getElem?_cons_succ, List.getElem?_cons_zero, List.set_cons_succ, List.set_cons_zero, List.length_cons, List.length_nil, if_true, l5, c, so, bt, mk3])
  have t5 : _law_is_right_5t [some (ti xs), none, none, some (.d (.int N)), some (.d (.list (zd es))), some (.d (.list (G.map tz))), none, none, none] [] = .ok false [] := by
    have c := eLc_em (g := gNm 7) (e := eOp2 cEqL (eApp bReprD (aCons (eApp (callN 2 f_ring_of) (aCons (eVar 0) (aCons (eVar 7) aNil))) aNil)) (eApp bReprD (aCons (eOp2 oIxD (eLc (iSeq (eVar 5)) (gNm 6) (tE (eOp2 (cInF false) (eVar 7) (eVar 6))) (eVar 6) [6]) (eC (.int 0))) aNil))) (vs := [7])
      (fun (p : Nat) => PyData.int (p : Int)) (fun _ => .bool true) (iR_pts v (f := eOp2 oAdd (eVar 3) (eC (.int 1))) (r := [some (ti xs), none, none, some (.d (.int N)), some (.d (.list (zd es))), some (.d (.list (G.map tz))), none, none, none]) (S := []) (by simp only [sCons, sRet, sSet, sEx, sNil, tE, tNt, tAn, tOr', eApp, eOp2, eOp1, eVar, eC, eLst, eTup, eSl, eRev, aCons, aNil, pNo, pSm, callN, eAn, eOr, eNt, asB, bind_ok_, to_ok_, seq_nx_, seq_ret_, fin_ret_, fin_nx_, i_add, i_sub, i_neg, lstOf, tupOf, List.getElem?_cons_succ, List.getElem?_cons_zero, List.set_cons_succ, List.set_cons_zero, List.length_cons, List.length_nil, if_true, ])) (by rw [List.length_range]; omega) fun p hp => by
        have hp := List.mem_range.mp hp
        have e1 := k_ring_of v hp []
        have hi : iSeq (eVar 5) [some (ti xs), none, none, some (.d (.int N)), some (.d (.list (zd es))), some (.d (.list (G.map tz))), none, some (.d (.int p)), none] [] = .ok ((rgs xs N).map tz) [] := by
          rw [← hG]
          exact iSeq_ok (v := .d (.list (G.map tz))) rfl rfl (by rw [List.length_map]; exact small_line (by omega))
        have c := find_ring v hp (i := 7) (j := 6) hi rfl (fun x => rfl) (show 6 < 9 by decide)
        have hm : cls (xs.length + 1) (en xs N) p ∈ rgs xs N := (ep_of v).mem_ringsF.mpr ⟨p, hp, rfl⟩
        exact ⟨[some (ti xs), none, none, some (.d (.int N)), some (.d (.list (zd es))), some (.d (.list (G.map tz))), none, some (.d (.int p)), none], rfl, eq_rp (rp_sm (sm_tz v hm) (by decide) (by decide)) (S1 := []) (by simp only [sCons, sRet, sSet, sEx, sNil, tE, tNt, tAn, tOr', eApp, eOp2, eOp1, eVar, eC, eLst, eTup, eSl, eRev, aCons, aNil, pNo, pSm, callN, eAn, eOr, eNt, asB, bind_ok_, to_ok_, seq_nx_, seq_ret_, fin_ret_, fin_nx_, i_add, i_sub, i_neg, lstOf, tupOf, List.getElem?_cons_succ, List.getElem?_cons_zero, List.set_cons_succ, List.set_cons_zero, List.length_cons, List.length_nil, if_true, e1]) c⟩
    have a := all_p (List.range (xs.length + 1)) (fun _ => true) []
    have z : (List.range (xs.length + 1)).all (fun _ => true) = true := by simp
    rw [z] at a
    unfold _law_is_right_5t
    simp only [tNt, tE, eApp, aCons, aNil, c, a, bind_ok_, asB]
    rfl
  have k6 := k_tie_rings v []
  have s6 : _law_is_right_6 [some (ti xs), none, none, some (.d (.int N)), some (.d (.list (zd es))), some (.d (.list (G.map tz))), none, none, none] [] = .nx [some (ti xs), some (.d (.tuple ((trgs xs N).map fun n => .tuple (n.map .int)))), none, some (.d (.int N)), some (.d (.list (zd es))), some (.d (.list (G.map tz))), none, none, none] [] := by
    unfold _law_is_right_6
    simp only [sCons, sRet, sSet, sEx, sNil, tE, tNt, tAn, tOr', eApp, eOp2, eOp1, eVar, eC, eLst, eTup, eSl, eRev, aCons, aNil, pNo, pSm, callN, eAn, eOr, eNt, asB, bind_ok_, to_ok_, seq_nx_, seq_ret_, fin_ret_, fin_nx_, i_add, i_sub, i_neg, lstOf, tupOf, List.getElem?_cons_succ, List.getElem?_cons_zero, List.set_cons_succ, List.set_cons_zero, List.length_cons, List.length_nil, if_true, k6]
  have s7 : _law_is_right_7 [some (ti xs), some (.d (.tuple ((trgs xs N).map fun n => .tuple (n.map .int)))), none, some (.d (.int N)), some (.d (.list (zd es))), some (.d (.list (G.map tz))), none, none, none] [] = .nx [some (ti xs), some (.d (.tuple ((trgs xs N).map fun n => .tuple (n.map .int)))), some (.d (.list ((trgs xs N).map fun n => .tuple (n.map .int)))), some (.d (.int N)), some (.d (.list (zd es))), some (.d (.list (G.map tz))), none, none, none] [] := by
    have c := eLc_em (g := gNm 6) (e := eApp bTup (aCons (eSrtSetA (eOp2 oAdd (eLc (iSeq (eVar 6)) (gNm 7) tYe (eOp2 (oInt MI.gDiv) (eOp2 oIxD (eVar 4) (eOp2 (oInt MI.gMul) (eC (.int 2)) (eVar 7))) (eC (.int 2))) [7]) (eLc (iSeq (eVar 6)) (gNm 7) tYe (eOp2 (oInt MI.gDiv) (eOp2 oIxD (eVar 4) (eOp2 oAdd (eOp2 (oInt MI.gMul) (eC (.int 2)) (eVar 7)) (eC (.int 1)))) (eC (.int 2))) [7]))) aNil)) (vs := [6]) tz (fun T => .tuple ((tieI xs N T).map .int))
      (iSeq_ok (f := eVar 5) (r := [some (ti xs), some (.d (.tuple ((trgs xs N).map fun n => .tuple (n.map .int)))), none, some (.d (.int N)), some (.d (.list (zd es))), some (.d (.list (G.map tz))), none, none, none]) (S := []) (v := .d (.list (G.map tz))) rfl rfl (by rw [List.length_map]; exact small_line (by omega))) (by omega) fun T hT => by
        rw [hG] at hT
        obtain ⟨b, hb, rfl⟩ := (ep_of v).mem_ringsF.mp hT
        have k := tie_expr v (T := cls (xs.length + 1) (en xs N) b) (fun p hp => (((ep_of v).mem_cls hb).mp hp).1) (rgs_each v hT).1 (ie := 4) (ir := 6) (jp := 7) (r := [some (ti xs), some (.d (.tuple ((trgs xs N).map fun n => .tuple (n.map .int)))), none, some (.d (.int N)), some (.d (.list (zd es))), some (.d (.list (G.map tz))), some (.d (tz (cls (xs.length + 1) (en xs N) b))), none, none]) (S := []) rfl rfl (fun x => by rw [hes]; rfl) (show 7 < 9 by decide)
        exact ⟨_, rfl, k⟩
    have e : G.map (fun T => PyData.tuple ((tieI xs N T).map .int)) = (G.map (tieI xs N)).map fun n => .tuple (n.map .int) := by rw [List.map_map]; rfl
    rw [e] at c
    have so := sort_tups (us := G.map (tieI xs N)) (by rw [hG]; exact ties_ne v) []
    have eT : lsort (G.map (tieI xs N)) = trgs xs N := by rw [hG]; rfl
    rw [eT] at so
    unfold _law_is_right_7
    simp only [sCons, sRet, sSet, sEx, sNil, tE, tNt, tAn, tOr', eApp, eOp2, eOp1, eVar, eC, eLst, eTup, eSl, eRev, aCons, aNil, pNo, pSm, callN, eAn, eOr, eNt, asB, bind_ok_, to_ok_, seq_nx_, seq_ret_, fin_ret_, fin_nx_, i_add, i_sub, i_neg, lstOf, tupOf, List.getElem?_cons_succ, List.getElem?_cons_zero, List.set_cons_succ, List.set_cons_zero, List.length_cons, List.length_nil, if_true, c, so]
  have t8 : _law_is_right_8t [some (ti xs), some (.d (.tuple ((trgs xs N).map fun n => .tuple (n.map .int)))), some (.d (.list ((trgs xs N).map fun n => .tuple (n.map .int)))), some (.d (.int N)), some (.d (.list (zd es))), some (.d (.list (G.map tz))), none, none, none] [] = .ok false [] := by
    have bt : ∀ l : List PyData, bTup [.d (.list l)] [] = .ok (.d (.tuple l)) [] := fun _ => rfl
    have tl : (trgs xs N).length ≤ 21 := by
      unfold trgs
      rw [(lsort_perm _).length_eq, List.length_map]
      exact rgs_len v
    have tmem : ∀ n ∈ trgs xs N, n.length ≤ 21 ∧ ∀ x ∈ n, x.natAbs < 2 ^ 60 := fun n hn => by
      have := (lsort_perm _).mem_iff.mp hn
      obtain ⟨T, hT, rfl⟩ := List.mem_map.mp this
      obtain ⟨b, hb, rfl⟩ := (ep_of v).mem_ringsF.mp hT
      refine ⟨?_, fun x hx => ?_⟩
      · have := (ep_of v).tie_len hb
        have h3 := (rgs_each v hT).1
        unfold tieI
        omega
      · have := (dsort_mem x _).mp hx
        unfold zi at this
        obtain ⟨t, ht, rfl⟩ := List.mem_map.mp this
        have ht : t < 2 * (xs.length + 1) := by
          unfold tieL at ht
          rcases List.mem_append.mp ht with ht | ht
          · obtain ⟨p, hp, rfl⟩ := List.mem_map.mp ht
            have := (ep_of v).at_lt (i := 2 * p) (by have := (((ep_of v).mem_cls hb).mp hp).1; omega)
            omega
          · obtain ⟨p, hp, rfl⟩ := List.mem_map.mp ht
            have := (ep_of v).at_lt (i := 2 * p + 1) (by have := (((ep_of v).mem_cls hb).mp hp).1; omega)
            omega
        omega
    have sm : Sm (.tuple ((trgs xs N).map fun n => .tuple (n.map .int))) 2 1400 := (Sm.tup (k := 1) (n := 61) (m := 21) (fun d hd => by
      obtain ⟨n, hn, rfl⟩ := List.mem_map.mp hd
      exact (Sm.ti (tmem n hn).2 (m := 21) (tmem n hn).1).mono (by decide) (by decide)) (by rw [List.length_map]; exact tl)).mono (by decide) (by decide)
    have a := ne_rp (rp_sm sm (by decide) (by decide)) (f := eVar 1) (g := eApp bTup (aCons (eVar 2) aNil)) (r := [some (ti xs), some (.d (.tuple ((trgs xs N).map fun n => .tuple (n.map .int)))), some (.d (.list ((trgs xs N).map fun n => .tuple (n.map .int)))), some (.d (.int N)), some (.d (.list (zd es))), some (.d (.list (G.map tz))), none, none, none]) (S := []) (S1 := []) (S2 := []) rfl (by simp only [sCons, sRet, sSet, sEx, sNil, tE, tNt, tAn, tOr', eApp, eOp2, eOp1, eVar, eC, eLst, eTup, eSl, eRev, aCons, aNil, pNo, pSm, callN, eAn, eOr, eNt, asB, bind_ok_, to_ok_, seq_nx_, seq_ret_, fin_ret_, fin_nx_, i_add, i_sub, i_neg, lstOf, tupOf, List.getElem?_cons_succ, List.getElem?_cons_zero, List.set_cons_succ, List.set_cons_zero, List.length_cons, List.length_nil, if_true, bt])
    have c1 : eLc (iSeq (eVar 1)) (gNm 6) tYe (eApp bLenD (aCons (eVar 6) aNil)) [6] [some (ti xs), some (.d (.tuple ((trgs xs N).map fun n => .tuple (n.map .int)))), some (.d (.list ((trgs xs N).map fun n => .tuple (n.map .int)))), some (.d (.int N)), some (.d (.list (zd es))), some (.d (.list (G.map tz))), none, none, none] [] = .ok (.d (.list (((trgs xs N).map fun n => (n.length : Int)).map .int))) [] := by
      have := eLc_em (g := gNm 6) (e := eApp bLenD (aCons (eVar 6) aNil)) (vs := [6]) (fun n : List Int => PyData.tuple (n.map .int)) (fun n => .int (n.length : Int)) (iSeq_ok (f := eVar 1) (r := [some (ti xs), some (.d (.tuple ((trgs xs N).map fun n => .tuple (n.map .int)))), some (.d (.list ((trgs xs N).map fun n => .tuple (n.map .int)))), some (.d (.int N)), some (.d (.list (zd es))), some (.d (.list (G.map tz))), none, none, none]) (S := []) (v := .d (.tuple ((trgs xs N).map fun n => .tuple (n.map .int)))) rfl rfl (by rw [List.length_map]; exact small_line (by omega))) (by omega) fun n hn => by
        have l := len_tiD (xs := n) (N := n.length) rfl []
        exact ⟨[some (ti xs), some (.d (.tuple ((trgs xs N).map fun n => .tuple (n.map .int)))), some (.d (.list ((trgs xs N).map fun n => .tuple (n.map .int)))), some (.d (.int N)), some (.d (.list (zd es))), some (.d (.list (G.map tz))), some (ti n), none, none], rfl, by simp only [sCons, sRet, sSet, sEx, sNil, tE, tNt, tAn, tOr', eApp, eOp2, eOp1, eVar, eC, eLst, eTup, eSl, eRev, aCons, aNil, pNo, pSm, callN, eAn, eOr, eNt, asB, bind_ok_, to_ok_, seq_nx_, seq_ret_, fin_ret_, fin_nx_, i_add, i_sub, i_neg, lstOf, tupOf, List.getElem?_cons_succ, List.getElem?_cons_zero, List.set_cons_succ, List.set_cons_zero, List.length_cons, List.length_nil, if_true, l]⟩
      rw [this, List.map_map]
      rfl
    have c2 : eLc (iSeq (eVar 5)) (gNm 6) tYe (eApp bLenD (aCons (eVar 6) aNil)) [6] [some (ti xs), some (.d (.tuple ((trgs xs N).map fun n => .tuple (n.map .int)))), some (.d (.list ((trgs xs N).map fun n => .tuple (n.map .int)))), some (.d (.int N)), some (.d (.list (zd es))), some (.d (.list (G.map tz))), none, none, none] [] = .ok (.d (.list ((zi (G.map List.length)).map .int))) [] := by
      have := eLc_em (g := gNm 6) (e := eApp bLenD (aCons (eVar 6) aNil)) (vs := [6]) tz (fun T => .int (T.length : Nat)) (iSeq_ok (f := eVar 5) (r := [some (ti xs), some (.d (.tuple ((trgs xs N).map fun n => .tuple (n.map .int)))), some (.d (.list ((trgs xs N).map fun n => .tuple (n.map .int)))), some (.d (.int N)), some (.d (.list (zd es))), some (.d (.list (G.map tz))), none, none, none]) (S := []) (v := .d (.list (G.map tz))) rfl rfl (by rw [List.length_map]; exact small_line (by omega))) (by omega) fun T hT =>
        ⟨[some (ti xs), some (.d (.tuple ((trgs xs N).map fun n => .tuple (n.map .int)))), some (.d (.list ((trgs xs N).map fun n => .tuple (n.map .int)))), some (.d (.int N)), some (.d (.list (zd es))), some (.d (.list (G.map tz))), some (.d (tz T)), none, none], rfl, by simp only [sCons, sRet, sSet, sEx, sNil, tE, tNt, tAn, tOr', eApp, eOp2, eOp1, eVar, eC, eLst, eTup, eSl, eRev, aCons, aNil, pNo, pSm, callN, eAn, eOr, eNt, asB, bind_ok_, to_ok_, seq_nx_, seq_ret_, fin_ret_, fin_nx_, i_add, i_sub, i_neg, lstOf, tupOf, List.getElem?_cons_succ, List.getElem?_cons_zero, List.set_cons_succ, List.set_cons_zero, List.length_cons, List.length_nil, if_true, len_tz T]⟩
      rw [this]
      unfold zi
      rw [List.map_map, List.map_map]
      rfl
    have so1 := sort_li ((trgs xs N).map fun n => (n.length : Int)) []
    rw [trgs_lens v] at so1
    have so2 : bSortA [.d (.list ((zi (G.map List.length)).map .int))] [] = .ok (li (lens xs N)) [] := by
      rw [sort_li, hG]
      rfl
    have ne := cNeL_lst (lens xs N) (lens xs N) []
    rw [decide_eq_true rfl] at ne
    unfold _law_is_right_8t
    rw [tOr', a, bind_ok_, if_neg Bool.false_ne_true]
    simp only [sCons, sRet, sSet, sEx, sNil, tE, tNt, tAn, tOr', eApp, eOp2, eOp1, eVar, eC, eLst, eTup, eSl, eRev, aCons, aNil, pNo, pSm, callN, eAn, eOr, eNt, asB, bind_ok_, to_ok_, seq_nx_, seq_ret_, fin_ret_, fin_nx_, i_add, i_sub, i_neg, lstOf, tupOf, List.getElem?_cons_succ, List.getElem?_cons_zero, List.set_cons_succ, List.set_cons_zero, List.length_cons, List.length_nil, if_true, c1, c2, so1, so2, ne]
    rfl
  have t9 : _law_is_right_9t [some (ti xs), some (.d (.tuple ((trgs xs N).map fun n => .tuple (n.map .int)))), some (.d (.list ((trgs xs N).map fun n => .tuple (n.map .int)))), some (.d (.int N)), some (.d (.list (zd es))), some (.d (.list (G.map tz))), none, none, none] [] = .ok false [] := by
    have kb := k_breaks v []
    have bl : bList [ti (bps xs N)] [] = .ok (li (bps xs N)) [] := rfl
    have mk1 : ∀ (a : PyData) (S : Sto), mkTup [.d a] S = .ok (.d (.tuple [a])) S := fun _ _ => rfl
    have c := eLc_e (g := gNm 7) (t := tE (eOp2 (cInF true) (eTup (aCons (eVar 7) aNil)) (eVar 5))) (e := eVar 7) (vs := [7]) (fun (p : Nat) => PyData.int (p : Int)) (fun p => !decide ([(p : Int)] ∈ (rgs xs N).map zi)) (fun p => .int (p : Nat))
      (iR_pts v (f := eOp2 oAdd (eVar 3) (eC (.int 1))) (r := [some (ti xs), some (.d (.tuple ((trgs xs N).map fun n => .tuple (n.map .int)))), some (.d (.list ((trgs xs N).map fun n => .tuple (n.map .int)))), some (.d (.int N)), some (.d (.list (zd es))), some (.d (.list (G.map tz))), none, none, none]) (S := []) (by simp only [sCons, sRet, sSet, sEx, sNil, tE, tNt, tAn, tOr', eApp, eOp2, eOp1, eVar, eC, eLst, eTup, eSl, eRev, aCons, aNil, pNo, pSm, callN, eAn, eOr, eNt, asB, bind_ok_, to_ok_, seq_nx_, seq_ret_, fin_ret_, fin_nx_, i_add, i_sub, i_neg, lstOf, tupOf, List.getElem?_cons_succ, List.getElem?_cons_zero, List.set_cons_succ, List.set_cons_zero, List.length_cons, List.length_nil, if_true, ])) (by rw [List.length_range]; omega) fun p hp => by
        have i := in_tups true [(p : Int)] ((rgs xs N).map zi) []
        rw [← tz_map, ← hG] at i
        have i : cInF true (.d (.tuple [.int (p : Int)])) (.d (.list (G.map tz))) [] = .ok (.d (.bool (!decide ([(p : Int)] ∈ (rgs xs N).map zi)))) [] := by rw [← hG]; exact i
        exact ⟨[some (ti xs), some (.d (.tuple ((trgs xs N).map fun n => .tuple (n.map .int)))), some (.d (.list ((trgs xs N).map fun n => .tuple (n.map .int)))), some (.d (.int N)), some (.d (.list (zd es))), some (.d (.list (G.map tz))), none, some (.d (.int p)), none], rfl, by simp only [sCons, sRet, sSet, sEx, sNil, tE, tNt, tAn, tOr', eApp, eOp2, eOp1, eVar, eC, eLst, eTup, eSl, eRev, aCons, aNil, pNo, pSm, callN, eAn, eOr, eNt, asB, bind_ok_, to_ok_, seq_nx_, seq_ret_, fin_ret_, fin_nx_, i_add, i_sub, i_neg, lstOf, tupOf, List.getElem?_cons_succ, List.getElem?_cons_zero, List.set_cons_succ, List.set_cons_zero, List.length_cons, List.length_nil, if_true, mk1, i], fun _ => rfl⟩
    have e : ((List.range (xs.length + 1)).filter fun (p : Nat) => !decide ([(p : Int)] ∈ (rgs xs N).map zi)).map (fun p => PyData.int (p : Nat)) = (bps xs N).map .int := by
      rw [← bps_rings v]
      unfold zi
      rw [List.map_map]
      rfl
    rw [e] at c
    have ne := cNeL_lst (bps xs N) (bps xs N) []
    rw [decide_eq_true rfl] at ne
    unfold _law_is_right_9t
    simp only [sCons, sRet, sSet, sEx, sNil, tE, tNt, tAn, tOr', eApp, eOp2, eOp1, eVar, eC, eLst, eTup, eSl, eRev, aCons, aNil, pNo, pSm, callN, eAn, eOr, eNt, asB, bind_ok_, to_ok_, seq_nx_, seq_ret_, fin_ret_, fin_nx_, i_add, i_sub, i_neg, lstOf, tupOf, List.getElem?_cons_succ, List.getElem?_cons_zero, List.set_cons_succ, List.set_cons_zero, List.length_cons, List.length_nil, if_true, c, kb, bl, ne]
    rfl
  have t10 : _law_is_right_10 [some (ti xs), some (.d (.tuple ((trgs xs N).map fun n => .tuple (n.map .int)))), some (.d (.list ((trgs xs N).map fun n => .tuple (n.map .int)))), some (.d (.int N)), some (.d (.list (zd es))), some (.d (.list (G.map tz))), none, none, none] [] = .ret (.d (.bool true)) [] := by
    obtain ⟨zs, w, hb, _, kb⟩ := k_back_ex v
    have kl1 := k_lengths w []
    rw [lens_back v w hb] at kl1
    have kl2 := k_lengths v []
    have e1 := cEqL_tup (lens xs N) (lens xs N) []
    rw [decide_eq_true rfl] at e1
    have l5 := len_lst (ds := G.map tz) (by rw [List.length_map]; omega) []
    rw [List.length_map] at l5
    have e2 := cEqL_int (G.length : Nat) (N + 1) []
    have kh := k_law_home (N := N) hlo hhi []
    have e3 := cEqL_tup xs (rgI 1 (N + 1)) []
    have hd : decide ((G.length : Int) = N + 1) = decide (xs = rgI 1 (N + 1)) := by
      rw [decide_eq_decide, ← home_iff v, hG]
      omega
    rw [hd] at e2
    have e4 := eq_bool (decide (xs = rgI 1 (N + 1))) (decide (xs = rgI 1 (N + 1))) []
    rw [decide_eq_true rfl] at e4
    unfold _law_is_right_10
    simp only [sCons, sRet, sSet, sEx, sNil, tE, tNt, tAn, tOr', eApp, eOp2, eOp1, eVar, eC, eLst, eTup, eSl, eRev, aCons, aNil, pNo, pSm, callN, eAn, eOr, eNt, asB, bind_ok_, to_ok_, seq_nx_, seq_ret_, fin_ret_, fin_nx_, i_add, i_sub, i_neg, lstOf, tupOf, List.getElem?_cons_succ, List.getElem?_cons_zero, List.set_cons_succ, List.set_cons_zero, List.length_cons, List.length_nil, if_true, kb, kl1, kl2, e1, l5, e2, kh, e3, e4]
  rw [_law_is_right_eq, u]
  unfold _law_is_rightb
  rw [sc_nx s1, sc_nx (show _law_is_right_2 _ _ = .nx _ _ from si_no t2), sc_nx (show _law_is_right_3 _ _ = .nx _ _ from si_no t3), sc_nx (show _law_is_right_4 _ _ = .nx _ _ from si_no t4), sc_nx (show _law_is_right_5 _ _ = .nx _ _ from si_no t5), sc_nx s6, sc_nx s7,
    sc_nx (show _law_is_right_8 _ _ = .nx _ _ from si_no t8), sc_nx (show _law_is_right_9 _ _ = .nx _ _ from si_no t9)]
  unfold sCons
  rw [t10]
  rfl
theorem k_is_right (v : VR xs N) (S : Sto) : callW backW f__law_is_right [ti xs] S = .ok (.d (.bool true)) S := call_pure (is := [ti xs]) rfl (is_right_ok v) rfl
end
end K44
set_option maxRecDepth 100000
set_option maxHeartbeats 4000000
namespace K44
open PySem L2 MI GA GM
theorem laps {lo hi : Int} (h0 : 1 ≤ lo) (h1 : lo ≤ hi) (h2 : hi ≤ 20) {m : Int} (m0 : 0 ≤ m) (m1 : m ≤ 10) {n k : Nat} {ds : List PyData} {S : Sto} (hp : Pot n ds) (hn : n ≤ 500000) (hS : S[k]? = some (.lst ds)) {p0 p1 p3 : Option IV} :
    ∃ S' es, tNt (tE (eApp bAll (aCons (eLc (iR1 (eC (.int m))) (gNm 3) tYe (eApp (callN 1 f__law_is_right) (aCons (eApp (callN 3 f__law_row) (aCons (eVar 2) (aCons (eC (.int lo)) (aCons (eC (.int hi)) aNil)))) aNil)) [3]) aNil))) [p0, p1, some (.ref k), p3] S = .ok false S' ∧ S'[k]? = some (.lst es) ∧ Pot (n + 3000) es := by
  have hr : (rngD 0 m).length = m.toNat := by rw [rngD_rg, List.length_map, len_rgI]; omega
  have hi' : iR1 (eC (.int m)) [p0, p1, some (.ref k), p3] S = .ok (rngD 0 m) S := iR1_ok rfl (by omega)
  obtain ⟨all, S', e, bs, e1, e2, es, e3, e4⟩ := eLc_inv (g := gNm 3) (t := tYe) (e := eApp (callN 1 f__law_is_right) (aCons (eApp (callN 3 f__law_row) (aCons (eVar 2) (aCons (eC (.int lo)) (aCons (eC (.int hi)) aNil)))) aNil)) (vs := [3]) hi' (by rw [hr]; omega)
    (fun i acc S => ∃ bs : List Bool, acc = bs.map (fun _ => .bool true) ∧ bs.length = i ∧ ∃ es, S[k]? = some (.lst es) ∧ Pot (n + i * 300) es)
    (fun i acc S d hd ⟨bs, e1, e2, es, e3, e4⟩ => by
      have hi2 : i < m.toNat := by have := (List.getElem?_eq_some_iff.mp hd).1; rw [hr] at this; exact this
      obtain ⟨xs, N, fs, v, _, _, c, p⟩ := c_row h0 h1 h2 e4 (by omega) e3
      have kr := k_is_right v (S.set k (.lst fs))
      refine ⟨[p0, p1, some (.ref k), some (.d d)], S, true, S, rfl, rfl, ?_⟩
      rw [if_pos rfl]
      exact ⟨.bool true, S.set k (.lst fs), by simp only [sCons, sRet, sSet, sEx, sNil, tE, tNt, tAn, tOr', eApp, eOp2, eOp1, eVar, eC, eLst, eTup, eSl, eRev, aCons, aNil, pNo, pSm, callN, eAn, eOr, eNt, asB, bind_ok_, to_ok_, seq_nx_, seq_ret_, fin_ret_, fin_nx_, i_add, i_sub, i_neg, lstOf, tupOf, List.getElem?_cons_succ, List.getElem?_cons_zero, List.set_cons_succ, List.set_cons_zero, List.length_cons, List.length_nil, if_true, c, kr], bs ++ [true], by rw [e1]; simp, by simp [e2], fs, put_at e3, p.mono (by omega)⟩)
    ⟨[], rfl, rfl, ds, hS, by simpa using hp⟩
  subst e1
  rw [hr] at e2 e4
  have a := all_p bs (fun _ => true) S'
  have z : bs.all (fun _ => true) = true := by simp
  rw [z] at a
  refine ⟨S', es, ?_, e3, e4.mono (by omega)⟩
  simp only [sCons, sRet, sSet, sEx, sNil, tE, tNt, tAn, tOr', eApp, eOp2, eOp1, eVar, eC, eLst, eTup, eSl, eRev, aCons, aNil, pNo, pSm, callN, eAn, eOr, eNt, asB, bind_ok_, to_ok_, seq_nx_, seq_ret_, fin_ret_, fin_nx_, i_add, i_sub, i_neg, lstOf, tupOf, List.getElem?_cons_succ, List.getElem?_cons_zero, List.set_cons_succ, List.set_cons_zero, List.length_cons, List.length_nil, if_true, e, a]
  rfl
theorem place_ok {ns : List Int} (hl : ns.length ≤ 63) {p : Int} (p0 : 0 ≤ p) (p1 : p ≤ 10) {S : Sto} {w2 w3 : Option IV} :
    ∃ r' S', law_1b [some (.scr ns), some (.d (.int p)), w2, w3] S = .nx r' S' ∧ ∃ w1 w2 w3, r' = [some (.scr ns), w1, w2, w3] := by
  obtain ⟨ds, k0, hp⟩ := call_potL (cellA_ok (m := 1000159) (a := 6211) (b := 907) (by decide) (by decide)) (c := 71917) (d := 5309) (e := 1451) (by decide) ns p0 p1 hl S
  rw [← pot_eq] at k0
  have s1 : law_1_1 [some (.scr ns), some (.d (.int p)), w2, w3] S = .nx [some (.scr ns), some (.d (.int p)), some (.ref S.length), w3] (S ++ [.lst ds]) := by
    unfold law_1_1
    simp only [sCons, sRet, sSet, sEx, sNil, tE, tNt, tAn, tOr', eApp, eOp2, eOp1, eVar, eC, eLst, eTup, eSl, eRev, aCons, aNil, pNo, pSm, callN, eAn, eOr, eNt, asB, bind_ok_, to_ok_, seq_nx_, seq_ret_, fin_ret_, fin_nx_, i_add, i_sub, i_neg, lstOf, tupOf, List.getElem?_cons_succ, List.getElem?_cons_zero, List.set_cons_succ, List.set_cons_zero, List.length_cons, List.length_nil, if_true, k0]
  obtain ⟨S1, e1, t1, g1, q1⟩ := laps (lo := 1) (hi := 6) (m := 4) (S := S ++ [.lst ds]) (k := S.length) (by omega) (by omega) (by omega) (by omega) (by omega) hp (by omega) (by simp) (p0 := some (.scr ns)) (p1 := some (.d (.int p))) (p3 := w3)
  obtain ⟨S2, e2, t2, g2, q2⟩ := laps (lo := 7) (hi := 20) (m := 2) (S := S1) (k := S.length) (by omega) (by omega) (by omega) (by omega) (by omega) q1 (by omega) g1 (p0 := some (.scr ns)) (p1 := some (.d (.int p))) (p3 := w3)
  have tt : law_1_2t [some (.scr ns), some (.d (.int p)), some (.ref S.length), w3] (S ++ [.lst ds]) = .ok false S2 := by
    unfold law_1_2t
    rw [tOr', t1, bind_ok_, if_neg Bool.false_ne_true, t2]
  obtain ⟨t, e3, c3, t0, t1', q3⟩ := c_take (u := 20) (k := S.length) (S := S2) q2 (by omega) (by omega) (by omega) g2
  have kh := k_law_home (N := 1 + t) (by omega) (by omega) (S2.set S.length (.lst e3))
  have kr := k_is_right (vr_home (N := 1 + t) (by omega) (by omega)) (S2.set S.length (.lst e3))
  have t3 : law_1_3t [some (.scr ns), some (.d (.int p)), some (.ref S.length), w3] S2 = .ok false (S2.set S.length (.lst e3)) := by
    unfold law_1_3t
    simp only [sCons, sRet, sSet, sEx, sNil, tE, tNt, tAn, tOr', eApp, eOp2, eOp1, eVar, eC, eLst, eTup, eSl, eRev, aCons, aNil, pNo, pSm, callN, eAn, eOr, eNt, asB, bind_ok_, to_ok_, seq_nx_, seq_ret_, fin_ret_, fin_nx_, i_add, i_sub, i_neg, lstOf, tupOf, List.getElem?_cons_succ, List.getElem?_cons_zero, List.set_cons_succ, List.set_cons_zero, List.length_cons, List.length_nil, if_true, c3, kh, kr]
    rfl
  refine ⟨[some (.scr ns), some (.d (.int p)), some (.ref S.length), w3], S2.set S.length (.lst e3), ?_, _, _, _, rfl⟩
  unfold law_1b
  rw [sc_nx s1, sc_nx (show law_1_2 _ _ = .nx _ _ from si_no tt), sc_nx (show law_1_3 _ _ = .nx _ _ from si_no t3)]
  rfl
theorem plain (ns : List Int) (hl : ns.length ≤ 63) : ∃ S, f_law [.scr ns] [] = .ok (.d (.bool true)) S := by
  obtain ⟨c, c0, c1, hc⟩ := cells_ok ns 3 (by omega) (by omega) hl
  rw [← cells_eq] at hc
  have kc := call_pure (S := []) (is := [.scr ns, .d (.int 3)]) rfl hc rfl
  have it : law_1i [some (.scr ns), none, none, none] [] = .ok ((rgI 0 c).map .int) [] := by
    refine iSeq_ok (v := li (rgI 0 c)) ?_ rfl (by rw [size_line, List.length_map, len_rgI]; omega)
    simp only [sCons, sRet, sSet, sEx, sNil, tE, tNt, tAn, tOr', eApp, eOp2, eOp1, eVar, eC, eLst, eTup, eSl, eRev, aCons, aNil, pNo, pSm, callN, eAn, eOr, eNt, asB, bind_ok_, to_ok_, seq_nx_, seq_ret_, fin_ret_, fin_nx_, i_add, i_sub, i_neg, lstOf, tupOf, List.getElem?_cons_succ, List.getElem?_cons_zero, List.set_cons_succ, List.set_cons_zero, List.length_cons, List.length_nil, if_true, kc]
  obtain ⟨r', S', e, w1, w2, w3, e1⟩ := forL_pass (g := gNm 1) (b := law_1b) (ds := (rgI 0 c).map .int) (fun r S => ∃ w1 w2 w3, r = [some (.scr ns), w1, w2, w3])
    (fun d hd r S ⟨w1, w2, w3, e1⟩ => by
      obtain ⟨p, hp, rfl⟩ := List.mem_map.mp hd
      have hp := mem_rgI.mp hp
      subst e1
      exact place_ok (S := S) hl (p := p) (by omega) (by omega))
    (r := [some (.scr ns), none, none, none]) (S := []) ⟨none, none, none, rfl⟩
  subst e1
  refine ⟨S', ?_⟩
  have u : ∀ fs : FS, fnB 4 fs [.scr ns] [] = (fs [some (.scr ns), none, none, none] []).fin := fun _ => rfl
  rw [law_eq, u]
  unfold lawb law_1
  rw [sc_nx ((sf_eq it).trans e)]
  unfold law_2
  simp only [sCons, sRet, sSet, sEx, sNil, tE, tNt, tAn, tOr', eApp, eOp2, eOp1, eVar, eC, eLst, eTup, eSl, eRev, aCons, aNil, pNo, pSm, callN, eAn, eOr, eNt, asB, bind_ok_, to_ok_, seq_nx_, seq_ret_, fin_ret_, fin_nx_, i_add, i_sub, i_neg, lstOf, tupOf, List.getElem?_cons_succ, List.getElem?_cons_zero, List.set_cons_succ, List.set_cons_zero, List.length_cons, List.length_nil, if_true, ]
end K44
open PySem PySem.W PySem.Calls PyProof.Rows
theorem PySem.Challenge.cw_endforend_k44_whole_ends_ties_and_rings_holds : PySem.Challenge.rw_endforend_k44_whole_ends_ties_and_rings.Holds := by
  w_on; o_law
  refine HandSHeadRun.head_any (r := OpenLaw.row PySem.Challenge.rw_endforend_k44_whole_ends_ties_and_rings) (q := view (OpenLaw.row PySem.Challenge.rw_endforend_k44_whole_ends_ties_and_rings).prog [48]) (H := K44.hk) (ob := K44.ob) (M := 4000) (loose := K44.loose) (d := HandSHeadRun.topDef (OpenLaw.row PySem.Challenge.rw_endforend_k44_whole_ends_ties_and_rings).prog 48) (kwd := []) K44.ob_eq
    (by kernel_rfl) (fun s => by kernel_rfl) K44.run (by kernel_rfl) (by kernel_rfl) (by kernel_rfl) (by rfl) (by first | assumption | decide +kernel) (by decide +kernel) ⟨rfl, rfl, rfl, rfl, rfl, by decide +kernel⟩ ?hw ?hc
  case hw => w_witness2
  case hc =>
    refine MI.walk_G (l := PySem.Challenge.rw_endforend_k44_whole_ends_ties_and_rings) (n := 63) (k := 7) (x := "script") (g := K44.f_law) rfl (by decide) (by kernel_rfl) ⟨rfl, by decide, by decide⟩ ?F K44.plain
    intro w mg fa h Y G hmg0
    have hmg : mg ("law" : PySem.Str) = some (.ref fa) := by
      have e : (HandSHeadRun.topDef (OpenLaw.row PySem.Challenge.rw_endforend_k44_whole_ends_ties_and_rings).prog 48).name = ("law" : PySem.Str) := by kernel_rfl
      rw [← e]
      exact hmg0
    exact K44.facts w mg fa h Y G hmg
