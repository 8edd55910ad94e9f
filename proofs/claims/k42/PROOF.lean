import PyProof.Rows.All
import Wide.All
import OpenK.AllK
import Wide.FinOn
import HandS.ForMost
import HandS.ForExc
import HandS.Walk
import HandS.CallSlots
import HandS.TupAny
import HandS.Star
import HandS.Wide
import HandS.Style
import HandS.Deep
import HandS.IsInst
import HandS.RaiseMore
import HandS.SortInts
import HandS.Conv
import HandS.Zip
import HandS.SetFor
import HandS.Strs
import HandS.Ends
import HandS.HeadEnd
import HandS.Defaults
import HandS.Head2
import HandS.HeadHook2
import PySem.Challenge.RW_endforend_k42_whole_points_and_strips
import HandS.Head0
import HandS.Head1
import HandS.HeadHook1
import PyProof.Rows.RegStrFacts
set_option Elab.async false
set_option linter.all false
set_option maxRecDepth 100000
set_option maxHeartbeats 4000000
namespace MI
open PySem L2

/-! ## values, stores, outcomes -/
inductive IV where
  | d (x : PyData)
  | ref (n : Nat)
  | gl (x : Str)
  | tup (xs : List IV)
  | clo (k : Nat) (vs : List IV)
  | exc (c : Str) (v : PyData)
  | scr (ns : List Int)
inductive IO where
  | lst (xs : List PyData)
  | lsx (xs : List IV)
  | dct (kvs : List (PyData × PyData))
abbrev Sto := List IO
abbrev Rho := List (Option IV)
inductive Out (α : Type) where
  | ok (a : α) (S : Sto)
  | exn (c : Str) (v : PyData) (S : Sto)
  | bad
def Out.bind {α β : Type} (o : Out α) (f : α → Sto → Out β) : Out β := match o with
  | .ok a S => f a S
  | .exn c v S => .exn c v S
  | .bad => .bad
abbrev FE := Rho → Sto → Out IV
abbrev FT := Rho → Sto → Out Bool
abbrev FA := Rho → Sto → Out (List IV)

/-! ## the relation -/
structure Ct where
  K : PySem.W.Frag
  mg : Str → Option Value
def KTup (K : PySem.W.Frag) (a : Addr) (xs : List V) : Prop :=
  ∃ (o : Obj) (its : Array Value) (n : Nat), K.lookup a = some o ∧ o.cls = .type "tuple" ∧ o.data = .seq its n ∧ its.size ≤ sizeLine ∧ Vals xs its.toList
def KLst (K : PySem.W.Frag) (a : Addr) (xs : List V) : Prop :=
  ∃ (o : Obj) (its : Array Value) (n : Nat), K.lookup a = some o ∧ o.cls = .type "list" ∧ o.dict = none ∧ o.data = .seq its n ∧ its.size ≤ sizeLine ∧ Vals xs its.toList
mutual
inductive RD (K : PySem.W.Frag) (H : Hp) (bd : List Addr) : PyData → V → Prop
  | non : RD K H bd .none .non
  | bl (b : Bool) : RD K H bd (.bool b) (.bl b)
  | int (i : Int) : RD K H bd (.int i) (.int i)
  | str (x : Str) : RD K H bd (.str x) (.str x)
  | lst {a : Addr} {xs : List V} {ds : List PyData} (h : H a = some (.lst xs)) (hb : a ∉ bd) (r : RDs K H bd ds xs) : RD K H bd (.list ds) (.ref a)
  | tup {a : Addr} {xs : List V} {ds : List PyData} (h : H a = some (.tup xs)) (hb : a ∉ bd) (r : RDs K H bd ds xs) : RD K H bd (.tuple ds) (.ref a)
  | tupK {a : Addr} {xs : List V} {ds : List PyData} (h : KTup K a xs) (r : RDs K H bd ds xs) : RD K H bd (.tuple ds) (.ref a)
inductive RDs (K : PySem.W.Frag) (H : Hp) (bd : List Addr) : List PyData → List V → Prop
  | nil : RDs K H bd [] []
  | cons {d : PyData} {ds : List PyData} {v : V} {vs : List V} (h : RD K H bd d v) (t : RDs K H bd ds vs) : RDs K H bd (d :: ds) (v :: vs)
end
mutual
inductive RI (c : Ct) (H : Hp) (B Z : List Addr) : IV → V → Prop
  | d {x : PyData} {v : V} (h : RD c.K H (B ++ Z) x v) : RI c H B Z (.d x) v
  | ref {n : Nat} {b : Addr} (h : B[n]? = some b) : RI c H B Z (.ref n) (.ref b)
  | gl {x : Str} {a : Addr} (h : c.mg x = some (.ref a)) : RI c H B Z (.gl x) (.ref a)
  | tup {a : Addr} {xs : List V} {vs : List IV} (h : H a = some (.tup xs)) (hb : a ∉ B ++ Z) (r : RIs c H B Z vs xs) : RI c H B Z (.tup vs) (.ref a)
  | scr {a : Addr} {ns : List Int} (h : Rd H a (.lst (ns.map V.int))) (hb : a ∉ B ++ Z) : RI c H B Z (.scr ns) (.ref a)
  | scrK {a : Addr} {ns : List Int} (h : KLst c.K a (ns.map V.int)) : RI c H B Z (.scr ns) (.ref a)
inductive RIs (c : Ct) (H : Hp) (B Z : List Addr) : List IV → List V → Prop
  | nil : RIs c H B Z [] []
  | cons {i : IV} {is : List IV} {v : V} {vs : List V} (h : RI c H B Z i v) (t : RIs c H B Z is vs) : RIs c H B Z (i :: is) (v :: vs)
end
def RO (c : Ct) (H : Hp) (B Z : List Addr) (b : Addr) : IO → Prop
  | .lst ds => ∃ xs, H b = some (.lst xs) ∧ RDs c.K H (B ++ Z) ds xs
  | .lsx vs => ∃ xs, H b = some (.lst xs) ∧ RIs c H B Z vs xs
  | .dct _ => False
/-- the store S stands at the addresses B; Z: what others may change -/
structure SR (c : Ct) (H : Hp) (B Z : List Addr) (S : Sto) : Prop where
  len : B.length = S.length
  nd : B.Nodup
  zt : ∀ z, z ∈ Z → H z ≠ none
  zb : ∀ z, z ∈ Z → z ∉ B
  ob : ∀ (n : Nat) (b : Addr) (o : IO), B[n]? = some b → S[n]? = some o → RO c H B Z b o
/-- how heaps go on -/
structure Ev (B : List Addr) (H : Hp) (B' : List Addr) (H' : Hp) : Prop where
  pre : ∃ N, B' = B ++ N ∧ ∀ b, b ∈ N → H b = none
  keep : ∀ a o, H a = some o → a ∉ B → H' a = some o
  trk : ∀ b, b ∈ B' → H' b ≠ none
theorem RO.there {c : Ct} {H : Hp} {B Z : List Addr} {b : Addr} {o : IO} (h : RO c H B Z b o) : H b ≠ none := by
  cases o with
  | lst ds => obtain ⟨xs, e, _⟩ := h; rw [e]; simp
  | lsx ds => obtain ⟨xs, e, _⟩ := h; rw [e]; simp
  | dct _ => exact h.elim
theorem SR.trk {c : Ct} {H : Hp} {B Z : List Addr} {S : Sto} (s : SR c H B Z S) : ∀ b, b ∈ B → H b ≠ none := fun b hb => by
  obtain ⟨n, hn⟩ := List.getElem?_of_mem hb
  have hl : n < S.length := by rw [← s.len]; exact (List.getElem?_eq_some_iff.mp hn).1
  exact (s.ob n b _ hn (List.getElem?_eq_getElem hl)).there
theorem Ev.refl {c : Ct} {H : Hp} {B Z : List Addr} {S : Sto} (s : SR c H B Z S) : Ev B H B H := ⟨⟨[], by simp, fun _ h => by cases h⟩, fun _ _ h _ => h, s.trk⟩
theorem Ev.trans {H H1 H2 : Hp} {B B1 B2 : List Addr} (e : Ev B H B1 H1) (f : Ev B1 H1 B2 H2) : Ev B H B2 H2 := by
  obtain ⟨N, rfl, n1⟩ := e.pre
  obtain ⟨N2, rfl, n2⟩ := f.pre
  have key : ∀ b, H1 b = none → H b = none := fun b hb => by
    by_cases hB : b ∈ B
    · exact absurd hb (e.trk b (List.mem_append_left _ hB))
    · cases q : H b with
      | none => rfl
      | some o => have z := e.keep b o q hB; rw [hb] at z; cases z
  refine ⟨⟨N ++ N2, by rw [List.append_assoc], fun b hb => ?_⟩, fun a o h hB => ?_, f.trk⟩
  · rcases List.mem_append.mp hb with h | h
    · exact n1 b h
    · exact key b (n2 b h)
  · refine f.keep a o (e.keep a o h hB) fun hm => ?_
    rcases List.mem_append.mp hm with z | z
    · exact hB z
    · rw [n1 a z] at h; cases h
theorem rd_mono {H H' : Hp} {a : Addr} {u : HO} (r : Rd H a u) (k : ∀ o, H a = some o → H' a = some o) : Rd H' a u := by
  rcases r with r | ⟨o, r⟩
  · exact .inl (k _ r)
  · exact .inr ⟨o, k _ r⟩
theorem rd_there {H : Hp} {a : Addr} {u : HO} (r : Rd H a u) : H a ≠ none := by
  rcases r with r | ⟨o, r⟩ <;> (rw [r]; simp)
section
variable {K : PySem.W.Frag} {H H' : Hp} {bd bd' : List Addr}
mutual
theorem RD.mono (k : ∀ a o, H a = some o → a ∉ bd → H' a = some o) (g : ∀ a, a ∈ bd' → a ∈ bd ∨ H a = none) : ∀ {d : PyData} {v : V}, RD K H bd d v → RD K H' bd' d v
  | _, _, .non => .non
  | _, _, .bl b => .bl b
  | _, _, .int i => .int i
  | _, _, .str x => .str x
  | _, _, .lst h hb r => .lst (k _ _ h hb) (fun m => (g _ m).elim hb fun z => by rw [h] at z; cases z) (RDs.mono k g r)
  | _, _, .tup h hb r => .tup (k _ _ h hb) (fun m => (g _ m).elim hb fun z => by rw [h] at z; cases z) (RDs.mono k g r)
  | _, _, .tupK h r => .tupK h (RDs.mono k g r)
theorem RDs.mono (k : ∀ a o, H a = some o → a ∉ bd → H' a = some o) (g : ∀ a, a ∈ bd' → a ∈ bd ∨ H a = none) : ∀ {d : List PyData} {v : List V}, RDs K H bd d v → RDs K H' bd' d v
  | _, _, .nil => .nil
  | _, _, .cons h t => .cons (RD.mono k g h) (RDs.mono k g t)
end
end
theorem Ev.far {H H' : Hp} {B B' Z : List Addr} (e : Ev B H B' H') : ∀ a, a ∈ B' ++ Z → a ∈ B ++ Z ∨ H a = none := fun a h => by
  obtain ⟨N, rfl, n⟩ := e.pre
  rcases List.mem_append.mp h with h | h
  · rcases List.mem_append.mp h with h | h
    · exact .inl (List.mem_append_left _ h)
    · exact .inr (n a h)
  · exact .inl (List.mem_append_right _ h)
theorem Ev.kp {H H' : Hp} {B B' Z : List Addr} (e : Ev B H B' H') : ∀ a o, H a = some o → a ∉ B ++ Z → H' a = some o := fun a o h hb => e.keep a o h fun m => hb (List.mem_append_left _ m)
theorem RD.ev {K : PySem.W.Frag} {H H' : Hp} {B B' Z : List Addr} (e : Ev B H B' H') {d : PyData} {v : V} (r : RD K H (B ++ Z) d v) : RD K H' (B' ++ Z) d v := r.mono e.kp e.far
theorem RDs.ev {K : PySem.W.Frag} {H H' : Hp} {B B' Z : List Addr} (e : Ev B H B' H') {d : List PyData} {v : List V} (r : RDs K H (B ++ Z) d v) : RDs K H' (B' ++ Z) d v := r.mono e.kp e.far
section
variable {c : Ct} {H H' : Hp} {B B' Z : List Addr}
mutual
theorem RI.ev (e : Ev B H B' H') : ∀ {i : IV} {v : V}, RI c H B Z i v → RI c H' B' Z i v
  | _, _, .d h => .d (h.ev e)
  | _, _, .ref h => .ref (by
      obtain ⟨N, rfl, _⟩ := e.pre
      rw [List.getElem?_append_left (List.getElem?_eq_some_iff.mp h).1]; exact h)
  | _, _, .gl h => .gl h
  | _, _, .tup h hb r => .tup (e.kp _ _ h hb) (fun m => (e.far _ m).elim hb fun z => by rw [h] at z; cases z) (RIs.ev e r)
  | _, _, .scr h hb => .scr (rd_mono h fun o q => e.kp _ o q hb) (fun m => (e.far _ m).elim hb (rd_there h))
  | _, _, .scrK h => .scrK h
theorem RIs.ev (e : Ev B H B' H') : ∀ {i : List IV} {v : List V}, RIs c H B Z i v → RIs c H' B' Z i v
  | _, _, .nil => .nil
  | _, _, .cons h t => .cons (RI.ev e h) (RIs.ev e t)
end
end
/-- slots -/
structure RR (c : Ct) (H : Hp) (B Z : List Addr) (r : Rho) (σ : L2.St) : Prop where
  len : r.length = σ.length
  at_ : ∀ (i : Nat) (v : IV), r[i]? = some (some v) → ∃ x, σ[i]? = some (some x) ∧ RI c H B Z v x
theorem RR.ev {c : Ct} {H H' : Hp} {B B' Z : List Addr} {r : Rho} {σ : L2.St} (e : Ev B H B' H') (h : RR c H B Z r σ) : RR c H' B' Z r σ := ⟨h.len, fun i v q => by
  obtain ⟨x, h1, h2⟩ := h.at_ i v q
  exact ⟨x, h1, h2.ev e⟩⟩
theorem RR.set {c : Ct} {H : Hp} {B Z : List Addr} {r : Rho} {σ : L2.St} (h : RR c H B Z r σ) {v : IV} {x : V} (hv : RI c H B Z v x) (i : Nat) : RR c H B Z (r.set i (some v)) (σ.set i (some x)) := by
  refine ⟨by rw [List.length_set, List.length_set]; exact h.len, fun j w q => ?_⟩
  by_cases hj : i = j
  · subst hj
    by_cases hl : i < r.length
    · rw [List.getElem?_set_self hl] at q
      cases q
      exact ⟨x, List.getElem?_set_self (by rw [← h.len]; exact hl), hv⟩
    · rw [List.getElem?_eq_none (by simpa using hl)] at q; cases q
  · rw [List.getElem?_set_ne hj] at q
    obtain ⟨y, h1, h2⟩ := h.at_ j w q
    exact ⟨y, by rw [List.getElem?_set_ne hj]; exact h1, h2⟩
/-- exceptions of the program's own classes -/
def RX (c : Ct) (H : Hp) (bd : List Addr) (n : Str) (v : PyData) (cls : Value) (dd : Option Addr) : Prop :=
  ∃ C dx y, c.mg n = some (.ref C) ∧ cls = .ref C ∧ dd = some dx ∧ H dx = some (.xd [("value", y)]) ∧ RD c.K H bd v y

/-- behind an outcome -/
def Post (c : Ct) (W : WX) (B Z : List Addr) (H : Hp) (σ : L2.St) {α : Type} (o : Out α) (Q : α → Sto → List Addr → Hp → Prop) : Prop := match o with
  | .ok v S' => ∀ B' H', Ev B H B' H' → SR c H' B' Z S' → Q v S' B' H'
  | .exn n v S' => ∀ cls dd B' H', Ev B H B' H' → SR c H' B' Z S' → RX c H' (B' ++ Z) n v cls dd → W cls dd σ H'
  | .bad => False
section
variable {c : Ct} {W : WX} {B Z B1 : List Addr} {H H1 : Hp} {σ : L2.St} {α β : Type}
theorem Post.far {o : Out α} {Q : α → Sto → List Addr → Hp → Prop} (e : Ev B H B1 H1) (h : Post c W B Z H σ o Q) : Post c W B1 Z H1 σ o Q := by
  cases o with
  | ok v S => exact fun B' H' f s => h B' H' (e.trans f) s
  | exn n v S => exact fun cls dd B' H' f s r => h cls dd B' H' (e.trans f) s r
  | bad => exact h
theorem Post.imp {o : Out α} {Q R : α → Sto → List Addr → Hp → Prop} (h : Post c W B Z H σ o Q) (k : ∀ v S' B' H', Ev B H B' H' → SR c H' B' Z S' → Q v S' B' H' → R v S' B' H') : Post c W B Z H σ o R := by
  cases o with
  | ok v S => exact fun B' H' f s => k v S B' H' f s (h B' H' f s)
  | exn n v S => exact h
  | bad => exact h
/-- one after the other -/
theorem Post.bind {o : Out α} {f : α → Sto → Out β} {Q : β → Sto → List Addr → Hp → Prop} (h : Post c W B Z H σ (o.bind f) Q) : Post c W B Z H σ o fun v S' B' H' => Post c W B' Z H' σ (f v S') Q := by
  cases o with
  | ok v S =>
    have h : Post c W B Z H σ (f v S) Q := h
    exact fun B' H' e s => h.far e
  | exn n v S => exact h
  | bad => exact h
theorem Post.ret {v : α} {S : Sto} {Q : α → Sto → List Addr → Hp → Prop} (s : SR c H B Z S) (h : Post c W B Z H σ (.ok v S) Q) : Q v S B H := h B H (Ev.refl s) s
end

/-! ## new objects -/
section
variable {c : Ct} {W : WX} {B Z : List Addr} {H : Hp} {S : Sto}
theorem SR.out {p : Addr} (s : SR c H B Z S) (hp : H p = none) : p ∉ B ++ Z := fun m => by
  rcases List.mem_append.mp m with m | m
  · exact s.trk p m hp
  · exact s.zt p m hp
theorem Ev.new {p : Addr} {o : HO} (s : SR c H B Z S) (hp : H p = none) : Ev B H B (upd H p o) := by
  refine ⟨⟨[], by simp, fun _ h => by cases h⟩, fun a u h _ => ?_, fun b hb => ?_⟩
  · rw [upd_ne (ne_of_none h hp)]; exact h
  · have nb : b ≠ p := fun e => s.trk b hb (by rw [e]; exact hp)
    rw [upd_ne nb]; exact s.trk b hb
/-- a step that leaves the store's own objects -/
theorem SR.same {H' : Hp} (s : SR c H B Z S) (e : Ev B H B H') (k : ∀ b, b ∈ B → H' b = H b) : SR c H' B Z S := by
  refine ⟨s.len, s.nd, fun z hz q => ?_, s.zb, fun n b o hb ho => ?_⟩
  · have h1 := s.zt z hz
    cases q2 : H z with
    | none => exact h1 q2
    | some u => rw [e.keep z u q2 (s.zb z hz)] at q; cases q
  · have r := s.ob n b o hb ho
    have kb := k b (List.mem_of_getElem? hb)
    cases o with
    | lst ds => obtain ⟨xs, h1, h2⟩ := r; exact ⟨xs, by rw [kb]; exact h1, h2.ev e⟩
    | lsx ds => obtain ⟨xs, h1, h2⟩ := r; exact ⟨xs, by rw [kb]; exact h1, h2.ev e⟩
    | dct _ => exact r.elim
theorem SR.new {p : Addr} {o : HO} (s : SR c H B Z S) (hp : H p = none) : SR c (upd H p o) B Z S :=
  s.same (Ev.new s hp) fun b hb => upd_ne fun e => s.trk b hb (by rw [e]; exact hp)
theorem RD.newList {p : Addr} {ds : List PyData} {xs : List V} (s : SR c H B Z S) (hp : H p = none) (r : RDs c.K H (B ++ Z) ds xs) : RD c.K (upd H p (.lst xs)) (B ++ Z) (.list ds) (.ref p) :=
  .lst upd_same (s.out hp) (r.ev (Ev.new s hp))
theorem RD.newTup {p : Addr} {ds : List PyData} {xs : List V} (s : SR c H B Z S) (hp : H p = none) (r : RDs c.K H (B ++ Z) ds xs) : RD c.K (upd H p (.tup xs)) (B ++ Z) (.tuple ds) (.ref p) :=
  .tup upd_same (s.out hp) (r.ev (Ev.new s hp))
/-- a new object of the store -/
theorem Ev.push {p : Addr} {o : HO} (s : SR c H B Z S) (hp : H p = none) : Ev B H (B ++ [p]) (upd H p o) := by
  have e := Ev.new (o := o) s hp
  refine ⟨⟨[p], rfl, fun b hb => by rw [List.mem_singleton.mp hb]; exact hp⟩, e.keep, fun b hb => ?_⟩
  rcases List.mem_append.mp hb with h | h
  · exact e.trk b h
  · rw [List.mem_singleton.mp h, upd_same]; simp
theorem SR.push {p : Addr} {o : HO} {io : IO} (s : SR c H B Z S) (hp : H p = none) (r : RO c (upd H p o) (B ++ [p]) Z p io) : SR c (upd H p o) (B ++ [p]) Z (S ++ [io]) := by
  have e := Ev.push (o := o) s hp
  have np : p ∉ B := fun m => s.trk p m hp
  refine ⟨by rw [List.length_append, List.length_append, s.len] <;> rfl, List.nodup_append.mpr ⟨s.nd, by simp, fun a ha b hb q => by rw [List.mem_singleton.mp hb] at q; exact np (q ▸ ha)⟩, fun z hz q => ?_, fun z hz m => ?_, fun n b o' hb ho => ?_⟩
  · have h1 := s.zt z hz
    cases q2 : H z with
    | none => exact h1 q2
    | some u => rw [e.keep z u q2 (s.zb z hz)] at q; cases q
  · rcases List.mem_append.mp m with m | m
    · exact s.zb z hz m
    · rw [List.mem_singleton.mp m] at hz; exact s.zt p hz hp
  · by_cases hn : n < S.length
    · rw [List.getElem?_append_left (by rw [s.len]; exact hn)] at hb
      rw [List.getElem?_append_left hn] at ho
      have r' := s.ob n b o' hb ho
      have nb : b ≠ p := fun q => np (q ▸ List.mem_of_getElem? hb)
      cases o' with
      | lst ds => obtain ⟨xs, h1, h2⟩ := r'; exact ⟨xs, by rw [upd_ne nb]; exact h1, h2.ev e⟩
      | lsx ds => obtain ⟨xs, h1, h2⟩ := r'; exact ⟨xs, by rw [upd_ne nb]; exact h1, h2.ev e⟩
      | dct _ => exact r'.elim
    · have hl := (List.getElem?_eq_some_iff.mp ho).1
      rw [List.length_append] at hl
      have en : n = S.length := by simp at hl; omega
      subst en
      rw [List.getElem?_append_right (Nat.le_refl _)] at ho
      rw [← s.len, List.getElem?_append_right (Nat.le_refl _)] at hb
      simp at ho hb
      subst ho hb
      exact r
/-- an object of the store written -/
theorem Ev.put {n : Nat} {b : Addr} {o : HO} (s : SR c H B Z S) (hb : B[n]? = some b) : Ev B H B (upd H b o) := by
  refine ⟨⟨[], by simp, fun _ h => by cases h⟩, fun a u h ha => ?_, fun a ha => ?_⟩
  · have nb : a ≠ b := fun q => ha (by rw [q]; exact List.mem_of_getElem? hb)
    rw [upd_ne nb]; exact h
  · by_cases q : a = b
    · rw [q, upd_same]; simp
    · rw [upd_ne q]; exact s.trk a ha
theorem SR.put {n : Nat} {b : Addr} {o : HO} {io : IO} (s : SR c H B Z S) (hb : B[n]? = some b) (r : RO c (upd H b o) B Z b io) : SR c (upd H b o) B Z (S.set n io) := by
  have e := Ev.put (o := o) s hb
  refine ⟨by rw [List.length_set]; exact s.len, s.nd, fun z hz q => ?_, s.zb, fun m b' o' hb' ho => ?_⟩
  · have h1 := s.zt z hz
    cases q2 : H z with
    | none => exact h1 q2
    | some u => rw [e.keep z u q2 (s.zb z hz)] at q; cases q
  · by_cases hm : n = m
    · subst hm
      rw [hb] at hb'
      cases hb'
      have hl : n < S.length := by
        have := (List.getElem?_eq_some_iff.mp ho).1
        rw [List.length_set] at this; exact this
      rw [List.getElem?_set_self hl] at ho
      cases ho
      exact r
    · rw [List.getElem?_set_ne hm] at ho
      have r' := s.ob m b' o' hb' ho
      have nb : b' ≠ b := fun q => by
        obtain ⟨h1, e1⟩ := List.getElem?_eq_some_iff.mp hb
        obtain ⟨h2, e2⟩ := List.getElem?_eq_some_iff.mp hb'
        exact hm ((List.getElem_inj s.nd).mp (e1.trans (q.symm.trans e2.symm)))
      cases o' with
      | lst ds => obtain ⟨xs, h1, h2⟩ := r'; exact ⟨xs, by rw [upd_ne nb]; exact h1, h2.ev e⟩
      | lsx ds => obtain ⟨xs, h1, h2⟩ := r'; exact ⟨xs, by rw [upd_ne nb]; exact h1, h2.ev e⟩
      | dct _ => exact r'.elim
end
/-! data, for the library's rules -/
section
variable {K : PySem.W.Frag} {H : Hp} {bd : List Addr}
mutual
theorem RD.dp : ∀ {d : PyData} {v : V}, RD K H bd d v → Dp K H v d
  | _, _, .non => .non
  | _, _, .bl b => .bl b
  | _, _, .int i => .int i
  | _, _, .str x => .str x
  | _, _, .lst h _ r => .lst (.of h) (RDs.dp r)
  | _, _, .tup h _ r => .tup (.of h) (RDs.dp r)
  | _, _, .tupK h r => .tup (.inr h) (RDs.dp r)
theorem RDs.dp : ∀ {d : List PyData} {v : List V}, RDs K H bd d v → DpAll K H v d
  | _, _, .nil => .nil
  | _, _, .cons h t => .cons (RD.dp h) (RDs.dp t)
end
theorem RD.tupS {ds : List PyData} {v : V} (r : RD K H bd (.tuple ds) v) : ∃ a xs, v = .ref a ∧ SqT K H a xs ∧ RDs K H bd ds xs := by
  cases r with
  | tup h hb t => exact ⟨_, _, rfl, .of h, t⟩
  | tupK h t => exact ⟨_, _, rfl, .inr h, t⟩
theorem RD.lstS {ds : List PyData} {v : V} (r : RD K H bd (.list ds) v) : ∃ a xs, v = .ref a ∧ H a = some (.lst xs) ∧ RDs K H bd ds xs := by
  cases r with
  | lst h hb t => exact ⟨_, _, rfl, h, t⟩
theorem RDs.length : ∀ {ds : List PyData} {xs : List V}, RDs K H bd ds xs → ds.length = xs.length
  | _, _, .nil => rfl
  | _, _, .cons _ t => congrArg (· + 1) (RDs.length t)
theorem RDs.app : ∀ {ds es : List PyData} {xs ys : List V}, RDs K H bd ds xs → RDs K H bd es ys → RDs K H bd (ds ++ es) (xs ++ ys)
  | _, _, _, _, .nil, s => s
  | _, _, _, _, .cons h t, s => .cons h (RDs.app t s)
theorem RDs.get : ∀ {ds : List PyData} {xs : List V} {i : Nat} {d : PyData}, RDs K H bd ds xs → ds[i]? = some d → ∃ x, xs[i]? = some x ∧ RD K H bd d x
  | _, _, _, _, .nil, e => by simp at e
  | _, _, 0, _, .cons h _, e => by simp at e; subst e; exact ⟨_, rfl, h⟩
  | _, _, i + 1, _, .cons _ t, e => by
    obtain ⟨x, h1, h2⟩ := RDs.get (i := i) t (by simpa using e)
    exact ⟨x, by simpa using h1, h2⟩
theorem RDs.take : ∀ {ds : List PyData} {xs : List V} (n : Nat), RDs K H bd ds xs → RDs K H bd (ds.take n) (xs.take n)
  | _, _, 0, _ => by simp; exact .nil
  | _, _, n + 1, .nil => by simp; exact .nil
  | _, _, n + 1, .cons h t => .cons h (RDs.take n t)
theorem RDs.drop : ∀ {ds : List PyData} {xs : List V} (n : Nat), RDs K H bd ds xs → RDs K H bd (ds.drop n) (xs.drop n)
  | _, _, 0, r => r
  | _, _, n + 1, .nil => .nil
  | _, _, n + 1, .cons h t => RDs.drop n t
theorem RDs.rev : ∀ {ds : List PyData} {xs : List V}, RDs K H bd ds xs → RDs K H bd ds.reverse xs.reverse
  | _, _, .nil => .nil
  | _, _, .cons h t => by
    rw [List.reverse_cons, List.reverse_cons]
    exact (RDs.rev t).app (.cons h .nil)
theorem RDs.set : ∀ {ds : List PyData} {xs : List V} {d : PyData} {x : V} (i : Nat), RDs K H bd ds xs → RD K H bd d x → RDs K H bd (ds.set i d) (xs.set i x)
  | _, _, _, _, _, .nil, _ => .nil
  | _, _, _, _, 0, .cons _ t, h => .cons h t
  | _, _, _, _, i + 1, .cons g t, h => .cons g (RDs.set i t h)
theorem RDs.erase : ∀ {ds : List PyData} {xs : List V} (i : Nat), RDs K H bd ds xs → RDs K H bd (ds.eraseIdx i) (xs.eraseIdx i)
  | _, _, _, .nil => .nil
  | _, _, 0, .cons _ t => t
  | _, _, i + 1, .cons g t => .cons g (RDs.erase i t)
/-- ints -/
theorem RDs.ints : ∀ {ns : List Int} {xs : List V}, RDs K H bd (ns.map PyData.int) xs → xs = ns.map V.int
  | [], _, .nil => rfl
  | n :: ns, _, .cons h t => by
    cases h
    rw [RDs.ints t] <;> rfl
theorem rds_ints : ∀ ns : List Int, RDs K H bd (ns.map PyData.int) (ns.map V.int)
  | [] => .nil
  | n :: ns => .cons (.int n) (rds_ints ns)
theorem RDs.bools : ∀ {ns : List Bool} {xs : List V}, RDs K H bd (ns.map PyData.bool) xs → xs = ns.map V.bl
  | [], _, .nil => rfl
  | n :: ns, _, .cons h t => by
    cases h
    rw [RDs.bools t] <;> rfl
theorem RDs.strs : ∀ {ns : List Str} {xs : List V}, RDs K H bd (ns.map PyData.str) xs → xs = ns.map V.str
  | [], _, .nil => rfl
  | n :: ns, _, .cons h t => by
    cases h
    rw [RDs.strs t] <;> rfl
theorem rds_strs : ∀ ns : List Str, RDs K H bd (ns.map PyData.str) (ns.map V.str)
  | [] => .nil
  | n :: ns => .cons (.str n) (rds_strs ns)
end
/-! ## readings -/
def TEx (c : Ct) (W : WX) (f : FE) : TE := fun σ H Q => ∃ B Z r S, SR c H B Z S ∧ RR c H B Z r σ ∧ Post c W B Z H σ (f r S) fun v _ B' H' => ∀ x, RI c H' B' Z v x → Q x H'
def TTx (c : Ct) (W : WX) (f : FT) : TT := fun σ H Q => ∃ B Z r S, SR c H B Z S ∧ RR c H B Z r σ ∧ Post c W B Z H σ (f r S) fun v _ _ H' => Q v H'
def TAx (c : Ct) (W : WX) (f : FA) : TA := fun σ H Q => ∃ B Z r S, SR c H B Z S ∧ RR c H B Z r σ ∧ Post c W B Z H σ (f r S) fun vs _ B' H' => ∀ xs, RIs c H' B' Z vs xs → Q xs H'
theorem pe_imp {X : Cx} {e : Expr} {t t' : TE} (h : PE X e t) (k : ∀ σ H Q, t' σ H Q → t σ H Q) : PE X e t' := ⟨fun pins s σ H Q I q => h.run pins s σ H Q I (k σ H Q q)⟩
theorem pt_imp {X : Cx} {e : Expr} {t t' : TT} (h : PT X e t) (k : ∀ σ H Q, t' σ H Q → t σ H Q) : PT X e t' := ⟨fun pins s σ H Q I q => h.run pins s σ H Q I (k σ H Q q)⟩
theorem pw_imp {X : Cx} {e : Expr} {t t' : TT} (h : PW X e t) (k : ∀ σ H Q, t' σ H Q → t σ H Q) : PW X e t' := ⟨fun wh pins s σ H Q I q => h.run wh pins s σ H Q I (k σ H Q q)⟩
theorem pa_imp {X : Cx} {e : List Expr} {t t' : TA} (h : PA X e t) (k : ∀ σ H Q, t' σ H Q → t σ H Q) : PA X e t' := ⟨fun pos pins s σ H Q I q => h.run pos pins s σ H Q I (k σ H Q q)⟩
theorem ps_imp {X : Cx} {e : Stmt} {t t' : TS} (h : PS X e t) (k : ∀ D σ H, t' D σ H → t D σ H) : PS X e t' := ⟨fun pins s σ H D I q => h.run pins s σ H D I (k D σ H q)⟩
theorem pss_imp {X : Cx} {e : List Stmt} {t t' : TS} (h : PSs X e t) (k : ∀ D σ H, t' D σ H → t D σ H) : PSs X e t' := ⟨fun pins s σ H D I q => h.run pins s σ H D I (k D σ H q)⟩
end MI
set_option maxRecDepth 100000
set_option maxHeartbeats 4000000
namespace MI
open PySem L2
section
variable {c : Ct} {W : WX} {X : Cx}

/-! ## names and constants -/
@[simp] def eVar (i : Nat) : FE := fun r S => match r[i]? with
  | some (some v) => .ok v S
  | _ => .bad
@[simp] def eC (d : PyData) : FE := fun _ S => .ok (.d d) S
def eGl (x : Str) : FE := fun _ S => .ok (.gl x) S
theorem s_var {i : Nat} {e : Expr} (h : PE X e (tVar i)) : PE X e (TEx c W (eVar i)) := pe_imp h fun σ H Q ⟨B, Z, r, S, s, rr, p⟩ => by
  unfold eVar at p
  split at p
  · rename_i v q
    obtain ⟨x, h1, h2⟩ := rr.at_ i v q
    exact ⟨x, h1, p.ret s x h2⟩
  · exact p.elim
theorem s_c {d : PyData} {v : V} {e : Expr} (h : PE X e (tC v)) (k : ∀ H bd, RD c.K H bd d v) : PE X e (TEx c W (eC d)) := pe_imp h fun σ H Q ⟨B, Z, r, S, s, rr, p⟩ =>
  Post.ret (W := W) (σ := σ) s p v (.d (k _ _))
theorem s_int {i j pos} : PE X (.Constant (.int i) j pos) (TEx c W (eC (.int i))) := s_c pe_int fun _ _ => .int i
theorem s_str {i j pos} : PE X (.Constant (.str i) j pos) (TEx c W (eC (.str i))) := s_c pe_str fun _ _ => .str i
theorem s_bool {i j pos} : PE X (.Constant (.bool i) j pos) (TEx c W (eC (.bool i))) := s_c pe_bl fun _ _ => .bl i
theorem s_none {j pos} : PE X (.Constant .none j pos) (TEx c W (eC .none)) := s_c pe_non fun _ _ => .non
/-- a module's name that holds an int, a text -/
theorem s_gint {x : Str} {pos : Pos} {i : Int} (hg : Gl X x) (hm : ∃ t, X.mg x = some (.int i t)) (hd : (x == ("__debug__" : Str)) = false := by decide) : PE X (.Name x pos) (TEx c W (eC (.int i))) := by
  obtain ⟨t, hm⟩ := hm
  exact s_c (pe_glob (v := V.int i) hg hm ⟨t, rfl⟩ hd) fun _ _ => .int i
theorem s_gstr {x : Str} {pos : Pos} {i : Str} (hg : Gl X x) (hm : ∃ t, X.mg x = some (.str i t)) (hd : (x == ("__debug__" : Str)) = false := by decide) : PE X (.Name x pos) (TEx c W (eC (.str i))) := by
  obtain ⟨t, hm⟩ := hm
  exact s_c (pe_glob (v := V.str i) hg hm ⟨t, rfl⟩ hd) fun _ _ => .str i
/-- a def's name, a class's name as a value -/
theorem s_gl {x : Str} {pos : Pos} {a : Addr} (hg : Gl X x) (hm : X.mg x = some (.ref a)) (hc : c.mg = X.mg) (hd : (x == ("__debug__" : Str)) = false := by decide) : PE X (.Name x pos) (TEx c W (eGl x)) :=
  pe_imp (pe_glob (v := V.ref a) hg hm rfl hd) fun σ H Q ⟨B, Z, r, S, s, rr, p⟩ => Post.ret (W := W) (σ := σ) s p (.ref a) (.gl (by rw [hc]; exact hm))

/-! ## one, two operands -/
abbrev O1 := IV → Sto → Out IV
abbrev O2 := IV → IV → Sto → Out IV
@[simp] def eOp1 (op : O1) (f : FE) : FE := fun r S => (f r S).bind op
@[simp] def eOp2 (op : O2) (f g : FE) : FE := fun r S => (f r S).bind fun v S1 => (g r S1).bind fun w S2 => op v w S2
/-- an operator's rule r takes op's answers -/
def Ok1 (c : Ct) (W : WX) (r : V → Hp → VK → Prop) (op : O1) : Prop := ∀ σ B Z H S v x Q, SR c H B Z S → RI c H B Z v x →
  Post c W B Z H σ (op v S) (fun z _ B' H' => ∀ y, RI c H' B' Z z y → Q y H') → r x H Q
def Ok2 (c : Ct) (W : WX) (r : R2) (op : O2) : Prop := ∀ σ B Z H S v w x y Q, SR c H B Z S → RI c H B Z v x → RI c H B Z w y →
  Post c W B Z H σ (op v w S) (fun z _ B' H' => ∀ y, RI c H' B' Z z y → Q y H') → r x y H Q
theorem one_of {f : FE} {op : O1} {r : V → Hp → VK → Prop} (k : Ok1 c W r op) {σ : L2.St} {H : Hp} {Q : VK} (h : TEx c W (eOp1 op f) σ H Q) : TEx c W f σ H fun x H1 => r x H1 Q := by
  obtain ⟨B, Z, r', S, s, rr, p⟩ := h
  exact ⟨B, Z, r', S, s, rr, (Post.bind p).imp fun v S' B' H' e s' q x hx => k σ B' Z H' S' v x Q s' hx q⟩
theorem two_of {f g : FE} {op : O2} {r : R2} (k : Ok2 c W r op) {σ : L2.St} {H : Hp} {Q : VK} (h : TEx c W (eOp2 op f g) σ H Q) : tOp r (TEx c W f) (TEx c W g) σ H Q := by
  obtain ⟨B, Z, r', S, s, rr, p⟩ := h
  refine ⟨B, Z, r', S, s, rr, (Post.bind p).imp fun v S' B' H' e s' q x hx => ?_⟩
  exact ⟨B', Z, r', S', s', rr.ev e, (Post.bind q).imp fun w S2 B2 H2 e2 s2 q2 y hy => k σ B2 Z H2 S2 v w x y Q s2 (hx.ev e2) hy q2⟩
theorem s_op {a b : Expr} {op : Operator} {f g : FE} {o : O2} {r : R2} {pos : Pos} (ho : OpR X (binaryOp op) r) (k : Ok2 c W r o) (ha : PE X a (TEx c W f)) (hb : PE X b (TEx c W g)) : PE X (.BinOp a op b pos) (TEx c W (eOp2 o f g)) :=
  pe_imp (pe_op ho ha hb) fun _ _ _ => two_of k
theorem s_un {a : Expr} {op : UnaryOp} {f : FE} {o : O1} {r : V → Hp → VK → Prop} {pos : Pos} (ho : UnR X (unaryOp op) r) (k : Ok1 c W r o) (ha : PE X a (TEx c W f)) : PE X (.UnaryOp op a pos) (TEx c W (eOp1 o f)) :=
  pe_imp (pe_un ho ha) fun _ _ _ => one_of k
theorem Ok2.or {r r' : R2} {o : O2} (h : ∀ σ B Z H S v w x y Q, SR c H B Z S → RI c H B Z v x → RI c H B Z w y → Post c W B Z H σ (o v w S) (fun z _ B' H' => ∀ y, RI c H' B' Z z y → Q y H') → r x y H Q ∨ r' x y H Q) :
    Ok2 c W (fun x y H Q => r x y H Q ∨ r' x y H Q) o := h

/-! ### + -/
@[simp] def oAdd : O2 := fun v w S => match v, w with
  | .d (.int i), .d (.int j) => .ok (.d (.int (i + j))) S
  | .d (.str x), .d (.str y) => if x.length + y.length ≤ sizeLine then .ok (.d (.str (x ++ y))) S else .bad
  | .d (.tuple xs), .d (.tuple ys) => if xs.length + ys.length ≤ sizeLine then .ok (.d (.tuple (xs ++ ys))) S else .bad
  | .d (.list xs), .d (.list ys) => if xs.length + ys.length ≤ sizeLine then .ok (.d (.list (xs ++ ys))) S else .bad
  | _, _ => .bad
/-- the same where the new list is to be changed later -/
@[simp] def oAddM : O2 := fun v w S => match v, w with
  | .d (.list xs), .d (.list ys) => if xs.length + ys.length ≤ sizeLine then .ok (.ref S.length) (S ++ [.lst (xs ++ ys)]) else .bad
  | _, _ => .bad
def rAddA (K : PySem.W.Frag) : R2 := fun x y H Q => rI0 (fun i j => .int (i + j)) x y H Q ∨ (∃ i j, x = .str i ∧ y = .str j ∧ i.length + j.length ≤ sizeLine ∧ Q (.str (i ++ j)) H) ∨ rCatA K x y H Q ∨ rCat x y H Q
theorem op_addA : OpR X (binaryOp .Add) (rAddA X.K) := op_add.or (op_add_str.or (op_catA.or op_cat))
theorem k_add : Ok2 c W (rAddA c.K) oAdd := by
  intro σ B Z H S v w x y Q s rv rw_ p
  unfold oAdd at p
  split at p
  · rename_i i j
    cases rv with | d rv => cases rv; cases rw_ with | d rw_ => cases rw_; exact .inl ⟨_, _, rfl, rfl, p.ret s _ (.d (.int _))⟩
  · rename_i i j
    cases rv with | d rv => cases rv; cases rw_ with | d rw_ => cases rw_; split at p; exact .inr (.inl ⟨_, _, rfl, rfl, by assumption, p.ret s _ (.d (.str _))⟩); exact p.elim
  · rename_i xs ys
    cases rv with
    | d rv =>
      cases rw_ with
      | d rw_ =>
        split at p
        · rename_i hl
          have rv0 := rv
          have rw0 := rw_
          obtain ⟨a, us, rfl, ha, ru⟩ := rv.tupS
          obtain ⟨b, ws, rfl, hb, rw2⟩ := rw_.tupS
          refine .inr (.inr (.inl ⟨a, b, us, ws, rfl, rfl, ha, hb, by rw [← ru.length, ← rw2.length]; exact hl, fun e => ?_, fun _ e => ?_, fun _ _ q hq => ?_⟩))
          · subst e
            cases ru
            exact p.ret s _ (.d rw0)
          · subst e
            cases rw2
            rw [List.append_nil] at p
            exact p.ret s _ (.d rv0)
          · exact p B _ (Ev.new s hq) (s.new hq) _ (.d (RD.newTup s hq (ru.app rw2)))
        · exact p.elim
  · rename_i xs ys
    cases rv with
    | d rv =>
      cases rw_ with
      | d rw_ =>
        split at p
        · rename_i hl
          obtain ⟨a, us, rfl, ha, ru⟩ := rv.lstS
          obtain ⟨b, ws, rfl, hb, rw2⟩ := rw_.lstS
          exact .inr (.inr (.inr ⟨a, b, us, ws, rfl, rfl, ha, hb, by rw [← ru.length, ← rw2.length]; exact hl, fun q hq => p B _ (Ev.new s hq) (s.new hq) _ (.d (RD.newList s hq (ru.app rw2)))⟩))
        · exact p.elim
  · exact p.elim
/-- a frozen list made anew, as an object of the store -/
theorem push_list {B Z : List Addr} {H : Hp} {S : Sto} {σ : L2.St} {ds : List PyData} {xs : List V} {Q : VK} {p : Addr} (s : SR c H B Z S) (r : RDs c.K H (B ++ Z) ds xs)
    (h : Post c W B Z H σ (.ok (IV.ref S.length) (S ++ [IO.lst ds])) (fun z _ B' H' => ∀ y, RI c H' B' Z z y → Q y H')) (hp : H p = none) : Q (.ref p) (upd H p (.lst xs)) := by
  have e := Ev.push (o := HO.lst xs) s hp
  exact h (B ++ [p]) _ e (s.push hp ⟨xs, upd_same, r.ev e⟩) _ (.ref (by rw [← s.len]; simp))
theorem k_addM : Ok2 c W (rAddA c.K) oAddM := by
  intro σ B Z H S v w x y Q s rv rw_ p
  unfold oAddM at p
  split at p
  · rename_i xs ys
    cases rv with
    | d rv =>
      cases rw_ with
      | d rw_ =>
        split at p
        · rename_i hl
          obtain ⟨a, us, rfl, ha, ru⟩ := rv.lstS
          obtain ⟨b, ws, rfl, hb, rw2⟩ := rw_.lstS
          exact .inr (.inr (.inr ⟨a, b, us, ws, rfl, rfl, ha, hb, by rw [← ru.length, ← rw2.length]; exact hl, fun q hq => push_list s (ru.app rw2) p hq⟩))
        · exact p.elim
  · exact p.elim

/-! ### -, *, //, %, ** -/
@[simp] def oInt (g : Int → Int → Option Int) : O2 := fun v w S => match v, w with
  | .d (.int i), .d (.int j) => (match g i j with
    | some k => .ok (.d (.int k)) S
    | none => .bad)
  | _, _ => .bad
theorem k_int {C : Int → Int → Prop} {f : Int → Int → Int} {g : Int → Int → Option Int} (h : ∀ i j k, g i j = some k → C i j ∧ k = f i j) : Ok2 c W (rI C fun i j => .int (f i j)) (oInt g) := by
  intro σ B Z H S v w x y Q s rv rw_ p
  unfold oInt at p
  split at p
  · rename_i i j
    cases rv with
    | d rv =>
      cases rv
      cases rw_ with
      | d rw_ =>
        cases rw_
        split at p
        · rename_i k e
          obtain ⟨h1, h2⟩ := h i j k e
          subst h2
          exact ⟨_, _, rfl, rfl, h1, p.ret s _ (.d (.int _))⟩
        · exact p.elim
  · exact p.elim
@[simp] def gSub : Int → Int → Option Int := fun i j => some (i - j)
/-- both factors' bits together below some 4,000 -/
@[simp] def gMul : Int → Int → Option Int := fun i j => if i.natAbs < 2 ^ 2000 ∧ j.natAbs < 2 ^ 2000 then some (i * j) else none
@[simp] def gDiv : Int → Int → Option Int := fun i j => if 0 < j ∧ j.natAbs < 2 ^ 2000 then some (i / j) else none
@[simp] def gMod : Int → Int → Option Int := fun i j => if 0 < j then some (i % j) else none
def gPow : Int → Int → Option Int := fun i j => if 0 ≤ j ∧ j ≤ 1000 ∧ i.natAbs < 2 ^ 64 then some (i ^ j.toNat) else none
theorem op_subC : OpR X (binaryOp .Sub) (rI (fun _ _ => True) fun i j => .int (i - j)) := by
  intro pins s σ H x y v u Q I rx ry h
  obtain ⟨i, j, e1, e2, _, q⟩ := h
  exact op_sub pins s σ H x y v u Q I rx ry ⟨i, j, e1, e2, q⟩
theorem k_sub : Ok2 c W (rI (fun _ _ => True) fun i j => .int (i - j)) (oInt gSub) := k_int fun i j k e => ⟨trivial, (Option.some.inj e).symm⟩
theorem k_mul : Ok2 c W (rI CMulW fun i j => .int (i * j)) (oInt gMul) := k_int fun i j k e => by
  unfold gMul at e
  split at e
  · rename_i h
    exact ⟨wide_mul h.1 h.2 (by decide) (by decide) (by decide), (Option.some.inj e).symm⟩
  · cases e
theorem k_div : Ok2 c W (rI CDivW fun i j => .int (i / j)) (oInt gDiv) := k_int fun i j k e => by
  unfold gDiv at e
  split at e
  · rename_i h
    exact ⟨wide_div h.1 h.2 (by decide) (by decide), (Option.some.inj e).symm⟩
  · cases e
theorem k_mod : Ok2 c W (rI (fun _ j => 0 < j) fun i j => .int (i % j)) (oInt gMod) := k_int fun i j k e => by
  unfold gMod at e
  split at e
  · exact ⟨by assumption, (Option.some.inj e).symm⟩
  · cases e
theorem k_pow : Ok2 c W (rI CPow fun i j => .int (i ^ j.toNat)) (oInt gPow) := k_int fun i j k e => by
  unfold gPow at e
  split at e
  · rename_i h
    exact ⟨⟨h.1, by omega, h.2.2⟩, (Option.some.inj e).symm⟩
  · cases e
@[simp] def oNeg : O1 := fun v S => match v with
  | .d (.int i) => .ok (.d (.int (-i))) S
  | _ => .bad
theorem k_neg : Ok1 c W (rU fun i => .int (-i)) oNeg := by
  intro σ B Z H S v x Q s rv p
  unfold oNeg at p
  split at p
  · cases rv with | d rv => cases rv; exact ⟨_, rfl, p.ret s _ (.d (.int _))⟩
  · exact p.elim
end
end MI
set_option maxRecDepth 100000
set_option maxHeartbeats 4000000
namespace MI
open PySem L2
section
variable {c : Ct} {W : WX} {X : Cx}

/-! ## comparisons -/
def shp (d : PyData) : Bool := SeqAt.shaped d
/-- == of data -/
@[simp] def cEq : O2 := fun v w S => match v, w with
  | .d (.int i), .d (.int j) => .ok (.d (.bool (decide (i = j)))) S
  | .d (.str i), .d (.str j) => .ok (.d (.bool (decide (i = j)))) S
  | .d x, .d y => if shp x = true ∧ shp y = true then .ok (.d (.bool (PyData.eqv x y))) S else .bad
  | _, _ => .bad
@[simp] def cNe : O2 := fun v w S => match v, w with
  | .d (.int i), .d (.int j) => .ok (.d (.bool (!decide (i = j)))) S
  | .d (.str i), .d (.str j) => .ok (.d (.bool (!decide (i = j)))) S
  | .d x, .d y => if shp x = true ∧ shp y = true then .ok (.d (.bool (!PyData.eqv x y))) S else .bad
  | _, _ => .bad
def rEqA (K : PySem.W.Frag) : R2 := fun x y H Q => rEq x y H Q ∨ rEqD K x y H Q
def rNeA (K : PySem.W.Frag) : R2 := fun x y H Q => rNe x y H Q ∨ rNeD K x y H Q
theorem op_eqA (hu : X.A.units + 64 < cLine) : OpR X (compareOp .Eq) (rEqA X.K) := op_eq.or (op_eqD hu)
theorem op_neA (hu : X.A.units + 64 < cLine) : OpR X (compareOp .NotEq) (rNeA X.K) := op_ne.or (op_neD hu)
theorem k_eq : Ok2 c W (rEqA c.K) cEq := by
  intro σ B Z H S v w x y Q s rv rw_ p
  unfold cEq at p
  split at p
  · rename_i i j
    cases rv with
    | d rv =>
      cases rw_ with
      | d rw_ =>
        cases rv
        cases rw_
        refine .inl ⟨rfl, ?_⟩
        have q := p.ret s _ (.d (.bl _))
        by_cases e : i = j
        · subst e; simpa using q
        · have e2 : ¬ (V.int i = V.int j) := fun z => e (V.int.inj z)
          rw [decide_eq_false e2]
          rw [decide_eq_false e] at q; exact q
  · rename_i i j
    cases rv with
    | d rv =>
      cases rw_ with
      | d rw_ =>
        cases rv
        cases rw_
        refine .inl ⟨rfl, ?_⟩
        have q := p.ret s _ (.d (.bl _))
        by_cases e : i = j
        · subst e; simpa using q
        · have e2 : ¬ (V.str i = V.str j) := fun z => e (V.str.inj z)
          rw [decide_eq_false e2]
          rw [decide_eq_false e] at q; exact q
  · cases rv with
    | d rv =>
      cases rw_ with
      | d rw_ =>
        split at p
        · rename_i h
          exact .inr ⟨_, _, rv.dp, rw_.dp, h.1, h.2, p.ret s _ (.d (.bl _))⟩
        · exact p.elim
  · exact p.elim
theorem k_ne : Ok2 c W (rNeA c.K) cNe := by
  intro σ B Z H S v w x y Q s rv rw_ p
  unfold cNe at p
  split at p
  · rename_i i j
    cases rv with
    | d rv =>
      cases rw_ with
      | d rw_ =>
        cases rv
        cases rw_
        refine .inl ⟨rfl, ?_⟩
        have q := p.ret s _ (.d (.bl _))
        by_cases e : i = j
        · subst e; simpa using q
        · have e2 : ¬ (V.int i = V.int j) := fun z => e (V.int.inj z)
          rw [decide_eq_false e2]
          rw [decide_eq_false e] at q; exact q
  · rename_i i j
    cases rv with
    | d rv =>
      cases rw_ with
      | d rw_ =>
        cases rv
        cases rw_
        refine .inl ⟨rfl, ?_⟩
        have q := p.ret s _ (.d (.bl _))
        by_cases e : i = j
        · subst e; simpa using q
        · have e2 : ¬ (V.str i = V.str j) := fun z => e (V.str.inj z)
          rw [decide_eq_false e2]
          rw [decide_eq_false e] at q; exact q
  · cases rv with
    | d rv =>
      cases rw_ with
      | d rw_ =>
        split at p
        · rename_i h
          exact .inr ⟨_, _, rv.dp, rw_.dp, h.1, h.2, p.ret s _ (.d (.bl _))⟩
        · exact p.elim
  · exact p.elim
/-- <, <=, >, >= of ints -/
@[simp] def cInt (g : Int → Int → Bool) : O2 := fun v w S => match v, w with
  | .d (.int i), .d (.int j) => .ok (.d (.bool (g i j))) S
  | _, _ => .bad
theorem k_cint {g : Int → Int → Bool} : Ok2 c W (rI0 fun i j => .bl (g i j)) (cInt g) := by
  intro σ B Z H S v w x y Q s rv rw_ p
  unfold cInt at p
  split at p
  · cases rv with | d rv => cases rv; cases rw_ with | d rw_ => cases rw_; exact ⟨_, _, rfl, rfl, p.ret s _ (.d (.bl _))⟩
  · exact p.elim
@[simp] abbrev gLt : Int → Int → Bool := fun i j => decide (i < j)
@[simp] abbrev gLe : Int → Int → Bool := fun i j => decide (i ≤ j)
@[simp] abbrev gGt : Int → Int → Bool := fun i j => decide (j < i)
@[simp] abbrev gGe : Int → Int → Bool := fun i j => decide (j ≤ i)
/-- in, not in -/
def rInTD (K : PySem.W.Frag) (neg : Bool) : R2 := fun x y H Q => ∃ d ds, Dp K H x d ∧ Dp K H y (.tuple ds) ∧ SeqAt.shaped d = true ∧ SeqAt.shaped (.list ds) = true ∧ Q (.bl (if neg then !ds.any fun z => PyData.eqv z d else ds.any fun z => PyData.eqv z d)) H
theorem op_inTD (hu : X.A.units + 65 < cLine) : OpR X (compareOp .In) (rInTD X.K false) := by
  intro pins s σ H x y v u Q I rx ry ⟨d, ds, hd, he, sd, se, q⟩
  obtain ⟨as, r1⟩ := Dp.reads I d x v hd rx
  obtain ⟨bs, r2⟩ := Dp.reads I (.tuple ds) y u he ry
  refine SeqAt.in_tuple_reads r2 r1 ?_ (SeqAt.canLay_of_shaped sd) (PyProof.Rows.room_in_shaped sd hu) ⟨.bl _, H, I, rfl, q⟩
  exact SeqAt.canLay_of_shaped se
theorem op_notInTD (hu : X.A.units + 65 < cLine) : OpR X (compareOp .NotIn) (rInTD X.K true) := by
  intro pins s σ H x y v u Q I rx ry ⟨d, ds, hd, he, sd, se, q⟩
  obtain ⟨as, r1⟩ := Dp.reads I d x v hd rx
  obtain ⟨bs, r2⟩ := Dp.reads I (.tuple ds) y u he ry
  refine SeqAt.notIn_tuple_reads r2 r1 ?_ (SeqAt.canLay_of_shaped sd) (PyProof.Rows.room_in_shaped sd hu) ⟨.bl _, H, I, rfl, q⟩
  exact SeqAt.canLay_of_shaped se
def isIn (d : PyData) (ds : List PyData) : Bool := ds.any fun z => PyData.eqv z d
@[simp] def cInN (neg : Bool) : O2 := fun v w S => match v, w with
  | .d x, .d (.list ys) => if shp x = true ∧ shp (.list ys) = true then .ok (.d (.bool (if neg then !isIn x ys else isIn x ys))) S else .bad
  | .d x, .d (.tuple ys) => if shp x = true ∧ shp (.list ys) = true then .ok (.d (.bool (if neg then !isIn x ys else isIn x ys))) S else .bad
  | .d x, .ref n => (match S[n]? with
    | some (.lst ys) => if shp x = true ∧ shp (.list ys) = true then .ok (.d (.bool (if neg then !isIn x ys else isIn x ys))) S else .bad
    | _ => .bad)
  | .d (.str x), .d (.str y) => (match x.cps.toList with
    | [k] => .ok (.d (.bool (if neg then !decide (k ∈ y.cps.toList) else decide (k ∈ y.cps.toList)))) S
    | _ => .bad)
  | _, _ => .bad
def rSg (neg : Bool) : R2 := fun x y H Q => ∃ (c : Nat) (z : Str), x = .str ⟨#[c]⟩ ∧ y = .str z ∧ Q (.bl (if neg then !decide (c ∈ z.cps.toList) else decide (c ∈ z.cps.toList))) H
theorem op_sgF : OpR X (compareOp .In) (rSg false) := op_in_sign
theorem op_sgT : OpR X (compareOp .NotIn) (rSg true) := op_notIn_sign
def rInA (K : PySem.W.Frag) : R2 := fun x y H Q => rInD K x y H Q ∨ rInTD K false x y H Q ∨ rSg false x y H Q
def rNotInA (K : PySem.W.Frag) : R2 := fun x y H Q => rNotInD K x y H Q ∨ rInTD K true x y H Q ∨ rSg true x y H Q
theorem op_inA (hu : X.A.units + 65 < cLine) : OpR X (compareOp .In) (rInA X.K) := (op_inD hu).or ((op_inTD hu).or op_sgF)
theorem op_notInA (hu : X.A.units + 65 < cLine) : OpR X (compareOp .NotIn) (rNotInA X.K) := (op_notInD hu).or ((op_notInTD hu).or op_sgT)
theorem SR.lst {B Z : List Addr} {H : Hp} {S : Sto} {n : Nat} {ds : List PyData} {x : V} (s : SR c H B Z S) (h : S[n]? = some (.lst ds)) (r : RI c H B Z (.ref n) x) : ∃ b xs, x = .ref b ∧ B[n]? = some b ∧ H b = some (.lst xs) ∧ RDs c.K H (B ++ Z) ds xs := by
  cases r with
  | ref hb =>
    obtain ⟨xs, h1, h2⟩ := s.ob n _ _ hb h
    exact ⟨_, xs, rfl, hb, h1, h2⟩
theorem in_all {neg : Bool} {B Z : List Addr} {H : Hp} {S : Sto} {σ : L2.St} {v w : IV} {x y : V} {Q : VK} (s : SR c H B Z S) (rv : RI c H B Z v x) (rw_ : RI c H B Z w y)
    (p : Post c W B Z H σ (cInN neg v w S) (fun z _ B' H' => ∀ y, RI c H' B' Z z y → Q y H')) :
    (∃ d ds, Dp c.K H x d ∧ Dp c.K H y (.list ds) ∧ SeqAt.shaped d = true ∧ SeqAt.shaped (.list ds) = true ∧ Q (.bl (if neg then !isIn d ds else isIn d ds)) H) ∨ rInTD c.K neg x y H Q ∨ rSg neg x y H Q := by
  unfold cInN at p
  split at p
  · cases rv with
    | d rv =>
      cases rw_ with
      | d rw_ =>
        split at p
        · rename_i h
          exact .inl ⟨_, _, rv.dp, rw_.dp, h.1, h.2, p.ret s _ (.d (.bl _))⟩
        · exact p.elim
  · cases rv with
    | d rv =>
      cases rw_ with
      | d rw_ =>
        split at p
        · rename_i h
          exact .inr (.inl ⟨_, _, rv.dp, rw_.dp, h.1, h.2, p.ret s _ (.d (.bl _))⟩)
        · exact p.elim
  · split at p
    · rename_i e
      cases rv with
      | d rv =>
        split at p
        · rename_i h
          obtain ⟨b, xs, rfl, hb, h1, h2⟩ := s.lst e rw_
          exact .inl ⟨_, _, rv.dp, .lst (.of h1) h2.dp, h.1, h.2, p.ret s _ (.d (.bl _))⟩
        · exact p.elim
    · exact p.elim
  · rename_i x' y'
    cases rv with
    | d rv =>
      cases rw_ with
      | d rw_ =>
        cases rv
        cases rw_
        split at p
        · rename_i k e
          refine .inr (.inr ⟨k, y', ?_, rfl, p.ret s _ (.d (.bl _))⟩)
          have e2 : x' = ⟨#[k]⟩ := by
            obtain ⟨⟨l⟩⟩ := x'
            have : l = [k] := e
            rw [this]
          rw [e2]
        · exact p.elim
  · exact p.elim
theorem k_in : Ok2 c W (rInA c.K) (cInN false) := fun σ B Z H S v w x y Q s rv rw_ p => in_all s rv rw_ p
theorem k_notIn : Ok2 c W (rNotInA c.K) (cInN true) := fun σ B Z H S v w x y Q s rv rw_ p => in_all s rv rw_ p
/-- is None, is not None -/
@[simp] def cIsN (neg : Bool) : O2 := fun v w S => match v, w with
  | .d x, .d .none => .ok (.d (.bool (if neg then !(match x with | .none => true | _ => false) else (match x with | .none => true | _ => false)))) S
  | .ref _, .d .none => .ok (.d (.bool neg)) S
  | _, _ => .bad
theorem k_isN : Ok2 c W (fun x y H Q => y = .non ∧ Q (.bl (decide (x = .non))) H) (cIsN false) := by
  intro σ B Z H S v w x y Q s rv rw_ p
  unfold cIsN at p
  split at p
  · cases rv with
    | d rv =>
      cases rw_ with
      | d rw_ =>
        cases rw_
        refine ⟨rfl, ?_⟩
        have q := p.ret s _ (.d (.bl _))
        cases rv <;> simpa using q
  · cases rw_ with
    | d rw_ =>
      cases rw_
      refine ⟨rfl, ?_⟩
      have q := p.ret s _ (.d (.bl _))
      cases rv with
      | ref h => simpa using q
  · exact p.elim
theorem k_notN : Ok2 c W (fun x y H Q => y = .non ∧ Q (.bl (!decide (x = .non))) H) (cIsN true) := by
  intro σ B Z H S v w x y Q s rv rw_ p
  unfold cIsN at p
  split at p
  · cases rv with
    | d rv =>
      cases rw_ with
      | d rw_ =>
        cases rw_
        refine ⟨rfl, ?_⟩
        have q := p.ret s _ (.d (.bl _))
        cases rv <;> simpa using q
  · cases rw_ with
    | d rw_ =>
      cases rw_
      refine ⟨rfl, ?_⟩
      have q := p.ret s _ (.d (.bl _))
      cases rv with
      | ref h => simpa using q
  · exact p.elim
theorem s_cmp {a b : Expr} {op : CmpOp} {f g : FE} {o : O2} {r : R2} {pos : Pos} (ho : OpR X (compareOp op) r) (k : Ok2 c W r o) (ha : PE X a (TEx c W f)) (hb : PE X b (TEx c W g)) (hm : behindInMarks op b = false) : PE X (.Compare a [op] [b] pos) (TEx c W (eOp2 o f g)) :=
  pe_imp (pe_cmpR ho ha hb hm) fun _ _ _ => two_of k

/-! ## tests -/
@[simp] def asB : IV → Sto → Out Bool := fun v S => match v with
  | .d (.bool b) => .ok b S
  | _ => .bad
@[simp] def tE (f : FE) : FT := fun r S => (f r S).bind asB
theorem test_of {t : TE} {f : FE} {σ : L2.St} {H : Hp} {Q : Bool → Hp → Prop} (k : ∀ Q', TEx c W f σ H Q' → t σ H Q') (h : TTx c W (tE f) σ H Q) : t σ H fun x H1 => ∃ b, x = .bl b ∧ Q b H1 := by
  obtain ⟨B, Z, r, S, s, rr, p⟩ := h
  refine k _ ⟨B, Z, r, S, s, rr, (Post.bind p).imp fun v S' B' H' e s' q x hx => ?_⟩
  unfold asB at q
  split at q
  · cases hx with | d hx => cases hx; exact ⟨_, rfl, q.ret s'⟩
  · exact q.elim
theorem s_tcmp {a b : Expr} {op : CmpOp} {f g : FE} {o : O2} {r : R2} {pos : Pos} (ho : OpR X (compareOp op) r) (k : Ok2 c W r o) (ha : PE X a (TEx c W f)) (hb : PE X b (TEx c W g)) (hm : behindInMarks op b = false) : PT X (.Compare a [op] [b] pos) (TTx c W (tE (eOp2 o f g))) :=
  pt_imp (pt_cmpR ho ha hb hm) fun σ H Q h => test_of (fun _ => two_of k) h
theorem s_tval {e : Expr} {f : FE} (h : PE X e (TEx c W f)) (he : ∀ whole, isTrue e X.env whole = (do let v ← whole; standAt e.pos; holding [v] (truthy v)) := by intro _; rfl) : PT X e (TTx c W (tE f)) :=
  pt_imp (pt_val h he) fun σ H Q q => test_of (fun _ z => z) q
@[simp] def tNt (f : FT) : FT := fun r S => (f r S).bind fun b S' => .ok (!b) S'
theorem s_tnot {a : Expr} {f : FT} {pos : Pos} (h : PT X a (TTx c W f)) : PT X (.UnaryOp .Not a pos) (TTx c W (tNt f)) :=
  pt_imp (pt_not h) fun σ H Q ⟨B, Z, r, S, s, rr, p⟩ => ⟨B, Z, r, S, s, rr, (Post.bind p).imp fun v S' B' H' e s' q => q.ret s'⟩
@[simp] def tAn (f g : FT) : FT := fun r S => (f r S).bind fun b S' => if b = true then g r S' else .ok false S'
@[simp] def tOr' (f g : FT) : FT := fun r S => (f r S).bind fun b S' => if b = true then .ok true S' else g r S'
theorem s_tand1 {a : Expr} {f : FT} {pos : Pos} (h : PT X a (TTx c W f)) : PW X (.BoolOp .And [a] pos) (TTx c W f) := pw_and1 h
theorem s_tor1 {a : Expr} {f : FT} {pos : Pos} (h : PT X a (TTx c W f)) : PW X (.BoolOp .Or [a] pos) (TTx c W f) := pw_or1 h
theorem s_tand {a b : Expr} {rest : List Expr} {f g : FT} {pos : Pos} (ha : PT X a (TTx c W f)) (hb : PW X (.BoolOp .And (b :: rest) pos) (TTx c W g)) : PW X (.BoolOp .And (a :: b :: rest) pos) (TTx c W (tAn f g)) :=
  pw_imp (pw_and ha hb) fun σ H Q ⟨B, Z, r, S, s, rr, p⟩ => ⟨B, Z, r, S, s, rr, (Post.bind p).imp fun v S' B' H' e s' q => by
    cases v with
    | true => exact ⟨B', Z, r, S', s', rr.ev e, q⟩
    | false => exact q.ret s'⟩
theorem s_tor {a b : Expr} {rest : List Expr} {f g : FT} {pos : Pos} (ha : PT X a (TTx c W f)) (hb : PW X (.BoolOp .Or (b :: rest) pos) (TTx c W g)) : PW X (.BoolOp .Or (a :: b :: rest) pos) (TTx c W (tOr' f g)) :=
  pw_imp (pw_or ha hb) fun σ H Q ⟨B, Z, r, S, s, rr, p⟩ => ⟨B, Z, r, S, s, rr, (Post.bind p).imp fun v S' B' H' e s' q => by
    cases v with
    | false => exact ⟨B', Z, r, S', s', rr.ev e, q⟩
    | true => exact q.ret s'⟩
/-! as values -/
@[simp] def eAn (f g : FE) : FE := fun r S => (f r S).bind fun v S' => match v with
  | .d (.bool true) => g r S'
  | .d (.bool false) => .ok (.d (.bool false)) S'
  | _ => .bad
@[simp] def eOr (f g : FE) : FE := fun r S => (f r S).bind fun v S' => match v with
  | .d (.bool false) => g r S'
  | .d (.bool true) => .ok (.d (.bool true)) S'
  | _ => .bad
@[simp] def eNt (f : FE) : FE := fun r S => (f r S).bind fun v S' => match v with
  | .d (.bool b) => .ok (.d (.bool (!b))) S'
  | _ => .bad
theorem s_one {a : Expr} {f : FE} {op : BoolOp} {pos : Pos} (h : PE X a (TEx c W f)) : PE X (.BoolOp op [a] pos) (TEx c W f) := pe_one h
theorem s_and {a b : Expr} {rest : List Expr} {f g : FE} {pos : Pos} (ha : PE X a (TEx c W f)) (hb : PE X (.BoolOp .And (b :: rest) pos) (TEx c W g)) : PE X (.BoolOp .And (a :: b :: rest) pos) (TEx c W (eAn f g)) :=
  pe_imp (pe_and ha hb) fun σ H Q ⟨B, Z, r, S, s, rr, p⟩ => ⟨B, Z, r, S, s, rr, (Post.bind p).imp fun v S' B' H' e s' q x hx => by
    split at q
    · cases hx with | d hx => cases hx; exact ⟨_, rfl, ⟨B', Z, r, S', s', rr.ev e, q⟩⟩
    · cases hx with | d hx => cases hx; exact ⟨_, rfl, q.ret s' _ (.d (.bl _))⟩
    · exact q.elim⟩
theorem s_or {a b : Expr} {rest : List Expr} {f g : FE} {pos : Pos} (ha : PE X a (TEx c W f)) (hb : PE X (.BoolOp .Or (b :: rest) pos) (TEx c W g)) : PE X (.BoolOp .Or (a :: b :: rest) pos) (TEx c W (eOr f g)) :=
  pe_imp (pe_or ha hb) fun σ H Q ⟨B, Z, r, S, s, rr, p⟩ => ⟨B, Z, r, S, s, rr, (Post.bind p).imp fun v S' B' H' e s' q x hx => by
    split at q
    · cases hx with | d hx => cases hx; exact ⟨_, rfl, ⟨B', Z, r, S', s', rr.ev e, q⟩⟩
    · cases hx with | d hx => cases hx; exact ⟨_, rfl, q.ret s' _ (.d (.bl _))⟩
    · exact q.elim⟩
theorem s_not {a : Expr} {f : FE} {pos : Pos} (ha : PE X a (TEx c W f)) : PE X (.UnaryOp .Not a pos) (TEx c W (eNt f)) :=
  pe_imp (pe_not ha) fun σ H Q ⟨B, Z, r, S, s, rr, p⟩ => ⟨B, Z, r, S, s, rr, (Post.bind p).imp fun v S' B' H' e s' q x hx => by
    split at q
    · cases hx with | d hx => cases hx; exact ⟨_, rfl, q.ret s' _ (.d (.bl _))⟩
    · exact q.elim⟩
@[simp] def eIf (t : FT) (f g : FE) : FE := fun r S => (t r S).bind fun b S' => if b = true then f r S' else g r S'
theorem s_if {t a b : Expr} {ft : FT} {f g : FE} {pos : Pos} (ht : PT X t (TTx c W ft)) (ha : PE X a (TEx c W f)) (hb : PE X b (TEx c W g)) : PE X (.IfExp t a b pos) (TEx c W (eIf ft f g)) :=
  pe_imp (pe_ifExp ht ha hb) fun σ H Q ⟨B, Z, r, S, s, rr, p⟩ => ⟨B, Z, r, S, s, rr, (Post.bind p).imp fun v S' B' H' e s' q => by
    cases v with
    | true => exact ⟨B', Z, r, S', s', rr.ev e, q⟩
    | false => exact ⟨B', Z, r, S', s', rr.ev e, q⟩⟩
/-! chains of two -/
@[simp] def eCh (o o' : O2) (f g h : FE) : FE := fun r S => (f r S).bind fun v S1 => (g r S1).bind fun w S2 => (o v w S2).bind fun z S3 => match z with
  | .d (.bool true) => (h r S3).bind fun u S4 => o' w u S4
  | .d (.bool false) => .ok (.d (.bool false)) S3
  | _ => .bad
theorem chain_of {f g h : FE} {o o' : O2} {r r' : R2} (k : Ok2 c W r o) (k' : Ok2 c W r' o') {σ : L2.St} {H : Hp} {Q : VK} (q : TEx c W (eCh o o' f g h) σ H Q) : tChain r r' (TEx c W f) (TEx c W g) (TEx c W h) σ H Q := by
  obtain ⟨B, Z, r0, S, s, rr, p⟩ := q
  refine ⟨B, Z, r0, S, s, rr, (Post.bind p).imp fun v S1 B1 H1 e1 s1 q1 x hx => ?_⟩
  refine ⟨B1, Z, r0, S1, s1, rr.ev e1, (Post.bind q1).imp fun w S2 B2 H2 e2 s2 q2 y hy => ?_⟩
  refine k σ B2 Z H2 S2 v w x y _ s2 (hx.ev e2) hy ((Post.bind q2).imp fun z S3 B3 H3 e3 s3 q3 t ht => ?_)
  split at q3
  · cases ht with
    | d ht =>
      cases ht
      refine ⟨true, rfl, ?_⟩
      rw [if_pos rfl]
      refine ⟨B3, Z, r0, S3, s3, (rr.ev (e1.trans e2)).ev e3, (Post.bind q3).imp fun u S4 B4 H4 e4 s4 q4 x4 h4 => ?_⟩
      exact k' σ B4 Z H4 S4 w u y x4 Q s4 ((hy.ev e3).ev e4) h4 q4
  · cases ht with
    | d ht =>
      cases ht
      refine ⟨false, rfl, ?_⟩
      rw [if_neg (by decide)]
      exact q3.ret s3 _ (.d (.bl _))
  · exact q3.elim
end
end MI
set_option maxRecDepth 100000
set_option maxHeartbeats 4000000
namespace MI
open PySem L2
section
variable {c : Ct} {W : WX} {X : Cx}
theorem s_chain {a b d : Expr} {op op' : CmpOp} {f g h : FE} {o o' : O2} {r r' : R2} {pos : Pos} (ho : OpR X (compareOp op) r) (ho' : OpR X (compareOp op') r') (k : Ok2 c W r o) (k' : Ok2 c W r' o')
    (ha : PE X a (TEx c W f)) (hb : PE X b (TEx c W g)) (hd : PE X d (TEx c W h)) (hm : lastMarks [op, op'] [b, d] = false := by with_unfolding_all rfl) : PE X (.Compare a [op, op'] [b, d] pos) (TEx c W (eCh o o' f g h)) :=
  pe_imp (pe_chain ho ho' ha hb hd hm) fun _ _ _ => chain_of k k'
theorem s_tchain {a b d : Expr} {op op' : CmpOp} {f g h : FE} {o o' : O2} {r r' : R2} {pos : Pos} (ho : OpR X (compareOp op) r) (ho' : OpR X (compareOp op') r') (k : Ok2 c W r o) (k' : Ok2 c W r' o')
    (ha : PE X a (TEx c W f)) (hb : PE X b (TEx c W g)) (hd : PE X d (TEx c W h)) (hm : lastMarks [op, op'] [b, d] = false := by with_unfolding_all rfl) : PT X (.Compare a [op, op'] [b, d] pos) (TTx c W (tE (eCh o o' f g h))) :=
  pt_imp (pt_chain ho ho' ha hb hd hm) fun σ H Q q => test_of (fun _ => chain_of k k') q

/-! ## arguments, displays -/
@[simp] def aNil : FA := fun _ S => .ok [] S
@[simp] def aCons (f : FE) (g : FA) : FA := fun r S => (f r S).bind fun v S1 => (g r S1).bind fun vs S2 => .ok (v :: vs) S2
theorem RI.evs {H H' : Hp} {B B' Z : List Addr} {v : IV} {x : V} (h : RI c H B Z v x) (e : Ev B H B' H') : RI c H' B' Z v x := h.ev e
theorem s_nil : PA X [] (TAx c W aNil) := pa_imp pa_nil fun σ H Q ⟨B, Z, r, S, s, rr, p⟩ => p.ret s [] .nil
theorem s_cons {e : Expr} {es : List Expr} {f : FE} {g : FA} (h : PE X e (TEx c W f)) (t : PA X es (TAx c W g)) (hs : starEach (e :: es) X.env = (false, eval e X.env) :: starEach es X.env := by rfl) : PA X (e :: es) (TAx c W (aCons f g)) :=
  pa_imp (pa_cons h t hs) fun σ H Q ⟨B, Z, r, S, s, rr, p⟩ => ⟨B, Z, r, S, s, rr, (Post.bind p).imp fun v S1 B1 H1 e1 s1 q x hx =>
    ⟨B1, Z, r, S1, s1, rr.ev e1, (Post.bind q).imp fun vs S2 B2 H2 e2 s2 q2 xs hxs => q2.ret s2 (x :: xs) (.cons (hx.ev e2) hxs)⟩⟩
/-- *e -/
@[simp] def itemsOf (v : IV) (S : Sto) : Option (List PyData) := match v with
  | .d (.list ds) => some ds
  | .d (.tuple ds) => some ds
  | .ref n => (match S[n]? with
    | some (.lst ds) => some ds
    | _ => none)
  | _ => none
theorem items_of {B Z : List Addr} {H : Hp} {S : Sto} {v : IV} {x : V} {ds : List PyData} (s : SR c H B Z S) (h : RI c H B Z v x) (e : itemsOf v S = some ds) : ∃ a xs, x = .ref a ∧ (SqT c.K H a xs ∨ SqL c.K H a xs) ∧ RDs c.K H (B ++ Z) ds xs := by
  unfold itemsOf at e
  split at e
  · cases e
    cases h with
    | d h => obtain ⟨a, xs, h1, h2, h3⟩ := h.lstS; exact ⟨a, xs, h1, .inr (.of h2), h3⟩
  · cases e
    cases h with
    | d h => obtain ⟨a, xs, h1, h2, h3⟩ := h.tupS; exact ⟨a, xs, h1, .inl h2, h3⟩
  · split at e
    · rename_i q
      cases e
      obtain ⟨b, xs, h1, _, h2, h3⟩ := s.lst q h
      exact ⟨b, xs, h1, .inr (.of h2), h3⟩
    · cases e
  · cases e
@[simp] def aStar (f : FE) (g : FA) : FA := fun r S => (f r S).bind fun v S1 => match itemsOf v S1 with
  | some ds => (g r S1).bind fun vs S2 => .ok (ds.map IV.d ++ vs) S2
  | none => .bad
theorem RIs.ofDs {H : Hp} {B Z : List Addr} : ∀ {ds : List PyData} {xs : List V}, RDs c.K H (B ++ Z) ds xs → RIs c H B Z (ds.map IV.d) xs
  | _, _, .nil => .nil
  | _, _, .cons h t => .cons (.d h) (RIs.ofDs t)
theorem RIs.app {H : Hp} {B Z : List Addr} : ∀ {is js : List IV} {xs ys : List V}, RIs c H B Z is xs → RIs c H B Z js ys → RIs c H B Z (is ++ js) (xs ++ ys)
  | _, _, _, _, .nil, s => s
  | _, _, _, _, .cons h t, s => .cons h (RIs.app t s)
theorem s_star {e : Expr} {es : List Expr} {f : FE} {g : FA} {p : Pos} (hc : X.calm = true) (hK : c.K = X.K) (h : PE X e (TEx c W f)) (t : PA X es (TAx c W g)) (hs : starEach (.Starred e p :: es) X.env = (true, eval e X.env) :: starEach es X.env := by rfl) : PA X (.Starred e p :: es) (TAx c W (aStar f g)) :=
  pa_imp (StX.pa_star h t hs) fun σ H Q ⟨B, Z, r, S, s, rr, p⟩ => ⟨B, Z, r, S, s, rr, (Post.bind p).imp fun v S1 B1 H1 e1 s1 q x hx => by
    split at q
    · rename_i ds q1
      obtain ⟨a, xs, h1, h2, h3⟩ := items_of s1 hx q1
      refine ⟨a, xs, h1, by rw [← hK]; exact h2, ⟨B1, Z, r, S1, s1, rr.ev e1, (Post.bind q).imp fun vs S2 B2 H2 e2 s2 q2 ys hys => q2.ret s2 _ (.app (.ofDs (h3.ev e2)) hys)⟩⟩
    · exact q.elim⟩
/-- all data -/
@[simp] def datas : List IV → Option (List PyData)
  | [] => some []
  | .d x :: r => (match datas r with
    | some ds => some (x :: ds)
    | none => none)
  | _ :: _ => none
theorem RIs.datas {H : Hp} {B Z : List Addr} : ∀ {is : List IV} {xs : List V} {ds : List PyData}, RIs c H B Z is xs → MI.datas is = some ds → RDs c.K H (B ++ Z) ds xs
  | [], _, _, .nil, e => by cases e; exact .nil
  | .d x :: r, _, ds, .cons h t, e => by
    unfold MI.datas at e
    split at e
    · rename_i ds' q
      cases e
      cases h with
      | d h => exact .cons h (RIs.datas t q)
    · cases e
theorem RIs.length {H : Hp} {B Z : List Addr} : ∀ {is : List IV} {xs : List V}, RIs c H B Z is xs → is.length = xs.length
  | _, _, .nil => rfl
  | _, _, .cons _ t => congrArg (· + 1) (RIs.length t)
@[simp] def mkTup : List IV → Sto → Out IV := fun vs S => if vs.length ≤ 1000 then (match datas vs with
  | some ds => .ok (.d (.tuple ds)) S
  | none => .ok (.tup vs) S) else .bad
@[simp] def eTup (f : FA) : FE := fun r S => (f r S).bind mkTup
/-- a list display: frozen, or an object of the store -/
@[simp] def mkLst : List IV → Sto → Out IV := fun vs S => if vs.length ≤ 1000 then (match datas vs with
  | some ds => .ok (.d (.list ds)) S
  | none => .bad) else .bad
@[simp] def mkLstM : List IV → Sto → Out IV := fun vs S => if vs.length ≤ 1000 then (match datas vs with
  | some ds => .ok (.ref S.length) (S ++ [.lst ds])
  | none => .bad) else .bad
/-- a list that holds more than data -/
def mkLstX : List IV → Sto → Out IV := fun vs S => if vs.length ≤ 1000 then .ok (.ref S.length) (S ++ [.lsx vs]) else .bad
@[simp] def eLst (f : FA) : FE := fun r S => (f r S).bind mkLst
@[simp] def eLstM (f : FA) : FE := fun r S => (f r S).bind mkLstM
def eLstX (f : FA) : FE := fun r S => (f r S).bind mkLstX
theorem k1000 {n : Nat} (h : n ≤ 1000) : n ≤ sizeLine := Nat.le_trans h (by decide)
theorem s_tup {es : List Expr} {f : FA} {x1} {pos : Pos} (h : PA X es (TAx c W f)) : PE X (.Tuple es x1 pos) (TEx c W (eTup f)) :=
  pe_imp (pe_tup h) fun σ H Q ⟨B, Z, r, S, s, rr, p⟩ => ⟨B, Z, r, S, s, rr, (Post.bind p).imp fun vs S1 B1 H1 e1 s1 q xs hxs => by
    unfold mkTup at q
    split at q
    · rename_i hl
      refine ⟨k1000 (by rw [← hxs.length]; exact hl), fun a ha => ?_⟩
      split at q
      · rename_i ds q1
        exact q B1 _ (Ev.new s1 ha) (s1.new ha) _ (.d (RD.newTup s1 ha (hxs.datas q1)))
      · exact q B1 _ (Ev.new s1 ha) (s1.new ha) _ (.tup upd_same (s1.out ha) (hxs.ev (Ev.new s1 ha)))
    · exact q.elim⟩
theorem s_lst {es : List Expr} {f : FA} {pos : Pos} (h : PA X es (TAx c W f)) : PE X (.List es pos) (TEx c W (eLst f)) :=
  pe_imp (pe_lst h) fun σ H Q ⟨B, Z, r, S, s, rr, p⟩ => ⟨B, Z, r, S, s, rr, (Post.bind p).imp fun vs S1 B1 H1 e1 s1 q xs hxs => by
    unfold mkLst at q
    split at q
    · rename_i hl
      refine ⟨k1000 (by rw [← hxs.length]; exact hl), fun a ha => ?_⟩
      split at q
      · rename_i ds q1
        exact q B1 _ (Ev.new s1 ha) (s1.new ha) _ (.d (RD.newList s1 ha (hxs.datas q1)))
      · exact q.elim
    · exact q.elim⟩
theorem s_lstM {es : List Expr} {f : FA} {pos : Pos} (h : PA X es (TAx c W f)) : PE X (.List es pos) (TEx c W (eLstM f)) :=
  pe_imp (pe_lst h) fun σ H Q ⟨B, Z, r, S, s, rr, p⟩ => ⟨B, Z, r, S, s, rr, (Post.bind p).imp fun vs S1 B1 H1 e1 s1 q xs hxs => by
    unfold mkLstM at q
    split at q
    · rename_i hl
      refine ⟨k1000 (by rw [← hxs.length]; exact hl), fun a ha => ?_⟩
      split at q
      · rename_i ds q1
        exact push_list s1 (hxs.datas q1) q ha
      · exact q.elim
    · exact q.elim⟩
theorem s_lstX {es : List Expr} {f : FA} {pos : Pos} (h : PA X es (TAx c W f)) : PE X (.List es pos) (TEx c W (eLstX f)) :=
  pe_imp (pe_lst h) fun σ H Q ⟨B, Z, r, S, s, rr, p⟩ => ⟨B, Z, r, S, s, rr, (Post.bind p).imp fun vs S1 B1 H1 e1 s1 q xs hxs => by
    unfold mkLstX at q
    split at q
    · rename_i hl
      refine ⟨k1000 (by rw [← hxs.length]; exact hl), fun a ha => ?_⟩
      have e := Ev.push (o := HO.lst xs) s1 ha
      exact q (B1 ++ [a]) _ e (s1.push ha ⟨xs, upd_same, hxs.ev e⟩) _ (.ref (by rw [← s1.len]; simp))
    · exact q.elim⟩

/-! ## subscripts -/
def ixD (ds : List PyData) (i : Int) : Option PyData := atI ds i
theorem atI_of {K : PySem.W.Frag} {H : Hp} {bd : List Addr} {ds : List PyData} {xs : List V} {i : Int} {d : PyData} (r : RDs K H bd ds xs) (e : atI ds i = some d) : ∃ x, atI xs i = some x ∧ RD K H bd d x := by
  unfold atI at e ⊢
  rw [← r.length]
  cases q : ixN ds.length i with
  | none => rw [q] at e; cases e
  | some j =>
    rw [q] at e
    have e : ds[j]? = some d := e
    exact r.get e
@[simp] def oIx : O2 := fun v w S => match w with
  | .d (.int i) => (match v with
    | .d (.str z) => if z.length ≤ sizeLine then (match atI z.cps.toList i with
      | some k => .ok (.d (.str ⟨#[k]⟩)) S
      | none => .bad) else .bad
    | .scr ns => (match atI ns i with
      | some k => .ok (.d (.int k)) S
      | none => .bad)
    | _ => (match itemsOf v S with
      | some ds => (match atI ds i with
        | some d => .ok (.d d) S
        | none => .bad)
      | none => .bad))
  | _ => .bad
theorem RI.scrS {H : Hp} {B Z : List Addr} {ns : List Int} {x : V} (h : RI c H B Z (.scr ns) x) : ∃ a, x = .ref a ∧ SqL c.K H a (ns.map V.int) := by
  cases h with
  | scr h _ => exact ⟨_, rfl, .inl h⟩
  | scrK h => exact ⟨_, rfl, .inr h⟩
theorem atI_map {α β : Type} (f : α → β) {xs : List α} {i : Int} {v : α} (h : atI xs i = some v) : atI (xs.map f) i = some (f v) := by
  unfold atI at h ⊢
  rw [List.length_map]
  cases q : ixN xs.length i with
  | none => rw [q] at h; cases h
  | some j =>
    rw [q] at h
    have h : xs[j]? = some v := h
    show (xs.map f)[j]? = some (f v)
    rw [List.getElem?_map, h] <;> rfl
theorem k_ix : Ok2 c W (rIx c.K) oIx := by
  intro σ B Z H S v w x y Q s rv rw_ p
  unfold oIx at p
  split at p
  · rename_i i
    cases rw_ with
    | d rw_ =>
      cases rw_
      split at p
      · rename_i z
        split at p
        · rename_i hl
          split at p
          · rename_i k e
            cases rv with | d rv => cases rv; exact .inr (.inr ⟨_, _, k, rfl, rfl, hl, e, p.ret s _ (.d (.str _))⟩)
          · exact p.elim
        · exact p.elim
      · split at p
        · rename_i ns k e
          obtain ⟨a, rfl, h⟩ := rv.scrS
          exact .inl ⟨a, _, _, _, rfl, rfl, h, atI_map V.int e, p.ret s _ (.d (.int _))⟩
        · exact p.elim
      · split at p
        · rename_i ds e
          split at p
          · rename_i d q
            obtain ⟨a, xs, rfl, h1, h2⟩ := items_of s rv e
            obtain ⟨z, h3, h4⟩ := atI_of h2 q
            rcases h1 with h1 | h1
            · exact .inr (.inl ⟨a, xs, _, z, rfl, rfl, h1, h3, p.ret s _ (.d h4)⟩)
            · exact .inl ⟨a, xs, _, z, rfl, rfl, h1, h3, p.ret s _ (.d h4)⟩
          · exact p.elim
        · exact p.elim
  · exact p.elim
theorem s_ix {a b : Expr} {f g : FE} {pos : Pos} (hK : c.K = X.K) (ha : PE X a (TEx c W f)) (hb : PE X b (TEx c W g)) (hs : PlainIx b) : PE X (.Subscript a b pos) (TEx c W (eOp2 oIx f g)) :=
  pe_imp (pe_ix ix_seq ha hb hs) fun σ H Q h => two_of (by rw [← hK]; exact k_ix) h

/-! slices -/
abbrev FO := Rho → Sto → Out (Option Int)
@[simp] def pNo : FO := fun _ S => .ok none S
@[simp] def pSm (f : FE) : FO := fun r S => (f r S).bind fun v S' => match v with
  | .d (.int i) => .ok (some i) S'
  | _ => .bad
def TOx (c : Ct) (W : WX) (f : FO) : TO := fun σ H Q => ∃ B Z r S, SR c H B Z S ∧ RR c H B Z r σ ∧ Post c W B Z H σ (f r S) fun v _ _ H' => Q v H'
theorem s_pno : PO X none (TOx c W pNo) := ⟨fun pins s σ H Q I ⟨B, Z, r, S, sr, rr, p⟩ => po_none.run pins s σ H Q I (p.ret sr)⟩
theorem s_psm {e : Expr} {f : FE} (h : PE X e (TEx c W f)) : PO X (some e) (TOx c W (pSm f)) := ⟨fun pins s σ H Q I ⟨B, Z, r, S, sr, rr, p⟩ => (po_some h).run pins s σ H Q I
  ⟨B, Z, r, S, sr, rr, (Post.bind p).imp fun v S' B' H' e s' q x hx => by
    split at q
    · cases hx with | d hx => cases hx; exact ⟨_, rfl, q.ret s'⟩
    · exact q.elim⟩⟩
def cutD (xs : List PyData) (lo hi : Option Int) : List PyData := (xs.drop (HT.sIx xs.length 0 lo)).take (HT.sIx xs.length xs.length hi - HT.sIx xs.length 0 lo)
@[simp] def oSl (v : IV) (lo hi : Option Int) (S : Sto) : Out IV := match v with
  | .d (.str z) => if z.length ≤ sizeLine then .ok (.d (.str (cutS z lo hi))) S else .bad
  | .d (.tuple ds) => .ok (.d (.tuple (cutD ds lo hi))) S
  | .d (.list ds) => .ok (.d (.list (cutD ds lo hi))) S
  | .ref n => (match S[n]? with
    | some (.lst ds) => .ok (.d (.list (cutD ds lo hi))) S
    | _ => .bad)
  | .scr ns => .ok (.d (.list (cutD (ns.map PyData.int) lo hi))) S
  | _ => .bad
@[simp] def eSl (f : FE) (lo hi : FO) : FE := fun r S => (f r S).bind fun v S1 => (lo r S1).bind fun l S2 => (hi r S2).bind fun h S3 => oSl v l h S3
def rSl (K : PySem.W.Frag) : V → Option Int → Option Int → Hp → VK → Prop := fun x lo hi H Q => rSlA K x lo hi H Q ∨ rSlL K x lo hi H Q ∨ rSlS x lo hi H Q
theorem RDs.cut {K : PySem.W.Frag} {H : Hp} {bd : List Addr} {ds : List PyData} {xs : List V} (r : RDs K H bd ds xs) (lo hi : Option Int) : RDs K H bd (cutD ds lo hi) (cutV xs lo hi) := by
  unfold cutD cutV
  rw [r.length]
  exact (r.drop _).take _
theorem cut_all {xs : List PyData} {lo hi : Option Int} (h : HT.sIx xs.length 0 lo = 0 ∧ HT.sIx xs.length xs.length hi = xs.length) : cutD xs lo hi = xs := by
  unfold cutD
  rw [h.1, h.2]
  simp
theorem k_sl {σ : L2.St} {B Z : List Addr} {H : Hp} {S : Sto} {v : IV} {x : V} {lo hi : Option Int} {Q : VK} (s : SR c H B Z S) (rv : RI c H B Z v x)
    (p : Post c W B Z H σ (oSl v lo hi S) (fun z _ B' H' => ∀ y, RI c H' B' Z z y → Q y H')) : rSl c.K x lo hi H Q := by
  unfold oSl at p
  split at p
  · split at p
    · rename_i hl
      cases rv with | d rv => cases rv; exact .inr (.inr ⟨_, rfl, hl, p.ret s _ (.d (.str _))⟩)
    · exact p.elim
  · cases rv with
    | d rv =>
      have r0 := rv
      obtain ⟨a, xs, rfl, h1, h2⟩ := rv.tupS
      refine .inl ⟨a, xs, rfl, h1, fun hw => ?_, fun hw q hq => p B _ (Ev.new s hq) (s.new hq) _ (.d (RD.newTup s hq (h2.cut lo hi)))⟩
      rw [← h2.length] at hw
      rw [cut_all hw] at p
      exact p.ret s _ (.d r0)
  · cases rv with
    | d rv =>
      obtain ⟨a, xs, rfl, h1, h2⟩ := rv.lstS
      exact .inr (.inl ⟨a, xs, rfl, .of h1, fun q hq => p B _ (Ev.new s hq) (s.new hq) _ (.d (RD.newList s hq (h2.cut lo hi)))⟩)
  · split at p
    · rename_i e
      obtain ⟨b, xs, rfl, _, h1, h2⟩ := s.lst e rv
      exact .inr (.inl ⟨b, xs, rfl, .of h1, fun q hq => p B _ (Ev.new s hq) (s.new hq) _ (.d (RD.newList s hq (h2.cut lo hi)))⟩)
    · exact p.elim
  · obtain ⟨a, rfl, h⟩ := rv.scrS
    exact .inr (.inl ⟨a, _, rfl, h, fun q hq => p B _ (Ev.new s hq) (s.new hq) _ (.d (RD.newList s hq ((rds_ints _).cut lo hi)))⟩)
  · exact p.elim
theorem s_sl {e : Expr} {lo hi : Option Expr} {f : FE} {l h : FO} {p2 pos : Pos} (hK : c.K = X.K) (he : PE X e (TEx c W f)) (hl : PO X lo (TOx c W l)) (hh : PO X hi (TOx c W h)) : PE X (.Subscript e (.Slice lo hi none p2) pos) (TEx c W (eSl f l h)) :=
  pe_imp (pe_slice (r := rSl X.K) (sl_tupA.or (sl_list.or sl_str)) he hl hh) fun σ H Q ⟨B, Z, r, S, s, rr, p⟩ => ⟨B, Z, r, S, s, rr, (Post.bind p).imp fun v S1 B1 H1 e1 s1 q1 x hx =>
    ⟨B1, Z, r, S1, s1, rr.ev e1, (Post.bind q1).imp fun l S2 B2 H2 e2 s2 q2 => ⟨B2, Z, r, S2, s2, (rr.ev e1).ev e2, (Post.bind q2).imp fun h S3 B3 H3 e3 s3 q3 => by
      rw [← hK]
      exact k_sl s3 ((hx.ev e2).ev e3) q3⟩⟩⟩
end
end MI
set_option maxRecDepth 100000
set_option maxHeartbeats 4000000
namespace MI
open PySem L2

/-! ## statements -/
inductive SOut where
  | nx (r : Rho) (S : Sto)
  | ret (v : IV) (S : Sto)
  | brk (r : Rho) (S : Sto)
  | ct (r : Rho) (S : Sto)
  | exn (n : Str) (v : PyData) (r : Rho) (S : Sto)
  | bad
abbrev FS := Rho → Sto → SOut
abbrev FG := IV → Rho → Sto → SOut
/-- a statement goes on behind an expression -/
def Out.to {α : Type} (o : Out α) (r : Rho) (f : α → Sto → SOut) : SOut := match o with
  | .ok a S => f a S
  | .exn n v S => .exn n v r S
  | .bad => .bad
def SOut.seq (o : SOut) (f : Rho → Sto → SOut) : SOut := match o with
  | .nx r S => f r S
  | o => o
def PostS (c : Ct) (W : WX) (B Z : List Addr) (H : Hp) (D : Ends) (o : SOut) : Prop := match o with
  | .nx r S => ∀ σ B' H', Ev B H B' H' → SR c H' B' Z S → RR c H' B' Z r σ → D.nx σ H'
  | .brk r S => ∀ σ B' H', Ev B H B' H' → SR c H' B' Z S → RR c H' B' Z r σ → D.bk σ H'
  | .ct r S => ∀ σ B' H', Ev B H B' H' → SR c H' B' Z S → RR c H' B' Z r σ → D.ct σ H'
  | .ret v S => ∀ x B' H', Ev B H B' H' → SR c H' B' Z S → RI c H' B' Z v x → D.rt x H'
  | .exn n v r S => ∀ cls dd σ B' H', Ev B H B' H' → SR c H' B' Z S → RR c H' B' Z r σ → RX c H' (B' ++ Z) n v cls dd → W cls dd σ H'
  | .bad => False
def TSx (c : Ct) (W : WX) (f : FS) : TS := fun D σ H => ∃ B Z r S, SR c H B Z S ∧ RR c H B Z r σ ∧ PostS c W B Z H D (f r S)
def TGx (c : Ct) (W : WX) (g : FG) : TG := fun x σ H Q => ∃ B Z r S v, SR c H B Z S ∧ RR c H B Z r σ ∧ RI c H B Z v x ∧ PostS c W B Z H { nx := Q, rt := fun _ _ => False, bk := fun _ _ => False, ct := fun _ _ => False } (g v r S)
section
variable {c : Ct} {W : WX} {X : Cx} {B Z B1 : List Addr} {H H1 : Hp} {σ : L2.St} {α : Type} {D D' : Ends}
theorem PostS.far {o : SOut} (e : Ev B H B1 H1) (h : PostS c W B Z H D o) : PostS c W B1 Z H1 D o := by
  cases o with
  | nx r S => exact fun σ B' H' f => h σ B' H' (e.trans f)
  | brk r S => exact fun σ B' H' f => h σ B' H' (e.trans f)
  | ct r S => exact fun σ B' H' f => h σ B' H' (e.trans f)
  | ret v S => exact fun x B' H' f => h x B' H' (e.trans f)
  | exn n v r S => exact fun cls dd σ B' H' f => h cls dd σ B' H' (e.trans f)
  | bad => exact h
/-- the end of an expression -/
theorem Post.to {o : Out α} {r : Rho} {f : α → Sto → SOut} (rr : RR c H B Z r σ) (h : PostS c W B Z H D (o.to r f)) : Post c W B Z H σ o fun v S' B' H' => PostS c W B' Z H' D (f v S') := by
  cases o with
  | ok v S =>
    have h : PostS c W B Z H D (f v S) := h
    exact fun B' H' e s => h.far e
  | exn n v S => exact fun cls dd B' H' e s rx => h cls dd σ B' H' e s (rr.ev e) rx
  | bad => exact h
theorem PostS.nxr {r : Rho} {S : Sto} (s : SR c H B Z S) (rr : RR c H B Z r σ) (h : PostS c W B Z H D (.nx r S)) : D.nx σ H := h σ B H (Ev.refl s) s rr
theorem PostS.retr {v : IV} {x : V} {S : Sto} (s : SR c H B Z S) (rv : RI c H B Z v x) (h : PostS c W B Z H D (.ret v S)) : D.rt x H := h x B H (Ev.refl s) s rv
/-- one after the other, in another's ends -/
theorem PostS.seq {o : SOut} {f : Rho → Sto → SOut} (h : PostS c W B Z H D (o.seq f)) (hn : ∀ r S σ B' H', Ev B H B' H' → SR c H' B' Z S → RR c H' B' Z r σ → PostS c W B' Z H' D (f r S) → D'.nx σ H')
    (h1 : D'.rt = D.rt) (h2 : D'.bk = D.bk) (h3 : D'.ct = D.ct) : PostS c W B Z H D' o := by
  cases o with
  | nx r S =>
    have h : PostS c W B Z H D (f r S) := h
    exact fun σ B' H' e s rr => hn r S σ B' H' e s rr (h.far e)
  | brk r S =>
    show ∀ σ B' H', _ → _ → _ → D'.bk σ H'
    rw [h2]; exact h
  | ct r S =>
    show ∀ σ B' H', _ → _ → _ → D'.ct σ H'
    rw [h3]; exact h
  | ret v S =>
    show ∀ x B' H', _ → _ → _ → D'.rt x H'
    rw [h1]; exact h
  | exn n v r S => exact h
  | bad => exact h

/-! ### blocks, small statements -/
@[simp] def sNil : FS := fun r S => .nx r S
@[simp] def sCons (a b : FS) : FS := fun r S => (a r S).seq b
theorem s_snil : PSs X [] (TSx c W sNil) := pss_imp pss_nil fun D σ H ⟨B, Z, r, S, s, rr, p⟩ => p.nxr s rr
theorem s_scons {st : Stmt} {rest : List Stmt} {a b : FS} (h1 : PS X st (TSx c W a)) (h2 : PSs X rest (TSx c W b)) : PSs X (st :: rest) (TSx c W (sCons a b)) :=
  pss_imp (pss_cons h1 h2) fun D σ H ⟨B, Z, r, S, s, rr, p⟩ => ⟨B, Z, r, S, s, rr, p.seq (fun r' S' σ' B' H' e s' rr' q => ⟨B', Z, r', S', s', rr', q⟩) rfl rfl rfl⟩
theorem s_sone {st : Stmt} {a : FS} (h1 : PS X st (TSx c W a)) : PSs X [st] (TSx c W a) := pss_one h1
@[simp] def sPass : FS := fun r S => .nx r S
@[simp] def sBrk : FS := fun r S => .brk r S
@[simp] def sCt : FS := fun r S => .ct r S
theorem s_pass {pos : Pos} : PS X (.Pass pos) (TSx c W sPass) := ps_imp ps_pass fun D σ H ⟨B, Z, r, S, s, rr, p⟩ => p.nxr s rr
theorem s_brk {pos : Pos} : PS X (.Break pos) (TSx c W sBrk) := ps_imp ps_break fun D σ H ⟨B, Z, r, S, s, rr, p⟩ => p σ B H (Ev.refl s) s rr
theorem s_ct {pos : Pos} : PS X (.Continue pos) (TSx c W sCt) := ps_imp ps_continue fun D σ H ⟨B, Z, r, S, s, rr, p⟩ => p σ B H (Ev.refl s) s rr
@[simp] def sEx (f : FE) : FS := fun r S => (f r S).to r fun _ S' => .nx r S'
theorem s_ex {e : Expr} {f : FE} {pos : Pos} (h : PE X e (TEx c W f)) (hs : swapsWith e none pos.line X.env = pure false := by rfl) : PS X (.Expr e pos) (TSx c W (sEx f)) :=
  ps_imp (ps_expr h hs) fun D σ H ⟨B, Z, r, S, s, rr, p⟩ => ⟨B, Z, r, S, s, rr, (Post.to rr p).imp fun v S' B' H' e s' q x hx => q.nxr s' (rr.ev e)⟩
@[simp] def sRet (f : FE) : FS := fun r S => (f r S).to r fun v S' => .ret v S'
theorem s_ret {e : Expr} {f : FE} {pos : Pos} (h : PE X e (TEx c W f)) : PS X (.Return (some e) pos) (TSx c W (sRet f)) :=
  ps_imp (ps_ret h) fun D σ H ⟨B, Z, r, S, s, rr, p⟩ => ⟨B, Z, r, S, s, rr, (Post.to rr p).imp fun v S' B' H' e s' q x hx => q.retr s' hx⟩
@[simp] def sIf (t : FT) (a b : FS) : FS := fun r S => (t r S).to r fun k S' => if k = true then a r S' else b r S'
theorem s_sif {t : Expr} {a b : List Stmt} {ft : FT} {fa fb : FS} {pos : Pos} (ht : PT X t (TTx c W ft)) (ha : PSs X a (TSx c W fa)) (hb : PSs X b (TSx c W fb)) : PS X (.If t a b pos) (TSx c W (sIf ft fa fb)) :=
  ps_imp (ps_if ht ha hb) fun D σ H ⟨B, Z, r, S, s, rr, p⟩ => ⟨B, Z, r, S, s, rr, (Post.to rr p).imp fun k S' B' H' e s' q => by
    cases k with
    | true => exact ⟨B', Z, r, S', s', rr.ev e, q⟩
    | false => exact ⟨B', Z, r, S', s', rr.ev e, q⟩⟩

/-! ### targets -/
@[simp] def gNm (i : Nat) : FG := fun v r S => .nx (r.set i (some v)) S
theorem s_gnm {i : Nat} {x : Str} {pos : Pos} (h : PG X (.Name x pos) (gName i)) : PG X (.Name x pos) (TGx c W (gNm i)) :=
  ⟨fun pins s σ H v u Q I rv ⟨B, Z, r, S, iv, sr, rr, ri, p⟩ => h.run pins s σ H v u Q I rv (p (σ.set i (some v)) B H (Ev.refl sr) sr (rr.set ri i))⟩
/-- several targets -/
abbrev FGs := List IV → Rho → Sto → SOut
@[simp] def gsNil : FGs := fun vs r S => match vs with
  | [] => .nx r S
  | _ => .bad
@[simp] def gsCons (g : FG) (t : FGs) : FGs := fun vs r S => match vs with
  | v :: rest => (g v r S).seq (t rest)
  | [] => .bad
def TGsx (c : Ct) (W : WX) (g : FGs) : TGs := fun xs σ H Q => ∃ B Z r S vs, SR c H B Z S ∧ RR c H B Z r σ ∧ RIs c H B Z vs xs ∧ PostS c W B Z H { nx := Q, rt := fun _ _ => False, bk := fun _ _ => False, ct := fun _ _ => False } (g vs r S)
theorem s_gsnil : PGs X [] (TGsx c W gsNil) := ⟨fun pins s σ H xs us Q I rv ⟨B, Z, r, S, vs, sr, rr, ri, p⟩ => pgs_nil.run pins s σ H xs us Q I rv (by
  unfold gsNil at p
  split at p
  · cases ri; exact ⟨rfl, p.nxr sr rr⟩
  · exact p.elim)⟩
theorem RIs.evs {vs : List IV} {xs : List V} (h : RIs c H B Z vs xs) (e : Ev B H B1 H1) : RIs c H1 B1 Z vs xs := h.ev e
theorem s_gscons {e : Expr} {es : List Expr} {g : FG} {t : FGs} (h1 : PG X e (TGx c W g)) (h2 : PGs X es (TGsx c W t)) (hs : (assignEach (e :: es) X.env).map (·.2) = assign e X.env :: (assignEach es X.env).map (·.2) := by rfl) : PGs X (e :: es) (TGsx c W (gsCons g t)) :=
  ⟨fun pins s σ H xs us Q I rv ⟨B, Z, r, S, vs, sr, rr, ri, p⟩ => (pgs_cons h1 h2 hs).run pins s σ H xs us Q I rv (by
    unfold gsCons at p
    split at p
    · cases ri with
      | cons hv ht =>
        refine ⟨_, _, rfl, B, Z, r, S, _, sr, rr, hv, ?_⟩
        exact p.seq (fun r' S' σ' B' H' e' s' rr' q => ⟨B', Z, r', S', _, s', rr', ht.ev e', q⟩) rfl rfl rfl
    · exact p.elim)⟩
/-- a tuple's items -/
@[simp] def partsT : IV → Option (List IV)
  | .d (.tuple ds) => some (ds.map IV.d)
  | .tup vs => some vs
  | _ => none
@[simp] def gTp (n : Nat) (t : FGs) : FG := fun v r S => match partsT v with
  | some vs => if vs.length = n then t vs r S else .bad
  | none => .bad
theorem parts_of {v : IV} {x : V} {vs : List IV} (h : RI c H B Z v x) (e : partsT v = some vs) : ∃ a xs, x = .ref a ∧ SqT c.K H a xs ∧ RIs c H B Z vs xs := by
  unfold partsT at e
  split at e
  · cases e
    cases h with
    | d h => obtain ⟨a, xs, h1, h2, h3⟩ := h.tupS; exact ⟨a, xs, h1, h2, .ofDs h3⟩
  · cases e
    cases h with
    | tup h hb r => exact ⟨_, _, rfl, .of h, r⟩
  · cases e
theorem s_gtp {es : List Expr} {k n : Nat} {t : FGs} {pos : Pos} (hc : X.calm = true) (hK : c.K = X.K) (h : PGs X es (TGsx c W t)) (hn : (assignEach es X.env).length = n := by rfl) (hst : (assignEach es X.env).findIdx? (·.1) = none := by rfl) :
    PG X (.Tuple es k pos) (TGx c W (gTp n t)) := ⟨fun pins s σ H v u Q I rv ⟨B, Z, r, S, iv, sr, rr, ri, p⟩ => (pg_tup hc h hn hst).run pins s σ H v u Q I rv (by
  unfold gTp at p
  split at p
  · rename_i vs q
    split at p
    · rename_i hl
      obtain ⟨a, xs, h1, h2, h3⟩ := parts_of ri q
      exact ⟨a, xs, h1, by rw [← hK]; exact h2, by rw [← h3.length]; exact hl, B, Z, r, S, vs, sr, rr, h3, p⟩
    · exact p.elim
  · exact p.elim)⟩
/-- xs[i] = v of an object of the store -/
@[simp] def stPut (o i v : IV) (S : Sto) : Option Sto := match o, i with
  | .ref n, .d (.int k) => (match S[n]?, v with
    | some (.lst ds), .d d => (match ixN ds.length k with
      | some j => some (S.set n (.lst (ds.set j d)))
      | none => none)
    | _, _ => none)
  | _, _ => none
@[simp] def gSb (o i : FE) : FG := fun v r S => (o r S).to r fun ov S1 => (i r S1).to r fun iv S2 => match stPut ov iv v S2 with
  | some S3 => .nx r S3
  | none => .bad
theorem SR.putL {S : Sto} {n : Nat} {b : Addr} {ds : List PyData} {xs : List V} (s : SR c H B Z S) (hb : B[n]? = some b) (r : RDs c.K H (B ++ Z) ds xs) : SR c (upd H b (.lst xs)) B Z (S.set n (.lst ds)) ∧ Ev B H B (upd H b (.lst xs)) := by
  have e := Ev.put (o := HO.lst xs) s hb
  exact ⟨s.put hb ⟨xs, upd_same, r.ev e⟩, e⟩
theorem k_put {o i v : IV} {xo xi xv : V} {S S' : Sto} {Q : Hp → Prop} (s : SR c H B Z S) (ro : RI c H B Z o xo) (ri : RI c H B Z i xi) (rv : RI c H B Z v xv) (e : stPut o i v S = some S')
    (h : ∀ H', Ev B H B H' → SR c H' B Z S' → Q H') : rSetL xo xi xv H Q := by
  unfold stPut at e
  split at e
  · rename_i n k
    split at e
    · rename_i ds d q
      split at e
      · rename_i j hj
        cases e
        obtain ⟨b, xs, rfl, hb, h1, h2⟩ := s.lst q ro
        cases ri with
        | d ri =>
          cases ri
          cases rv with
          | d rv =>
            have w := s.putL hb (h2.set j rv)
            exact ⟨b, xs, k, j, rfl, rfl, h1, by rw [← h2.length]; exact hj, h _ w.2 w.1⟩
      · cases e
    · cases e
  · cases e
theorem s_gsb {o i : Expr} {fo fi : FE} {pos : Pos} (ho : PE X o (TEx c W fo)) (hi : PE X i (TEx c W fi))
    (ha : ∀ v, assign (.Subscript o i pos) X.env v = (do
      let ov ← holding [v] (eval o X.env); let iv ← holding [v, ov] (eval i X.env); standAt pos; holding [v, ov, iv] (setItem ov iv v); release [v, ov, iv] []) := by intro _; rfl) : PG X (.Subscript o i pos) (TGx c W (gSb fo fi)) :=
  ⟨fun pins s σ H v u Q I rv ⟨B, Z, r, S, iv, sr, rr, ri, p⟩ => (pg_sub ho hi set_list ha).run pins s σ H v u Q I rv
    ⟨B, Z, r, S, sr, rr, (Post.to rr p).imp fun ov S1 B1 H1 e1 s1 q1 xo hxo => ⟨B1, Z, r, S1, s1, rr.ev e1, (Post.to (rr.ev e1) q1).imp fun jv S2 B2 H2 e2 s2 q2 xi hxi => by
      split at q2
      · rename_i S3 q3
        exact k_put s2 (hxo.ev e2) hxi ((ri.ev e1).ev e2) q3 fun H' e3 s3 => q2 σ B2 H' e3 s3 (((rr.ev e1).ev e2).ev e3)
      · exact q2.elim⟩⟩⟩
@[simp] def sAs (f : FE) (g : FG) : FS := fun r S => (f r S).to r fun v S' => g v r S'
theorem asg_of {f : FE} {g : FG} {D : Ends} {σ : L2.St} {H : Hp} (h : TSx c W (sAs f g) D σ H) (hg : ∀ v r S B Z H x σ, SR c H B Z S → RR c H B Z r σ → RI c H B Z v x → PostS c W B Z H D (g v r S) → PostS c W B Z H { nx := D.nx, rt := fun _ _ => False, bk := fun _ _ => False, ct := fun _ _ => False } (g v r S)) :
    tAsg (TEx c W f) (TGx c W g) D σ H := by
  obtain ⟨B, Z, r, S, s, rr, p⟩ := h
  exact ⟨B, Z, r, S, s, rr, (Post.to rr p).imp fun v S' B' H' e s' q x hx => ⟨B', Z, r, S', v, s', rr.ev e, hx, hg _ _ _ _ _ _ _ _ s' (rr.ev e) hx q⟩⟩
/-- a target's outcome is no break, no continue, no return -/
def GOk (g : FG) : Prop := ∀ v r S, match g v r S with
  | .nx _ _ => True
  | .exn _ _ _ _ => True
  | .bad => True
  | _ => False
theorem GOk.post {g : FG} (k : GOk g) {v : IV} {r : Rho} {S : Sto} (h : PostS c W B Z H D (g v r S)) : PostS c W B Z H { nx := D.nx, rt := fun _ _ => False, bk := fun _ _ => False, ct := fun _ _ => False } (g v r S) := by
  have q := k v r S
  cases e : g v r S with
  | nx r' S' => rw [e] at h; exact h
  | exn n v r' S' => rw [e] at h; exact h
  | bad => rw [e] at h; exact h
  | ret v S' => rw [e] at q; exact q.elim
  | brk r' S' => rw [e] at q; exact q.elim
  | ct r' S' => rw [e] at q; exact q.elim
theorem s_as {tg e : Expr} {f : FE} {g : FG} {pos : Pos} (he : PE X e (TEx c W f)) (hg : PG X tg (TGx c W g)) (k : GOk g) (hs : swapsWithSole [tg] e pos.line X.env = pure false := by rfl) (hw : swappedStores [tg] e X.env = pure none := by rfl)
    (h1 : (assignEach [tg] X.env).map (·.2) = [assign tg X.env] := by rfl) : PS X (.Assign [tg] e pos) (TSx c W (sAs f g)) :=
  ps_imp (ps_asg he hg hs hw h1) fun D σ H h => asg_of h fun v r S B Z H x σ _ _ _ q => k.post q
@[simp] def sSet (f : FE) (i : Nat) : FS := fun r S => (f r S).to r fun v S' => .nx (r.set i (some v)) S'
theorem s_set {i : Nat} {x : Str} {e : Expr} {f : FE} {pos' pos : Pos} (hN : X.N.Nodup) (hi : X.N[i]? = some x) (hx : Loc X.env.scope x) (he : PE X e (TEx c W f)) (hs : swapsWith e (some (.Name x pos')) pos.line X.env = pure false := by rfl)
    (hf : X.fn x = true ∨ X.env.scope.names.lookup x = some .local := by first | exact .inl rfl | exact .inr rfl | assumption) : PS X (.Assign [.Name x pos'] e pos) (TSx c W (sSet f i)) :=
  ps_imp (ps_set hN hi hx he hs hf) fun D σ H ⟨B, Z, r, S, s, rr, p⟩ => ⟨B, Z, r, S, s, rr, (Post.to rr p).imp fun v S' B' H' e s' q x hx => q.nxr s' ((rr.ev e).set hx i)⟩
/-- a, b = x, y -/
@[simp] def sPar (i j : Nat) (f : FA) : FS := fun r S => (f r S).to r fun vs S' => match vs with
  | [v, w] => .nx ((r.set i (some v)).set j (some w)) S'
  | _ => .bad
theorem s_par {i j : Nat} {x y : Str} {a b : Expr} {f : FA} {px py pt pos : Pos} {kt k2 pt2} (hc : X.calm = true) (hN : X.N.Nodup) (hi : X.N[i]? = some x) (hj : X.N[j]? = some y) (hij : i ≠ j) (hx : X.env.scope.names.lookup x = some .local) (hy : X.env.scope.names.lookup y = some .local)
    (ha : PA X [a, b] (TAx c W f)) (hw : swappedStores [.Tuple [.Name x px, .Name y py] kt pt] (.Tuple [a, b] k2 pt2) X.env = pure (some [x, y])) (hs : swapsWithSole [.Tuple [.Name x px, .Name y py] kt pt] (.Tuple [a, b] k2 pt2) pos.line X.env = pure false := by rfl) :
    PS X (.Assign [.Tuple [.Name x px, .Name y py] kt pt] (.Tuple [a, b] k2 pt2) pos) (TSx c W (sPar i j f)) :=
  ps_imp (ps_par hc hN hi hj hij hx hy ha hw hs) fun D σ H ⟨B, Z, r, S, s, rr, p⟩ => ⟨B, Z, r, S, s, rr, (Post.to rr p).imp fun vs S' B' H' e s' q xs hxs => by
    split at q
    · cases hxs with
      | cons h1 t =>
        cases t with
        | cons h2 t =>
          cases t
          exact ⟨_, _, rfl, q.nxr s' (((rr.ev e).set h1 i).set h2 j)⟩
    · exact q.elim⟩
end
end MI
set_option maxRecDepth 100000
set_option maxHeartbeats 4000000
namespace MI
open PySem L2
section
variable {c : Ct} {W : WX} {X : Cx} {B Z B1 : List Addr} {H H1 : Hp} {σ : L2.St} {α : Type} {D D' : Ends}
theorem g_nm {i : Nat} : GOk (gNm i) := fun v r S => trivial
theorem SOut.seq_ok {o : SOut} {f : Rho → Sto → SOut} (h : match o with | .nx _ _ => True | .exn _ _ _ _ => True | .bad => True | _ => False) (k : ∀ r S, match f r S with | .nx _ _ => True | .exn _ _ _ _ => True | .bad => True | _ => False) :
    match o.seq f with | .nx _ _ => True | .exn _ _ _ _ => True | .bad => True | _ => False := by
  cases o with
  | nx r S => exact k r S
  | exn n v r S => trivial
  | bad => trivial
  | ret v S => exact h.elim
  | brk r S => exact h.elim
  | ct r S => exact h.elim
def GsOk (g : FGs) : Prop := ∀ v r S, match g v r S with
  | .nx _ _ => True
  | .exn _ _ _ _ => True
  | .bad => True
  | _ => False
theorem g_snil : GsOk gsNil := fun v r S => by
  unfold gsNil
  cases v <;> trivial
theorem g_scons {g : FG} {t : FGs} (h : GOk g) (k : GsOk t) : GsOk (gsCons g t) := fun v r S => by
  unfold gsCons
  cases v with
  | nil => trivial
  | cons a b => exact SOut.seq_ok (h a r S) fun r S => k b r S
theorem g_tp {n : Nat} {t : FGs} (k : GsOk t) : GOk (gTp n t) := fun v r S => by
  unfold gTp
  cases partsT v with
  | none => trivial
  | some vs =>
    show match (if vs.length = n then t vs r S else SOut.bad) with | .nx _ _ => True | .exn _ _ _ _ => True | .bad => True | _ => False
    by_cases h : vs.length = n
    · rw [if_pos h]; exact k vs r S
    · rw [if_neg h]; trivial
theorem g_sb {o i : FE} : GOk (gSb o i) := fun v r S => by
  unfold gSb
  cases o r S with
  | exn n v S => trivial
  | bad => trivial
  | ok ov S1 =>
    show match (Out.to (i r S1) r fun iv S2 => _) with | .nx _ _ => True | .exn _ _ _ _ => True | .bad => True | _ => False
    cases i r S1 with
    | exn n v S => trivial
    | bad => trivial
    | ok iv S2 =>
      show match (match stPut ov iv v S2 with | some S3 => SOut.nx r S3 | none => SOut.bad) with | .nx _ _ => True | .exn _ _ _ _ => True | .bad => True | _ => False
      cases stPut ov iv v S2 <;> trivial

/-! ## what is walked -/
abbrev FI := Rho → Sto → Out (List PyData)
/-- J gives the items ds one by one, whatever goes on meanwhile -/
def Gives (c : Ct) (B Z : List Addr) (H : Hp) (J : It) (ds : List PyData) : Prop := ∃ (G : Hp → Prop) (Y : Nat → Hp → V → Hp → Prop), Walk J ds.length G Y ∧ (∀ B' H', Ev B H B' H' → G H') ∧
  ∀ (Z' : List Addr), (∀ z, z ∈ Z' → z ∈ Z ∨ H z = none) → ∀ i B' H' S x H2, i < ds.length → Ev B H B' H' → SR c H' B' Z' S → Y i H' x H2 → Ev B' H' B' H2 ∧ SR c H2 B' Z' S ∧ ∃ d, ds[i]? = some d ∧ RD c.K H2 (B' ++ Z') d x
theorem Ev.farZ {H H' : Hp} {B B' Z Z' : List Addr} (e : Ev B H B' H') (hz : ∀ z, z ∈ Z' → z ∈ Z ∨ H z = none) : ∀ a, a ∈ B' ++ Z' → a ∈ B ++ Z ∨ H a = none := fun a m => by
  rcases List.mem_append.mp m with m | m
  · exact e.far a (List.mem_append_left _ m)
  · exact (hz a m).imp (List.mem_append_right _) id
theorem RD.evZ {K : PySem.W.Frag} {H H' : Hp} {B B' Z Z' : List Addr} (e : Ev B H B' H') (hz : ∀ z, z ∈ Z' → z ∈ Z ∨ H z = none) {d : PyData} {v : V} (r : RD K H (B ++ Z) d v) : RD K H' (B' ++ Z') d v := r.mono e.kp (e.farZ hz)
theorem RDs.evZ {K : PySem.W.Frag} {H H' : Hp} {B B' Z Z' : List Addr} (e : Ev B H B' H') (hz : ∀ z, z ∈ Z' → z ∈ Z ∨ H z = none) {d : List PyData} {v : List V} (r : RDs K H (B ++ Z) d v) : RDs K H' (B' ++ Z') d v := r.mono e.kp (e.farZ hz)
def TIx (c : Ct) (W : WX) (f : FI) : TI := fun σ H R => ∃ B Z r S, SR c H B Z S ∧ RR c H B Z r σ ∧ Post c W B Z H σ (f r S) fun ds _ B' H' => ∀ J, Gives c B' Z H' J ds → R J H'
theorem pi_imp {X : Cx} {tg e : Expr} {t t' : TI} (h : PI X tg e t) (k : ∀ σ H Q, t' σ H Q → t σ H Q) : PI X tg e t' := ⟨fun pins s σ H Q I q => h.run pins s σ H Q I (k σ H Q q)⟩
/-- a list or a tuple -/
def iAny (K : PySem.W.Frag) (tl : TE) : TI := fun σ H R => tl σ H fun x H1 => ∃ a xs, x = .ref a ∧ ((SqL K H1 a xs ∧ R (Itl K a) H1) ∨ (SqT K H1 a xs ∧ R (Itt K a) H1))
theorem pi_any {tg l : Expr} {tl : TE} (hl : PE X l tl) : PI X tg l (iAny X.K tl) := by
  refine ⟨fun pins s σ H R I h => thn (hl.run pins s σ H _ I h) fun v s1 ⟨x, H1, I1, r1, a, xs, e, q⟩ => ?_⟩
  subst e
  cases r1
  have fresh : ∀ b, b ∈ [s1.heap.objs.size] → FpOk X pins H1 b := fun b hb => by
    rw [List.mem_singleton.mp hb]
    exact I1.fpOk (Nat.le_refl _) (I1.hok.fresh (Nat.le_refl _))
  rcases q with ⟨hq, q⟩ | ⟨hq, q⟩
  · obtain ⟨its, rv, p, hz⟩ := I1.list hq
    exact wpAny_pyIter_list p.isList ⟨s1.heap.objs.size, [s1.heap.objs.size], _, _, H1, rfl, I1.kept (t' := s1.toks) fun b o e => Heap.get?_push_of_some _ e, turn_list a _, ⟨_, Heap.get?_push_size _ rfl, rfl, rfl⟩, fresh, q⟩
  · obtain ⟨its, rv, p, hz⟩ := I1.tuple hq
    exact wpAny_pyIter_tuple (show s1.heap.IsTuple a its.toArray from p) ⟨s1.heap.objs.size, [s1.heap.objs.size], _, _, H1, rfl, I1.kept (t' := s1.toks) fun b o e => Heap.get?_push_of_some _ e, turn_tuple a _, ⟨_, Heap.get?_push_size _ rfl, rfl, rfl⟩, fresh, q⟩
/-- frozen data -/
@[simp] def frozen : IV → Option (List PyData)
  | .d (.list ds) => some ds
  | .d (.tuple ds) => some ds
  | _ => none
@[simp] def iSeq (f : FE) : FI := fun r S => (f r S).bind fun v S' => match frozen v with
  | some ds => if ds.length < sizeLine then .ok ds S' else .bad
  | none => .bad
theorem SqT.evd {K : PySem.W.Frag} {a : Addr} {xs : List V} {bd : List Addr} (h : SqT K H a xs) (hb : (∃ o, H a = some o) → a ∉ bd) (k : ∀ o, H a = some o → a ∉ bd → H1 a = some o) : SqT K H1 a xs := by
  rcases h with (h | ⟨o, h⟩) | h
  · exact .inl (.inl (k _ h (hb ⟨_, h⟩)))
  · exact .inl (.inr ⟨o, k _ h (hb ⟨_, h⟩)⟩)
  · exact .inr h
theorem gives_tup {a : Addr} {ds : List PyData} (rd : RD c.K H (B ++ Z) (.tuple ds) (.ref a)) : Gives c B Z H (Itt c.K a) ds := by
  have main : ∀ xs, (∀ B' H', Ev B H B' H' → SqT c.K H' a xs) → RDs c.K H (B ++ Z) ds xs → Gives c B Z H (Itt c.K a) ds := fun xs k r => by
    refine ⟨fun H => SqT c.K H a xs, YAt xs, ?_, k, fun Z' hz i B' H' S x H2 hi e s y => ?_⟩
    · rw [r.length]; exact walk_tup
    · obtain ⟨rfl, hx⟩ := y
      refine ⟨Ev.refl s, s, ds[i], List.getElem?_eq_getElem hi, ?_⟩
      obtain ⟨z, h1, h2⟩ := (r.evZ e hz).get (List.getElem?_eq_getElem hi)
      rw [hx] at h1
      cases h1
      exact h2
  cases rd with
  | tup h hb r => exact main _ (fun B' H' e => .of (e.kp _ _ h hb)) r
  | tupK h r => exact main _ (fun B' H' e => .inr h) r
theorem gives_lst {a : Addr} {ds : List PyData} (rd : RD c.K H (B ++ Z) (.list ds) (.ref a)) : Gives c B Z H (Itl c.K a) ds := by
  cases rd with
  | lst h hb r =>
    rename_i xs
    refine ⟨fun H => SqL c.K H a xs, YAt xs, ?_, fun B' H' e => .of (e.kp _ _ h hb), fun Z' hz i B' H' S x H2 hi e s y => ?_⟩
    · rw [r.length]; exact walk_list
    · obtain ⟨rfl, hx⟩ := y
      refine ⟨Ev.refl s, s, ds[i], List.getElem?_eq_getElem hi, ?_⟩
      obtain ⟨z, h1, h2⟩ := (r.evZ e hz).get (List.getElem?_eq_getElem hi)
      rw [hx] at h1
      cases h1
      exact h2
theorem s_iseq {tg e : Expr} {f : FE} (hK : c.K = X.K) (h : PE X e (TEx c W f)) : PI X tg e (TIx c W (iSeq f)) :=
  pi_imp (pi_any h) fun σ H R ⟨B, Z, r, S, s, rr, p⟩ => ⟨B, Z, r, S, s, rr, (Post.bind p).imp fun v S1 B1 H1 e1 s1 q x hx => by
    rw [← hK]
    split at q
    · rename_i ds q1
      split at q
      · unfold frozen at q1
        split at q1
        · cases q1
          cases hx with
          | d rd =>
            have rd0 := rd
            obtain ⟨a, xs, rfl, h1, h2⟩ := rd.lstS
            exact ⟨a, xs, rfl, .inl ⟨.of h1, q.ret s1 _ (gives_lst rd0)⟩⟩
        · cases q1
          cases hx with
          | d rd =>
            have rd0 := rd
            obtain ⟨a, xs, rfl, h1, h2⟩ := rd.tupS
            exact ⟨a, xs, rfl, .inr ⟨h1, q.ret s1 _ (gives_tup rd0)⟩⟩
        · cases q1
      · exact q.elim
    · exact q.elim⟩
/-- ranges -/
def rngD (lo hi : Int) : List PyData := (List.range (hi - lo).toNat).map fun (k : Nat) => PyData.int (lo + k)
@[simp] def iR1 (f : FE) : FI := fun r S => (f r S).bind fun v S' => match v with
  | .d (.int j) => if j.natAbs < 2 ^ 24 then .ok (rngD 0 j) S' else .bad
  | _ => .bad
@[simp] def iR2 (f g : FE) : FI := fun r S => (f r S).bind fun v S1 => (g r S1).bind fun w S2 => match v, w with
  | .d (.int i), .d (.int j) => if i.natAbs < 2 ^ 23 ∧ j.natAbs < 2 ^ 23 then .ok (rngD i j) S2 else .bad
  | _, _ => .bad
theorem gives_rng {lo hi : Int} : Gives c B Z H (Itr lo (hi - lo).toNat) (rngD lo hi) := by
  refine ⟨fun _ => True, YFn fun i => .int (lo + i), ?_, fun _ _ _ => trivial, fun Z' hz i B' H' S x H2 hi' e s y => ?_⟩
  · have : (rngD lo hi).length = (hi - lo).toNat := by simp [rngD]
    rw [this]; exact walk_range
  · obtain ⟨rfl, rfl⟩ := y
    have hl : i < (hi - lo).toNat := by simpa [rngD] using hi'
    exact ⟨Ev.refl s, s, .int (lo + i), by simp [rngD, hl], .int _⟩
theorem s_ir1 {tg a : Expr} {f : FE} {p pos : Pos} (hg : Gl X "range") (hm : X.mg "range" = none) (h : PE X a (TEx c W f)) (hs : starEach [a] X.env = [(false, eval a X.env)] := by rfl) : PI X tg (.Call (.Name "range" p) [a] [] pos) (TIx c W (iR1 f)) :=
  pi_imp (pi_range1 hg hm (pa_cons h pa_nil hs) hs) fun σ H R ⟨B, Z, r, S, s, rr, q⟩ => ⟨B, Z, r, S, s, rr, (Post.bind q).imp fun v S1 B1 H1 e1 s1 q x hx => by
    split at q
    · rename_i j
      split at q
      · rename_i hj
        cases hx with
        | d hx =>
          cases hx
          refine ⟨j, rfl, by omega, by omega, q.ret s1 _ ?_⟩
          have := gives_rng (c := c) (B := B1) (Z := Z) (H := H1) (lo := 0) (hi := j)
          rw [Int.sub_zero] at this
          exact this
      · exact q.elim
    · exact q.elim⟩
theorem s_ir2 {tg a b : Expr} {f g : FE} {p pos : Pos} (hg : Gl X "range") (hm : X.mg "range" = none) (h : PE X a (TEx c W f)) (h2 : PE X b (TEx c W g)) (hs : starEach [a, b] X.env = [(false, eval a X.env), (false, eval b X.env)] := by rfl) (hs2 : starEach [b] X.env = [(false, eval b X.env)] := by rfl) :
    PI X tg (.Call (.Name "range" p) [a, b] [] pos) (TIx c W (iR2 f g)) :=
  pi_imp (pi_range2 hg hm (pa_cons h (pa_cons h2 pa_nil hs2) (by rw [hs, hs2])) hs hs2) fun σ H R ⟨B, Z, r, S, s, rr, q⟩ => ⟨B, Z, r, S, s, rr, (Post.bind q).imp fun v S1 B1 H1 e1 s1 q1 x hx =>
    ⟨B1, Z, r, S1, s1, rr.ev e1, (Post.bind q1).imp fun w S2 B2 H2 e2 s2 q y hy => by
    split at q
    · rename_i i j
      split at q
      · rename_i hj
        have hx := hx.ev e2
        cases hx with
        | d hx =>
          cases hx
          cases hy with
          | d hy =>
            cases hy
            exact ⟨i, j, rfl, ⟨by omega, by omega, by omega, by omega⟩, q.ret s2 _ gives_rng⟩
      · exact q.elim
    · exact q.elim⟩⟩
/-- new pairs -/
theorem gives_pair {J : It} {G : Hp → Prop} {as bs : List PyData} {xs ys : Nat → Option V} (n : Nat) (w : Walk J n G (YPair xs ys)) (kg : ∀ B' H', Ev B H B' H' → G H') (ds : List PyData) (hn : ds.length = n)
    (k : ∀ i, i < n → ∃ d e, ds[i]? = some (.tuple [d, e]) ∧ (∀ x, xs i = some x → RD c.K H (B ++ Z) d x) ∧ (∀ y, ys i = some y → RD c.K H (B ++ Z) e y)) : Gives c B Z H J ds := by
  refine ⟨G, YPair xs ys, by rw [hn]; exact w, kg, fun Z' hz i B' H' S x H2 hi e s y => ?_⟩
  obtain ⟨T, x1, y1, rfl, hT, rfl, h1, h2⟩ := y
  obtain ⟨d, e', hd, k1, k2⟩ := k i (by rw [← hn]; exact hi)
  refine ⟨Ev.new s hT, s.new hT, _, hd, RD.newTup s hT (.cons ((k1 _ h1).evZ e hz) (.cons ((k2 _ h2).evZ e hz) .nil))⟩
def zipD (as bs : List PyData) : List PyData := (as.zip bs).map fun p => .tuple [p.1, p.2]
def enumD (as : List PyData) : List PyData := (List.range as.length).zip as |>.map fun p => .tuple [.int (p.1 : Nat), p.2]
/-- zip of two lists, of two tuples -/
@[simp] def zipOf (v w : IV) : Option (List PyData) := match v, w with
  | .d (.list as), .d (.list bs) => some (zipD as bs)
  | .d (.tuple as), .d (.tuple bs) => some (zipD as bs)
  | _, _ => none
@[simp] def iZp (f g : FE) : FI := fun r S => (f r S).bind fun v S1 => (g r S1).bind fun w S2 => match zipOf v w with
  | some ds => if ds.length < sizeLine then .ok ds S2 else .bad
  | none => .bad
theorem zip_at {as bs : List PyData} {i : Nat} (h1 : i < as.length) (h2 : i < bs.length) : (zipD as bs)[i]? = some (.tuple [as[i], bs[i]]) := by
  have h : i < (as.zip bs).length := by rw [List.length_zip]; omega
  unfold zipD
  rw [List.getElem?_map, List.getElem?_eq_getElem h, List.getElem_zip] <;> rfl
theorem gives_zip {as bs : List PyData} {xs ys : List V} {J : It} {G : Hp → Prop} (w : Walk J (min xs.length ys.length) G (YPair (fun i => xs[i]?) fun i => ys[i]?)) (kg : ∀ B' H', Ev B H B' H' → G H') (ra : RDs c.K H (B ++ Z) as xs) (rb : RDs c.K H (B ++ Z) bs ys) : Gives c B Z H J (zipD as bs) := by
  refine gives_pair (as := as) (bs := bs) _ w kg _ (by simp [zipD, ra.length, rb.length]) fun i hi => ?_
  have h1 : i < as.length := by rw [ra.length]; omega
  have h2 : i < bs.length := by rw [rb.length]; omega
  refine ⟨as[i], bs[i], zip_at h1 h2, fun x q => ?_, fun x q => ?_⟩
  · obtain ⟨z, g1, g2⟩ := ra.get (List.getElem?_eq_getElem h1)
    rw [g1] at q; cases q; exact g2
  · obtain ⟨z, g1, g2⟩ := rb.get (List.getElem?_eq_getElem h2)
    rw [g1] at q; cases q; exact g2
theorem walk_zipT {K : PySem.W.Frag} {a b : Addr} {xs ys : List V} : Walk (RZ.ItzT K a b) (min xs.length ys.length) (fun H => SqT K H a xs ∧ SqT K H b ys) (YPair (fun i => xs[i]?) (fun i => ys[i]?)) := by
  refine ⟨fun i _ hi q => ?_, fun _ q => ⟨xs, ys, q.1, q.2, by omega⟩, fun i H v H' _ q y => ?_⟩
  · have h1 : i < xs.length := by omega
    have h2 : i < ys.length := by omega
    exact ⟨xs, ys, xs[i], ys[i], q.1, q.2, by simp [h1], by simp [h2]⟩
  · obtain ⟨T, x, z, h1, h2, h3, h4, h5⟩ := y
    exact ⟨T, x, z, h1, h2, h3, h4 xs q.1, h5 ys q.2⟩
theorem RD.tupE {a : Addr} {ds : List PyData} (rd : RD c.K H (B ++ Z) (.tuple ds) (.ref a)) : ∃ xs, (∀ B' H', Ev B H B' H' → SqT c.K H' a xs) ∧ RDs c.K H (B ++ Z) ds xs := by
  cases rd with
  | tup h hb r => exact ⟨_, fun B' H' e => .of (e.kp _ _ h hb), r⟩
  | tupK h r => exact ⟨_, fun B' H' e => .inr h, r⟩
theorem RD.lstE {a : Addr} {ds : List PyData} (rd : RD c.K H (B ++ Z) (.list ds) (.ref a)) : ∃ xs, (∀ B' H', Ev B H B' H' → SqL c.K H' a xs) ∧ RDs c.K H (B ++ Z) ds xs := by
  cases rd with
  | lst h hb r => exact ⟨_, fun B' H' e => .of (e.kp _ _ h hb), r⟩
theorem s_izp {e e2 : Expr} {f g : FE} {p pos tpos : Pos} {elts : List Expr} {kk : Nat} (hK : c.K = X.K) (hg : Gl X "zip") (hm : X.mg "zip" = none) (h : PE X e (TEx c W f)) (h2 : PE X e2 (TEx c W g))
    (hs : starEach [e, e2] X.env = (false, eval e X.env) :: starEach [e2] X.env := by rfl) (hs2 : starEach [e2] X.env = (false, eval e2 X.env) :: starEach [] X.env := by rfl) (hpl : (backTo pos (starEach [e2] X.env)).any (·.1) = false := by rfl) :
    PI X (.Tuple elts kk tpos) (.Call (.Name "zip" p) [e, e2] [] pos) (TIx c W (iZp f g)) :=
  pi_imp (RZ.pi_zipA hg hm (pa_cons h (pa_cons h2 pa_nil hs2) hs) hs hpl) fun σ H R ⟨B, Z, r, S, s, rr, q⟩ => ⟨B, Z, r, S, s, rr, (Post.bind q).imp fun v S1 B1 H1 e1 s1 q x hx =>
    ⟨B1, Z, r, S1, s1, rr.ev e1, (Post.bind q).imp fun w S2 B2 H2 e2 s2 q y hy => by
    rw [← hK]
    split at q
    · rename_i ds q1
      split at q
      · have hx := hx.ev e2
        unfold zipOf at q1
        split at q1
        · cases q1
          cases hx with
          | d hx =>
            cases hy with
            | d hy =>
              obtain ⟨a, _, rfl, _⟩ := id hx.lstS
              obtain ⟨b, _, rfl, _⟩ := id hy.lstS
              obtain ⟨xs, k1, r1⟩ := hx.lstE
              obtain ⟨ys, k2, r2⟩ := hy.lstE
              exact ⟨a, b, xs, ys, rfl, .inl ⟨k1 _ _ (Ev.refl s2), k2 _ _ (Ev.refl s2), q.ret s2 _ (gives_zip (walk_zip rfl) (fun B' H' e => ⟨k1 _ _ e, k2 _ _ e⟩) r1 r2)⟩⟩
        · cases q1
          cases hx with
          | d hx =>
            cases hy with
            | d hy =>
              obtain ⟨a, _, rfl, _⟩ := id hx.tupS
              obtain ⟨b, _, rfl, _⟩ := id hy.tupS
              obtain ⟨xs, k1, r1⟩ := hx.tupE
              obtain ⟨ys, k2, r2⟩ := hy.tupE
              exact ⟨a, b, xs, ys, rfl, .inr ⟨k1 _ _ (Ev.refl s2), k2 _ _ (Ev.refl s2), q.ret s2 _ (gives_zip walk_zipT (fun B' H' e => ⟨k1 _ _ e, k2 _ _ e⟩) r1 r2)⟩⟩
        · cases q1
      · exact q.elim
    · exact q.elim⟩⟩

/-! ## for -/
def forL (g : FG) (b : FS) : List PyData → Rho → Sto → SOut
  | [], r, S => .nx r S
  | d :: ds, r, S => match (g (.d d) r S).seq b with
    | .nx r' S' => forL g b ds r' S'
    | .ct r' S' => forL g b ds r' S'
    | .brk r' S' => .nx r' S'
    | o => o
@[simp] def sFor (it : FI) (g : FG) (b : FS) : FS := fun r S => (it r S).to r fun ds S' => forL g b ds r S'
/-- a loop's turn: what comes behind next and continue is N, behind break what follows the loop -/
theorem loop_turn {g : FG} {b : FS} {o : SOut} {k : Rho → Sto → SOut} {v : IV} {r : Rho} {S : Sto} {N : L2.St → Hp → Prop} (ho : o = (match (g v r S).seq b with | .nx r' S' => k r' S' | .ct r' S' => k r' S' | .brk r' S' => .nx r' S' | o => o)) (hg : GOk g)
    (h : PostS c W B Z H D o) (hn : ∀ r' S' σ B' H', Ev B H B' H' → SR c H' B' Z S' → RR c H' B' Z r' σ → PostS c W B' Z H' D (k r' S') → N σ H') :
    PostS c W B Z H { nx := fun σ2 H2 => TSx c W b { D with nx := N, ct := N, bk := D.nx } σ2 H2, rt := fun _ _ => False, bk := fun _ _ => False, ct := fun _ _ => False } (g v r S) := by
  have go := hg v r S
  have body : ∀ r1 S1, g v r S = .nx r1 S1 → PostS c W B Z H { D with nx := N, ct := N, bk := D.nx } (b r1 S1) := fun r1 S1 e => by
    rw [e] at ho
    have ho : o = (match b r1 S1 with | .nx r' S' => k r' S' | .ct r' S' => k r' S' | .brk r' S' => .nx r' S' | o => o) := ho
    cases q : b r1 S1 with
    | nx r' S' =>
      rw [q] at ho
      subst ho
      exact fun σ B' H' e s rr => hn r' S' σ B' H' e s rr (h.far e)
    | ct r' S' =>
      rw [q] at ho
      subst ho
      exact fun σ B' H' e s rr => hn r' S' σ B' H' e s rr (h.far e)
    | brk r' S' =>
      rw [q] at ho
      subst ho
      exact h
    | ret v S' =>
      rw [q] at ho
      subst ho
      exact h
    | exn n v r' S' =>
      rw [q] at ho
      subst ho
      exact h
    | bad =>
      rw [q] at ho
      subst ho
      exact h
  cases q : g v r S with
  | nx r1 S1 => exact fun σ B' H' e s rr => ⟨B', Z, r1, S1, s, rr, (body r1 S1 q).far e⟩
  | exn n v r1 S1 =>
    rw [q] at ho
    subst ho
    exact h
  | bad =>
    rw [q] at ho
    subst ho
    exact h
  | ret v S1 => rw [q] at go; exact go.elim
  | brk r1 S1 => rw [q] at go; exact go.elim
  | ct r1 S1 => rw [q] at go; exact go.elim
theorem for_of {J : It} {g : FG} {b : FS} {ds : List PyData} {r : Rho} {S : Sto} (hg : GOk g) (w : Gives c B Z H J ds) (s : SR c H B Z S) (rr : RR c H B Z r σ) (p : PostS c W B Z H D (forL g b ds r S)) :
    ∃ Wd : Nat → Nat → L2.St → Hp → Prop, (∃ m, Wd 0 m σ H) ∧ ∀ i m σ H, Wd i m σ H →
      (J.stop i H ∧ D.nx σ H) ∨ (J.go i H ∧ ∃ N : L2.St → Hp → Prop, (∀ σ' H', N σ' H' → ∃ m', m' < m ∧ Wd (i + 1) m' σ' H') ∧ ∀ x H', J.yld i H x H' → TGx c W g x σ H' fun σ2 H2 => TSx c W b { D with nx := N, ct := N, bk := D.nx } σ2 H2) := by
  obtain ⟨G, Y, wk, kg, ky⟩ := w
  refine for_it wk (fun i σ' H' => ∃ B' r' S', Ev B H B' H' ∧ SR c H' B' Z S' ∧ RR c H' B' Z r' σ' ∧ PostS c W B' Z H' D (forL g b (ds.drop i) r' S')) ⟨B, r, S, Ev.refl s, s, rr, p⟩ (fun i σ' H' _ ⟨B', r', S', e, _⟩ => kg B' H' e) ?_ ?_
  · rintro i x σ' H' H2 hi ⟨B', r', S', e, s', rr', p'⟩ y
    obtain ⟨e2, s2, d, hd, rd⟩ := ky Z (fun z m => .inl m) i B' H' S' x H2 hi e s' y
    have hds : ds.drop i = d :: ds.drop (i + 1) := by
      rw [List.drop_eq_getElem_cons hi]
      have := List.getElem?_eq_getElem hi
      rw [hd] at this
      cases this
      rfl
    rw [hds] at p'
    refine ⟨B', Z, r', S', .d d, s2, rr'.ev e2, .d rd, ?_⟩
    exact loop_turn (k := fun r' S' => forL g b (ds.drop (i + 1)) r' S') rfl hg (p'.far e2) fun r3 S3 σ3 B3 H3 e3 s3 rr3 q => ⟨B3, r3, S3, (e.trans e2).trans e3, s3, rr3, q⟩
  · rintro σ' H' ⟨B', r', S', e, s', rr', p'⟩
    rw [List.drop_length] at p'
    exact p'.nxr s' rr'
theorem s_for {tg iter : Expr} {body : List Stmt} {it : FI} {g : FG} {b : FS} {pos : Pos} (hp : PassesOwn (model X.prog X.w) X.A X.env X.xe) (hc : X.calm = true) (hi : PI X tg iter (TIx c W it)) (hg : PG X tg (TGx c W g)) (k : GOk g) (hb : PSs X body (TSx c W b))
    (hs : ∀ x, foldedSetIterable iter X.env x = pure x := by intro _; rfl) : PS X (.For tg iter body [] pos) (TSx c W (sFor it g b)) :=
  ps_imp (ps_for hp hc hi hg hb hs) fun D σ H ⟨B, Z, r, S, s, rr, p⟩ => ⟨B, Z, r, S, s, rr, (Post.to rr p).imp fun ds S1 B1 H1 e1 s1 q J w => for_of k w s1 (rr.ev e1) q⟩
/-- over a list of the store as it stands at each turn -/
def forV (g : FG) (b : FS) (n : Nat) : Nat → Nat → Rho → Sto → SOut
  | 0, _, _, _ => .bad
  | f + 1, i, r, S => match S[n]? with
    | some (.lst ds) => (match ds[i]? with
      | none => .nx r S
      | some d => (match (g (.d d) r S).seq b with
        | .nx r' S' => forV g b n f (i + 1) r' S'
        | .ct r' S' => forV g b n f (i + 1) r' S'
        | .brk r' S' => .nx r' S'
        | o => o))
    | _ => .bad
def sForV (f : FE) (g : FG) (b : FS) : FS := fun r S => (f r S).to r fun v S' => match v with
  | .ref n => forV g b n 100000 0 r S'
  | _ => .bad
theorem s_forV {tg e : Expr} {body : List Stmt} {f : FE} {g : FG} {b : FS} {pos : Pos} (hK : c.K = X.K) (hp : PassesOwn (model X.prog X.w) X.A X.env X.xe) (hc : X.calm = true) (he : PE X e (TEx c W f)) (hg : PG X tg (TGx c W g)) (k : GOk g) (hb : PSs X body (TSx c W b))
    (hs : ∀ x, foldedSetIterable e X.env x = pure x := by intro _; rfl) : PS X (.For tg e body [] pos) (TSx c W (sForV f g b)) :=
  ps_imp (ps_for hp hc (pi_list he) hg hb hs) fun D σ H ⟨B, Z, r, S, s, rr, p⟩ => ⟨B, Z, r, S, s, rr, (Post.to rr p).imp fun v S1 B1 H1 e1 s1 q x hx => by
    rw [← hK]
    split at q
    · rename_i n
      cases hx with
      | ref hb' =>
        rename_i b0
        have rr1 := rr.ev e1
        clear p rr s e1
        have start : ∃ ds, S1[n]? = some (.lst ds) := by
          unfold forV at q
          split at q
          · exact ⟨_, by assumption⟩
          · exact q.elim
        obtain ⟨ds0, h0⟩ := start
        obtain ⟨xs0, hH0, r0⟩ := s1.ob n b0 _ hb' h0
        refine ⟨b0, rfl, ⟨xs0, .of hH0⟩, fun i m σ H => ∃ B' r' S', Ev B1 H1 B' H ∧ SR c H B' Z S' ∧ RR c H B' Z r' σ ∧ B'[n]? = some b0 ∧ PostS c W B' Z H D (forV g b n m i r' S'), ⟨100000, B1, r, S1, Ev.refl s1, s1, rr1, hb', q⟩, ?_⟩
        rintro i m σ' H' ⟨B', r', S', e', s', rr', hb2, q'⟩
        cases m with
        | zero => exact q'.elim
        | succ m =>
          unfold forV at q'
          split at q'
          · rename_i ds hds
            obtain ⟨xs, hH, rds⟩ := s'.ob n b0 _ hb2 hds
            split at q'
            · rename_i hn
              refine .inl ⟨⟨xs, .of hH, ?_⟩, q'.nxr s' rr'⟩
              rw [← rds.length]
              exact List.getElem?_eq_none_iff.mp hn
            · rename_i d hd
              obtain ⟨x, hx1, hx2⟩ := rds.get hd
              refine .inr ⟨⟨xs, x, .of hH, hx1⟩, fun σ H => ∃ B2 r2 S2, Ev B1 H1 B2 H ∧ SR c H B2 Z S2 ∧ RR c H B2 Z r2 σ ∧ B2[n]? = some b0 ∧ PostS c W B2 Z H D (forV g b n m (i + 1) r2 S2), fun σ3 H3 w => ⟨m, Nat.lt_succ_self m, w⟩, fun y H2 hy => ?_⟩
              obtain ⟨rfl, hy⟩ := hy
              have hxy := hy xs (.of hH)
              rw [hx1] at hxy
              cases hxy
              refine ⟨B', Z, r', S', .d d, s', rr', .d hx2, ?_⟩
              refine loop_turn (k := fun r3 S3 => forV g b n m (i + 1) r3 S3) rfl k q' fun r3 S3 σ3 B3 H3 e3 s3 rr3 q3 => ⟨B3, r3, S3, e'.trans e3, s3, rr3, ?_, q3⟩
              obtain ⟨N, rfl, _⟩ := e3.pre
              rw [List.getElem?_append_left (List.getElem?_eq_some_iff.mp hb2).1]
              exact hb2
          · exact q'.elim
    · exact q.elim⟩
/-! ## while -/
def whl (t : FT) (b : FS) : Nat → Rho → Sto → SOut
  | 0, _, _ => .bad
  | f + 1, r, S => (t r S).to r fun k S1 => if k = true then (match b r S1 with
    | .nx r' S' => whl t b f r' S'
    | .ct r' S' => whl t b f r' S'
    | .brk r' S' => .nx r' S'
    | o => o) else .nx r S1
def sWh (t : FT) (b : FS) : FS := fun r S => whl t b 100000 r S
theorem s_wh {t : Expr} {body : List Stmt} {ft : FT} {b : FS} {pos : Pos} (hp : PassesOwn (model X.prog X.w) X.A X.env X.xe) (ht : PT X t (TTx c W ft)) (hb : PSs X body (TSx c W b)) : PS X (.While t body [] pos) (TSx c W (sWh ft b)) :=
  ps_imp (ps_while hp ht hb) fun D σ H ⟨B, Z, r, S, s, rr, p⟩ => by
    refine ⟨fun m σ H => ∃ B r S, SR c H B Z S ∧ RR c H B Z r σ ∧ PostS c W B Z H D (whl ft b m r S), ⟨100000, B, r, S, s, rr, p⟩, ?_⟩
    rintro m σ' H' ⟨B', r', S', s', rr', q'⟩
    cases m with
    | zero => exact q'.elim
    | succ m =>
      unfold whl at q'
      refine ⟨B', Z, r', S', s', rr', (Post.to rr' q').imp fun k S2 B2 H2 e2 s2 q2 => ?_⟩
      cases k with
      | false => exact q2.nxr s2 (rr'.ev e2)
      | true =>
        rw [if_pos rfl]
        refine ⟨fun σ H => ∃ B r S, SR c H B Z S ∧ RR c H B Z r σ ∧ PostS c W B Z H D (whl ft b m r S), fun σ3 H3 w => ⟨m, Nat.lt_succ_self m, w⟩, B2, Z, r', S2, s2, rr'.ev e2, ?_⟩
        rw [if_pos rfl] at q2
        cases q : b r' S2 with
        | nx r3 S3 => rw [q] at q2; exact fun σ B' H' e s rr => ⟨B', r3, S3, s, rr, q2.far e⟩
        | ct r3 S3 => rw [q] at q2; exact fun σ B' H' e s rr => ⟨B', r3, S3, s, rr, q2.far e⟩
        | brk r3 S3 => rw [q] at q2; exact q2
        | ret v S3 => rw [q] at q2; exact q2
        | exn n v r3 S3 => rw [q] at q2; exact q2
        | bad => rw [q] at q2; exact q2
end
end MI
set_option maxRecDepth 100000
set_option maxHeartbeats 4000000
namespace MI
open PySem L2
abbrev W0 : WX := fun _ _ _ _ => False
section
variable {c : Ct} {W : WX} {X : Cx} {B Z B1 : List Addr} {H H1 : Hp} {σ : L2.St} {α β : Type} {D D' : Ends}

/-! ## comprehensions -/
def Out.nox {α : Type} : Out α → Out α
  | .exn _ _ _ => .bad
  | o => o
def wipeR (r : Rho) : List Nat → Rho
  | [] => r
  | v :: vs => (wipeR r vs).set v none
theorem wipeR_len (r : Rho) : ∀ vs, (wipeR r vs).length = r.length
  | [] => rfl
  | v :: vs => by unfold wipeR; rw [List.length_set]; exact wipeR_len r vs
theorem wipeR_some {r : Rho} {i : Nat} {x : IV} : ∀ {vs : List Nat}, (wipeR r vs)[i]? = some (some x) → r[i]? = some (some x) ∧ i ∉ vs
  | [], h => ⟨h, by simp⟩
  | v :: vs, h => by
    unfold wipeR at h
    by_cases hi : v = i
    · subst hi
      by_cases hv : v < (wipeR r vs).length
      · rw [List.getElem?_set_self hv] at h; cases h
      · rw [List.getElem?_eq_none (by simpa using hv)] at h; cases h
    · rw [List.getElem?_set_ne hi] at h
      have z := wipeR_some h
      exact ⟨z.1, fun m => by
        rcases List.mem_cons.mp m with m | m
        · exact hi m.symm
        · exact z.2 m⟩
theorem RR.wipe {r : Rho} (h : RR c H B Z r σ) (vs : List Nat) : RR c H B Z (wipeR r vs) (L2.wipe σ vs) := by
  refine ⟨by rw [wipeR_len, L2.wipe_length]; exact h.len, fun i v q => ?_⟩
  obtain ⟨h1, h2⟩ := wipeR_some q
  obtain ⟨x, h3, h4⟩ := h.at_ i v h1
  exact ⟨x, by rw [L2.wipe_out h2]; exact h3, h4⟩
theorem wipe_set {i : Nat} {x : Option V} : ∀ {vs : List Nat}, i ∈ vs → ∀ σ : L2.St, L2.wipe (σ.set i x) vs = L2.wipe σ vs
  | v :: vs, h, σ => by
    unfold L2.wipe
    by_cases hi : i ∈ vs
    · rw [wipe_set hi σ]
    · have e : v = i := by
        rcases List.mem_cons.mp h with e | e
        · exact e.symm
        · exact absurd e hi
      subst e
      have go : ∀ ws : List Nat, v ∉ ws → L2.wipe (σ.set v x) ws = (L2.wipe σ ws).set v x := by
        intro ws
        induction ws with
        | nil => intro _; rfl
        | cons w ws ih =>
          intro hw
          unfold L2.wipe
          rw [ih fun m => hw (List.mem_cons_of_mem _ m)]
          rw [List.set_comm _ _ fun q => hw (by rw [q]; exact List.mem_cons_self)]
      rw [go vs hi, List.set_set]
theorem wipe_idem (σ : L2.St) : ∀ vs : List Nat, L2.wipe (L2.wipe σ vs) vs = L2.wipe σ vs
  | [] => rfl
  | v :: vs => by
    show L2.wipe ((L2.wipe σ vs).set v none) (v :: vs) = (L2.wipe σ vs).set v none
    rw [wipe_set List.mem_cons_self]
    show (L2.wipe (L2.wipe σ vs) vs).set v none = (L2.wipe σ vs).set v none
    rw [wipe_idem σ vs]
/-- a target that touches the slots vs alone -/
def TGw (c : Ct) (W : WX) (vs : List Nat) (g : FG) : TG := fun x σ H Q => ∃ B Z r S v, SR c H B Z S ∧ RR c H B Z r σ ∧ RI c H B Z v x ∧ PostS c W B Z H { nx := fun σ2 H2 => L2.wipe σ2 vs = L2.wipe σ vs → Q σ2 H2, rt := fun _ _ => False, bk := fun _ _ => False, ct := fun _ _ => False } (g v r S)
def TGsw (c : Ct) (W : WX) (vs : List Nat) (g : FGs) : TGs := fun xs σ H Q => ∃ B Z r S is, SR c H B Z S ∧ RR c H B Z r σ ∧ RIs c H B Z is xs ∧ PostS c W B Z H { nx := fun σ2 H2 => L2.wipe σ2 vs = L2.wipe σ vs → Q σ2 H2, rt := fun _ _ => False, bk := fun _ _ => False, ct := fun _ _ => False } (g is r S)
theorem w_gnm {i : Nat} {x : Str} {pos : Pos} {vs : List Nat} (hm : i ∈ vs) (h : PG X (.Name x pos) (gName i)) : PG X (.Name x pos) (TGw c W vs (gNm i)) :=
  ⟨fun pins s σ H v u Q I rv ⟨B, Z, r, S, iv, sr, rr, ri, p⟩ => h.run pins s σ H v u Q I rv (p (σ.set i (some v)) B H (Ev.refl sr) sr (rr.set ri i) (wipe_set hm σ))⟩
theorem w_gsnil {vs : List Nat} : PGs X [] (TGsw c W vs gsNil) := ⟨fun pins s σ H xs us Q I rv ⟨B, Z, r, S, is, sr, rr, ri, p⟩ => pgs_nil.run pins s σ H xs us Q I rv (by
  unfold gsNil at p
  split at p
  · cases ri; exact ⟨rfl, p.nxr sr rr rfl⟩
  · exact p.elim)⟩
theorem w_gscons {e : Expr} {es : List Expr} {g : FG} {t : FGs} {vs : List Nat} (h1 : PG X e (TGw c W vs g)) (h2 : PGs X es (TGsw c W vs t)) (hs : (assignEach (e :: es) X.env).map (·.2) = assign e X.env :: (assignEach es X.env).map (·.2) := by rfl) : PGs X (e :: es) (TGsw c W vs (gsCons g t)) :=
  ⟨fun pins s σ H xs us Q I rv ⟨B, Z, r, S, is, sr, rr, ri, p⟩ => (pgs_cons h1 h2 hs).run pins s σ H xs us Q I rv (by
    unfold gsCons at p
    split at p
    · cases ri with
      | cons hv ht =>
        refine ⟨_, _, rfl, B, Z, r, S, _, sr, rr, hv, ?_⟩
        refine p.seq (fun r' S' σ' B' H' e' s' rr' q => ?_) rfl rfl rfl
        exact fun hw => ⟨B', Z, r', S', _, s', rr', ht.ev e', by rw [hw]; exact q⟩
    · exact p.elim)⟩
theorem w_gtp {es : List Expr} {k n : Nat} {t : FGs} {pos : Pos} {vs : List Nat} (hc : X.calm = true) (hK : c.K = X.K) (h : PGs X es (TGsw c W vs t)) (hn : (assignEach es X.env).length = n := by rfl) (hst : (assignEach es X.env).findIdx? (·.1) = none := by rfl) :
    PG X (.Tuple es k pos) (TGw c W vs (gTp n t)) := ⟨fun pins s σ H v u Q I rv ⟨B, Z, r, S, iv, sr, rr, ri, p⟩ => (pg_tup hc h hn hst).run pins s σ H v u Q I rv (by
  unfold gTp at p
  split at p
  · rename_i is q
    split at p
    · rename_i hl
      obtain ⟨a, xs, h1, h2, h3⟩ := parts_of ri q
      exact ⟨a, xs, h1, by rw [← hK]; exact h2, by rw [← h3.length]; exact hl, B, Z, r, S, is, sr, rr, h3, p⟩
    · exact p.elim
  · exact p.elim)⟩
/-- a clause's tests -/
def TTs (c : Ct) (W : WX) (f : FT) : TT := TTx c W f
@[simp] def tYe : FT := fun _ S => .ok true S
theorem s_tnil : PTs X [] (TTx c W tYe) := ⟨fun pins s σ H Q I ⟨B, Z, r, S, sr, rr, p⟩ => pts_nil.run pins s σ H Q I (p.ret sr)⟩
theorem s_tone {e : Expr} {f : FT} (h : PT X e (TTx c W f)) : PTs X [e] (TTx c W f) := pts_one h
/-- the turns; an element is data -/
def lcL (g : FG) (t : FT) (e : FE) (r0 : Rho) : List PyData → Sto → Out (List PyData)
  | [], S => .ok [] S
  | d :: ds, S => match g (.d d) r0 S with
    | .nx r1 S1 => (t r1 S1).bind fun k S2 => if k = true then (e r1 S2).bind fun v S3 => (match v with
        | .d x => (lcL g t e r0 ds S3).bind fun xs S4 => .ok (x :: xs) S4
        | _ => .bad) else lcL g t e r0 ds S2
    | _ => .bad
@[simp] def lcR (it : FI) (g : FG) (t : FT) (e : FE) (vs : List Nat) : Rho → Sto → Out (List PyData) := fun r S => (it r S).bind fun ds S1 => if ds.length ≤ 1000000 then (lcL g t e (wipeR r vs) ds S1).nox else .bad
@[simp] def eLc (it : FI) (g : FG) (t : FT) (e : FE) (vs : List Nat) : FE := fun r S => (lcR it g t e vs r S).bind fun xs S' => .ok (.d (.list xs)) S'
@[simp] def eLcM (it : FI) (g : FG) (t : FT) (e : FE) (vs : List Nat) : FE := fun r S => (lcR it g t e vs r S).bind fun xs S' => .ok (.ref S'.length) (S' ++ [.lst xs])
/-- Z may hold more -/
theorem SR.less {z : Addr} {S : Sto} (s : SR c H B (z :: Z) S) : SR c H B Z S := by
  have k : ∀ a o, H a = some o → a ∉ B ++ z :: Z → H a = some o := fun _ _ h _ => h
  have g : ∀ a, a ∈ B ++ Z → a ∈ B ++ z :: Z ∨ H a = none := fun a m => .inl (by
    rcases List.mem_append.mp m with m | m
    · exact List.mem_append_left _ m
    · exact List.mem_append_right _ (List.mem_cons_of_mem _ m))
  refine ⟨s.len, s.nd, fun y m => s.zt y (List.mem_cons_of_mem _ m), fun y m => s.zb y (List.mem_cons_of_mem _ m), fun n b o hb ho => ?_⟩
  have r := s.ob n b o hb ho
  cases o with
  | lst ds => obtain ⟨xs, h1, h2⟩ := r; exact ⟨xs, h1, h2.mono k g⟩
  | lsx ds =>
    obtain ⟨xs, h1, h2⟩ := r
    exact ⟨xs, h1, RIs.less h2⟩
  | dct _ => exact r.elim
where
  RIs.less : ∀ {is : List IV} {xs : List V}, RIs c H B (z :: Z) is xs → RIs c H B Z is xs
    | _, _, .nil => .nil
    | _, _, .cons h t => .cons (RI.less h) (RIs.less t)
  RI.less : ∀ {i : IV} {x : V}, RI c H B (z :: Z) i x → RI c H B Z i x
    | _, _, .d h => .d (h.mono (fun _ _ h _ => h) fun a m => .inl (by
        rcases List.mem_append.mp m with m | m
        · exact List.mem_append_left _ m
        · exact List.mem_append_right _ (List.mem_cons_of_mem _ m)))
    | _, _, .ref h => .ref h
    | _, _, .gl h => .gl h
    | _, _, .tup h hb r => .tup h (fun m => hb (by
        rcases List.mem_append.mp m with m | m
        · exact List.mem_append_left _ m
        · exact List.mem_append_right _ (List.mem_cons_of_mem _ m))) (RIs.less r)
    | _, _, .scr h hb => .scr h fun m => hb (by
        rcases List.mem_append.mp m with m | m
        · exact List.mem_append_left _ m
        · exact List.mem_append_right _ (List.mem_cons_of_mem _ m))
    | _, _, .scrK h => .scrK h

/-! what stood ahead of a new object D, behind it -/
theorem evZ_far {D : Addr} (e : Ev B H B1 H1) (hD : H D = none) : ∀ a, a ∈ B1 ++ D :: Z → a ∈ B ++ Z ∨ H a = none := fun a m => by
  rcases List.mem_append.mp m with m | m
  · exact e.far a (List.mem_append_left _ m)
  · rcases List.mem_cons.mp m with m | m
    · exact .inr (by rw [m]; exact hD)
    · exact .inl (List.mem_append_right _ m)
mutual
theorem RI.evZ {D : Addr} (e : Ev B H B1 H1) (hD : H D = none) : ∀ {i : IV} {v : V}, RI c H B Z i v → RI c H1 B1 (D :: Z) i v
  | _, _, .d h => .d (h.mono e.kp (evZ_far e hD))
  | _, _, .ref h => .ref (by
      obtain ⟨N, rfl, _⟩ := e.pre
      rw [List.getElem?_append_left (List.getElem?_eq_some_iff.mp h).1]; exact h)
  | _, _, .gl h => .gl h
  | _, _, .tup h hb r => .tup (e.kp _ _ h hb) (fun m => (evZ_far e hD _ m).elim hb fun z => by rw [h] at z; cases z) (RIs.evZ e hD r)
  | _, _, .scr h hb => .scr (rd_mono h fun o q => e.kp _ o q hb) (fun m => (evZ_far e hD _ m).elim hb (rd_there h))
  | _, _, .scrK h => .scrK h
theorem RIs.evZ {D : Addr} (e : Ev B H B1 H1) (hD : H D = none) : ∀ {i : List IV} {v : List V}, RIs c H B Z i v → RIs c H1 B1 (D :: Z) i v
  | _, _, .nil => .nil
  | _, _, .cons h t => .cons (RI.evZ e hD h) (RIs.evZ e hD t)
end
theorem RR.evZ {r : Rho} {D : Addr} (e : Ev B H B1 H1) (hD : H D = none) (h : RR c H B Z r σ) : RR c H1 B1 (D :: Z) r σ := ⟨h.len, fun i v q => by
  obtain ⟨x, h1, h2⟩ := h.at_ i v q
  exact ⟨x, h1, h2.evZ e hD⟩⟩
theorem SR.newZ {D : Addr} {o : HO} {S : Sto} (s : SR c H B Z S) (hD : H D = none) : SR c (upd H D o) B (D :: Z) S := by
  have e := Ev.new (o := o) s hD
  have nB : ∀ b, b ∈ B → b ≠ D := fun b hb q => s.trk b hb (by rw [q]; exact hD)
  refine ⟨s.len, s.nd, fun z m => ?_, fun z m hz => ?_, fun n b o' hb ho => ?_⟩
  · rcases List.mem_cons.mp m with m | m
    · rw [m, upd_same]; simp
    · have h1 := s.zt z m
      have : z ≠ D := fun q => h1 (by rw [q]; exact hD)
      rw [upd_ne this]; exact h1
  · rcases List.mem_cons.mp m with m | m
    · exact nB z hz m
    · exact s.zb z m hz
  · have r := s.ob n b o' hb ho
    have kb : (upd H D o) b = H b := upd_ne (nB b (List.mem_of_getElem? hb))
    cases o' with
    | lst ds => obtain ⟨xs, h1, h2⟩ := r; exact ⟨xs, by rw [kb]; exact h1, h2.mono e.kp (evZ_far e hD)⟩
    | lsx ds => obtain ⟨xs, h1, h2⟩ := r; exact ⟨xs, by rw [kb]; exact h1, h2.evZ e hD⟩
    | dct _ => exact r.elim
/-- the foreign object D is written: what leans on others stays -/
theorem SR.wrZ {D : Addr} {o : HO} {S : Sto} (s : SR c H B (D :: Z) S) : SR c (upd H D o) B (D :: Z) S ∧ (∀ {d : PyData} {v : V}, RD c.K H (B ++ D :: Z) d v → RD c.K (upd H D o) (B ++ D :: Z) d v) := by
  have nD : D ∉ B := s.zb D List.mem_cons_self
  have kp : ∀ a u, H a = some u → a ∉ B ++ D :: Z → (upd H D o) a = some u := fun a u h hb => by
    have : a ≠ D := fun q => hb (List.mem_append_right _ (by rw [q]; exact List.mem_cons_self))
    rw [upd_ne this]; exact h
  have rd : ∀ {d : PyData} {v : V}, RD c.K H (B ++ D :: Z) d v → RD c.K (upd H D o) (B ++ D :: Z) d v := fun h => h.mono kp fun _ m => .inl m
  refine ⟨⟨s.len, s.nd, fun z m => ?_, s.zb, fun n b o' hb ho => ?_⟩, rd⟩
  · by_cases q : z = D
    · rw [q, upd_same]; simp
    · rw [upd_ne q]; exact s.zt z m
  · have r := s.ob n b o' hb ho
    have kb : (upd H D o) b = H b := upd_ne fun q => nD (by rw [← q]; exact List.mem_of_getElem? hb)
    cases o' with
    | lst ds => obtain ⟨xs, h1, h2⟩ := r; exact ⟨xs, by rw [kb]; exact h1, h2.mono kp fun _ m => .inl m⟩
    | lsx ds => obtain ⟨xs, h1, h2⟩ := r; exact ⟨xs, by rw [kb]; exact h1, ris kp h2⟩
    | dct _ => exact r.elim
where
  ris {o : HO} {D : Addr} (kp : ∀ a u, H a = some u → a ∉ B ++ D :: Z → (upd H D o) a = some u) : ∀ {is : List IV} {xs : List V}, RIs c H B (D :: Z) is xs → RIs c (upd H D o) B (D :: Z) is xs
    | _, _, .nil => .nil
    | _, _, .cons h t => .cons (ri kp h) (ris kp t)
  ri {o : HO} {D : Addr} (kp : ∀ a u, H a = some u → a ∉ B ++ D :: Z → (upd H D o) a = some u) : ∀ {i : IV} {x : V}, RI c H B (D :: Z) i x → RI c (upd H D o) B (D :: Z) i x
    | _, _, .d h => .d (h.mono kp fun _ m => .inl m)
    | _, _, .ref h => .ref h
    | _, _, .gl h => .gl h
    | _, _, .tup h hb r => .tup (kp _ _ h hb) hb (ris kp r)
    | _, _, .scr h hb => .scr (rd_mono h fun o q => kp _ o q hb) hb
    | _, _, .scrK h => .scrK h
theorem Post.lessZ {z : Addr} {o : Out α} {Q : α → Sto → List Addr → Hp → Prop} (h : Post c W0 B Z H σ o Q) : Post c W0 B (z :: Z) H σ o fun v S B' H' => Q v S B' H' := by
  cases o with
  | ok v S => exact fun B' H' e s => h B' H' e s.less
  | exn n v S => exact fun cls dd B' H' e s rx => h cls dd B' H' e s.less (by
      obtain ⟨C, dx, y, a1, a2, a3, a4, a5⟩ := rx
      exact ⟨C, dx, y, a1, a2, a3, a4, a5.mono (fun _ _ h _ => h) fun a m => .inl (by
        rcases List.mem_append.mp m with m | m
        · exact List.mem_append_left _ m
        · exact List.mem_append_right _ (List.mem_cons_of_mem _ m))⟩)
  | bad => exact h
theorem bind_ok {o : Out α} {f : α → Sto → Out β} {v : β} {S : Sto} (h : (o.bind f) = .ok v S) : ∃ a S1, o = .ok a S1 ∧ f a S1 = .ok v S := by
  cases o with
  | ok a S1 => exact ⟨a, S1, rfl, h⟩
  | exn n v S => cases h
  | bad => cases h
/-- the loop of a comprehension whose answers are all known -/
theorem lc_of {J : It} {g : FG} {t : FT} {e : FE} {vs : List Nat} {ds all : List PyData} {r : Rho} {S S9 : Sto} {D : Addr} {Qd : Hp → Prop} (hg : GOk g) (w : Gives c B Z H J ds) (s : SR c H B Z S) (rr : RR c H B Z r σ) (hD : H D = none) (hl : ds.length ≤ 1000000)
    (ha : lcL g t e (wipeR r vs) ds S = .ok all S9)
    (fin : ∀ B' H' xs, Ev B H B' H' → SR c H' B' (D :: Z) S9 → H' D = some (.lst xs) → RDs c.K H' (B' ++ D :: Z) all xs → Qd H') :
    ∃ Wd : Nat → Nat → Hp → Prop, (∃ m, Wd 0 m (upd H D (.lst []))) ∧ ∀ i m H', Wd i m H' → (J.stop i H' ∧ Qd H') ∨ (J.go i H' ∧ ∃ Nx : Hp → Prop, (∀ H2, Nx H2 → ∃ m', m' < m ∧ Wd (i + 1) m' H2) ∧ ∀ x H2, J.yld i H' x H2 →
      TGw c W0 vs g x (L2.wipe σ vs) H2 fun σ2 H3 => L2.wipe σ2 vs = L2.wipe σ vs ∧ TTx c W0 t σ2 H3 fun b H4 => if b = true then TEx c W0 e σ2 H4 fun y H5 => ∃ acc, H5 D = some (.lst acc) ∧ acc.length < sizeLine ∧ Nx (upd H5 D (.lst (acc ++ [y]))) else Nx H4) := by
  obtain ⟨G, Y, wk, kg, ky⟩ := w
  refine lc_it wk (fun i H' => ∃ B' S' acc xs rest, Ev B H B' H' ∧ SR c H' B' (D :: Z) S' ∧ H' D = some (.lst xs) ∧ RDs c.K H' (B' ++ D :: Z) acc xs ∧ acc.length ≤ i ∧ lcL g t e (wipeR r vs) (ds.drop i) S' = .ok rest S9 ∧ all = acc ++ rest)
    ⟨B, S, [], [], all, Ev.new s hD, s.newZ hD, upd_same, .nil, Nat.le_refl _, ha, rfl⟩ (fun i H' _ ⟨B', S', acc, xs, rest, e', _⟩ => kg B' H' e') ?_ ?_
  · rintro i x H' H2 hi ⟨B', S', acc, xs, rest, e', s', hx, ra, hlen, hL, hall⟩ y
    have hz : ∀ z, z ∈ D :: Z → z ∈ Z ∨ H z = none := fun z m => by
      rcases List.mem_cons.mp m with m | m
      · exact .inr (by rw [m]; exact hD)
      · exact .inl m
    obtain ⟨e2, s2, d, hd, rd⟩ := ky (D :: Z) hz i B' H' S' x H2 hi e' s' y
    have hds : ds.drop i = d :: ds.drop (i + 1) := by
      rw [List.drop_eq_getElem_cons hi]
      have := List.getElem?_eq_getElem hi
      rw [hd] at this
      cases this
      rfl
    rw [hds] at hL
    unfold lcL at hL
    have go := hg (.d d) (wipeR r vs) S'
    cases hgo : g (.d d) (wipeR r vs) S' with
    | nx r1 S1 =>
      rw [hgo] at hL
      obtain ⟨k, S2, ht, hL⟩ := bind_ok hL
      refine ⟨B', D :: Z, wipeR r vs, S', .d d, s2, (rr.wipe vs).evZ (e'.trans e2) hD, .d rd, ?_⟩
      rw [hgo]
      intro σ2 B3 H3 e3 s3 rr3 hw
      refine ⟨hw.trans (wipe_idem σ vs), B3, D :: Z, r1, S1, s3, rr3, ?_⟩
      rw [ht]
      intro B4 H4 e4 s4
      have e04 := ((e'.trans e2).trans e3).trans e4
      have eD4 := (e2.trans e3).trans e4
      have nD : D ∉ B' := s'.zb D List.mem_cons_self
      have hx4 : H4 D = some (.lst xs) := eD4.keep D _ hx nD
      have ra4 := ra.ev eD4
      cases k with
      | false =>
        rw [if_neg (by decide)] at hL
        dsimp only
        rw [if_neg Bool.false_ne_true]
        exact ⟨B4, S2, acc, xs, rest, e04, s4, hx4, ra4, Nat.le_succ_of_le hlen, hL, hall⟩
      | true =>
        rw [if_pos rfl] at hL
        dsimp only
        rw [if_pos rfl]
        obtain ⟨v, S3, hv, hL⟩ := bind_ok hL
        refine ⟨B4, D :: Z, r1, S2, s4, rr3.ev e4, ?_⟩
        rw [hv]
        intro B5 H5 e5 s5 y hy
        split at hL
        · rename_i xd
          obtain ⟨rest', S5, hr, hL⟩ := bind_ok hL
          cases hL
          have nD4 : D ∉ B4 := s4.zb D List.mem_cons_self
          have hx5 := e5.keep D _ hx4 nD4
          have ra5 := ra4.ev e5
          cases hy with
          | d hy =>
            have w := s5.wrZ (o := HO.lst (xs ++ [y]))
            have e5D : Ev B H B5 (upd H5 D (.lst (xs ++ [y]))) := by
              have e05 := e04.trans e5
              refine ⟨e05.pre, fun a u h hb => ?_, fun b hb => ?_⟩
              · rw [upd_ne fun q => by rw [q, hD] at h; cases h]
                exact e05.keep a u h hb
              · have : b ≠ D := fun q => s5.zb D List.mem_cons_self (by rw [← q]; exact hb)
                rw [upd_ne this]
                exact e05.trk b hb
            have lens := ra5.length
            refine ⟨xs, hx5, ?_, B5, S3, acc ++ [xd], xs ++ [y], rest', e5D, w.1, upd_same, ?_, ?_, hr, by rw [hall, List.append_assoc] <;> rfl⟩
            · rw [← lens]
              have : sizeLine = 16777216 := by decide
              omega
            · exact RDs.mono (fun a u h hb => by
                have : a ≠ D := fun q => hb (List.mem_append_right _ (by rw [q]; exact List.mem_cons_self))
                rw [upd_ne this]; exact h) (fun _ m => .inl m) (ra5.app (.cons hy .nil))
            · rw [List.length_append]
              simp
              omega
        · cases hL
    | exn n v r1 S1 => rw [hgo] at hL; cases hL
    | bad => rw [hgo] at hL; cases hL
    | ret v S1 => rw [hgo] at go; exact go.elim
    | brk r1 S1 => rw [hgo] at go; exact go.elim
    | ct r1 S1 => rw [hgo] at go; exact go.elim
  · rintro H' ⟨B', S', acc, xs, rest, e', s', hx, ra, hlen, hL, hall⟩
    rw [List.drop_length] at hL
    cases hL
    rw [List.append_nil] at hall
    subst hall
    exact fin B' H' xs e' s' hx ra
/-- the whole comprehension -/
theorem tlc_of {it : FI} {g : FG} {t : FT} {e : FE} {vs : List Nat} {r : Rho} {S : Sto} {Q : VK} {K : List PyData → Sto → Out IV} (hg : GOk g) (s : SR c H B Z S) (rr : RR c H B Z r σ)
    (p : Post c W B Z H σ ((lcR it g t e vs r S).bind K) fun v S' B' H' => ∀ x, RI c H' B' Z v x → Q x H')
    (fin : ∀ (all : List PyData) (S1 S9 : Sto) (B1 : List Addr) (H1 : Hp) (D : Addr) B' H' xs, H1 D = none → Post c W B1 Z H1 σ (K all S9) (fun v S' B' H' => ∀ x, RI c H' B' Z v x → Q x H') → Ev B1 H1 B' H' → SR c H' B' (D :: Z) S9 → SR c H1 B1 Z S1 → H' D = some (.lst xs) → RDs c.K H' (B' ++ D :: Z) all xs → Q (.ref D) H') :
    tLc (TIx c W it) (TGw c W0 vs g) (TTx c W0 t) (TEx c W0 e) vs σ H Q := by
  have key : ∀ ds S1, it r S = .ok ds S1 → ∃ all S9, ds.length ≤ 1000000 ∧ lcL g t e (wipeR r vs) ds S1 = .ok all S9 ∧ lcR it g t e vs r S = .ok all S9 := fun ds S1 hi => by
    have hR : lcR it g t e vs r S = if ds.length ≤ 1000000 then (lcL g t e (wipeR r vs) ds S1).nox else .bad := by
      unfold lcR
      rw [hi] <;> rfl
    by_cases hl : ds.length ≤ 1000000
    · rw [if_pos hl] at hR
      cases q : lcL g t e (wipeR r vs) ds S1 with
      | ok all S9 => rw [q] at hR; exact ⟨all, S9, hl, rfl, hR⟩
      | exn n v S9 => rw [q] at hR; rw [hR] at p; exact p.elim
      | bad => rw [q] at hR; rw [hR] at p; exact p.elim
    · rw [if_neg hl] at hR; rw [hR] at p; exact p.elim
  refine ⟨B, Z, r, S, s, rr, ?_⟩
  cases hi : it r S with
  | bad =>
    have hR : lcR it g t e vs r S = .bad := by unfold lcR; rw [hi] <;> rfl
    rw [hR] at p
    exact p
  | exn n v S1 =>
    have hR : lcR it g t e vs r S = .exn n v S1 := by unfold lcR; rw [hi] <;> rfl
    rw [hR] at p
    exact p
  | ok ds S1 =>
    obtain ⟨all, S9, hl, hL, hR⟩ := key ds S1 hi
    rw [hR] at p
    have p : Post c W B Z H σ (K all S9) (fun v S' B' H' => ∀ x, RI c H' B' Z v x → Q x H') := p
    intro B1 H1 e1 s1 J w D hD
    exact lc_of hg w s1 (rr.ev e1) hD hl hL fun B' H' xs e' s' hx ra => fin all S1 S9 B1 H1 D B' H' xs hD (p.far e1) e' s' s1 hx ra
theorem RDs.less {K : PySem.W.Frag} {z : Addr} {ds : List PyData} {xs : List V} (h : RDs K H (B ++ z :: Z) ds xs) : RDs K H (B ++ Z) ds xs := h.mono (fun _ _ h _ => h) fun a m => .inl (by
  rcases List.mem_append.mp m with m | m
  · exact List.mem_append_left _ m
  · exact List.mem_append_right _ (List.mem_cons_of_mem _ m))
theorem not_in {D : Addr} {S : Sto} {B1 : List Addr} {H1 : Hp} (s : SR c H B (D :: Z) S) (s1 : SR c H1 B1 Z S') (hD : H1 D = none) : D ∉ B ++ Z := fun m => by
  rcases List.mem_append.mp m with m | m
  · exact s.zb D List.mem_cons_self m
  · exact s1.zt D m hD
theorem tlc_fr {it : FI} {g : FG} {t : FT} {e : FE} {vs : List Nat} {Q : VK} (hg : GOk g) (h : TEx c W (eLc it g t e vs) σ H Q) : tLc (TIx c W it) (TGw c W0 vs g) (TTx c W0 t) (TEx c W0 e) vs σ H Q := by
  obtain ⟨B, Z, r, S, s, rr, p⟩ := h
  refine tlc_of hg s rr p fun all S1 S9 B1 H1 D B' H' xs hD q e' s' s1 hx ra => ?_
  exact q B' H' e' s'.less _ (.d (.lst hx (not_in s' s1 hD) ra.less))
theorem tlc_mu {it : FI} {g : FG} {t : FT} {e : FE} {vs : List Nat} {Q : VK} (hg : GOk g) (h : TEx c W (eLcM it g t e vs) σ H Q) : tLc (TIx c W it) (TGw c W0 vs g) (TTx c W0 t) (TEx c W0 e) vs σ H Q := by
  obtain ⟨B, Z, r, S, s, rr, p⟩ := h
  refine tlc_of hg s rr p fun all S1 S9 B1 H1 D B' H' xs hD q e' s' s1 hx ra => ?_
  have s2 := s'.less
  have far : ∀ a, a ∈ (B' ++ [D]) ++ Z → a ∈ B' ++ D :: Z ∨ H' a = none := fun a m => .inl (by
    rcases List.mem_append.mp m with m | m
    · rcases List.mem_append.mp m with m | m
      · exact List.mem_append_left _ m
      · exact List.mem_append_right _ (by rw [List.mem_singleton.mp m]; exact List.mem_cons_self)
    · exact List.mem_append_right _ (List.mem_cons_of_mem _ m))
  have eD : Ev B1 H1 (B' ++ [D]) H' := by
    obtain ⟨N, hN, hn⟩ := e'.pre
    refine ⟨⟨N ++ [D], by rw [hN, List.append_assoc], fun b m => ?_⟩, e'.keep, fun b m => ?_⟩
    · rcases List.mem_append.mp m with m | m
      · exact hn b m
      · rw [List.mem_singleton.mp m]; exact hD
    · rcases List.mem_append.mp m with m | m
      · exact e'.trk b m
      · rw [List.mem_singleton.mp m, hx]; simp
  refine q _ H' eD ?_ _ (.ref (b := D) (by rw [← s'.len]; simp))
  refine ⟨by rw [List.length_append, List.length_append, s'.len] <;> rfl, List.nodup_append.mpr ⟨s'.nd, by simp, fun a ha b hb q => ?_⟩, s2.zt, fun z hz m => ?_, fun n b o hb ho => ?_⟩
  · rw [List.mem_singleton.mp hb] at q
    exact s'.zb D List.mem_cons_self (q ▸ ha)
  · rcases List.mem_append.mp m with m | m
    · exact s2.zb z hz m
    · rw [List.mem_singleton.mp m] at hz; exact s1.zt D hz hD
  · by_cases hn : n < S9.length
    · rw [List.getElem?_append_left (by rw [s'.len]; exact hn)] at hb
      rw [List.getElem?_append_left hn] at ho
      have r' := s'.ob n b o hb ho
      cases o with
      | lst ds => obtain ⟨xs, h1, h2⟩ := r'; exact ⟨xs, h1, h2.mono (fun _ _ h _ => h) far⟩
      | lsx ds => obtain ⟨xs, h1, h2⟩ := r'; exact ⟨xs, h1, RIs.moreB (far := far) h2⟩
      | dct _ => exact r'.elim
    · have hl := (List.getElem?_eq_some_iff.mp ho).1
      rw [List.length_append] at hl
      have en : n = S9.length := by simp at hl; omega
      subst en
      rw [List.getElem?_append_right (Nat.le_refl _)] at ho
      rw [← s'.len, List.getElem?_append_right (Nat.le_refl _)] at hb
      simp at ho hb
      subst ho hb
      exact ⟨xs, hx, ra.mono (fun _ _ h _ => h) far⟩
where
  RIs.moreB {c : Ct} {H' : Hp} {B' Z : List Addr} {D : Addr} (far : ∀ a, a ∈ (B' ++ [D]) ++ Z → a ∈ B' ++ D :: Z ∨ H' a = none) : ∀ {is : List IV} {xs : List V}, RIs c H' B' (D :: Z) is xs → RIs c H' (B' ++ [D]) Z is xs
    | _, _, .nil => .nil
    | _, _, .cons h t => .cons (RI.moreB far h) (RIs.moreB far t)
  RI.moreB {c : Ct} {H' : Hp} {B' Z : List Addr} {D : Addr} (far : ∀ a, a ∈ (B' ++ [D]) ++ Z → a ∈ B' ++ D :: Z ∨ H' a = none) : ∀ {i : IV} {x : V}, RI c H' B' (D :: Z) i x → RI c H' (B' ++ [D]) Z i x
    | _, _, .d h => .d (h.mono (fun _ _ h _ => h) far)
    | _, _, .ref h => .ref (by rw [List.getElem?_append_left (List.getElem?_eq_some_iff.mp h).1]; exact h)
    | _, _, .gl h => .gl h
    | _, _, .tup h hb r => .tup h (fun m => (far _ m).elim hb fun z => by rw [h] at z; cases z) (RIs.moreB far r)
    | _, _, .scr h hb => .scr h fun m => (far _ m).elim hb (rd_there h)
    | _, _, .scrK h => .scrK h
/-- the block's judgements, whatever its frame -/
abbrev Blk (X : Cx) (scope : Scope) (f : Cx → Prop) : Prop := ∀ (s : Shared) (H : Hp) (C : Addr) (cl : List (Str × Addr)) (fp : List Addr), f (X.blk s H scope (compEnvC scope cl C X.env) fp)
theorem s_lc {elt tg iter : Expr} {ifs : List Expr} {scope : Scope} {own : List (Str × Nat)} {pos : Pos} {it : FI} {g : FG} {t : FT} {f : FE} (hc : X.calm = true) (hN : X.N.Nodup) (hi : PI X tg iter (TIx c W it)) (ok : BlkOk X.N X.env.scope scope own) (hgo : GOk g)
    (hg : Blk X scope fun Y => PG Y tg (TGw c W0 (own.map (·.2)) g)) (ht : Blk X scope fun Y => PTs Y ifs (TTx c W0 t)) (he : Blk X scope fun Y => PE Y elt (TEx c W0 f)) (hs : ∀ x, foldedSetIterable iter X.env x = pure x := by intro _; rfl) :
    PE X (.ListComp elt [⟨tg, iter, ifs, 0⟩] scope pos) (TEx c W (eLc it g t f (own.map (·.2)))) := pe_imp (pe_lc hc hN hi ok hg ht he hs) fun _ _ _ => tlc_fr hgo
theorem s_lcM {elt tg iter : Expr} {ifs : List Expr} {scope : Scope} {own : List (Str × Nat)} {pos : Pos} {it : FI} {g : FG} {t : FT} {f : FE} (hc : X.calm = true) (hN : X.N.Nodup) (hi : PI X tg iter (TIx c W it)) (ok : BlkOk X.N X.env.scope scope own) (hgo : GOk g)
    (hg : Blk X scope fun Y => PG Y tg (TGw c W0 (own.map (·.2)) g)) (ht : Blk X scope fun Y => PTs Y ifs (TTx c W0 t)) (he : Blk X scope fun Y => PE Y elt (TEx c W0 f)) (hs : ∀ x, foldedSetIterable iter X.env x = pure x := by intro _; rfl) :
    PE X (.ListComp elt [⟨tg, iter, ifs, 0⟩] scope pos) (TEx c W (eLcM it g t f (own.map (·.2)))) := pe_imp (pe_lc hc hN hi ok hg ht he hs) fun _ _ _ => tlc_mu hgo
/-- name = [..] on one line -/
theorem s_setLc {i : Nat} {y : Str} {py : Pos} {elt tg iter : Expr} {ifs : List Expr} {scope : Scope} {own : List (Str × Nat)} {pos spos : Pos} {it : FI} {g : FG} {t : FT} {f h : FE} (hc : X.calm = true) (hN : X.N.Nodup) (hy : X.N[i]? = some y) (hyl : X.env.scope.names.lookup y = some .local)
    (hsw : swapsWith (.ListComp elt [⟨tg, iter, ifs, 0⟩] scope pos) (some (.Name y py)) spos.line X.env = pure true) (hi : PI X tg iter (TIx c W it)) (ok : BlkOk X.N X.env.scope scope own)
    (hg : Blk X scope fun Y => PG Y tg (TGw c W0 (own.map (·.2)) g)) (ht : Blk X scope fun Y => PTs Y ifs (TTx c W0 t)) (he : Blk X scope fun Y => PE Y elt (TEx c W0 f))
    (k : ∀ σ H Q, TEx c W h σ H Q → tLc (TIx c W it) (TGw c W0 (own.map (·.2)) g) (TTx c W0 t) (TEx c W0 f) (own.map (·.2)) σ H Q) (hs : ∀ x, foldedSetIterable iter X.env x = pure x := by intro _; rfl) :
    PS X (.Assign [.Name y py] (.ListComp elt [⟨tg, iter, ifs, 0⟩] scope pos) spos) (TSx c W (sSet h i)) :=
  ps_imp (ps_setLc hc hN hy hyl hsw hi ok hg ht he hs) fun D σ H ⟨B, Z, r, S, s, rr, p⟩ => k σ H _ ⟨B, Z, r, S, s, rr, (Post.to rr p).imp fun v S' B' H' e s' q x hx => q.nxr s' ((rr.ev e).set hx i)⟩
end
end MI
set_option maxRecDepth 100000
set_option maxHeartbeats 4000000
namespace MI
open PySem PySem.Spec L2

/-! ## calls of defs: the callee sees the lists it is handed, nothing else of the store -/
abbrev FN := List IV → Sto → Out IV
def brw : List IV → List Nat
  | [] => []
  | .ref n :: t => if n ∈ brw t then brw t else n :: brw t
  | _ :: t => brw t
def inA (ns : List Nat) : IV → Option IV
  | .ref n => if n ∈ ns then some (.ref (ns.idxOf n)) else none
  | .d x => some (.d x)
  | .gl x => some (.gl x)
  | .scr x => some (.scr x)
  | _ => none
def inAs (ns : List Nat) : List IV → Option (List IV)
  | [] => some []
  | v :: t => match inA ns v, inAs ns t with
    | some w, some u => some (w :: u)
    | _, _ => none
def inS : List Nat → Sto → Option Sto
  | [], _ => some []
  | n :: ns, S => match S[n]?, inS ns S with
    | some (.lst ds), some T => some (.lst ds :: T)
    | _, _ => none
def outS : List Nat → Sto → Sto → Option Sto
  | [], _, S => some S
  | n :: ns, .lst ds :: T, S => outS ns T (S.set n (.lst ds))
  | _, _, _ => none
mutual
@[simp] def toD (k : Nat) (T : Sto) : IV → Option PyData
  | .d x => some x
  | .ref n => if n < k then none else match T[n]? with
    | some (.lst ds) => some (.list ds)
    | _ => none
  | .tup vs => match toDs k T vs with
    | some ds => some (.tuple ds)
    | none => none
  | _ => none
@[simp] def toDs (k : Nat) (T : Sto) : List IV → Option (List PyData)
  | [] => some []
  | v :: t => match toD k T v, toDs k T t with
    | some w, some u => some (w :: u)
    | _, _ => none
end
def outV (ns : List Nat) (T : Sto) : IV → Option IV
  | .ref n => match ns[n]? with
    | some m => some (.ref m)
    | none => (toD ns.length T (.ref n)).map .d
  | .gl x => some (.gl x)
  | .scr x => some (.scr x)
  | v => (toD ns.length T v).map .d
def backW (ns : List Nat) (S : Sto) : Out IV → Out IV
  | .ok v T => match outS ns T S, outV ns T v with
    | some S', some w => .ok w S'
    | _, _ => .bad
  | .exn n v T => match outS ns T S with
    | some S' => .exn n v S'
    | none => .bad
  | .bad => .bad
/-- the answer, where it is a new list, goes into the caller's store -/
def backM (ns : List Nat) (S : Sto) : Out IV → Out IV
  | .ok (.ref n) T => match outS ns T S, toD ns.length T (.ref n) with
    | some S', some (.list ds) => .ok (.ref S'.length) (S' ++ [.lst ds])
    | _, _ => .bad
  | _ => .bad
def callW (bk : List Nat → Sto → Out IV → Out IV) (g : FN) (is : List IV) (S : Sto) : Out IV := match inAs (brw is) is, inS (brw is) S with
  | some js, some T => bk (brw is) S (g js T)
  | _, _ => .bad
section
variable {c : Ct} {W : WX} {X : Cx} {B Z B1 : List Addr} {H H1 : Hp} {σ : L2.St} {α β : Type}
theorem brw_nd : ∀ is : List IV, (brw is).Nodup
  | [] => .nil
  | v :: t => by
    cases v <;> try exact brw_nd t
    rename_i n
    show (if n ∈ brw t then brw t else n :: brw t).Nodup
    split
    · exact brw_nd t
    · rename_i h; exact List.nodup_cons.mpr ⟨h, brw_nd t⟩
/-- the borrowed addresses -/
def lent (B : List Addr) (ns : List Nat) : List Addr := ns.filterMap (B[·]?)
theorem lent_cons {n : Nat} {b : Addr} {ns : List Nat} (h : B[n]? = some b) : lent B (n :: ns) = b :: lent B ns := by
  unfold lent; rw [List.filterMap_cons, h]
theorem lent_at : ∀ {ns : List Nat} {S T : Sto}, B.length = S.length → inS ns S = some T → (lent B ns).length = ns.length ∧ T.length = ns.length ∧ ∀ (i n : Nat), ns[i]? = some n → (∃ b, (lent B ns)[i]? = some b ∧ B[n]? = some b) ∧ ∃ ds : List PyData, T[i]? = some (IO.lst ds) ∧ S[n]? = some (IO.lst ds)
  | [], S, T, _, h => by
    cases h
    exact ⟨rfl, rfl, fun i n q => by simp at q⟩
  | n :: ns, S, T, hl, h => by
    unfold inS at h
    split at h
    · rename_i ds T' h1 h2
      cases h
      obtain ⟨l1, l2, ih⟩ := lent_at hl h2
      have hn : n < B.length := by rw [hl]; exact (List.getElem?_eq_some_iff.mp h1).1
      have hb := List.getElem?_eq_getElem hn
      rw [lent_cons hb]
      refine ⟨by simp [l1], by simp [l2], fun i m q => ?_⟩
      cases i with
      | zero => simp at q; subst q; exact ⟨⟨_, rfl, hb⟩, ds, rfl, h1⟩
      | succ i => simpa using ih i m (by simpa using q)
    · cases h
theorem lent_sub {ns : List Nat} {b : Addr} (h : b ∈ lent B ns) : ∃ n, n ∈ ns ∧ B[n]? = some b := by
  obtain ⟨n, h1, h2⟩ := List.mem_filterMap.mp h
  exact ⟨n, h1, h2⟩
theorem lent_mem {ns : List Nat} {b : Addr} (h : b ∈ lent B ns) : b ∈ B := by
  obtain ⟨n, _, h2⟩ := lent_sub h
  exact List.mem_of_getElem? h2
theorem at_inj (nd : B.Nodup) {m n : Nat} {b : Addr} (h : B[m]? = some b) (h' : B[n]? = some b) : m = n := by
  obtain ⟨h1, e1⟩ := List.getElem?_eq_some_iff.mp h
  obtain ⟨h2, e2⟩ := List.getElem?_eq_some_iff.mp h'
  exact (List.getElem_inj nd).mp (e1.trans e2.symm)
theorem lent_nd (nd : B.Nodup) : ∀ {ns : List Nat}, ns.Nodup → (lent B ns).Nodup
  | [], _ => .nil
  | n :: ns, h => by
    have z := List.nodup_cons.mp h
    cases q : B[n]? with
    | none =>
      have : lent B (n :: ns) = lent B ns := by unfold lent; rw [List.filterMap_cons, q]
      rw [this]; exact lent_nd nd z.2
    | some b =>
      rw [lent_cons q]
      refine List.nodup_cons.mpr ⟨fun m => ?_, lent_nd nd z.2⟩
      obtain ⟨k, h1, h2⟩ := lent_sub m
      exact z.1 (at_inj nd q h2 ▸ h1)
def rest (B : List Addr) (ns : List Nat) (Z : List Addr) : List Addr := B.filter (fun b => !decide (b ∈ lent B ns)) ++ Z
theorem lent_all {ns : List Nat} {a : Addr} : a ∈ lent B ns ++ rest B ns Z ↔ a ∈ B ++ Z := by
  unfold rest
  constructor
  · intro m
    rcases List.mem_append.mp m with m | m
    · exact List.mem_append_left _ (lent_mem m)
    · rcases List.mem_append.mp m with m | m
      · exact List.mem_append_left _ (List.mem_filter.mp m).1
      · exact List.mem_append_right _ m
  · intro m
    rcases List.mem_append.mp m with m | m
    · by_cases h : a ∈ lent B ns
      · exact List.mem_append_left _ h
      · exact List.mem_append_right _ (List.mem_append_left _ (List.mem_filter.mpr ⟨m, by simp [h]⟩))
    · exact List.mem_append_right _ (List.mem_append_right _ m)
theorem SR.lent {ns : List Nat} {S T : Sto} (s : SR c H B Z S) (hn : ns.Nodup) (h : inS ns S = some T) : SR c H (lent B ns) (rest B ns Z) T := by
  obtain ⟨l1, l2, at_⟩ := lent_at s.len h
  refine ⟨by rw [l1, l2], lent_nd s.nd hn, fun z m => ?_, fun z m hz => ?_, fun i b o hb ho => ?_⟩
  · rcases List.mem_append.mp m with m | m
    · exact s.trk z (List.mem_filter.mp m).1
    · exact s.zt z m
  · rcases List.mem_append.mp m with m | m
    · have := (List.mem_filter.mp m).2; simp [hz] at this
    · exact s.zb z m (lent_mem hz)
  · have hi : i < ns.length := by rw [← l1]; exact (List.getElem?_eq_some_iff.mp hb).1
    obtain ⟨⟨b', q1, q2⟩, ds, q3, q4⟩ := at_ i _ (List.getElem?_eq_getElem hi)
    rw [hb] at q1; cases q1
    rw [ho] at q3; cases q3
    obtain ⟨xs, h1, h2⟩ := s.ob _ _ _ q2 q4
    exact ⟨xs, h1, h2.mono (fun _ _ h _ => h) fun a m => .inl (lent_all.mp m)⟩
theorem RI.lent {ns : List Nat} {S T : Sto} (s : SR c H B Z S) (h : inS ns S = some T) {i j : IV} {v : V} (r : RI c H B Z i v) (q : inA ns i = some j) : RI c H (lent B ns) (rest B ns Z) j v := by
  cases r with
  | d r => cases q; exact .d (r.mono (fun _ _ h _ => h) fun a m => .inl (lent_all.mp m))
  | ref hb =>
    rename_i n b
    have q : (if n ∈ ns then some (IV.ref (ns.idxOf n)) else none) = some j := q
    by_cases hm : n ∈ ns
    · rw [if_pos hm] at q
      cases q
      have hi := List.idxOf_lt_length_of_mem hm
      have e : ns[ns.idxOf n]? = some n := by rw [List.getElem?_eq_getElem hi, List.getElem_idxOf]
      obtain ⟨⟨b', q1, q2⟩, _⟩ := (lent_at s.len h).2.2 _ _ e
      rw [hb] at q2; cases q2
      exact .ref q1
    · rw [if_neg hm] at q; cases q
  | gl h => cases q; exact .gl h
  | tup => cases q
  | scr r hb => cases q; exact .scr r fun m => hb (lent_all.mp m)
  | scrK r => cases q; exact .scrK r
theorem RIs.lent {ns : List Nat} {S T : Sto} (s : SR c H B Z S) (h : inS ns S = some T) : ∀ {is js : List IV} {vs : List V}, RIs c H B Z is vs → inAs ns is = some js → RIs c H (lent B ns) (rest B ns Z) js vs
  | _, _, _, .nil, q => by cases q; exact .nil
  | _, _, _, .cons r t, q => by
    unfold inAs at q
    split at q
    · rename_i h1 h2
      cases q
      exact .cons (r.lent s h h1) (RIs.lent s h t h2)
    · cases q
theorem Ev.lent {ns : List Nat} {B' : List Addr} (s : SR c H B Z S) (e : Ev (lent B ns) H B' H1) : Ev B H B H1 := by
  refine ⟨⟨[], by simp, fun _ h => by cases h⟩, fun a o h hb => e.keep a o h fun m => hb (lent_mem m), fun b hb q => ?_⟩
  by_cases m : b ∈ MI.lent B ns
  · obtain ⟨N, hN, _⟩ := e.pre
    exact e.trk b (by rw [hN]; exact List.mem_append_left _ m) q
  · cases z : H b with
    | none => exact s.trk b hb z
    | some o => rw [e.keep b o z m] at q; cases q
theorem back_far {ns : List Nat} {B' : List Addr} (e : Ev (lent B ns) H B' H1) : ∀ a, a ∈ B ++ Z → a ∈ B' ++ rest B ns Z ∨ H1 a = none := fun a m => .inl (by
  obtain ⟨N, hN, _⟩ := e.pre
  rcases List.mem_append.mp (lent_all (ns := ns).mpr m) with m | m
  · exact List.mem_append_left _ (by rw [hN]; exact List.mem_append_left _ m)
  · exact List.mem_append_right _ m)
/-- what is written back, list by list -/
theorem outS_at : ∀ {ns : List Nat} {T S S' : Sto}, ns.Nodup → outS ns T S = some S' → S'.length = S.length ∧ ns.length ≤ T.length ∧ (∀ (i n : Nat), ns[i]? = some n → n < S.length → ∃ ds : List PyData, T[i]? = some (IO.lst ds) ∧ S'[n]? = some (IO.lst ds)) ∧ ∀ m, m ∉ ns → S'[m]? = S[m]?
  | [], T, S, S', _, h => by cases h; exact ⟨rfl, by simp, fun i n q => by simp at q, fun _ _ => rfl⟩
  | n :: ns, [], S, S', _, h => by cases h
  | n :: ns, .lsx _ :: T, S, S', _, h => by cases h
  | n :: ns, .dct _ :: T, S, S', _, h => by cases h
  | n :: ns, .lst ds :: T, S, S', hn, h => by
    have z := List.nodup_cons.mp hn
    obtain ⟨a1, a2, a3, a4⟩ := outS_at z.2 (S := S.set n (.lst ds)) h
    refine ⟨by rw [a1, List.length_set], by simp; exact a2, fun i m q hm => ?_, fun m hm => ?_⟩
    · cases i with
      | zero =>
        simp at q; subst q
        refine ⟨ds, rfl, ?_⟩
        rw [a4 n z.1, List.getElem?_set_self hm]
      | succ i => exact a3 i m (by simpa using q) (by rw [List.length_set]; exact hm)
    · rw [a4 m fun k => hm (List.mem_cons_of_mem _ k), List.getElem?_set_ne fun k => hm (by rw [k]; exact List.mem_cons_self)]
theorem SR.back {ns : List Nat} {S T T' S' : Sto} {B' : List Addr} (s : SR c H B Z S) (hn : ns.Nodup) (h : inS ns S = some T) (e : Ev (MI.lent B ns) H B' H1) (s1 : SR c H1 B' (rest B ns Z) T') (ho : outS ns T' S = some S') : SR c H1 B Z S' := by
  obtain ⟨a1, a2, a3, a4⟩ := outS_at hn ho
  obtain ⟨l1, l2, at_⟩ := lent_at s.len h
  have e1 := Ev.lent s e
  refine ⟨by rw [s.len, a1], s.nd, fun z m q => ?_, s.zb, fun n b o hb ho => ?_⟩
  · cases u : H z with
    | none => exact s.zt z m u
    | some o => rw [e1.keep z o u (s.zb z m)] at q; cases q
  · by_cases m : n ∈ ns
    · obtain ⟨i, hi⟩ := List.getElem?_of_mem m
      obtain ⟨⟨b', q1, q2⟩, _⟩ := at_ i n hi
      rw [hb] at q2; cases q2
      obtain ⟨ds, t1, t2⟩ := a3 i n hi (by rw [← s.len]; exact (List.getElem?_eq_some_iff.mp hb).1)
      rw [ho] at t2; cases t2
      have q3 : B'[i]? = some b := by
        obtain ⟨N, hN, _⟩ := e.pre
        rw [hN, List.getElem?_append_left (List.getElem?_eq_some_iff.mp q1).1]
        exact q1
      obtain ⟨xs, x1, x2⟩ := s1.ob i b _ q3 t1
      exact ⟨xs, x1, x2.mono (fun _ _ h _ => h) (back_far e)⟩
    · rw [a4 n m] at ho
      have r' := s.ob n b o hb ho
      have nb : b ∉ MI.lent B ns := fun k => by
        obtain ⟨k1, k2, k3⟩ := lent_sub k
        exact m (at_inj s.nd hb k3 ▸ k2)
      cases o with
      | lst ds => obtain ⟨xs, h1, h2⟩ := r'; exact ⟨xs, e.keep _ _ h1 nb, h2.ev e1⟩
      | lsx ds => obtain ⟨xs, h1, h2⟩ := r'; exact ⟨xs, e.keep _ _ h1 nb, h2.ev e1⟩
      | dct _ => exact r'.elim
mutual
theorem toD_rd {k : Nat} {T : Sto} {B' Z' : List Addr} {bd : List Addr} (s1 : SR c H1 B' Z' T) (hf : ∀ a, a ∈ bd → a ∈ B' ++ Z') (hk : ∀ i b, B'[i]? = some b → k ≤ i → b ∉ bd) : ∀ {v : IV} {d : PyData} {x : V}, toD k T v = some d → RI c H1 B' Z' v x → RD c.K H1 bd d x
  | .d y, d, x, h, r => by
    cases h
    cases r with
    | d r => exact r.mono (fun _ _ h _ => h) fun a m => .inl (hf a m)
  | .ref n, d, x, h, r => by
    unfold toD at h
    split at h
    · cases h
    · rename_i hn
      split at h
      · rename_i ds q
        cases h
        cases r with
        | ref hb =>
          obtain ⟨xs, h1, h2⟩ := s1.ob n _ _ hb q
          exact .lst h1 (hk n _ hb (by omega)) (h2.mono (fun _ _ h _ => h) fun a m => .inl (hf a m))
      · cases h
  | .tup vs, d, x, h, r => by
    unfold toD at h
    split at h
    · rename_i ds q
      cases h
      cases r with
      | tup h1 hb t => exact .tup h1 (fun m => hb (hf _ m)) (toDs_rd s1 hf hk q t)
    · cases h
  | .gl _, d, x, h, r => by simp [toD] at h
  | .scr _, d, x, h, r => by simp [toD] at h
  | .clo _ _, d, x, h, r => by simp [toD] at h
  | .exc _ _, d, x, h, r => by simp [toD] at h
theorem toDs_rd {k : Nat} {T : Sto} {B' Z' : List Addr} {bd : List Addr} (s1 : SR c H1 B' Z' T) (hf : ∀ a, a ∈ bd → a ∈ B' ++ Z') (hk : ∀ i b, B'[i]? = some b → k ≤ i → b ∉ bd) : ∀ {v : List IV} {d : List PyData} {x : List V}, toDs k T v = some d → RIs c H1 B' Z' v x → RDs c.K H1 bd d x
  | [], d, x, h, r => by
    simp [toDs] at h
    subst h
    cases r
    exact .nil
  | v :: t, d, x, h, r => by
    unfold toDs at h
    split at h
    · rename_i h1 h2
      cases h
      cases r with
      | cons r1 r2 => exact .cons (toD_rd s1 hf hk h1 r1) (toDs_rd s1 hf hk h2 r2)
    · cases h
end
theorem fresh_of {ns : List Nat} {B' : List Addr} (s : SR c H B Z S) (e : Ev (lent B ns) H B' H1) (hl : (lent B ns).length = ns.length) : ∀ i b, B'[i]? = some b → ns.length ≤ i → b ∉ B ++ Z := fun i b hb hi m => by
  obtain ⟨N, hN, hn⟩ := e.pre
  rw [hN, List.getElem?_append_right (by omega)] at hb
  have z := hn b (List.mem_of_getElem? hb)
  rcases List.mem_append.mp m with m | m
  · exact s.trk b m z
  · exact s.zt b m z
theorem RI.back {ns : List Nat} {S T T' S' : Sto} {B' : List Addr} (s : SR c H B Z S) (hn : ns.Nodup) (h : inS ns S = some T) (e : Ev (MI.lent B ns) H B' H1) (s1 : SR c H1 B' (rest B ns Z) T') {v w : IV} {x : V} (hv : outV ns T' v = some w) (r : RI c H1 B' (rest B ns Z) v x) : RI c H1 B Z w x := by
  obtain ⟨l1, l2, at_⟩ := lent_at s.len h
  have hf : ∀ a, a ∈ B ++ Z → a ∈ B' ++ rest B ns Z := fun a m => by
    obtain ⟨N, hN, _⟩ := e.pre
    rcases List.mem_append.mp (lent_all (ns := ns).mpr m) with m | m
    · exact List.mem_append_left _ (by rw [hN]; exact List.mem_append_left _ m)
    · exact List.mem_append_right _ m
  have rd : ∀ {u : IV}, (toD ns.length T' u).map IV.d = some w → RI c H1 B' (rest B ns Z) u x → RI c H1 B Z w x := fun hq r => by
    obtain ⟨d, hd, rfl⟩ := Option.map_eq_some_iff.mp hq
    exact .d (toD_rd s1 hf (fresh_of s e l1) hd r)
  cases r with
  | d r => exact rd (u := .d _) hv (.d r)
  | ref hb =>
    rename_i n b
    cases hm : ns[n]? with
    | some m =>
      have hv : (match ns[n]? with
        | some m => some (IV.ref m)
        | none => (toD ns.length T' (.ref n)).map IV.d) = some w := hv
      rw [hm] at hv
      cases hv
      obtain ⟨⟨b', q1, q2⟩, _⟩ := at_ n m hm
      have q3 : B'[n]? = some b' := by
        obtain ⟨N, hN, _⟩ := e.pre
        rw [hN, List.getElem?_append_left (List.getElem?_eq_some_iff.mp q1).1]
        exact q1
      rw [hb] at q3; cases q3
      exact .ref q2
    | none =>
      have hv : (match ns[n]? with
        | some m => some (IV.ref m)
        | none => (toD ns.length T' (.ref n)).map IV.d) = some w := hv
      rw [hm] at hv
      exact rd hv (.ref hb)
  | gl h => cases hv; exact .gl h
  | tup h hb t => exact rd (u := .tup _) hv (.tup h hb t)
  | scr r hb => cases hv; exact .scr r fun m => hb (hf _ m)
  | scrK r => cases hv; exact .scrK r

/-! ## a def's promise -/
structure FnG (P : Program) (w : World) (c : Ct) (base : Heap) (k : Nat) (f : Addr) (fd : FuncData) (ps : List Str) (g : FN) : Prop where
  run : ∀ (A : Around) (outer : List Env) (s : Shared) (H : Hp) (args : Args) (us : List Value) (vs : List V) (Q : VK) (E : XK) (B Z : List Addr) (S : Sto) (is : List IV), Room k A → A.guards = some [] → Env0 P w c.K c.mg base A outer s H → BindsTo s fd args (ps.zip us) → Vals vs us → vs.length = ps.length →
    SR c H B Z S → RIs c H B Z is vs → Post c (fun cls d _ H => E cls d H) B Z H [] (g is S) (fun v _ B' H' => ∀ x, RI c H' B' Z v x → Q x H') →
    codeAny (model P w) A (.call (.ref f) args) (CR (L2.CX P w) outer P w H s Q E) s
theorem FnG.mono {P : Program} {w : World} {base : Heap} {j k : Nat} {f : Addr} {fd : FuncData} {ps : List Str} {g : FN} (F : FnG P w c base j f fd ps g) (h : j ≤ k) : FnG P w c base k f fd ps g :=
  ⟨fun A outer s H args us vs Q E B Z S is hr => F.run A outer s H args us vs Q E B Z S is (hr.mono h)⟩
/-- the end of a body -/
def SOut.fin : SOut → Out IV
  | .nx _ S => .ok (.d .none) S
  | .ret v S => .ok v S
  | .exn n v _ S => .exn n v S
  | _ => .bad
def fnB (n : Nat) (fs : FS) : FN := fun is S => if is.length ≤ n then (fs (is.map some ++ List.replicate (n - is.length) none) S).fin else .bad
theorem RIs.at_ : ∀ {is : List IV} {vs : List V} {i : Nat} {v : IV}, RIs c H B Z is vs → is[i]? = some v → ∃ x, vs[i]? = some x ∧ RI c H B Z v x
  | _, _, _, _, .nil, q => by simp at q
  | _, _, 0, _, .cons h _, q => by simp at q; subst q; exact ⟨_, rfl, h⟩
  | _, _, i + 1, _, .cons _ t, q => by simpa using RIs.at_ (i := i) t (by simpa using q)
theorem rr_start {N : List Str} {is : List IV} {vs : List V} (r : RIs c H B Z is vs) (hl : is.length ≤ N.length) : RR c H B Z (is.map some ++ List.replicate (N.length - is.length) none) (L2.start N vs) := by
  unfold L2.start
  refine ⟨by simp [r.length], fun i v q => ?_⟩
  by_cases hi : i < is.length
  · rw [List.getElem?_append_left (by simpa using hi), List.getElem?_map] at q
    cases e : is[i]? with
    | none => rw [e] at q; cases q
    | some a =>
      rw [e] at q; cases q
      obtain ⟨x, h1, h2⟩ := r.at_ e
      refine ⟨x, ?_, h2⟩
      rw [List.getElem?_append_left (by simpa [← r.length] using hi), List.getElem?_map, h1] <;> rfl
  · rw [List.getElem?_append_right (by simpa using hi), List.getElem?_replicate] at q
    split at q <;> cases q
theorem fn_ofG {P : Program} {w : World} {base : Heap} {k : Nat} {f : Addr} {name qual : Str} {params : Arguments} {body : List Stmt} {scope : Scope} {dV kV doc pm cdv ct oc : Value} {an od : Option Addr} {osl : Array (Option Value)} {N ps : List Str} {fs : FS}
    (lk : c.K.lookup f = some ⟨oc, od, .func (PySem.W.fnOf name qual params body scope dV kV doc pm an cdv ct), osl⟩) (hcd : PySem.W.codeIn c.K cdv qual = true) (S : FnScope N ps scope)
    (hbody : ∀ (A : Around) (outer : List Env) (s : Shared) (H : Hp) (E : XK), Room k (A.deeper (PyProof.Rows.envOfC qual scope s.heap.objs.size f cdv)) → A.guards = some [] →
      PSs (cxOf (L2.CX P w) P w c.K c.mg base N qual scope f cdv A outer s H E) body (TSx c (fun cls d _ H => E cls d H) fs)) :
    FnG P w c base (k + 1) f (PySem.W.fnOf name qual params body scope dV kV doc pm an cdv ct) ps (fnB N.length fs) := by
  refine ⟨fun A outer s H args us vs Q E B Z S0 is hr hgu e0 hb rv hlen sr ri hp => ?_⟩
  have inH : c.K.In s.heap := e0.mod.kin.keeps fun b o e => (e0.bs b o e).1
  have noL : s.heap.NoLimit := e0.mod.nolimit.keeps fun b o e => (e0.bs b o e).1
  have kinds : ∀ y ∈ ps.zip us, scope.names.lookup y.1 = some .local ∨ (scope.names.lookup y.1 = some .cell ∧ ((cellsFrom (s.heap.objs.size + 1) scope.names []).lookup y.1).isSome = true) := fun ⟨n, v⟩ hy => by
    rcases S.par n (List.of_mem_zip hy).1 with q | q
    · exact .inl q
    · exact .inr ⟨q, PySem.W.cellsFrom_some _ _ _ (.inl q)⟩
  refine codeAny_call_function hr.depth (inH _ _ lk) rfl S.co S.gen rfl (PySem.W.codeRec_of inH hcd) (hb _ _ _ _ ?_)
  refine wpAny_newFunctionEnv_cells S.kind kinds fun env he s1 x => ?_
  subst he
  refine ⟨noL.keeps x.toInCall.keep, codeAny_func ?_⟩
  have I : Inv (cxOf (L2.CX P w) P w c.K c.mg base N qual scope f cdv A outer s H E) [] (L2.start N vs) H s1 := inv_start S hr.hd e0 hlen rv x
  unfold fnB at hp
  by_cases hle : is.length ≤ N.length
  · rw [if_pos hle] at hp
    have pr : TSx c (fun cls d _ H => E cls d H) fs { nx := fun _ H' => Q .non H', rt := Q } (L2.start N vs) H := by
      refine ⟨B, Z, _, S0, sr, rr_start ri hle, ?_⟩
      cases q : fs (is.map some ++ List.replicate (N.length - is.length) none) S0 with
      | nx r1 S1 =>
        rw [q] at hp
        exact fun σ1 B1 H1 e s _ => hp B1 H1 e s .non (.d .non)
      | ret v1 S1 =>
        rw [q] at hp
        exact fun x1 B1 H1 e s r => hp B1 H1 e s x1 r
      | exn n1 v1 r1 S1 =>
        rw [q] at hp
        exact fun cls d1 σ1 B1 H1 e s _ rx => hp cls d1 B1 H1 e s rx
      | brk r1 S1 => rw [q] at hp; exact hp.elim
      | ct r1 S1 => rw [q] at hp; exact hp.elim
      | bad => rw [q] at hp; exact hp.elim
    refine wpAny_mono ((hbody A outer s H E (hr.deeper _) hgu).run [] s1 (L2.start N vs) H _ I pr) (fun fl s2 hs => ?_) fun e s2 hs => hs
    have done : ∀ {σ' : St} {H' : Hp} {v : V} {u : Value}, Inv (cxOf (L2.CX P w) P w c.K c.mg base N qual scope f cdv A outer s H E) [] σ' H' s2 → RelV v u → Q v H' → CE outer P w H s Q u s2 :=
      fun {σ' H' v u} J r q => ⟨v, H', J.os, J.bare, J.base, J.hok, r, q⟩
    cases fl with
    | ret u => obtain ⟨v, σ', H', J, r, q⟩ := hs; exact done J r q
    | next => obtain ⟨σ', H', J, q⟩ := hs; exact done (v := V.non) (u := Value.none) J rfl q
    | brk => obtain ⟨_, _, _, q⟩ := hs; exact q.elim
    | cont => obtain ⟨_, _, _, q⟩ := hs; exact q.elim
  · rw [if_neg hle] at hp
    exact hp.elim
/-- the callee runs, in the caller's body -/
theorem run_fnG {k : Nat} {f : Addr} {fd : FuncData} {ps : List Str} {g : FN} {pins : List (Addr × Obj)} {s : Shared} {Q : VK} {us : List Value} {vs : List V} {S : Sto} {is : List IV} (hX : X.K = c.K) (hmg : X.mg = c.mg) (F : FnG X.prog X.w c X.base k f fd ps g) (hr : Room k X.A) (hgu : X.A.guards = some [])
    (hb : Binds X.K fd ps []) (tk : Takes X W) (hlen : is.length = ps.length) (I : Inv X pins σ H s) (rv : Vals vs us) (sr : SR c H B Z S) (ri : RIs c H B Z is vs)
    (hp : Post c W B Z H σ (g is S) fun v _ B' H' => ∀ x, RI c H' B' Z v x → Q x H') : wpAny (model X.prog X.w) X.A (call (.ref f) us) (EP X pins σ Q) X.xe s := by
  have hl : us.length = ps.length := by rw [← rv.length, ← ri.length, hlen]
  have bnd := hb s us I.kIn (by rw [List.append_nil]; exact hl)
  rw [List.append_nil] at bnd
  have en := I.env0
  rw [hX, hmg] at en
  have hp' : Post c (fun cls d _ H => W cls d σ H) B Z H [] (g is S) (fun v _ B' H' => ∀ x, RI c H' B' Z v x → Q x H') := by
    cases q : g is S with
    | ok v1 S1 => rw [q] at hp; exact hp
    | exn n1 v1 S1 => rw [q] at hp; exact hp
    | bad => rw [q] at hp; exact hp.elim
  refine wpAny_call (codeAny_mono (F.run X.A X.stack s H ⟨us, []⟩ us vs Q (WE W σ) B Z S is hr hgu en bnd rv (by rw [← ri.length, hlen]) sr ri hp') fun r s' hq => ?_)
  cases r with
  | error e => exact passAt tk σ pins H s e s' I hq
  | ok fl =>
    cases fl with
    | ret u => exact I.after hq
    | next => exact hq.elim
    | brk => exact hq.elim
    | cont => exact hq.elim
end
end MI
set_option maxRecDepth 100000
set_option maxHeartbeats 4000000
namespace MI
open PySem PySem.Spec L2

section
variable {c : Ct} {W : WX} {X : Cx} {B Z B1 : List Addr} {H H1 : Hp} {σ : L2.St} {α β : Type}
theorem RX.back {ns : List Nat} {B' : List Addr} {n : Str} {v : PyData} {cls : Value} {dd : Option Addr} (e : Ev (lent B ns) H B' H1) (x : RX c H1 (B' ++ rest B ns Z) n v cls dd) : RX c H1 (B ++ Z) n v cls dd := by
  obtain ⟨C, dx, y, a1, a2, a3, a4, a5⟩ := x
  exact ⟨C, dx, y, a1, a2, a3, a4, a5.mono (fun _ _ h _ => h) (back_far e)⟩
/-- how an answer is brought back -/
def BackOk (c : Ct) (bk : List Nat → Sto → Out IV → Out IV) : Prop := ∀ {W : WX} {B Z : List Addr} {H : Hp} {σ : L2.St} {S T : Sto} {ns : List Nat} {o : Out IV} {Q : VK}, SR c H B Z S → ns.Nodup → inS ns S = some T →
  Post c W B Z H σ (bk ns S o) (fun v S' B' H' => ∀ x, RI c H' B' Z v x → Q x H') → Post c W (lent B ns) (rest B ns Z) H σ o (fun v S' B' H' => ∀ x, RI c H' B' (rest B ns Z) v x → Q x H')
theorem back_exn {S T : Sto} {ns : List Nat} {n : Str} {v : PyData} {T' : Sto} {Q : IV → Sto → List Addr → Hp → Prop} {R : IV → Sto → List Addr → Hp → Prop} (s : SR c H B Z S) (hn : ns.Nodup) (h : inS ns S = some T)
    (p : Post c W B Z H σ (backW ns S (.exn n v T')) Q) : Post c W (lent B ns) (rest B ns Z) H σ (.exn n v T') R := by
  have p : Post c W B Z H σ (match outS ns T' S with
    | some S' => Out.exn n v S'
    | none => Out.bad) Q := p
  intro cls dd B' H' e s1 rx
  cases q : outS ns T' S with
  | none => rw [q] at p; exact p.elim
  | some S' =>
    rw [q] at p
    exact p cls dd B H' (e.lent s) (s.back hn h e s1 q) (RX.back e rx)
theorem backW_ok : BackOk c backW := by
  intro W B Z H σ S T ns o Q s hn h p
  cases o with
  | bad => exact p
  | exn n v T' => exact back_exn s hn h p
  | ok v T' =>
    have p : Post c W B Z H σ (match outS ns T' S, outV ns T' v with
      | some S', some w => Out.ok w S'
      | _, _ => Out.bad) (fun v S' B' H' => ∀ x, RI c H' B' Z v x → Q x H') := p
    intro B' H' e s1 x r
    cases q : outS ns T' S with
    | none => rw [q] at p; exact p.elim
    | some S' =>
      cases q2 : outV ns T' v with
      | none => rw [q, q2] at p; exact p.elim
      | some w =>
        rw [q, q2] at p
        exact p B H' (e.lent s) (s.back hn h e s1 q) x (r.back s hn h (S' := S') e s1 q2)
theorem backM_ok : BackOk c (fun ns S o => match o with
    | .exn n v T => backW ns S (.exn n v T)
    | o => backM ns S o) := by
  intro W B Z H σ S T ns o Q s hn h p
  cases o with
  | bad => exact p
  | exn n v T' => exact back_exn s hn h p
  | ok v T' =>
    intro B' H' e s1 x r
    cases r with
    | d r => exact (show False from p).elim
    | gl r => exact (show False from p).elim
    | tup r => exact (show False from p).elim
    | scr r => exact (show False from p).elim
    | scrK r => exact (show False from p).elim
    | ref hb =>
      rename_i n b
      have p : Post c W B Z H σ (match outS ns T' S, toD ns.length T' (.ref n) with
        | some S', some (.list ds) => Out.ok (.ref S'.length) (S' ++ [.lst ds])
        | _, _ => .bad) (fun v S' B' H' => ∀ x, RI c H' B' Z v x → Q x H') := p
      cases q : outS ns T' S with
      | none => rw [q] at p; exact p.elim
      | some S' =>
        rw [q] at p
        unfold toD at p
        by_cases hk : n < ns.length
        · rw [if_pos hk] at p; exact p.elim
        · rw [if_neg hk] at p
          cases q2 : T'[n]? with
          | none => rw [q2] at p; exact p.elim
          | some u =>
            cases u with
            | lsx _ => rw [q2] at p; exact p.elim
            | dct _ => rw [q2] at p; exact p.elim
            | lst ds =>
              rw [q2] at p
              have p : Post c W B Z H σ (Out.ok (.ref S'.length) (S' ++ [.lst ds])) (fun v S' B' H' => ∀ x, RI c H' B' Z v x → Q x H') := p
              obtain ⟨a1, a2, a3, a4⟩ := outS_at hn q
              obtain ⟨l1, l2, at_⟩ := lent_at s.len h
              have hfr := fresh_of s e l1 n b hb (by omega)
              have hHb : H b = none := by
                obtain ⟨N, hN, hn'⟩ := e.pre
                rw [hN, List.getElem?_append_right (by omega)] at hb
                exact hn' b (List.mem_of_getElem? hb)
              have e0 := e.lent s
              have eB : Ev B H (B ++ [b]) H' := ⟨⟨[b], rfl, fun y m => by rw [List.mem_singleton.mp m]; exact hHb⟩, e0.keep, fun y m => by
                rcases List.mem_append.mp m with m | m
                · exact e0.trk y m
                · rw [List.mem_singleton.mp m]; exact e.trk b (List.mem_of_getElem? hb)⟩
              have far : ∀ a, a ∈ (B ++ [b]) ++ Z → a ∈ B' ++ rest B ns Z ∨ H' a = none := fun a m => by
                rcases List.mem_append.mp m with m | m
                · rcases List.mem_append.mp m with m | m
                  · exact back_far e a (List.mem_append_left _ m)
                  · rw [List.mem_singleton.mp m]; exact .inl (List.mem_append_left _ (List.mem_of_getElem? hb))
                · exact back_far e a (List.mem_append_right _ m)
              refine p (B ++ [b]) H' eB ?_ _ (.ref (by rw [a1, ← s.len]; simp))
              have s0 := s.back hn h e s1 q
              refine ⟨by rw [List.length_append, List.length_append, s0.len] <;> rfl, List.nodup_append.mpr ⟨s.nd, by simp, fun y hy z hz k => ?_⟩, s0.zt, fun z hz m => ?_, fun m y o hy ho => ?_⟩
              · rw [List.mem_singleton.mp hz] at k; exact hfr (List.mem_append_left _ (k ▸ hy))
              · rcases List.mem_append.mp m with m | m
                · exact s.zb z hz m
                · rw [List.mem_singleton.mp m] at hz; exact hfr (List.mem_append_right _ hz)
              · by_cases hm : m < S'.length
                · rw [List.getElem?_append_left (by rw [s0.len]; exact hm)] at hy
                  rw [List.getElem?_append_left hm] at ho
                  by_cases mem : m ∈ ns
                  · obtain ⟨i, hi⟩ := List.getElem?_of_mem mem
                    obtain ⟨⟨b', q1, q3⟩, _⟩ := at_ i m hi
                    rw [hy] at q3; cases q3
                    obtain ⟨ds', t1, t2⟩ := a3 i m hi (by rw [← a1]; exact hm)
                    rw [ho] at t2; cases t2
                    have q4 : B'[i]? = some y := by
                      obtain ⟨N, hN, _⟩ := e.pre
                      rw [hN, List.getElem?_append_left (List.getElem?_eq_some_iff.mp q1).1]
                      exact q1
                    obtain ⟨xs, x1, x2⟩ := s1.ob i y _ q4 t1
                    exact ⟨xs, x1, x2.mono (fun _ _ h _ => h) far⟩
                  · rw [a4 m mem] at ho
                    have r' := s.ob m y o hy ho
                    have nb : y ∉ lent B ns := fun k => by
                      obtain ⟨k1, k2, k3⟩ := lent_sub k
                      exact mem (at_inj s.nd hy k3 ▸ k2)
                    cases o with
                    | lst ds => obtain ⟨xs, h1, h2⟩ := r'; exact ⟨xs, e.keep _ _ h1 nb, h2.ev eB⟩
                    | lsx ds => obtain ⟨xs, h1, h2⟩ := r'; exact ⟨xs, e.keep _ _ h1 nb, h2.ev eB⟩
                    | dct _ => exact r'.elim
                · have hl := (List.getElem?_eq_some_iff.mp ho).1
                  rw [List.length_append] at hl
                  have en : m = S'.length := by simp at hl; omega
                  subst en
                  rw [List.getElem?_append_right (Nat.le_refl _)] at ho
                  rw [← s0.len, List.getElem?_append_right (Nat.le_refl _)] at hy
                  simp at ho hy
                  subst ho hy
                  obtain ⟨xs, x1, x2⟩ := s1.ob n b _ hb q2
                  exact ⟨xs, x1, x2.mono (fun _ _ h _ => h) far⟩
@[simp] def backN (ns : List Nat) (S : Sto) (o : Out IV) : Out IV := match o with
    | .exn n v T => backW ns S (.exn n v T)
    | o => backM ns S o
/-- f(..): n arguments -/
@[simp] def callN (n : Nat) (g : FN) : FN := fun is S => if is.length = n then callW backW g is S else .bad
/-- the same, the answer being a list to be changed -/
@[simp] def callNM (n : Nat) (g : FN) : FN := fun is S => if is.length = n then callW backN g is S else .bad
@[simp] def eApp (o : FN) (fa : FA) : FE := fun r S => (fa r S).bind o
theorem call_fn {k n : Nat} {f : Addr} {fd : FuncData} {ps : List Str} {g : FN} {bk : List Nat → Sto → Out IV → Out IV} {pins : List (Addr × Obj)} {s : Shared} {Q : VK} {us : List Value} {vs : List V} {S : Sto} {is : List IV} (hbk : BackOk c bk) (hX : X.K = c.K) (hmg : X.mg = c.mg)
    (F : FnG X.prog X.w c X.base k f fd ps g) (hr : Room k X.A) (hgu : X.A.guards = some []) (hb : Binds X.K fd ps []) (tk : Takes X W) (hlen : is.length = ps.length) (I : Inv X pins σ H s) (rv : Vals vs us) (sr : SR c H B Z S) (ri : RIs c H B Z is vs)
    (hp : Post c W B Z H σ (callW bk g is S) fun v _ B' H' => ∀ x, RI c H' B' Z v x → Q x H') : wpAny (model X.prog X.w) X.A (call (.ref f) us) (EP X pins σ Q) X.xe s := by
  unfold callW at hp
  cases q1 : inAs (brw is) is with
  | none => rw [q1] at hp; exact hp.elim
  | some js =>
    cases q2 : inS (brw is) S with
    | none => rw [q1, q2] at hp; exact hp.elim
    | some T =>
      rw [q1, q2] at hp
      have hj : js.length = ps.length := by
        rw [← hlen, (ri.lent sr q2 q1).length, ri.length]
      exact run_fnG hX hmg F hr hgu hb tk hj I rv (sr.lent (brw_nd is) q2) (ri.lent sr q2 q1) (hbk sr (brw_nd is) q2 hp)
/-- the reading of an application -/
def TApp (c : Ct) (W : WX) (o : FN) (t : TA) : TE := fun σ H Q => t σ H fun vs H1 => ∃ B Z S is, SR c H1 B Z S ∧ RIs c H1 B Z is vs ∧ Post c W B Z H1 σ (o is S) fun v _ B' H' => ∀ x, RI c H' B' Z v x → Q x H'
theorem app_of {o : FN} {fa : FA} {Q : VK} (h : TEx c W (eApp o fa) σ H Q) : TApp c W o (TAx c W fa) σ H Q := by
  obtain ⟨B, Z, r, S, s, rr, p⟩ := h
  exact ⟨B, Z, r, S, s, rr, (Post.bind p).imp fun is S1 B1 H1 e1 s1 q vs rv => ⟨B1, Z, S1, is, s1, rv, q⟩⟩
/-- what is the same at every call of one body -/
structure Cxg (c : Ct) (W : WX) (X : Cx) : Prop where
  K : X.K = c.K
  mg : X.mg = c.mg
  gu : X.A.guards = some []
  tk : Takes X W
theorem s_callB {k n : Nat} {f : Addr} {fd : FuncData} {ps : List Str} {g : FN} {bk : List Nat → Sto → Out IV → Out IV} {x : Str} {p pos : Pos} {e : Expr} {es : List Expr} {fa : FA} (hbk : BackOk c bk) (cx : Cxg c W X) (F : FnG X.prog X.w c X.base k f fd ps g) (hr : Room k X.A)
    (hg : Gl X x) (hm : X.mg x = some (.ref f)) (hk : PySem.W.keepIn X.K (.ref f) = true) (hb : Binds X.K fd ps []) (hn : n = ps.length) (ha : PA X (e :: es) (TAx c W fa)) (hdb : (x == ("__debug__" : Str)) = false := by decide)
    (he : starEach (e :: es) X.env = (false, eval e X.env) :: starEach es X.env := by rfl) (hpl : (backTo pos (starEach es X.env)).any (·.1) = false := by rfl) :
    PE X (.Call (.Name x p) (e :: es) [] pos) (TEx c W (eApp (fun is S => if is.length = n then callW bk g is S else .bad) fa)) := by
  refine pe_imp (t := TApp c W (fun is S => if is.length = n then callW bk g is S else .bad) (TAx c W fa)) ⟨fun pins s σ H Q I h => ?_⟩ fun _ _ _ => app_of
  refine wpAny_Call_Name_kw (ld_glob I hg hm ?_ hdb)
  refine PySem.W.callWith_K (h₀ := X.base) I.ok.mod.kin hk (thn (ha.run pos pins s σ H _ I h) fun us s1 ⟨vs, H1, I1, r, B, Z, S, is, sr, ri, hp⟩ => ⟨I1.kIn, ?_⟩) he hpl
  dsimp only at hp
  by_cases hl : is.length = n
  · rw [if_pos hl] at hp
    exact call_fn (n := n) hbk cx.K cx.mg F hr cx.gu hb cx.tk (hl.trans hn) I1 r sr ri hp
  · rw [if_neg hl] at hp
    exact hp.elim
theorem s_call {k n : Nat} {f : Addr} {fd : FuncData} {ps : List Str} {g : FN} {x : Str} {p pos : Pos} {e : Expr} {es : List Expr} {fa : FA} (cx : Cxg c W X) (F : FnG X.prog X.w c X.base k f fd ps g) (hr : Room k X.A)
    (hg : Gl X x) (hm : X.mg x = some (.ref f)) (hk : PySem.W.keepIn X.K (.ref f) = true) (hb : Binds X.K fd ps []) (hn : n = ps.length) (ha : PA X (e :: es) (TAx c W fa)) (hdb : (x == ("__debug__" : Str)) = false := by decide)
    (he : starEach (e :: es) X.env = (false, eval e X.env) :: starEach es X.env := by rfl) (hpl : (backTo pos (starEach es X.env)).any (·.1) = false := by rfl) :
    PE X (.Call (.Name x p) (e :: es) [] pos) (TEx c W (eApp (callN n g) fa)) := s_callB backW_ok cx F hr hg hm hk hb hn ha hdb he hpl
theorem s_callM {k n : Nat} {f : Addr} {fd : FuncData} {ps : List Str} {g : FN} {x : Str} {p pos : Pos} {e : Expr} {es : List Expr} {fa : FA} (cx : Cxg c W X) (F : FnG X.prog X.w c X.base k f fd ps g) (hr : Room k X.A)
    (hg : Gl X x) (hm : X.mg x = some (.ref f)) (hk : PySem.W.keepIn X.K (.ref f) = true) (hb : Binds X.K fd ps []) (hn : n = ps.length) (ha : PA X (e :: es) (TAx c W fa)) (hdb : (x == ("__debug__" : Str)) = false := by decide)
    (he : starEach (e :: es) X.env = (false, eval e X.env) :: starEach es X.env := by rfl) (hpl : (backTo pos (starEach es X.env)).any (·.1) = false := by rfl) :
    PE X (.Call (.Name x p) (e :: es) [] pos) (TEx c W (eApp (callNM n g) fa)) := s_callB backM_ok cx F hr hg hm hk hb hn ha hdb he hpl
/-- built-ins: what the rule asks, from the reading -/
def OkN (c : Ct) (W : WX) (r : List V → Hp → VK → Prop) (o : FN) : Prop := ∀ {σ : L2.St} {B Z : List Addr} {H : Hp} {S : Sto} {is : List IV} {vs : List V} {Q : VK}, SR c H B Z S → RIs c H B Z is vs → Post c W B Z H σ (o is S) (fun v S' B' H' => ∀ x, RI c H' B' Z v x → Q x H') → r vs H Q
theorem cb_of {o : FN} {fa : FA} {Q : VK} {r : List V → Hp → VK → Prop} (k : OkN c W r o) (h : TEx c W (eApp o fa) σ H Q) : tCB r (TAx c W fa) σ H Q := by
  obtain ⟨B, Z, r', S, s, rr, p⟩ := h
  exact ⟨B, Z, r', S, s, rr, (Post.bind p).imp fun is S1 B1 H1 e1 s1 q vs rv => k s1 rv q⟩
section
variable {x : Str} {p pos : Pos} {e : Expr} {es : List Expr} {fa : FA} {o : FN} {id T : String} {r : List V → Hp → VK → Prop}
theorem s_blt (k : OkN c W r o) (hc : CallR X (.builtin id) r) (hg : Gl X x) (hm : X.mg x = none) (hv : bootBuiltins x = some (.builtin id)) (ha : PA X (e :: es) (TAx c W fa)) (hn : x ≠ "__name__" := by decide) (hdb : (x == ("__debug__" : Str)) = false := by decide)
    (he : starEach (e :: es) X.env = (false, eval e X.env) :: starEach es X.env := by rfl) (hpl : (backTo pos (starEach es X.env)).any (·.1) = false := by rfl) : PE X (.Call (.Name x p) (e :: es) [] pos) (TEx c W (eApp o fa)) :=
  pe_imp (pe_callB hc hg hm hv ha hn hdb he hpl) fun _ _ _ => cb_of k
theorem s_bty (k : OkN c W r o) (hc : CallR X (.type T) r) (hg : Gl X x) (hm : X.mg x = none) (hv : bootBuiltins x = some (.type T)) (ha : PA X (e :: es) (TAx c W fa)) (hn : x ≠ "__name__" := by decide) (hdb : (x == ("__debug__" : Str)) = false := by decide)
    (he : starEach (e :: es) X.env = (false, eval e X.env) :: starEach es X.env := by rfl) (hpl : (backTo pos (starEach es X.env)).any (·.1) = false := by rfl) : PE X (.Call (.Name x p) (e :: es) [] pos) (TEx c W (eApp o fa)) :=
  pe_imp (pe_callTy hc hg hm hv ha hn hdb he hpl) fun _ _ _ => cb_of k
end
end
end MI
set_option maxRecDepth 100000
set_option maxHeartbeats 4000000
namespace MI
open PySem PySem.Spec L2

section
variable {c : Ct} {W : WX} {X : Cx} {B Z B1 : List Addr} {H H1 : Hp} {σ : L2.St} {α β : Type}
theorem ris1 {v : IV} {vs : List V} (r : RIs c H B Z [v] vs) : ∃ x, vs = [x] ∧ RI c H B Z v x := by
  cases r with
  | cons h t => cases t; exact ⟨_, rfl, h⟩
theorem ris2 {v w : IV} {vs : List V} (r : RIs c H B Z [v, w] vs) : ∃ x y, vs = [x, y] ∧ RI c H B Z v x ∧ RI c H B Z w y := by
  cases r with
  | cons h t =>
    obtain ⟨y, rfl, k⟩ := ris1 t
    exact ⟨_, y, rfl, h, k⟩
/-- what is in a list -/
@[simp] def lstOf (S : Sto) : IV → Option (List PyData)
  | .d (.list ds) => some ds
  | .scr ns => some (ns.map .int)
  | .ref n => match S[n]? with
    | some (.lst ds) => some ds
    | _ => none
  | _ => none
@[simp] def tupOf : IV → Option (List PyData)
  | .d (.tuple ds) => some ds
  | _ => none
theorem lstOf_sq {S : Sto} {v : IV} {x : V} {ds : List PyData} (s : SR c H B Z S) (r : RI c H B Z v x) (h : lstOf S v = some ds) : ∃ p xs, x = .ref p ∧ SqL c.K H p xs ∧ RDs c.K H (B ++ Z) ds xs := by
  cases r with
  | d r =>
    cases r with
    | lst h1 hb t => cases h; exact ⟨_, _, rfl, .of h1, t⟩
    | non => cases h
    | bl => cases h
    | int => cases h
    | str => cases h
    | tup => cases h
    | tupK => cases h
  | ref hb =>
    rename_i n b
    have h : (match S[n]? with
      | some (IO.lst ds) => some ds
      | _ => none) = some ds := h
    cases q : S[n]? with
    | none => rw [q] at h; cases h
    | some o =>
      cases o with
      | lst es => rw [q] at h; cases h; obtain ⟨xs, h1, h2⟩ := s.ob n b _ hb q; exact ⟨b, xs, rfl, .of h1, h2⟩
      | lsx es => rw [q] at h; cases h
      | dct es => rw [q] at h; cases h
  | gl => cases h
  | tup => cases h
  | scr h1 hb =>
    cases h
    obtain ⟨a, e, q⟩ := RI.scrS (.scr h1 hb)
    cases e
    exact ⟨_, _, rfl, q, rds_ints _⟩
  | scrK h1 =>
    cases h
    obtain ⟨a, e, q⟩ := RI.scrS (B := B) (Z := Z) (H := H) (.scrK h1)
    cases e
    exact ⟨_, _, rfl, q, rds_ints _⟩
theorem tupOf_sq {v : IV} {x : V} {ds : List PyData} (r : RI c H B Z v x) (h : tupOf v = some ds) : ∃ p xs, x = .ref p ∧ SqT c.K H p xs ∧ RDs c.K H (B ++ Z) ds xs := by
  cases r with
  | d r =>
    cases r with
    | tup h1 hb t => cases h; exact ⟨_, _, rfl, .of h1, t⟩
    | tupK h1 t => cases h; exact ⟨_, _, rfl, .inr h1, t⟩
    | non => cases h
    | bl => cases h
    | int => cases h
    | str => cases h
    | lst => cases h
  | ref => cases h
  | gl => cases h
  | tup => cases h
  | scr => cases h
  | scrK => cases h
@[simp] def seqOf (S : Sto) (v : IV) : Option (List PyData) := match lstOf S v with
  | some ds => some ds
  | none => tupOf v
theorem seqOf_sq {S : Sto} {v : IV} {x : V} {ds : List PyData} (s : SR c H B Z S) (r : RI c H B Z v x) (h : seqOf S v = some ds) : ∃ p xs, x = .ref p ∧ (SqL c.K H p xs ∨ SqT c.K H p xs) ∧ RDs c.K H (B ++ Z) ds xs := by
  unfold seqOf at h
  cases q : lstOf S v with
  | some es =>
    rw [q] at h; cases h
    obtain ⟨p, xs, a1, a2, a3⟩ := lstOf_sq s r q
    exact ⟨p, xs, a1, .inl a2, a3⟩
  | none =>
    rw [q] at h
    obtain ⟨p, xs, a1, a2, a3⟩ := tupOf_sq r h
    exact ⟨p, xs, a1, .inr a2, a3⟩
/-! ### len, int, abs, min, max -/
@[simp] def lenOf (S : Sto) : IV → Option Nat
  | .d (.str x) => if x.length ≤ sizeLine then some x.length else none
  | .tup vs => some vs.length
  | .ref n => match S[n]? with
    | some (.lst ds) => some ds.length
    | some (.lsx ds) => some ds.length
    | _ => none
  | v => (seqOf S v).map List.length
@[simp] def bLen : FN := fun is S => match is with
  | [v] => match lenOf S v with
    | some n => .ok (.d (.int n)) S
    | none => .bad
  | _ => .bad
theorem lenOf_v {S : Sto} {v : IV} {x : V} {n : Nat} (s : SR c H B Z S) (r : RI c H B Z v x) (h : lenOf S v = some n) : LenV c.K x H n := by
  have seq : (seqOf S v).map List.length = some n → LenV c.K x H n := fun q => by
    obtain ⟨ds, h1, rfl⟩ := Option.map_eq_some_iff.mp q
    obtain ⟨p, xs, rfl, h2, h3⟩ := seqOf_sq s r h1
    rw [h3.length]
    rcases h2 with h2 | h2
    · exact .inl ⟨xs, h2, rfl⟩
    · exact .inr ⟨xs, h2, rfl⟩
  cases r with
  | d r =>
    cases r with
    | str y =>
      unfold lenOf at h
      split at h <;> try (rename_i hx; cases hx)
      · split at h
        · cases h; exact ⟨by assumption, rfl⟩
        · cases h
      · rename_i h1 _ _; exact (h1 y rfl).elim
    | non => exact seq h
    | bl => exact seq h
    | int => exact seq h
    | lst => exact seq h
    | tup => exact seq h
    | tupK => exact seq h
  | ref hb =>
    rename_i k b
    have h : (match S[k]? with
      | some (IO.lst ds) => some ds.length
      | some (IO.lsx ds) => some ds.length
      | _ => none) = some n := h
    cases q : S[k]? with
    | none => rw [q] at h; cases h
    | some o =>
      have ob := s.ob k b _ hb q
      cases o with
      | lst es => rw [q] at h; cases h; obtain ⟨xs, h1, h2⟩ := ob; exact .inl ⟨xs, .of h1, h2.length⟩
      | lsx es => rw [q] at h; cases h; obtain ⟨xs, h1, h2⟩ := ob; exact .inl ⟨xs, .of h1, h2.length⟩
      | dct es => rw [q] at h; cases h
  | gl => cases h
  | tup h1 hb t => cases h; exact .inr ⟨_, .of h1, t.length⟩
  | scr h1 hb => exact seq h
  | scrK h1 => exact seq h
theorem k_len : OkN c W (fun xs H Q => ∃ x n, xs = [x] ∧ LenV c.K x H n ∧ Q (.int n) H) bLen := by
  intro σ B Z H S is vs Q s r p
  unfold bLen at p
  split at p
  · obtain ⟨x, rfl, rx⟩ := ris1 r
    split at p
    · rename_i n hn
      exact ⟨x, n, rfl, lenOf_v s rx hn, p.ret s _ (.d (.int _))⟩
    · exact p.elim
  · exact p.elim
@[simp] def bInt : FN := fun is S => match is with
  | [.d (.int i)] => .ok (.d (.int i)) S
  | [.d (.bool b)] => .ok (.d (.int (if b then 1 else 0))) S
  | _ => .bad
theorem k_toint : OkN c W (fun xs H Q => (∃ i, xs = [.int i] ∧ Q (.int i) H) ∨ ∃ k, xs = [.bl k] ∧ Q (.int (if k then 1 else 0)) H) bInt := by
  intro σ B Z H S is vs Q s r p
  unfold bInt at p
  split at p
  · obtain ⟨x, rfl, rx⟩ := ris1 r
    cases rx with | d rx => cases rx; exact .inl ⟨_, rfl, p.ret s _ (.d (.int _))⟩
  · obtain ⟨x, rfl, rx⟩ := ris1 r
    cases rx with | d rx => cases rx; exact .inr ⟨_, rfl, p.ret s _ (.d (.int _))⟩
  · exact p.elim
@[simp] def bAbs : FN := fun is S => match is with
  | [.d (.int i)] => .ok (.d (.int (if i < 0 then -i else i))) S
  | _ => .bad
theorem k_abs : OkN c W (fun xs H Q => ∃ i, xs = [.int i] ∧ Q (.int (if i < 0 then -i else i)) H) bAbs := by
  intro σ B Z H S is vs Q s r p
  unfold bAbs at p
  split at p
  · obtain ⟨x, rfl, rx⟩ := ris1 r
    cases rx with | d rx => cases rx; exact ⟨_, rfl, p.ret s _ (.d (.int _))⟩
  · exact p.elim
@[simp] def bMax2 : FN := fun is S => match is with
  | [.d (.int i), .d (.int j)] => .ok (.d (.int (if j > i then j else i))) S
  | _ => .bad
theorem k_max2 : OkN c W (fun xs H Q => ∃ i j, xs = [.int i, .int j] ∧ Q (.int (if j > i then j else i)) H) bMax2 := by
  intro σ B Z H S is vs Q s r p
  unfold bMax2 at p
  split at p
  · obtain ⟨x, y, rfl, rx, ry⟩ := ris2 r
    cases rx with | d rx => cases rx; cases ry with | d ry => cases ry; exact ⟨_, _, rfl, p.ret s _ (.d (.int _))⟩
  · exact p.elim
@[simp] def bMin2 : FN := fun is S => match is with
  | [.d (.int i), .d (.int j)] => .ok (.d (.int (if j < i then j else i))) S
  | _ => .bad
theorem k_min2 : OkN c W (fun xs H Q => ∃ i j, xs = [.int i, .int j] ∧ Q (.int (if j < i then j else i)) H) bMin2 := by
  intro σ B Z H S is vs Q s r p
  unfold bMin2 at p
  split at p
  · obtain ⟨x, y, rfl, rx, ry⟩ := ris2 r
    cases rx with | d rx => cases rx; cases ry with | d ry => cases ry; exact ⟨_, _, rfl, p.ret s _ (.d (.int _))⟩
  · exact p.elim
/-! ### over lists of ints, of bools -/
def intsOf : List PyData → Option (List Int)
  | [] => some []
  | .int i :: t => match intsOf t with
    | some r => some (i :: r)
    | none => none
  | _ => none
theorem intsOf_eq : ∀ {ds : List PyData} {ns : List Int}, intsOf ds = some ns → ds = ns.map .int
  | [], ns, h => by cases h; rfl
  | d :: ds, ns, h => by
    cases d <;> try (cases h)
    rename_i i
    have h : (match intsOf ds with
      | some r => some (i :: r)
      | none => none) = some ns := h
    cases q : intsOf ds with
    | none => rw [q] at h; cases h
    | some r => rw [q] at h; cases h; rw [intsOf_eq q] <;> rfl
theorem intsOf_map : ∀ ns : List Int, intsOf (ns.map .int) = some ns
  | [] => rfl
  | n :: ns => by show (match intsOf (ns.map .int) with
      | some r => some (n :: r)
      | none => none) = _; rw [intsOf_map ns]
def boolsOf : List PyData → Option (List Bool)
  | [] => some []
  | .bool i :: t => match boolsOf t with
    | some r => some (i :: r)
    | none => none
  | _ => none
theorem boolsOf_eq : ∀ {ds : List PyData} {ns : List Bool}, boolsOf ds = some ns → ds = ns.map .bool
  | [], ns, h => by cases h; rfl
  | d :: ds, ns, h => by
    cases d <;> try (cases h)
    rename_i i
    have h : (match boolsOf ds with
      | some r => some (i :: r)
      | none => none) = some ns := h
    cases q : boolsOf ds with
    | none => rw [q] at h; cases h
    | some r => rw [q] at h; cases h; rw [boolsOf_eq q] <;> rfl
theorem boolsOf_map : ∀ ns : List Bool, boolsOf (ns.map .bool) = some ns
  | [] => rfl
  | n :: ns => by show (match boolsOf (ns.map .bool) with
      | some r => some (n :: r)
      | none => none) = _; rw [boolsOf_map ns]
/-- the ints of a list -/
@[simp] def lintsOf (S : Sto) (v : IV) : Option (List Int) := match lstOf S v with
  | some ds => intsOf ds
  | none => none
theorem lintsOf_sq {S : Sto} {v : IV} {x : V} {ns : List Int} (s : SR c H B Z S) (r : RI c H B Z v x) (h : lintsOf S v = some ns) : ∃ p, x = .ref p ∧ SqL c.K H p (ns.map V.int) := by
  unfold lintsOf at h
  cases q : lstOf S v with
  | none => rw [q] at h; cases h
  | some ds =>
    rw [q] at h
    obtain ⟨p, xs, rfl, h1, h2⟩ := lstOf_sq s r q
    rw [intsOf_eq h] at h2
    rw [h2.ints] at h1
    exact ⟨p, rfl, h1⟩
@[simp] def lboolsOf (S : Sto) (v : IV) : Option (List Bool) := match lstOf S v with
  | some ds => boolsOf ds
  | none => none
theorem lboolsOf_sq {S : Sto} {v : IV} {x : V} {ns : List Bool} (s : SR c H B Z S) (r : RI c H B Z v x) (h : lboolsOf S v = some ns) : ∃ p, x = .ref p ∧ SqL c.K H p (ns.map V.bl) := by
  unfold lboolsOf at h
  cases q : lstOf S v with
  | none => rw [q] at h; cases h
  | some ds =>
    rw [q] at h
    obtain ⟨p, xs, rfl, h1, h2⟩ := lstOf_sq s r q
    rw [boolsOf_eq h] at h2
    rw [h2.bools] at h1
    exact ⟨p, rfl, h1⟩
@[simp] def bSum : FN := fun is S => match is with
  | [v] => match lintsOf S v with
    | some ns => .ok (.d (.int ns.sum)) S
    | none => .bad
  | _ => .bad
theorem k_sum : OkN c W (rSum c.K) bSum := by
  intro σ B Z H S is vs Q s r p
  unfold bSum at p
  split at p
  · obtain ⟨x, rfl, rx⟩ := ris1 r
    split at p
    · rename_i ns hn
      obtain ⟨a, rfl, h1⟩ := lintsOf_sq s rx hn
      exact ⟨a, ns, rfl, h1, p.ret s _ (.d (.int _))⟩
    · exact p.elim
  · exact p.elim
@[simp] def bAll : FN := fun is S => match is with
  | [v] => match lboolsOf S v with
    | some ns => .ok (.d (.bool (ns.all id))) S
    | none => .bad
  | _ => .bad
theorem k_all : OkN c W (rAll c.K) bAll := by
  intro σ B Z H S is vs Q s r p
  unfold bAll at p
  split at p
  · obtain ⟨x, rfl, rx⟩ := ris1 r
    split at p
    · rename_i ns hn
      obtain ⟨a, rfl, h1⟩ := lboolsOf_sq s rx hn
      exact ⟨a, ns, rfl, h1, p.ret s _ (.d (.bl _))⟩
    · exact p.elim
  · exact p.elim
@[simp] def bAny : FN := fun is S => match is with
  | [v] => match lboolsOf S v with
    | some ns => .ok (.d (.bool (ns.any id))) S
    | none => .bad
  | _ => .bad
theorem k_any : OkN c W (rAny c.K) bAny := by
  intro σ B Z H S is vs Q s r p
  unfold bAny at p
  split at p
  · obtain ⟨x, rfl, rx⟩ := ris1 r
    split at p
    · rename_i ns hn
      obtain ⟨a, rfl, h1⟩ := lboolsOf_sq s rx hn
      exact ⟨a, ns, rfl, h1, p.ret s _ (.d (.bl _))⟩
    · exact p.elim
  · exact p.elim
/-! ### new lists, new tuples -/
theorem new_list {S : Sto} {ds : List PyData} {xs : List V} {Q : VK} {p : Addr} (s : SR c H B Z S) (r : RDs c.K H (B ++ Z) ds xs) (hp : H p = none) (q : Post c W B Z H σ (.ok (.d (.list ds)) S) (fun v S' B' H' => ∀ x, RI c H' B' Z v x → Q x H')) : Q (.ref p) (upd H p (.lst xs)) := by
  have e := Ev.new (o := HO.lst xs) s hp
  exact q B _ e (s.new hp) _ (.d (.lst upd_same (s.out hp) (r.ev e)))
theorem new_listM {S : Sto} {ds : List PyData} {xs : List V} {Q : VK} {p : Addr} (s : SR c H B Z S) (r : RDs c.K H (B ++ Z) ds xs) (hp : H p = none) (q : Post c W B Z H σ (.ok (.ref S.length) (S ++ [.lst ds])) (fun v S' B' H' => ∀ x, RI c H' B' Z v x → Q x H')) : Q (.ref p) (upd H p (.lst xs)) := by
  have e := Ev.push (o := HO.lst xs) s hp
  exact q (B ++ [p]) _ e (s.push hp ⟨xs, upd_same, r.ev e⟩) _ (.ref (by rw [← s.len]; simp))
theorem new_tup {S : Sto} {ds : List PyData} {xs : List V} {Q : VK} {p : Addr} (s : SR c H B Z S) (r : RDs c.K H (B ++ Z) ds xs) (hp : H p = none) (q : Post c W B Z H σ (.ok (.d (.tuple ds)) S) (fun v S' B' H' => ∀ x, RI c H' B' Z v x → Q x H')) : Q (.ref p) (upd H p (.tup xs)) := by
  have e := Ev.new (o := HO.tup xs) s hp
  exact q B _ e (s.new hp) _ (.d (.tup upd_same (s.out hp) (r.ev e)))
@[simp] def bList : FN := fun is S => match is with
  | [v] => match seqOf S v with
    | some ds => .ok (.d (.list ds)) S
    | none => .bad
  | _ => .bad
@[simp] def bListM : FN := fun is S => match is with
  | [v] => match seqOf S v with
    | some ds => .ok (.ref S.length) (S ++ [.lst ds])
    | none => .bad
  | _ => .bad
abbrev rLst (K : PySem.W.Frag) : List V → Hp → VK → Prop := fun xs H Q => ∃ p ys, xs = [.ref p] ∧ (SqL K H p ys ∨ SqT K H p ys) ∧ ∀ l, H l = none → Q (.ref l) (upd H l (.lst ys))
theorem k_list : OkN c W (rLst c.K) bList := by
  intro σ B Z H S is vs Q s r p
  unfold bList at p
  split at p
  · obtain ⟨x, rfl, rx⟩ := ris1 r
    split at p
    · rename_i ds hn
      obtain ⟨a, xs, rfl, h1, h2⟩ := seqOf_sq s rx hn
      exact ⟨a, xs, rfl, h1, fun l hl => new_list s h2 hl p⟩
    · exact p.elim
  · exact p.elim
theorem k_listM : OkN c W (rLst c.K) bListM := by
  intro σ B Z H S is vs Q s r p
  unfold bListM at p
  split at p
  · obtain ⟨x, rfl, rx⟩ := ris1 r
    split at p
    · rename_i ds hn
      obtain ⟨a, xs, rfl, h1, h2⟩ := seqOf_sq s rx hn
      exact ⟨a, xs, rfl, h1, fun l hl => new_listM s h2 hl p⟩
    · exact p.elim
  · exact p.elim
@[simp] def bTup : FN := fun is S => match is with
  | [v] => match seqOf S v with
    | some ds => .ok (.d (.tuple ds)) S
    | none => .bad
  | _ => .bad
theorem tupOf_d {v : IV} {ds : List PyData} (h : tupOf v = some ds) : v = .d (.tuple ds) := by
  unfold tupOf at h
  split at h
  · cases h; rfl
  · cases h
theorem k_tup : OkN c W (fun xs H Q => ∃ p ys, xs = [.ref p] ∧ ((SqL c.K H p ys ∧ ∀ l, H l = none → Q (.ref l) (upd H l (.tup ys))) ∨ (SqT c.K H p ys ∧ Q (.ref p) H))) bTup := by
  intro σ B Z H S is vs Q s r p
  unfold bTup at p
  split at p
  · obtain ⟨x, rfl, rx⟩ := ris1 r
    split at p
    · rename_i ds hn
      unfold seqOf at hn
      split at hn
      · rename_i es hq
        cases hn
        obtain ⟨a, xs, rfl, h1, h2⟩ := lstOf_sq s rx hq
        exact ⟨a, xs, rfl, .inl ⟨h1, fun l hl => new_tup s h2 hl p⟩⟩
      · obtain ⟨a, xs, rfl, h1, h2⟩ := tupOf_sq rx hn
        rw [tupOf_d hn] at rx
        exact ⟨a, xs, rfl, .inr ⟨h1, p.ret s _ rx⟩⟩
    · exact p.elim
  · exact p.elim
/-! ### sorted, of ints -/
def ins (x : Int) : List Int → List Int
  | [] => [x]
  | y :: t => if x ≤ y then x :: y :: t else y :: ins x t
def isort : List Int → List Int
  | [] => []
  | x :: t => ins x (isort t)
theorem ins_perm (x : Int) : ∀ l : List Int, (ins x l).Perm (x :: l)
  | [] => .refl _
  | y :: t => by
    unfold ins
    split
    · exact .refl _
    · exact ((ins_perm x t).cons y).trans (.swap x y t)
theorem ins_pw (x : Int) : ∀ l : List Int, l.Pairwise (· ≤ ·) → (ins x l).Pairwise (· ≤ ·)
  | [], _ => by unfold ins; simp
  | y :: t, h => by
    unfold ins
    have z := List.pairwise_cons.mp h
    split
    · rename_i hxy
      refine List.pairwise_cons.mpr ⟨fun a ha => ?_, h⟩
      rcases List.mem_cons.mp ha with ha | ha
      · rw [ha]; exact hxy
      · exact Int.le_trans hxy (z.1 a ha)
    · rename_i hxy
      refine List.pairwise_cons.mpr ⟨fun a ha => ?_, ins_pw x t z.2⟩
      rcases List.mem_cons.mp ((ins_perm x t).mem_iff.mp ha) with ha | ha
      · rw [ha]; omega
      · exact z.1 a ha
theorem isort_perm : ∀ l : List Int, (isort l).Perm l
  | [] => .refl _
  | x :: t => (ins_perm x (isort t)).trans ((isort_perm t).cons x)
theorem isort_pw : ∀ l : List Int, (isort l).Pairwise (· ≤ ·)
  | [] => .nil
  | x :: t => ins_pw x _ (isort_pw t)
theorem pw_unique : ∀ {l m : List Int}, l.Perm m → l.Pairwise (· ≤ ·) → m.Pairwise (· ≤ ·) → l = m
  | [], m, p, _, _ => by rw [List.nil_perm.mp p]
  | x :: t, [], p, _, _ => by have := p.length_eq; simp at this
  | x :: t, y :: u, p, h1, h2 => by
    have z1 := List.pairwise_cons.mp h1
    have z2 := List.pairwise_cons.mp h2
    have e : x = y := by
      have m1 : x ∈ y :: u := p.mem_iff.mp List.mem_cons_self
      have m2 : y ∈ x :: t := p.mem_iff.mpr List.mem_cons_self
      rcases List.mem_cons.mp m1 with q1 | q1
      · exact q1
      · rcases List.mem_cons.mp m2 with q2 | q2
        · exact q2.symm
        · have a1 := z2.1 x q1
          have a2 := z1.1 y q2
          omega
    subst e
    rw [pw_unique ((List.perm_cons x).mp p) z1.2 z2.2]
theorem isort_of {l m : List Int} (p : m.Perm l) (h : m.Pairwise (· ≤ ·)) : m = isort l := pw_unique (p.trans (isort_perm l).symm) h (isort_pw l)
@[simp] def bSortI : FN := fun is S => match is with
  | [v] => match lintsOf S v with
    | some ns => .ok (.d (.list ((isort ns).map .int))) S
    | none => .bad
  | _ => .bad
theorem k_sortI : OkN c W (rSortedI c.K) bSortI := by
  intro σ B Z H S is vs Q s r p
  unfold bSortI at p
  split at p
  · obtain ⟨x, rfl, rx⟩ := ris1 r
    split at p
    · rename_i ns hn
      obtain ⟨a, rfl, h1⟩ := lintsOf_sq s rx hn
      refine ⟨a, ns, rfl, h1, fun ms l pm pw hl => ?_⟩
      rw [isort_of pm pw]
      exact new_list s (rds_ints _) hl p
    · exact p.elim
  · exact p.elim
end
end MI
set_option maxRecDepth 100000
set_option maxHeartbeats 4000000
namespace MI
open PySem PySem.Spec L2

section
variable {c : Ct} {W : WX} {X : Cx} {B Z B1 : List Addr} {H H1 : Hp} {σ : L2.St} {α β : Type}
/-! ### isinstance, of a built-in type -/
@[simp] def tyOf : IV → Option String
  | .d .none => some "NoneType"
  | .d (.bool _) => some "bool"
  | .d (.int _) => some "int"
  | .d (.str _) => some "str"
  | .d (.list _) => some "list"
  | .d (.tuple _) => some "tuple"
  | .tup _ => some "tuple"
  | .scr _ => some "list"
  | _ => none
@[simp] def tyOfS (S : Sto) : IV → Option String
  | .ref n => match S[n]? with
    | some (.lst _) => some "list"
    | some (.lsx _) => some "list"
    | _ => none
  | v => tyOf v
@[simp] def subTy (t T : String) : Bool := if t = T then true else if t = "bool" ∧ T = "int" then true else false
@[simp] def eIsa (T : String) (f : FE) : FE := fun r S => (f r S).bind fun v S1 => match tyOfS S1 v with
  | some t => .ok (.d (.bool (subTy t T))) S1
  | none => .bad
theorem ty_klst {K : PySem.W.Frag} {a : Addr} {xs : List V} (h : KLst K a xs) : ∃ o, K.lookup a = some o ∧ o.cls = .type "list" := by
  obtain ⟨o, _, _, h1, h2, _⟩ := h
  exact ⟨o, h1, h2⟩
theorem tyOf_x {S : Sto} {v : IV} {x : V} {t : String} (s : SR c H B Z S) (r : RI c H B Z v x) (h : tyOfS S v = some t) : TyX c.K H x (.type t) := by
  cases r with
  | d r =>
    cases r with
    | non => cases h; exact .base .non
    | bl => cases h; exact .base (.bl _)
    | int => cases h; exact .base (.int _)
    | str => cases h; exact .base (.str _)
    | lst h1 _ _ => cases h; exact .base (.lst h1)
    | tup h1 _ _ => cases h; exact .base (.tup h1)
    | tupK h1 _ => cases h; obtain ⟨o, _, _, a1, a2, _⟩ := h1; exact .kTuple a1 a2
  | ref hb =>
    rename_i k b
    have h : (match S[k]? with
      | some (IO.lst _) => some "list"
      | some (IO.lsx _) => some "list"
      | _ => none) = some t := h
    cases q : S[k]? with
    | none => rw [q] at h; cases h
    | some o =>
      have ob := s.ob k b _ hb q
      cases o with
      | lst es => rw [q] at h; cases h; obtain ⟨xs, h1, h2⟩ := ob; exact .base (.lst h1)
      | lsx es => rw [q] at h; cases h; obtain ⟨xs, h1, h2⟩ := ob; exact .base (.lst h1)
      | dct es => rw [q] at h; cases h
  | gl => cases h
  | tup h1 _ _ => cases h; exact .base (.tup h1)
  | scr h1 hb =>
    cases h
    rcases h1 with h1 | ⟨o, h1⟩
    · exact .base (.lst h1)
    · exact .base (.frz h1)
  | scrK h1 => cases h; obtain ⟨o, a1, a2⟩ := ty_klst h1; exact .kList a1 a2
def isTys : List String := ["NoneType", "bool", "int", "str", "list", "tuple"]
theorem tyOf_in {S : Sto} {v : IV} {t : String} (h : tyOfS S v = some t) : t ∈ isTys := by
  unfold isTys
  cases v with
  | d x => cases x <;> first | (cases h; decide) | cases h
  | ref n =>
    have h : (match S[n]? with
      | some (IO.lst _) => some "list"
      | some (IO.lsx _) => some "list"
      | _ => none) = some t := h
    cases q : S[n]? with
    | none => rw [q] at h; cases h
    | some o =>
      cases o with
      | lst es => rw [q] at h; cases h; decide
      | lsx es => rw [q] at h; cases h; decide
      | dct es => rw [q] at h; cases h
  | gl _ => cases h
  | tup _ => cases h; decide
  | scr _ => cases h; decide
  | clo _ _ => cases h
  | exc _ _ => cases h
theorem kit_tab (K : PySem.W.Frag) : ∀ t ∈ isTys, ∀ T ∈ ["int", "bool", "tuple", "list", "str"], PySem.W.kitOne K (.type t) (.type T) = some (subTy t T) := by
  intro t ht T hT
  simp only [isTys, List.mem_cons, List.mem_singleton, List.not_mem_nil, or_false] at ht hT
  rcases ht with rfl | rfl | rfl | rfl | rfl | rfl <;> rcases hT with rfl | rfl | rfl | rfl | rfl <;> (unfold PySem.W.kitOne PySem.W.kitCls PySem.W.subIn; rfl)
theorem s_isa {x y : Str} {p p2 pos : Pos} {e : Expr} {T : String} {f : FE} (cx : Cxg c W X) (hg : Gl X x) (hm : X.mg x = none) (hv : bootBuiltins x = some (.builtin "isinstance")) (hg2 : Gl X y) (hm2 : X.mg y = none) (hv2 : bootBuiltins y = some (.type T))
    (hT : T ∈ ["int", "bool", "tuple", "list", "str"]) (he : PE X e (TEx c W f)) (hn : x ≠ "__name__" := by decide) (hdb : (x == ("__debug__" : Str)) = false := by decide) (hn2 : y ≠ "__name__" := by decide) (hdb2 : (y == ("__debug__" : Str)) = false := by decide)
    (hs : starEach (e :: [.Name y p2]) X.env = (false, eval e X.env) :: starEach [.Name y p2] X.env := by rfl) (hs2 : starEach (.Name y p2 :: []) X.env = (false, eval (.Name y p2) X.env) :: starEach [] X.env := by rfl)
    (hpl : (backTo pos (starEach [.Name y p2] X.env)).any (·.1) = false := by rfl) : PE X (.Call (.Name x p) [e, .Name y p2] [] pos) (TEx c W (eIsa T f)) := by
  refine pe_imp (pe_callB call_isi hg hm hv (pa_cons he (pa_cons (pe_bltn (v := .ty T) hg2 hm2 hv2 rfl hn2 hdb2) pa_nil hs2) hs) hn hdb hs hpl) fun σ H Q ⟨B, Z, r, S, s, rr, q⟩ => ?_
  refine ⟨B, Z, r, S, s, rr, (Post.bind q).imp fun v S1 B1 H1 e1 s1 q x rx => ?_⟩
  cases h : tyOfS S1 v with
  | none => rw [h] at q; exact q.elim
  | some t =>
    rw [h] at q
    refine ⟨x, .ty T, .type t, .type T, subTy t T, rfl, .ty T, ?_, kit_tab _ t (tyOf_in h) T hT, q.ret s1 _ (.d (.bl _))⟩
    rw [cx.K]
    exact tyOf_x s1 rx h
/-! ### list(range(..)), tuple(range(..)) -/
abbrev RgF := Rho → Sto → Out (Int × Int)
@[simp] def rg1 (f : FE) : RgF := fun r S => (f r S).bind fun v S1 => match v with
  | .d (.int n) => .ok (0, n) S1
  | _ => .bad
@[simp] def rg2 (f g : FE) : RgF := fun r S => (f r S).bind fun v S1 => match v with
  | .d (.int i) => (g r S1).bind fun w S2 => match w with
    | .d (.int j) => .ok (i, j) S2
    | _ => .bad
  | _ => .bad
def TRg (c : Ct) (W : WX) (g : RgF) : L2.St → Hp → (Int → Int → Hp → Prop) → Prop := fun σ H Q => ∃ B Z r S, SR c H B Z S ∧ RR c H B Z r σ ∧ Post c W B Z H σ (g r S) fun v _ _ H' => Q v.1 v.2 H'
theorem prg_imp {e : Expr} {t t' : L2.St → Hp → (Int → Int → Hp → Prop) → Prop} (h : PRg X e t) (k : ∀ σ H Q, t' σ H Q → t σ H Q) : PRg X e t' := fun pins s σ H Q I q => h pins s σ H Q I (k σ H Q q)
theorem s_rg1 {a : Expr} {f : FE} {p pos : Pos} (hg : Gl X "range") (hm : X.mg "range" = none) (ha : PE X a (TEx c W f)) (na : starEach [a] X.env = (false, eval a X.env) :: starEach [] X.env := by rfl) : PRg X (.Call (.Name "range" p) [a] [] pos) (TRg c W (rg1 f)) :=
  prg_imp (prg_1 hg hm ha na) fun σ H Q ⟨B, Z, r, S, s, rr, q⟩ => ⟨B, Z, r, S, s, rr, (Post.bind q).imp fun v S1 B1 H1 e1 s1 q x rx => by
    split at q
    · cases rx with | d rx => cases rx; exact ⟨_, rfl, q.ret s1⟩
    · exact q.elim⟩
theorem s_rg2 {a b : Expr} {f g : FE} {p pos : Pos} (hg : Gl X "range") (hm : X.mg "range" = none) (ha : PE X a (TEx c W f)) (hb : PE X b (TEx c W g)) (na : starEach [a, b] X.env = (false, eval a X.env) :: starEach [b] X.env := by rfl)
    (nb : starEach [b] X.env = (false, eval b X.env) :: starEach [] X.env := by rfl) (hp : (backTo pos (starEach [b] X.env)).any (·.1) = false := by rfl) : PRg X (.Call (.Name "range" p) [a, b] [] pos) (TRg c W (rg2 f g)) :=
  prg_imp (prg_2 hg hm ha hb na nb hp) fun σ H Q ⟨B, Z, r, S, s, rr, q⟩ => ⟨B, Z, r, S, s, rr, (Post.bind q).imp fun v S1 B1 H1 e1 s1 q x rx => by
    split at q
    · cases rx with
      | d rx =>
        cases rx
        refine ⟨B1, Z, r, S1, s1, rr.ev e1, (Post.bind q).imp fun w S2 B2 H2 e2 s2 q y ry => ?_⟩
        split at q
        · cases ry with | d ry => cases ry; exact ⟨_, _, rfl, rfl, q.ret s2⟩
        · exact q.elim
    · exact q.elim⟩
def rgD (i j : Int) : List PyData := (List.range (j - i).toNat).map fun k => .int (i + (k : Nat))
theorem rds_rg (K : PySem.W.Frag) (H : Hp) (bd : List Addr) (i : Int) : ∀ l : List Nat, RDs K H bd (l.map fun k => .int (i + (k : Nat))) (l.map fun k => V.int (i + (k : Nat)))
  | [] => .nil
  | k :: l => .cons (.int _) (rds_rg K H bd i l)
theorem rds_rgV (K : PySem.W.Frag) (H : Hp) (bd : List Addr) (i j : Int) : RDs K H bd (rgD i j) (rgV i j) := rds_rg K H bd i _
def rgOk (i j : Int) : Bool := decide (i.natAbs < 2 ^ 23) && decide (j.natAbs < 2 ^ 23)
theorem rgOk_of {i j : Int} (h : rgOk i j = true) : RgOk i j := by
  unfold rgOk at h
  simp only [Bool.and_eq_true, decide_eq_true_eq] at h
  obtain ⟨h1, h2⟩ := h
  exact ⟨by omega, by omega, by omega, by omega, by omega⟩
@[simp] def eRgL (g : RgF) : FE := fun r S => (g r S).bind fun v S1 => if rgOk v.1 v.2 then .ok (.d (.list (rgD v.1 v.2))) S1 else .bad
@[simp] def eRgLM (g : RgF) : FE := fun r S => (g r S).bind fun v S1 => if rgOk v.1 v.2 then .ok (.ref S1.length) (S1 ++ [.lst (rgD v.1 v.2)]) else .bad
@[simp] def eRgT (g : RgF) : FE := fun r S => (g r S).bind fun v S1 => if rgOk v.1 v.2 then .ok (.d (.tuple (rgD v.1 v.2))) S1 else .bad
theorem s_rgL {e : Expr} {g : RgF} {p pos : Pos} (hc : X.calm = true) (hg : Gl X "list") (hm : X.mg "list" = none) (he : PRg X e (TRg c W g)) (na : starEach [e] X.env = (false, eval e X.env) :: starEach [] X.env := by rfl) : PE X (.Call (.Name "list" p) [e] [] pos) (TEx c W (eRgL g)) :=
  pe_imp (pe_listRg hc hg hm he na) fun σ H Q ⟨B, Z, r, S, s, rr, q⟩ => ⟨B, Z, r, S, s, rr, (Post.bind q).imp fun v S1 B1 H1 e1 s1 q => by
    by_cases h : rgOk v.1 v.2 = true
    · rw [if_pos h] at q
      exact ⟨rgOk_of h, fun l hl => new_list s1 (rds_rgV _ _ _ _ _) hl q⟩
    · rw [if_neg h] at q; exact q.elim⟩
theorem s_rgLM {e : Expr} {g : RgF} {p pos : Pos} (hc : X.calm = true) (hg : Gl X "list") (hm : X.mg "list" = none) (he : PRg X e (TRg c W g)) (na : starEach [e] X.env = (false, eval e X.env) :: starEach [] X.env := by rfl) : PE X (.Call (.Name "list" p) [e] [] pos) (TEx c W (eRgLM g)) :=
  pe_imp (pe_listRg hc hg hm he na) fun σ H Q ⟨B, Z, r, S, s, rr, q⟩ => ⟨B, Z, r, S, s, rr, (Post.bind q).imp fun v S1 B1 H1 e1 s1 q => by
    by_cases h : rgOk v.1 v.2 = true
    · rw [if_pos h] at q
      exact ⟨rgOk_of h, fun l hl => new_listM s1 (rds_rgV _ _ _ _ _) hl q⟩
    · rw [if_neg h] at q; exact q.elim⟩
theorem s_rgT {e : Expr} {g : RgF} {p pos : Pos} (hc : X.calm = true) (hg : Gl X "tuple") (hm : X.mg "tuple" = none) (he : PRg X e (TRg c W g)) (na : starEach [e] X.env = (false, eval e X.env) :: starEach [] X.env := by rfl) : PE X (.Call (.Name "tuple" p) [e] [] pos) (TEx c W (eRgT g)) :=
  pe_imp (pe_tupRg hc hg hm he na) fun σ H Q ⟨B, Z, r, S, s, rr, q⟩ => ⟨B, Z, r, S, s, rr, (Post.bind q).imp fun v S1 B1 H1 e1 s1 q => by
    by_cases h : rgOk v.1 v.2 = true
    · rw [if_pos h] at q
      exact ⟨rgOk_of h, fun l hl => new_tup s1 (rds_rgV _ _ _ _ _) hl q⟩
    · rw [if_neg h] at q; exact q.elim⟩
/-! ### repr -/
def rPr (K : PySem.W.Frag) (A : Around) : List V → Hp → VK → Prop := fun xs H Q => ∃ x d, xs = [x] ∧ Dp K H x d ∧ d.showable = true ∧ d.hasDict = false ∧ A.units + (d.depth + 1) < cLine ∧ d.shown.length ≤ sizeLine ∧ Q (.str d.shown) H
theorem call_pr (hgu : X.A.guards = some []) : CallR X (.builtin "repr") (rPr X.K X.A) := by
  intro pins s σ H xs us Q I rv h
  obtain ⟨x, d, rfl, dp, hs, hd, hu, hz, q⟩ := h
  obtain ⟨u, rfl, rx⟩ := Vals.one rv
  cases dp with
  | non => cases rx; exact P.repr_of_none ⟨.str _, H, I.tok _, ⟨_, rfl⟩, q⟩
  | bl b => cases rx; exact P.repr_of_bool ⟨.str _, H, I.tok _, ⟨_, rfl⟩, by cases b <;> exact q⟩
  | int i => obtain ⟨t, rfl⟩ := rx; exact P.repr_of_int (of_decide_eq_true hs) ⟨.str _, H, I.tok _, ⟨_, rfl⟩, q⟩
  | str y => obtain ⟨t, rfl⟩ := rx; exact P.repr_of_str ⟨.str _, H, I.tok _, ⟨_, rfl⟩, q⟩ hz
  | lst h1 h2 =>
    cases rx
    obtain ⟨as, R⟩ := Dp.reads I _ _ _ (.lst h1 h2) rfl
    exact repr_of_reads' R hs (PyData.noDict_hsm hd) hgu hu (fun _ _ e => e) (fun h' t tk hk => ⟨.str _, H, I.kept (t' := tk) hk, ⟨_, rfl⟩, q⟩) hz
  | tup h1 h2 =>
    cases rx
    obtain ⟨as, R⟩ := Dp.reads I _ _ _ (.tup h1 h2) rfl
    exact repr_of_reads' R hs (PyData.noDict_hsm hd) hgu hu (fun _ _ e => e) (fun h' t tk hk => ⟨.str _, H, I.kept (t' := tk) hk, ⟨_, rfl⟩, q⟩) hz
theorem whole_rd {S : Sto} {v : IV} {x : V} {d : PyData} (s : SR c H B Z S) (r : RI c H B Z v x) (h : toD 0 S v = some d) : RD c.K H [] d x :=
  toD_rd s (fun _ m => by cases m) (fun _ _ _ _ m => by cases m) h r
def prOk (d : PyData) : Bool := d.showable && !d.hasDict && decide (d.depth ≤ 64) && decide (d.shown.length ≤ sizeLine)
@[simp] def bRepr : FN := fun is S => match is with
  | [v] => match toD 0 S v with
    | some d => if prOk d then .ok (.d (.str d.shown)) S else .bad
    | none => .bad
  | _ => .bad
theorem k_repr {A : Around} (hu : A.units + 66 < cLine) : OkN c W (rPr c.K A) bRepr := by
  intro σ B Z H S is vs Q s r p
  unfold bRepr at p
  split at p
  · obtain ⟨x, rfl, rx⟩ := ris1 r
    split at p
    · rename_i d hd
      by_cases h : prOk d = true
      · rw [if_pos h] at p
        unfold prOk at h
        simp only [Bool.and_eq_true, decide_eq_true_eq, Bool.not_eq_true'] at h
        exact ⟨x, d, rfl, (whole_rd s rx hd).dp, h.1.1.1, h.1.1.2, by have := h.1.2; omega, h.2, p.ret s _ (.d (.str _))⟩
      · rw [if_neg h] at p; exact p.elim
    · exact p.elim
  · exact p.elim
end
end MI
set_option maxRecDepth 100000
set_option maxHeartbeats 4000000
namespace MI
open PySem PySem.Spec L2

section
variable {c : Ct} {W : WX} {X : Cx} {B Z B1 : List Addr} {H H1 : Hp} {σ : L2.St} {α β : Type}
/-! ### methods of built-in types -/
abbrev FM := IV → List IV → Sto → Out IV
@[simp] def tyOk (T : String) (S : Sto) : IV → Bool
  | .d (.list _) => T == "list"
  | .d (.str _) => T == "str"
  | .scr _ => T == "list"
  | .ref n => match S[n]? with
    | some (.lst _) => T == "list"
    | some (.lsx _) => T == "list"
    | _ => false
  | _ => false
theorem tyOk_v {T : String} {S : Sto} {v : IV} {x : V} (s : SR c H B Z S) (r : RI c H B Z v x) (h : tyOk T S v = true) : tyV c.K T x H := by
  cases r with
  | d r =>
    cases r with
    | lst h1 _ _ => exact .inl ⟨beq_iff_eq.mp h, _, .of h1⟩
    | str y => exact beq_iff_eq.mp h
    | non => cases h
    | bl => cases h
    | int => cases h
    | tup => cases h
    | tupK => cases h
  | ref hb =>
    rename_i k b
    have h : (match S[k]? with
      | some (IO.lst _) => T == "list"
      | some (IO.lsx _) => T == "list"
      | _ => false) = true := h
    cases q : S[k]? with
    | none => rw [q] at h; cases h
    | some o =>
      have ob := s.ob k b _ hb q
      cases o with
      | lst es => rw [q] at h; obtain ⟨xs, h1, h2⟩ := ob; exact .inl ⟨beq_iff_eq.mp h, _, .of h1⟩
      | lsx es => rw [q] at h; obtain ⟨xs, h1, h2⟩ := ob; exact .inl ⟨beq_iff_eq.mp h, _, .of h1⟩
      | dct es => rw [q] at h; cases h
  | gl => cases h
  | tup => cases h
  | scr h1 hb =>
    obtain ⟨a, e, q⟩ := RI.scrS (.scr h1 hb)
    cases e
    exact .inl ⟨beq_iff_eq.mp h, _, q⟩
  | scrK h1 =>
    obtain ⟨a, e, q⟩ := RI.scrS (B := B) (Z := Z) (H := H) (.scrK h1)
    cases e
    exact .inl ⟨beq_iff_eq.mp h, _, q⟩
def OkM (c : Ct) (W : WX) (r : V → List V → Hp → VK → Prop) (m : FM) : Prop := ∀ {σ : L2.St} {B Z : List Addr} {H : Hp} {S : Sto} {v : IV} {is : List IV} {x : V} {xs : List V} {Q : VK}, SR c H B Z S → RI c H B Z v x → RIs c H B Z is xs →
  Post c W B Z H σ (m v is S) (fun v S' B' H' => ∀ x, RI c H' B' Z v x → Q x H') → r x xs H Q
@[simp] def eMt (T : String) (m : FM) (fo : FE) (fa : FA) : FE := fun r S => (fo r S).bind fun v S1 => if tyOk T S1 v then (fa r S1).bind fun is S2 => m v is S2 else .bad
@[simp] def eMt0 (T : String) (m : FM) (fo : FE) : FE := fun r S => (fo r S).bind fun v S1 => if tyOk T S1 v then m v [] S1 else .bad
section
variable {o e : Expr} {es : List Expr} {fo : FE} {fa : FA} {name : Str} {apos cpos : Pos} {T id : String} {r : V → List V → Hp → VK → Prop} {m : FM}
theorem s_mt (cx : Cxg c W X) (k : OkM c W r m) (pa : PlainAttrs T) (slot : Slot T name id) (hty : typeOf (.builtin id) = pure (.type "method_descriptor")) (hm : MtR X id r) (ho : PE X o (TEx c W fo)) (ha : PA X (e :: es) (TAx c W fa))
    (hbase : attributeBase o name X.env (eval o X.env) = eval o X.env := by rfl)
    (hfew : ((backTo cpos (starEach (e :: es) X.env)).all (fun x => !x.1) && (backToKw cpos (keywordEach [] X.env)).all (fun x => x.1.isSome)
      && decide ((e :: es).length + ([] : List Keyword).length + (if ([] : List Keyword).isEmpty then 0 else 1) < 30)) = true := by rfl)
    (hline : (apos.endLine == cpos.line) = true := by rfl) (hs : starEach (e :: es) X.env = (false, eval e X.env) :: starEach es X.env := by rfl) (hplain : (backTo cpos (starEach es X.env)).any (·.1) = false := by rfl) :
    PE X (.Call (.Attribute o name apos) (e :: es) [] cpos) (TEx c W (eMt T m fo fa)) :=
  pe_imp (pe_bm pa slot hty hm ho ha hbase hfew hline hs hplain) fun σ H Q ⟨B, Z, r, S, s, rr, p⟩ => ⟨B, Z, r, S, s, rr, (Post.bind p).imp fun v S1 B1 H1 e1 s1 q x rx => by
    by_cases h : tyOk T S1 v = true
    · rw [if_pos h] at q
      refine ⟨by rw [cx.K]; exact tyOk_v s1 rx h, B1, Z, r, S1, s1, rr.ev e1, (Post.bind q).imp fun is S2 B2 H2 e2 s2 q xs rxs => k s2 (rx.ev e2) rxs q⟩
    · rw [if_neg h] at q; exact q.elim⟩
theorem s_mt0 (cx : Cxg c W X) (k : OkM c W r m) (pa : PlainAttrs T) (slot : Slot T name id) (hty : typeOf (.builtin id) = pure (.type "method_descriptor")) (hm : MtR X id r) (ho : PE X o (TEx c W fo))
    (hbase : attributeBase o name X.env (eval o X.env) = eval o X.env := by rfl) (hline : (apos.endLine == cpos.line) = true := by rfl) :
    PE X (.Call (.Attribute o name apos) [] [] cpos) (TEx c W (eMt0 T m fo)) :=
  pe_imp (pe_bm0 pa slot hty hm ho hbase hline) fun σ H Q ⟨B, Z, r, S, s, rr, p⟩ => ⟨B, Z, r, S, s, rr, (Post.bind p).imp fun v S1 B1 H1 e1 s1 q x rx => by
    by_cases h : tyOk T S1 v = true
    · rw [if_pos h] at q
      exact ⟨by rw [cx.K]; exact tyOk_v s1 rx h, k s1 rx .nil q⟩
    · rw [if_neg h] at q; exact q.elim⟩
end
theorem ris0 {vs : List V} (r : RIs c H B Z [] vs) : vs = [] := by cases r; rfl
theorem ref_at {n : Nat} {x : V} (r : RI c H B Z (.ref n) x) : ∃ b, x = .ref b ∧ B[n]? = some b := by
  cases r with
  | ref hb => exact ⟨_, rfl, hb⟩
/-! append -/
@[simp] def mApp : FM := fun v is S => match v, is with
  | .ref n, [w] => match S[n]? with
    | some (.lst ds) => if ds.length < sizeLine then (match w with
      | .d y => .ok (.d .none) (S.set n (.lst (ds ++ [y])))
      | w => .ok (.d .none) (S.set n (.lsx (ds.map .d ++ [w])))) else .bad
    | some (.lsx ds) => if ds.length < sizeLine then .ok (.d .none) (S.set n (.lsx (ds ++ [w]))) else .bad
    | _ => .bad
  | _, _ => .bad
theorem k_app : OkM c W rAppend mApp := by
  intro σ B Z H S v is x xs Q s rv ra p
  unfold mApp at p
  split at p
  · rename_i n w
    obtain ⟨b, rfl, hb⟩ := ref_at rv
    obtain ⟨y, rfl, ry⟩ := ris1 ra
    cases q : S[n]? with
    | none => rw [q] at p; exact p.elim
    | some o =>
      rw [q] at p
      have ob := s.ob n b _ hb q
      have lsx : ∀ {vs : List IV} {zs : List V}, H b = some (.lst zs) → RIs c H B Z vs zs → Post c W B Z H σ (.ok (.d .none) (S.set n (.lsx (vs ++ [w])))) (fun v S' B' H' => ∀ x, RI c H' B' Z v x → Q x H') → Q .non (upd H b (.lst (zs ++ [y]))) := fun {vs zs} h1 h2 p => by
        have e := Ev.put (o := HO.lst (zs ++ [y])) s hb
        exact p B _ e (s.put hb ⟨_, upd_same, (h2.app (.cons ry .nil)).ev e⟩) _ (.d .non)
      cases o with
      | lst ds =>
        obtain ⟨zs, h1, h2⟩ := ob
        dsimp only at p
        by_cases hl : ds.length < sizeLine
        · rw [if_pos hl] at p
          refine ⟨b, zs, y, rfl, rfl, h1, by rw [← h2.length]; exact hl, ?_⟩
          cases w with
          | d d =>
            cases ry with
            | d ry =>
              have w := SR.putL s hb (h2.app (.cons ry .nil))
              exact p B _ w.2 w.1 _ (.d .non)
          | ref k => exact lsx h1 (RIs.ofDs h2) p
          | gl k => exact lsx h1 (RIs.ofDs h2) p
          | tup k => exact lsx h1 (RIs.ofDs h2) p
          | scr k => exact lsx h1 (RIs.ofDs h2) p
          | clo k j => exact lsx h1 (RIs.ofDs h2) p
          | exc k j => exact lsx h1 (RIs.ofDs h2) p
        · rw [if_neg hl] at p; exact p.elim
      | lsx ds =>
        obtain ⟨zs, h1, h2⟩ := ob
        dsimp only at p
        by_cases hl : ds.length < sizeLine
        · rw [if_pos hl] at p
          exact ⟨b, zs, y, rfl, rfl, h1, by rw [← h2.length]; exact hl, lsx h1 h2 p⟩
        · rw [if_neg hl] at p; exact p.elim
      | dct ds => exact p.elim
  · exact p.elim
/-! extend -/
@[simp] def lst2 (S : Sto) : IV → Option (List PyData)
  | .d (.list es) => some es
  | .ref k => match S[k]? with
    | some (.lst es) => some es
    | _ => none
  | _ => none
theorem lst2_sq {S : Sto} {v : IV} {x : V} {ds : List PyData} (s : SR c H B Z S) (r : RI c H B Z v x) (h : lst2 S v = some ds) : ∃ p xs, x = .ref p ∧ H p = some (.lst xs) ∧ RDs c.K H (B ++ Z) ds xs := by
  cases r with
  | d r =>
    cases r with
    | lst h1 hb t => cases h; exact ⟨_, _, rfl, h1, t⟩
    | non => cases h
    | bl => cases h
    | int => cases h
    | str => cases h
    | tup => cases h
    | tupK => cases h
  | ref hb =>
    rename_i n b
    have h : (match S[n]? with
      | some (IO.lst ds) => some ds
      | _ => none) = some ds := h
    cases q : S[n]? with
    | none => rw [q] at h; cases h
    | some o =>
      cases o with
      | lst es => rw [q] at h; cases h; obtain ⟨xs, h1, h2⟩ := s.ob n b _ hb q; exact ⟨b, xs, rfl, h1, h2⟩
      | lsx es => rw [q] at h; cases h
      | dct es => rw [q] at h; cases h
  | gl => cases h
  | tup => cases h
  | scr h1 hb => cases h
  | scrK h1 => cases h
@[simp] def mExt : FM := fun v is S => match v, is with
  | .ref n, [w] => match S[n]?, lst2 S w with
    | some (.lst ds), some es => if ds.length + es.length ≤ sizeLine then .ok (.d .none) (S.set n (.lst (ds ++ es))) else .bad
    | _, _ => .bad
  | _, _ => .bad
theorem k_ext : OkM c W rExtend mExt := by
  intro σ B Z H S v is x xs Q s rv ra p
  unfold mExt at p
  split at p
  · rename_i n w
    obtain ⟨b, rfl, hb⟩ := ref_at rv
    obtain ⟨y, rfl, ry⟩ := ris1 ra
    split at p
    · rename_i ds es q1 q2
      obtain ⟨zs, h1, h2⟩ := s.ob n b _ hb q1
      obtain ⟨a, ys, rfl, h3, h4⟩ := lst2_sq s ry q2
      by_cases hl : ds.length + es.length ≤ sizeLine
      · rw [if_pos hl] at p
        have w := SR.putL s hb (h2.app h4)
        exact ⟨b, a, zs, ys, rfl, rfl, h1, h3, by rw [← h2.length, ← h4.length]; exact hl, p B _ w.2 w.1 _ (.d .non)⟩
      · rw [if_neg hl] at p; exact p.elim
    · exact p.elim
  · exact p.elim
/-! pop -/
@[simp] def mPop : FM := fun v is S => match v, is with
  | .ref n, [] => match S[n]? with
    | some (.lst ds) => match ds[ds.length - 1]? with
      | some y => .ok (.d y) (S.set n (.lst ds.dropLast))
      | none => .bad
    | _ => .bad
  | _, _ => .bad
theorem RDs.dropLast {K : PySem.W.Frag} {H : Hp} {bd : List Addr} {ds : List PyData} {xs : List V} (r : RDs K H bd ds xs) : RDs K H bd ds.dropLast xs.dropLast := by
  rw [List.dropLast_eq_take, List.dropLast_eq_take, ← r.length]
  exact r.take _
theorem k_pop : OkM c W rPop mPop := by
  intro σ B Z H S v is x xs Q s rv ra p
  unfold mPop at p
  split at p
  · rename_i n
    obtain ⟨b, rfl, hb⟩ := ref_at rv
    have e0 := ris0 ra
    subst e0
    split at p
    · rename_i ds q1
      obtain ⟨zs, h1, h2⟩ := s.ob n b _ hb q1
      split at p
      · rename_i d hd
        obtain ⟨y, h3, h4⟩ := h2.get hd
        have w := SR.putL s hb h2.dropLast
        exact ⟨b, zs, y, rfl, rfl, h1, by rw [← h2.length]; exact h3, p B _ w.2 w.1 _ (.d (h4.ev w.2))⟩
      · exact p.elim
    · exact p.elim
  · exact p.elim
@[simp] def mPopA : FM := fun v is S => match v, is with
  | .ref n, [.d (.int i)] => match S[n]? with
    | some (.lst ds) => if i.natAbs < 2 ^ 63 then (match seqIndex? i ds.length with
      | some k => match ds[k]? with
        | some y => .ok (.d y) (S.set n (.lst (ds.eraseIdx k)))
        | none => .bad
      | none => .bad) else .bad
    | _ => .bad
  | _, _ => .bad
theorem k_popA : OkM c W rPopAt mPopA := by
  intro σ B Z H S v is x xs Q s rv ra p
  unfold mPopA at p
  split at p
  · rename_i n i
    obtain ⟨b, rfl, hb⟩ := ref_at rv
    obtain ⟨y, rfl, ry⟩ := ris1 ra
    cases ry with
    | d ry =>
    cases ry
    split at p
    · rename_i ds q1
      obtain ⟨zs, h1, h2⟩ := s.ob n b _ hb q1
      by_cases hi : i.natAbs < 2 ^ 63
      · rw [if_pos hi] at p
        split at p
        · rename_i k hk
          split at p
          · rename_i d hd
            obtain ⟨y, h3, h4⟩ := h2.get hd
            have w := SR.putL s hb (h2.erase k)
            exact ⟨b, zs, i, k, y, rfl, rfl, h1, by omega, by omega, by rw [← h2.length]; exact hk, h3, p B _ w.2 w.1 _ (.d (h4.ev w.2))⟩
          · exact p.elim
        · exact p.elim
      · rw [if_neg hi] at p; exact p.elim
    · exact p.elim
  · exact p.elim
/-! index -/
@[simp] def mIdx : FM := fun v is S => match is with
  | [w] => match lstOf S v, toD 0 S w with
    | some ds, some d => if SeqAt.shaped (.list ds) && SeqAt.shaped d then (match ds.findIdx? (fun z => PyData.eqv z d) with
      | some j => .ok (.d (.int (j : Nat))) S
      | none => .bad) else .bad
    | _, _ => .bad
  | _ => .bad
theorem lst_dp {S : Sto} {v : IV} {x : V} {ds : List PyData} (s : SR c H B Z S) (r : RI c H B Z v x) (h : lstOf S v = some ds) : ∃ a, x = V.ref a ∧ Dp c.K H (V.ref a) (.list ds) := by
  obtain ⟨p, xs, rfl, h1, h2⟩ := lstOf_sq s r h
  exact ⟨p, rfl, .lst h1 h2.dp⟩
theorem k_idx : OkM c W (rIndexD c.K) mIdx := by
  intro σ B Z H S v is x xs Q s rv ra p
  unfold mIdx at p
  split at p
  · rename_i w
    obtain ⟨y, rfl, ry⟩ := ris1 ra
    split at p
    · rename_i ds d q1 q2
      obtain ⟨a, rfl, h1⟩ := lst_dp s rv q1
      by_cases hs : (SeqAt.shaped (.list ds) && SeqAt.shaped d) = true
      · rw [if_pos hs] at p
        simp only [Bool.and_eq_true] at hs
        split at p
        · rename_i j hj
          obtain ⟨hl, h3, h4⟩ := List.findIdx?_eq_some_iff_getElem.mp hj
          refine ⟨a, y, d, ds, j, ds[j], rfl, rfl, h1, (whole_rd s ry q2).dp, hs.1, hs.2, List.getElem?_eq_getElem hl, h3, fun m z hm hz => ?_, p.ret s _ (.d (.int _))⟩
          obtain ⟨hm2, rfl⟩ := List.getElem?_eq_some_iff.mp hz
          simpa using h4 m hm
        · exact p.elim
      · rw [if_neg hs] at p; exact p.elim
    · exact p.elim
  · exact p.elim
end
end MI
set_option maxRecDepth 100000
set_option maxHeartbeats 4000000
namespace MI
open PySem PySem.Spec L2 PyProof.Rows

/-! ## what is not read -/
def eBad : FE := fun _ _ => .bad
def sBad : FS := fun _ _ => .bad
section
variable {c : Ct} {W : WX} {X : Cx}
theorem s_ebad {e : Expr} : PE X e (TEx c W eBad) := ⟨fun _ _ _ _ _ _ ⟨_, _, _, _, _, _, p⟩ => p.elim⟩
theorem s_sbad {e : Stmt} : PS X e (TSx c W sBad) := ⟨fun _ _ _ _ _ _ ⟨_, _, _, _, _, _, p⟩ => p.elim⟩
end
section
variable {prog : Program} {w : World} {A : Around} {E : Value → Shared → Prop} {s : Shared}
/-! ## x[::-1] of a tuple -/
theorem rev_places (n : Nat) : Builtin.Slice.sliceAdjust none none (-1) (n : Int) = ((n : Int) - 1, -1) := by
  unfold Builtin.Slice.sliceAdjust
  simp
theorem rev_count (n : Nat) : Builtin.Slice.slicePlaces ((n : Int) - 1) (-1) (-1) = n := by
  unfold Builtin.Slice.slicePlaces
  simp
  try omega
theorem sliceApplied_rev {sl : Addr} {vl vu vs : Value} {n : Nat} {Q : Int × Int × Nat → Shared → Prop} (hs : s.heap.IsSliceOf sl vl vu vs) (pl : PySem.IsPart vl none) (pu : PySem.IsPart vu none) (ps : PySem.IsPart vs (some (-1)))
    (h : Q ((n : Int) - 1, -1, n) s) : wpAny (model prog w) A (Builtin.Slice.sliceApplied (.ref sl) (pure (n : Int))) Q E s := by
  obtain ⟨os, hos, hcs, hds⟩ := id hs
  unfold Builtin.Slice.sliceApplied Builtin.Slice.sliceFields
  refine wpAny_bind (wpAny_bind (wpAny_field hos hds (x := vl) rfl (wpAny_bind (wpAny_field hos hds (x := vu) rfl (wpAny_bind (wpAny_field hos hds (x := vs) rfl (wpAny_pure ?_)))))))
  refine wpAny_bind (HT.slicePart_ ps ?_)
  show wpAny _ _ (if ((-1 : Int) == 0) = true then _ else _) _ _ s
  rw [if_neg (by decide)]
  refine wpAny_bind (HT.slicePart_ pl (wpAny_bind (HT.slicePart_ pu (wpAny_bind (wpAny_pure ?_)))))
  show wpAny _ _ (match Builtin.Slice.sliceAdjust none none (-1) (n : Int) with | (lo, hi) => pure (lo, (-1 : Int), Builtin.Slice.slicePlaces lo hi (-1))) _ _ s
  rw [rev_places n]
  show wpAny _ _ (pure ((n : Int) - 1, (-1 : Int), Builtin.Slice.slicePlaces ((n : Int) - 1) (-1) (-1))) _ _ s
  rw [rev_count]
  exact wpAny_pure h
theorem rev_pick (xs : Array Value) : ((List.range xs.size).filterMap fun (m : Nat) => xs[((xs.size : Int) - 1 + (m : Int) * (-1)).toNat]?).toArray = xs.toList.reverse.toArray := by
  have e : (List.range xs.size).filterMap (fun (m : Nat) => xs[((xs.size : Int) - 1 + (m : Int) * (-1)).toNat]?) = ((List.range xs.size).map (fun k => xs.size - 1 - k)).filterMap (xs[·]?) := by
    rw [List.filterMap_map]
    congr 1
    funext m
    have : ((xs.size : Int) - 1 + (m : Int) * (-1)).toNat = xs.size - 1 - m := by omega
    show xs[((xs.size : Int) - 1 + (m : Int) * (-1)).toNat]? = xs[xs.size - 1 - m]?
    rw [this]
  rw [e, PySem.W.krv_range, List.filterMap_reverse, PySem.W.krv_all]
theorem getItem_tuple_rev {t sl : Addr} {items : Array Value} {vl vu vs : Value} {Q : Value → Shared → Prop} (ht : IsTup s.heap t items) (hs : s.heap.IsSliceOf sl vl vu vs) (pl : PySem.IsPart vl none) (pu : PySem.IsPart vu none) (ps : PySem.IsPart vs (some (-1)))
    (h : Q (.ref s.heap.objs.size) { s with heap := s.heap.push { cls := .type "tuple", data := .seq items.toList.reverse.toArray } }) (hsz : items.size ≤ sizeLine) : wpAny (model prog w) A (getItem (.ref t) (.ref sl)) Q E s := by
  have fits : sizeOk (.seq items.toList.reverse.toArray) := by
    show items.toList.reverse.toArray.size ≤ sizeLine
    rw [List.size_toArray, List.length_reverse, Array.length_toList]
    exact hsz
  obtain ⟨os, hos, hcs, hds⟩ := id hs
  have isSl : s.TypeIs (.ref sl) "slice" := ⟨os, hos, hcs⟩
  unfold getItem
  try with_reducible refine wpAny_holding ?_
  first | refine wpAny_bind (wpAny_pure ?_) | skip
  refine wpAny_bind (wpAny_sequenceKey ht.typeIs (by decide) ?_)
  refine wpAny_bind (wpAny_callSpecial?_slot (name := Str.ofString "__getitem__") ht.typeIs PyProof.Rows.slot_tuple_getitem (wpAny_call_entry PyProof.Rows.slot_tuple_getitem ht.typeIs entry_tuple_getitem ?_ (args_tuple_getitem _ _)))
  show wpAny _ _ (Builtin.Tuple.tupleItemsOf (.ref t) >>= _) _ _ s
  refine wpAny_bind (tupleItemsOf_ ht ?_)
  refine wpAny_bind (wpAny_typeOf isSl ?_)
  rw [if_pos (by decide)]
  refine wpAny_bind (sliceApplied_rev hs pl pu ps ?_)
  show wpAny _ _ (if (((items.size : Int) - 1) == 0 && (-1 : Int) == 1 && items.size == items.size) = true then _ else _) _ _ s
  rw [if_neg (by simp), rev_pick]
  first
    | exact wpAny_bind (m := Builtin.Tuple.tupleExact _) (wpAny_newObj_type (wpAny_pure ⟨_, rfl, wpAny_pure h⟩) fits)
    | exact wpAny_bind (m := Builtin.Tuple.tupleExact _) (wpAny_newObj_type (wpAny_bind (wpAny_pure (wpAny_pure ⟨_, rfl, wpAny_pure h⟩))) fits)
    | exact wpAny_bind (wpAny_bind (m := Builtin.Tuple.tupleExact _) (wpAny_newObj_type (wpAny_pure (wpAny_pure ⟨_, rfl, wpAny_pure h⟩)) fits))
    | exact wpAny_bind (wpAny_bind (m := Builtin.Tuple.tupleExact _) (wpAny_newObj_type (wpAny_pure ⟨_, rfl, wpAny_pure h⟩) fits))
end

section
variable {c : Ct} {W : WX} {X : Cx} {B Z B1 : List Addr} {H H1 : Hp} {σ : L2.St}
def TRev (K : PySem.W.Frag) (te : TE) : TE := fun σ H Q => te σ H fun x H1 => ∃ a xs, x = .ref a ∧ ((SqL K H1 a xs ∧ ∀ p, H1 p = none → Q (.ref p) (upd H1 p (.lst xs.reverse))) ∨ (SqT K H1 a xs ∧ ∀ p, H1 p = none → Q (.ref p) (upd H1 p (.tup xs.reverse))))
theorem pe_rev {e : Expr} {te : TE} {k : Nat} {p1 p2 p3 pos : Pos} (he : PE X e te) : PE X (.Subscript e (.Slice none none (some (.UnaryOp .USub (.Constant (.int 1) k p1) p2)) p3) pos) (TRev X.K te) := by
  refine ⟨fun pins s σ H Q I h => ?_⟩
  refine Subscript_ (thn (he.run pins s σ H _ I h) fun v s1 ⟨x, H1, I1, r1, q1⟩ => ?_)
  obtain ⟨a, xs, ex, hx⟩ := q1
  subst ex
  cases r1
  have hst : PO X (some (.UnaryOp .USub (.Constant (.int 1) k p1) p2)) (tPart (tUn (rU fun i => .int (-i)) (tC (.int 1)))) := po_some (pe_un un_neg pe_int)
  refine wpAny_Slice (thn (po_none.run pins s1 σ H1 (fun o G => o = none ∧ G = H1) I1 ⟨rfl, rfl⟩) fun vl s2 ⟨l, H2, I2, pl, el, e2⟩ => ?_)
  subst el e2
  refine thn (po_none.run pins s2 σ H2 (fun o G => o = none ∧ G = H2) I2 ⟨rfl, rfl⟩) fun vu s3 ⟨u, H3, I3, pu, eu, e3⟩ => ?_
  subst eu e3
  refine thn (hst.run pins s3 σ H3 (fun o G => o = some (-1) ∧ G = H3) I3 ⟨1, rfl, -1, rfl, rfl, rfl⟩) fun vs s4 ⟨o, H4, I4, ps, eo, e4⟩ => ?_
  subst eo e4
  have I5 : Inv X pins σ H4 { s4 with heap := s4.heap.push { cls := .type "slice", data := .fields #[vl, vu, vs] } } := I4.kept (t' := s4.toks) fun b ob q => Heap.get?_push_of_some _ q
  show wpAny (model X.prog X.w) X.A (subscriptTail e (.Slice none none (some (.UnaryOp .USub (.Constant (.int 1) k p1) p2)) p3) (.ref a) (.ref s4.heap.objs.size)) (EP X pins σ Q) X.xe _
  rcases hx with ⟨hx, q⟩ | ⟨hx, q⟩
  · obtain ⟨its, r, ht, hz⟩ := I5.list hx
    have lenE := r.length
    refine tail_any (ops := [.ref a, .ref s4.heap.objs.size]) ht.isList.typeIs (PySem.slot_list_getitem.lookup) ?_ (by with_unfolding_all rfl)
    refine wpAny_getItem_list_slice ht.isList (Heap.IsSliceOf.new _ vl vu vs) pl pu ps (by decide) ?_ (by rw [List.size_toArray]; omega)
    rw [PySem.W.krv_pick]
    refine ⟨.ref _, _, I5.laid (t' := s4.toks) (o := .lst xs.reverse) (fun b ob q => Heap.get?_push_of_some _ q) (Nat.le_refl _) ?_, rfl, q _ (I5.hok.fresh (Nat.le_refl _))⟩
    exact ⟨by rw [List.length_reverse]; exact hz, _, 0, r.reverse, Heap.get?_push_size _ rfl⟩
  · obtain ⟨its, r, ht, hz⟩ := I5.tuple hx
    have lenE := r.length
    refine tail_any (ops := [.ref a, .ref s4.heap.objs.size]) ht.typeIs (PyProof.Rows.slot_tuple_getitem.lookup) ?_ (by with_unfolding_all rfl)
    refine getItem_tuple_rev ht (Heap.IsSliceOf.new _ vl vu vs) pl pu ps ?_ (by rw [List.size_toArray]; omega)
    refine ⟨.ref _, _, I5.laid (t' := s4.toks) (o := .tup xs.reverse) (fun b ob q => Heap.get?_push_of_some _ q) (Nat.le_refl _) ?_, rfl, q _ (I5.hok.fresh (Nat.le_refl _))⟩
    exact ⟨by rw [List.length_reverse]; exact hz, _, r.reverse, IsTup.new _ _⟩
@[simp] def eRev (f : FE) : FE := fun r S => (f r S).bind fun v S1 => match lstOf S1 v with
  | some ds => .ok (.d (.list ds.reverse)) S1
  | none => match tupOf v with
    | some ds => .ok (.d (.tuple ds.reverse)) S1
    | none => .bad
theorem s_rev {e : Expr} {f : FE} {k : Nat} {p1 p2 p3 pos : Pos} (cx : Cxg c W X) (he : PE X e (TEx c W f)) : PE X (.Subscript e (.Slice none none (some (.UnaryOp .USub (.Constant (.int 1) k p1) p2)) p3) pos) (TEx c W (eRev f)) :=
  pe_imp (pe_rev he) fun σ H Q ⟨B, Z, r, S, s, rr, p⟩ => ⟨B, Z, r, S, s, rr, (Post.bind p).imp fun v S1 B1 H1 e1 s1 q x rx => by
    cases h : lstOf S1 v with
    | some ds =>
      rw [h] at q
      obtain ⟨a, xs, rfl, h1, h2⟩ := lstOf_sq s1 rx h
      exact ⟨a, xs, rfl, .inl ⟨by rw [cx.K]; exact h1, fun p hp => new_list s1 h2.rev hp q⟩⟩
    | none =>
      rw [h] at q
      dsimp only at q
      cases h' : tupOf v with
      | some ds =>
        rw [h'] at q
        obtain ⟨a, xs, rfl, h1, h2⟩ := tupOf_sq rx h'
        exact ⟨a, xs, rfl, .inr ⟨by rw [cx.K]; exact h1, fun p hp => new_tup s1 h2.rev hp q⟩⟩
      | none => rw [h'] at q; exact q.elim⟩
end
end MI
set_option maxRecDepth 100000
set_option maxHeartbeats 4000000
namespace MI
open PySem PySem.Spec L2 PyProof.Rows
/-! ## set(list of ints) (turned from the worked walk of set(tuple)) -/
section
variable {P : Program} {w : World} {A : Around} {E : Value → Shared → Prop} {s : Shared}
theorem call_set_lstI {l : Addr} {items : Array Value} (ns : List Int) {Q : Value → Shared → Prop} (hh : A.handled = none) (zl : s.heap.IsList l items) (zit : IntsAre items.toList ns) (hb : ns.length + 1 < scanBound)
    (h : ∀ (h' : Heap) (tk c : Nat), SetR w h' s.heap.objs.size (fun j => decide (j ∈ ns)) c → c ≤ ns.length → (∀ b o, s.heap.get? b = some o → h'.get? b = some o) → Q (.ref s.heap.objs.size) { s with heap := h', toks := tk }) :
    wpAny (model P w) A (call (.type "set") [.ref l]) Q E s := by
  have nsz : items.size = ns.length := by
    have q := IntsAre.length zit
    rw [Array.length_toList] at q
    exact q
  obtain ⟨c, tl, mro1⟩ := F.called_set.mro
  have made1 := F.called_set.made
  have sub1 := F.called_set.sub
  refine wpAny_call (codeAny_of_tree ?_)
  show wpAny _ _ (callAny (.type "set") _) _ _ _
  refine wpAny_pure ⟨Code.quiet_builtin _ (by decide +kernel), codeAny_builtin F.entry_type_call ?_⟩
  rw [Around.under_plain (weight_type_call_type "set" [.ref l] []) rfl]
  have z1 := F.called_set.notType
  have z2 := F.called_set.canCreate
  have ct1 := F.typeCall_set_1 (.ref l)
  repeat (any_goals (first | assumption | wp_step))

  refine codeAny_mono (code_set_led1 (.ref l) (E := E) (Q₁ := fun obj s₁ => obj = .ref s.heap.objs.size ∧ s₁ = { s with heap := s.heap.push { cls := .type "set", dict := none, data := .set #[] 0 (.fresh 0 0 (!w.params.followText "set-order")) } }) ⟨rfl, rfl⟩) fun r s₁ hr => ?_
  cases r with
  | error e => exact hr
  | ok fl =>
    cases fl with
    | ret obj =>
      obtain ⟨rfl, rfl⟩ := hr
      have zS : (s.heap.push { cls := .type "set", dict := none, data := .set #[] 0 (.fresh 0 0 (!w.params.followText "set-order")) }).get? s.heap.objs.size = some { cls := .type "set", dict := none, data := .set #[] 0 (.fresh 0 0 (!w.params.followText "set-order")) } := Heap.get?_push_size _ rfl
      have zT : Shared.TypeIs { s with heap := s.heap.push { cls := .type "set", dict := none, data := .set #[] 0 (.fresh 0 0 (!w.params.followText "set-order")) } } (.ref s.heap.objs.size) "set" := ⟨_, zS, rfl⟩
      have zli := F.called_set.init.lookup
      have zbi := F.called_set.init.bind (.ref s.heap.objs.size)
      repeat (any_goals (first | assumption | wp_step))

      refine codeAny_mono (codeAny_call_builtin (R := wants (fun r s₂ => r = .none ∧ ∃ h' tk c, s₂ = { s with heap := h', toks := tk } ∧ SetR w h' s.heap.objs.size (fun j => decide (j ∈ ns)) c ∧ c ≤ ns.length ∧
          (∀ b o, s.heap.get? b = some o → h'.get? b = some o)) E) F.called_set.init.plain F.entry_set_init (check_set_init_1 zT ?_)) fun r₂ s₂ zr₂ => ?_
      · obtain ⟨ol, zol, zcl, nl, zdl⟩ := zl
        obtain ⟨ocls, odict, odata, oslots⟩ := ol
        simp only at zcl zdl
        subst zcl; subst zdl
        have zol' : (s.heap.push { cls := .type "set", dict := none, data := .set #[] 0 (.fresh 0 0 (!w.params.followText "set-order")) }).get? l = some { cls := .type "list", dict := odict, data := .seq items nl, slots := oslots } := Heap.get?_push_of_some _ zol
        have zsls := F.sub_list_set
        have zslf := F.sub_list_frozenset
        have zne : (Value.type "list" == Value.type "dict") = false := by decide
        have zl1 : (s.heap.push { cls := .type "set", dict := none, data := .set #[] 0 (.fresh 0 0 (!w.params.followText "set-order")) }).IsList l items := ⟨_, zol', rfl, nl, rfl⟩
        unfold Builtin.«set.__init__» noKeywords Builtin.Frozenset.updateFrom
        generalize zPI : pyIter = PI
        wp_walk
        subst zPI

        refine wpAny_pyIter_list zl1 ?_
        refine wpAny_bind (wpAny_runValue ?_)
        have zlS : l < s.heap.objs.size := Heap.lt_size zol
        have zh3 : A.in1.in1.in1.handled = none := by simp [hh]
        have zz1 : (s.heap.push { cls := .type "set", dict := none, data := .set #[] 0 (.fresh 0 0 (!w.params.followText "set-order")) }).objs.size = s.heap.objs.size + 1 := Heap.size_push ..
        have zneI : l ≠ (s.heap.push { cls := .type "set", dict := none, data := .set #[] 0 (.fresh 0 0 (!w.params.followText "set-order")) }).objs.size := by
          rw [Heap.size_push]; exact Nat.ne_of_lt (Nat.lt_succ_of_lt zlS)
        have zSf : s.heap.objs.size ∉ [(s.heap.push { cls := .type "set", dict := none, data := .set #[] 0 (.fresh 0 0 (!w.params.followText "set-order")) }).objs.size, l] := by
          rw [Heap.size_push]; simp only [List.mem_cons, List.mem_singleton, List.not_mem_nil, or_false, not_or]
          exact ⟨Nat.ne_of_lt (Nat.lt_succ_self _), Nat.ne_of_gt zlS⟩
        have zval : ∀ (i : Nat) (v : Value), items[i]? = some v → ∃ k t, ns[i]? = some k ∧ v = .int k t := fun i v zv => by
          have zi : i < ns.length := by rw [← nsz]; exact (Array.getElem?_eq_some_iff.mp zv).1
          obtain ⟨t, e⟩ := PyProof.Rows.IntsAre.int_at zit i v (by rw [Array.getElem?_toList]; exact zv)
          refine ⟨ns[i], t, List.getElem?_eq_getElem zi, ?_⟩
          rw [e, List.getD_eq_getElem?_getD, List.getElem?_eq_getElem zi] <;> rfl
        refine set_update_ints ((Walks.list zh3 _ l zneI items).toS) s.heap.objs.size
          zSf ns nsz hb zval (items.size - 0) 0 _ (by omega) (Nat.zero_le _)
          ⟨⟨_, Heap.get?_push_size _ rfl, rfl, rfl⟩, (zl1.push _)⟩ ?zS0 ?zR
        case zS0 =>
          have zget : ((s.heap.push { cls := .type "set", dict := none, data := .set #[] 0 (.fresh 0 0 (!w.params.followText "set-order")) }).push { cls := .type "list_iterator", data := .fields #[.ref l, .int 0 0] }).get? s.heap.objs.size
              = some { cls := .type "set", dict := none, data := .set #[] 0 (.fresh 0 0 (!w.params.followText "set-order")) } := Heap.get?_push_of_some _ zS
          exact ⟨0, Nat.le_refl 0, setR_new_at zget⟩
        case zR =>
          intro s' c' zm zc' zS'
          obtain ⟨h', g2, d', tk', os'⟩ := s'
          have eg : g2 = s.gens := zm.gens
          have ed : d' = s.drawn := zm.drawn
          have eo : os' = s.os := zm.os
          subst eg; subst ed; subst eo
          show wpAny _ _ _ _ _ _
          refine wpAny_pure ?_
          show wpAny _ _ (ret Value.none) _ _ _
          rw [nsz] at zc'
          refine wpAny_pure ⟨rfl, h', tk', c', rfl, zS', zc', fun b o e => ?_⟩
          have zb0 : b < s.heap.objs.size := Heap.lt_size e
          have zb1 : b ≠ s.heap.objs.size := Nat.ne_of_lt zb0
          have zb2 : b ≠ (s.heap.push { cls := .type "set", dict := none, data := .set #[] 0 (.fresh 0 0 (!w.params.followText "set-order")) }).objs.size := by
            rw [Heap.size_push]; exact Nat.ne_of_lt (Nat.lt_succ_of_lt zb0)
          exact zm.heap b o (by simp only [List.mem_cons, List.mem_singleton, List.not_mem_nil, or_false, not_or]; exact ⟨zb1, zb2⟩) (Heap.get?_push_of_some _ (Heap.get?_push_of_some _ e))

      · cases r₂ with
        | error e => exact zr₂
        | ok fl₂ =>
          cases fl₂ with
          | ret r =>
            obtain ⟨rfl, h', tk, c', rfl, zS', zc', hk'⟩ := zr₂
            repeat (any_goals (first | assumption | wp_step))
            exact h _ _ _ zS' zc' hk'
          | _ => exact zr₂.elim
    | _ => exact hr.elim

end
end MI
set_option maxRecDepth 100000
set_option maxHeartbeats 4000000
namespace MI
open PySem PySem.Spec L2 PyProof.Rows
section
variable {c : Ct} {W : WX} {X : Cx} {B Z B1 : List Addr} {H H1 : Hp} {σ : L2.St}
/-! ## sorted(set(..)) -/
def sins (x : Int) : List Int → List Int
  | [] => [x]
  | y :: t => if x < y then x :: y :: t else if x = y then y :: t else y :: sins x t
def dsort : List Int → List Int
  | [] => []
  | x :: t => sins x (dsort t)
theorem sins_mem (x k : Int) : ∀ l : List Int, k ∈ sins x l ↔ k = x ∨ k ∈ l
  | [] => by simp [sins]
  | y :: t => by
    unfold sins
    split
    · simp
    · split
      · rename_i h; subst h; simp
      · rw [List.mem_cons, sins_mem x k t, List.mem_cons]
        constructor
        · rintro (h | h | h)
          · exact .inr (.inl h)
          · exact .inl h
          · exact .inr (.inr h)
        · rintro (h | h | h)
          · exact .inr (.inl h)
          · exact .inl h
          · exact .inr (.inr h)
theorem dsort_mem (k : Int) : ∀ l : List Int, k ∈ dsort l ↔ k ∈ l
  | [] => by simp [dsort]
  | x :: t => by unfold dsort; rw [sins_mem, dsort_mem k t, List.mem_cons]
theorem sins_pw (x : Int) : ∀ l : List Int, l.Pairwise (· < ·) → (sins x l).Pairwise (· < ·)
  | [], _ => by unfold sins; simp
  | y :: t, h => by
    unfold sins
    have z := List.pairwise_cons.mp h
    split
    · rename_i hxy
      refine List.pairwise_cons.mpr ⟨fun a ha => ?_, h⟩
      rcases List.mem_cons.mp ha with ha | ha
      · rw [ha]; exact hxy
      · exact Int.lt_trans hxy (z.1 a ha)
    · split
      · exact h
      · rename_i h1 h2
        refine List.pairwise_cons.mpr ⟨fun a ha => ?_, sins_pw x t z.2⟩
        rcases (sins_mem x a t).mp ha with ha | ha
        · rw [ha]; omega
        · exact z.1 a ha
theorem dsort_pw : ∀ l : List Int, (dsort l).Pairwise (· < ·)
  | [] => .nil
  | x :: t => sins_pw x _ (dsort_pw t)
theorem slt_unique : ∀ {l m : List Int}, (∀ k, k ∈ l ↔ k ∈ m) → l.Pairwise (· < ·) → m.Pairwise (· < ·) → l = m
  | [], [], _, _, _ => rfl
  | [], y :: u, p, _, _ => by have := (p y).mpr List.mem_cons_self; cases this
  | x :: t, [], p, _, _ => by have := (p x).mp List.mem_cons_self; cases this
  | x :: t, y :: u, p, h1, h2 => by
    have z1 := List.pairwise_cons.mp h1
    have z2 := List.pairwise_cons.mp h2
    have e : x = y := by
      rcases List.mem_cons.mp ((p x).mp List.mem_cons_self) with q1 | q1
      · exact q1
      · rcases List.mem_cons.mp ((p y).mpr List.mem_cons_self) with q2 | q2
        · exact q2.symm
        · have a1 := z2.1 x q1
          have a2 := z1.1 y q2
          omega
    subst e
    rw [slt_unique (fun k => ⟨fun hk => ?_, fun hk => ?_⟩) z1.2 z2.2]
    · rcases List.mem_cons.mp ((p k).mp (List.mem_cons_of_mem _ hk)) with q | q
      · have := z1.1 k hk; omega
      · exact q
    · rcases List.mem_cons.mp ((p k).mpr (List.mem_cons_of_mem _ hk)) with q | q
      · have := z2.1 k hk; omega
      · exact q
def TSrtSet (K : PySem.W.Frag) (ta : TE) : TE := fun σ H Q => ta σ H fun x H1 => ∃ (l : Addr) (ns : List Int), x = .ref l ∧ SqL K H1 l (ns.map V.int) ∧ ns.length < 64 ∧ ∀ p, H1 p = none → Q (.ref p) (upd H1 p (.lst ((dsort ns).map V.int)))
theorem pe_srtSet {a : Expr} {ta : TE} {p p2 q pos : Pos} (hg : Gl X "sorted") (hm : X.mg "sorted" = none) (hg2 : Gl X "set") (hm2 : X.mg "set" = none) (ha : PE X a ta) (hc : X.calm = true)
    (na : starEach [a] X.env = (false, eval a X.env) :: starEach [] X.env := by rfl) (nb : starEach [.Call (.Name "set" p2) [a] [] q] X.env = (false, eval (.Call (.Name "set" p2) [a] [] q) X.env) :: starEach [] X.env := by rfl) : PE X (.Call (.Name "sorted" p) [.Call (.Name "set" p2) [a] [] q] [] pos) (TSrtSet X.K ta) := by
  refine ⟨fun pins s σ H Q I h => ?_⟩
  refine Call_ (ld_blt I hg hm (by decide +kernel : bootBuiltins "sorted" = some (.builtin "sorted")) ?_)
  refine PyProof.Rows.callWith_builtin1 (PyProof.Rows.args_cons ?_ nb) nb rfl
  refine Call_ (ld_blt I hg2 hm2 boot_set ?_)
  refine PyProof.Rows.callWith_type1 (PyProof.Rows.args_cons (thn (ha.run pins s σ H _ I h) fun v s1 ⟨x, H1, I1, r1, q1⟩ => PyProof.Rows.args_nil ?_) na) na rfl
  obtain ⟨l, ns, rfl, hq, h64, q1⟩ := q1
  cases r1
  obtain ⟨its, r, pl, hz⟩ := I1.list hq
  refine call_set_lstI (P := X.prog) (w := X.w) ns (I1.ok.hd hc) pl.isList (by simpa using RZ.intsAre_vals r) (by unfold scanBound; omega) fun h' tk c hS hc' hk => ?_
  refine PyProof.Rows.args_nil ?_
  have I2 : Inv X pins σ H1 { s1 with heap := h', toks := tk } := I1.kept hk
  refine sorted_set (s := { s1 with heap := h', toks := tk }) hS (I2.ok.hd hc) (by omega) fun s' p out c ms k g o hp hg hi hs hm hl => ?_
  have em : ms = dsort ns := slt_unique (fun k => by rw [hm k, dsort_mem]; simp) hs (dsort_pw ns)
  subst em
  have hlen : ((dsort ns).map V.int).length ≤ sizeLine := by rw [List.length_map, hl, sizeLine_eq]; omega
  have hn : H1 p = none := I2.hok.fresh hp
  have J : Inv X pins σ (upd H1 p (.lst ((dsort ns).map V.int))) { ({ s1 with heap := h', toks := tk } : Shared) with heap := s'.heap, gens := s'.gens, drawn := s'.drawn, toks := s'.toks } :=
    I2.call (ch := []) (Un.laid k hp hn) (I2.hok.laid k hp ⟨hlen, out.toList, _, vals_of_ints hi, hg⟩) (by rw [g]; exact I2.bare) (fun _ z => nomatch z)
  have e : s' = { s1 with heap := s'.heap, gens := s'.gens, drawn := s'.drawn, toks := s'.toks } := by
    cases s'
    cases o
    rfl
  rw [e]
  exact ⟨.ref p, _, J, rfl, q1 p hn⟩
@[simp] def eSrtSet (f : FE) : FE := fun r S => (f r S).bind fun v S1 => match lintsOf S1 v with
  | some ns => if ns.length < 64 then .ok (.d (.list ((dsort ns).map .int))) S1 else .bad
  | none => .bad
theorem s_srtSet {a : Expr} {f : FE} {p p2 q pos : Pos} (cx : Cxg c W X) (hg : Gl X "sorted") (hm : X.mg "sorted" = none) (hg2 : Gl X "set") (hm2 : X.mg "set" = none) (ha : PE X a (TEx c W f)) (hc : X.calm = true)
    (na : starEach [a] X.env = (false, eval a X.env) :: starEach [] X.env := by rfl) (nb : starEach [.Call (.Name "set" p2) [a] [] q] X.env = (false, eval (.Call (.Name "set" p2) [a] [] q) X.env) :: starEach [] X.env := by rfl) : PE X (.Call (.Name "sorted" p) [.Call (.Name "set" p2) [a] [] q] [] pos) (TEx c W (eSrtSet f)) :=
  pe_imp (pe_srtSet hg hm hg2 hm2 ha hc na nb) fun σ H Q ⟨B, Z, r, S, s, rr, p⟩ => ⟨B, Z, r, S, s, rr, (Post.bind p).imp fun v S1 B1 H1 e1 s1 q x rx => by
    cases h : lintsOf S1 v with
    | none => rw [h] at q; exact q.elim
    | some ns =>
      rw [h] at q
      dsimp only at q
      obtain ⟨a, rfl, h1⟩ := lintsOf_sq s1 rx h
      by_cases hl : ns.length < 64
      · rw [if_pos hl] at q
        exact ⟨a, ns, rfl, by rw [cx.K]; exact h1, hl, fun p hp => new_list s1 (rds_ints _) hp q⟩
      · rw [if_neg hl] at q; exact q.elim⟩
end
end MI
set_option maxRecDepth 100000
set_option maxHeartbeats 4000000
namespace MI
open PySem PySem.Spec PyProof.Rows L2
/-! ## the end: the law's run (turned from the worked one, over the promise with guards) -/
theorem law_callG {P : Program} {w : World} {K : PySem.W.Frag} {mg mb : Str → Option Value} {k : Nat} {fa a : Addr} {fd : FuncData} {x : Str} {g : FN} {s₁ : Shared} {vs : List Value} {ns : List Int}
    (KX : K.In s₁.heap) (nsG : s₁.heap.Ns mainGlobals mg) (nsB : s₁.heap.Ns builtinsNs mb) (bltB : ∀ x : Str, x ≠ "__name__" → mb x = bootBuiltins x) (noL : s₁.heap.NoLimit) (gen0 : s₁.gens = #[])
    (atA : s₁.heap.get? a = some { cls := .type "list", data := .seq vs.toArray }) (hi : IntsAre vs ns) (lenA : ns.length ≤ sizeLine) (room : Room k callerA)
    (F : ∀ base : Heap, K.In base → base.Ns mainGlobals mg → FnG P w ⟨K, mg⟩ base k fa fd [x] g) (bnd : ∀ (s : Shared) (u : Value), BindsTo s fd ⟨[u], []⟩ [(x, u)])
    (ans : ∃ S, g [.scr ns] [] = .ok (.d (.bool true)) S) :
    codeAny (model P w) callerA (.call (.ref fa) ⟨[.ref a], []⟩) (fun r s' => r = .ok (.ret (.bool true)) ∧ OldK s₁.heap s'.heap ∧ s'.os = s₁.os ∧ AllBare s'.gens) s₁ := by
  have rvs := vals_ints hi
  have lenVs := hi.length
  -- from an abstract heap in which nothing but the script may be tracked
  have coreG : ∀ H : Hp, Only H → SqL K H a (ns.map V.int) → HOk P w H s₁.heap → (∀ b, H b ≠ none → b = a) → (H a ≠ none → K.lookup a = none) →
      codeAny (model P w) callerA (.call (.ref fa) ⟨[.ref a], []⟩) (fun r s' => r = .ok (.ret (.bool true)) ∧ OldK s₁.heap s'.heap ∧ s'.os = s₁.os ∧ AllBare s'.gens) s₁ := by
    intro H onlyH sqH okH ownA keyA
    have baseOf : ∀ {b : Addr} {o : Obj}, s₁.heap.get? b = some o → H b = none → (hidT s₁.heap H).get? b = some o := fun e n => hidT_get e n
    have noDict : ∀ {b : Addr} {o : Obj} {es : Array DictEntry} {ep : Nat}, s₁.heap.get? b = some o → o.data = .dict es ep → H b = none := fun {b o es ep} e d => by
      cases q : H b with
      | none => rfl
      | some u =>
        have e' : b = a := ownA b (by rw [q]; simp)
        subst e'
        rw [atA] at e; cases e
        have d' : Data.seq vs.toArray _ = Data.dict es ep := d
        cases d'
    have nsOf : ∀ {b : Addr} {m : Str → Option Value}, s₁.heap.Ns b m → (hidT s₁.heap H).Ns b m := fun {b m} ⟨o, es, ep, e, d, r⟩ => ⟨o, es, ep, baseOf e (noDict e d), d, r⟩
    have inB : K.In (hidT s₁.heap H) := fun b o e => baseOf (KX b o e) (by
      cases q : H b with
      | none => rfl
      | some u =>
        have e' : b = a := ownA b (by rw [q]; simp)
        subst e'
        rw [keyA (by rw [q]; simp)] at e; cases e)
    have modB : Mod K mg (hidT s₁.heap H) := ⟨inB, nsOf nsG, ⟨mb, nsOf nsB, bltB⟩, let ⟨mc, h1, h2⟩ := noL; ⟨mc, nsOf h1, h2⟩⟩
    have env0 : Env0 P w K mg (hidT s₁.heap H) callerA [] s₁ H := ⟨rfl, modB, fun b o e => of_hidT e, Nat.le_of_eq (hidT_size _ _), trivial, fun b nsB => absurd (show b ∈ ([] : List Addr) from nsB) (by simp), okH, .of_eq gen0⟩
    have srN : SR ⟨K, mg⟩ H [] [] [] := ⟨rfl, .nil, fun _ m => (nomatch m), fun _ m => (nomatch m), fun n b o q => by simp at q⟩
    have riN : RI ⟨K, mg⟩ H [] [] (.scr ns) (.ref a) := by
      rcases sqH with q | q
      · exact .scr q (by simp)
      · exact .scrK q
    have post : Post ⟨K, mg⟩ (fun cls d _ H => (fun _ _ _ => False : XK) cls d H) [] [] H [] (g [.scr ns] []) (fun v _ B' H' => ∀ x, RI ⟨K, mg⟩ H' B' [] v x → (fun v _ => v = .bl true : VK) x H') := by
      obtain ⟨S, e⟩ := ans
      rw [e]
      intro B' H' _ _ x r
      cases r with
      | d r => cases r; rfl
    refine codeAny_mono ((F _ inB (nsOf nsG)).run callerA [] s₁ H ⟨[.ref a], []⟩ [.ref a] [.ref a] (fun v _ => v = .bl true) (fun _ _ _ => False) [] [] [] [.scr ns] room rfl env0 (bnd s₁ (.ref a)) (.cons rfl .nil) rfl srN (.cons riN .nil) post) fun r s' h => ?_
    cases r with
    | error e => obtain ⟨_, _, _, _, _, _, _, _, _, _, _, _, z⟩ := h; exact z.elim
    | ok fl =>
      cases fl with
      | next => exact False.elim h
      | brk => exact False.elim h
      | cont => exact False.elim h
      | ret u =>
        obtain ⟨v, H', os, bare2, un, okH', r', q⟩ := h
        have q' : v = .bl true := q
        subst q'
        obtain rfl : u = Value.bool true := r'
        refine ⟨rfl, OldK.of_keep fun b o e => ?_, os, bare2⟩
        cases q : H b with
        | none => exact un.keep b o e q (by intro z; exact absurd (show b ∈ ([] : List Addr) from z) (by simp)) (by simp)
        | some u =>
          rcases onlyH b with z | ⟨ob, xs, z⟩
          · rw [q] at z; cases z
          · have z2 := un.frzs b ob _ z
            obtain ⟨e1, _⟩ := okH b _ z
            obtain ⟨e2, _⟩ := okH' b _ z2
            rw [e] at e1; cases e1
            exact e2
  cases hk : K.lookup a with
  | some o =>
    -- the script is one of the module's own objects
    have e := KX a o hk
    rw [atA] at e
    cases e
    refine coreG (fun _ => none) (fun _ => .inl rfl) (.inr ⟨_, vs.toArray, _, hk, rfl, rfl, rfl, by rw [List.size_toArray, lenVs]; exact lenA, by simpa using rvs⟩) (fun b u z => by have z' : (none : Option HO) = some u := z; cases z') (fun b z => absurd rfl z) fun z => absurd rfl z
  | none =>
    refine coreG (fun b => if b = a then some (.frz { cls := .type "list", data := .seq vs.toArray } (.lst (ns.map V.int))) else none) (fun b => ?_) (.inl (.inr ⟨{ cls := .type "list", data := .seq vs.toArray }, if_pos rfl⟩)) (fun b u z => ?_) (fun b z => ?_) fun _ => hk
    · by_cases nsB : b = a
      · exact .inr ⟨_, _, if_pos nsB⟩
      · exact .inl (if_neg nsB)
    · by_cases nsB : b = a
      · have z' := (if_pos nsB).symm.trans z
        cases z'
        subst nsB
        exact ⟨atA, by rw [List.length_map]; exact lenA, vs, _, rvs, atA⟩
      · have z' := (if_neg nsB).symm.trans z
        cases z'
    · by_cases nsB : b = a
      · exact nsB
      · exact absurd (if_neg nsB) z
theorem walk_G {l : PySem.W.OpenLaw} {n k : Nat} {q : Program} {loose : List Str} {XP : (Str → Option Value) → Heap → Prop} {YP : World → Heap → Prop} {d : DefRec} {x : Str} {g : FN}
    (most : l.most = some n) (fits : n ≤ sizeLine) (noDef : d.params.defaults = []) (room : Room k callerA)
    (F : ∀ (w : World) (mg : Str → Option Value) (fa : Addr) (h : Heap), YP w h → h.Ns mainGlobals mg → mg d.name = some (.ref fa) →
      ∃ (K : PySem.W.Frag) (fd : FuncData), K.In h ∧ (∀ (s : Shared) (u : Value), BindsTo s fd ⟨[u], []⟩ [(x, u)]) ∧ ∀ base : Heap, K.In base → base.Ns mainGlobals mg → FnG l.prog w ⟨K, mg⟩ base k fa fd [x] g)
    (ans : ∀ ns : List Int, ns.length ≤ n → ∃ S, g [.scr ns] [] = .ok (.d (.bool true)) S) :
    PySem.W.WalkO q loose XP YP l.row.toRowW d [] (fun f vs => PySem.call f vs) := by
  refine Att.attach_call most noDef fun w s₀ s₁ mg mb fa o pm cd doc a vs ns G Y ho hd hcd hmg hobj hints hlen hg => ?_
  obtain ⟨K, fd, KX, hb, hF⟩ := F w mg fa _ Y G.T.g hmg
  exact law_callG KX G.T.g G.T.b G.T.builtins G.T.nolimit hg hobj hints (Nat.le_trans hlen fits) room hF hb (ans ns hlen)
section
variable {P : Program} {w : World} {c : Ct} {base : Heap} {x qual : Str} {params : Arguments} {body : List Stmt} {scope : Scope} {kws : List (Str × V)} {f : Addr} {fd : FuncData}
/-- a def's promise, from its body's reading -/
theorem fun_okG {N ps : List Str} {k : Nat} {fs : FS} (F : FunD c.K x qual params body scope [] kws f fd) (S : FnScope N ps scope)
    (hbody : ∀ (cdv : Value) (A : Around) (outer : List Env) (s : Shared) (H : Hp) (E : XK), Room k (A.deeper (envOfC qual scope s.heap.objs.size f cdv)) → A.guards = some [] →
      PSs (cxOf (L2.CX P w) P w c.K c.mg base N qual scope f cdv A outer s H E) body (TSx c (fun cls d _ H => E cls d H) fs)) : FnG P w c base (k + 1) f fd ps (fnB N.length fs) := by
  obtain ⟨oc, od, dV, kV, doc, pm, an, cdv, ct, osl, rfl, lk, hcd, _, _⟩ := F.ex
  exact fn_ofG lk hcd S fun A outer s H E hr hgu => hbody cdv A outer s H E hr hgu
/-- the standing facts of a body -/
theorem cxg_of {N : List Str} {cdv : Value} {A : Around} {outer : List Env} {s : Shared} {H : Hp} {E : XK} (hgu : A.guards = some []) : Cxg c (fun cls d _ H => E cls d H) (cxOf (L2.CX P w) P w c.K c.mg base N qual scope f cdv A outer s H E) :=
  ⟨rfl, rfl, hgu, takes_of rfl rfl rfl rfl⟩
end
end MI
set_option maxRecDepth 100000
set_option maxHeartbeats 4000000
namespace MI
open PySem PySem.Spec PyProof.Rows L2

section
variable {c : Ct} {W : WX} {X : Cx} {B Z : List Addr} {H : Hp} {σ : L2.St} {k : Nat}
/-! ## what a body leans on, said once -/
theorem Cxg.blk {s : Shared} {H : Hp} {scope : Scope} {cenv : Env} {fp : List Addr} (cx : Cxg c W X) : Cxg c W0 (X.blk s H scope cenv fp) :=
  ⟨cx.K, cx.mg, cx.gu, fun u s' x => by
    obtain ⟨_, _, _, _, _, _, _, _, _, _, _, _, _, _, _, _, z⟩ := x
    exact z.elim⟩
def visC (sc : Scope) (x : Str) : Bool := match sc.names.lookup x with
  | some .local => true
  | some .cell => true
  | some .free => true
  | _ => false
theorem vis_by {sc : Scope} {x : Str} (h : visC sc x = true) : Vis sc x := by
  unfold visC at h
  split at h
  · exact .inl (by assumption)
  · exact .inr (.inl (by assumption))
  · exact .inr (.inr (by assumption))
  · cases h
def locC (sc : Scope) (x : Str) : Bool := match sc.names.lookup x with
  | some .local => true
  | some .cell => true
  | _ => false
theorem loc_by {sc : Scope} {x : Str} (h : locC sc x = true) : Loc sc x := by
  unfold locC at h
  split at h
  · exact .inl (by assumption)
  · exact .inr (by assumption)
  · cases h
theorem v_v (i : Nat) {x : Str} {pos : Pos} (hN : X.N[i]? = some x) (hv : visC X.env.scope x = true) (hd : (x == ("__debug__" : Str)) = false := by decide) (hcd : (x == ("__classdict__" : Str)) = false := by decide) : PE X (.Name x pos) (TEx c W (eVar i)) :=
  s_var (pe_var hN (vis_by hv) hd hcd)
section
variable {a b d e : Expr} {f g h : FE} {pos : Pos}
theorem v_add (cx : Cxg c W X) (ha : PE X a (TEx c W f)) (hb : PE X b (TEx c W g)) : PE X (.BinOp a .Add b pos) (TEx c W (eOp2 oAdd f g)) := by
  have z : OpR X (binaryOp .Add) (rAddA X.K) := op_addA
  rw [cx.K] at z
  exact s_op z k_add ha hb
theorem v_addM (cx : Cxg c W X) (ha : PE X a (TEx c W f)) (hb : PE X b (TEx c W g)) : PE X (.BinOp a .Add b pos) (TEx c W (eOp2 oAddM f g)) := by
  have z : OpR X (binaryOp .Add) (rAddA X.K) := op_addA
  rw [cx.K] at z
  exact s_op z k_addM ha hb
theorem v_sub (ha : PE X a (TEx c W f)) (hb : PE X b (TEx c W g)) : PE X (.BinOp a .Sub b pos) (TEx c W (eOp2 (oInt gSub) f g)) := s_op op_subC k_sub ha hb
theorem v_mul (ha : PE X a (TEx c W f)) (hb : PE X b (TEx c W g)) : PE X (.BinOp a .Mult b pos) (TEx c W (eOp2 (oInt gMul) f g)) := s_op op_mulW k_mul ha hb
theorem v_div (ha : PE X a (TEx c W f)) (hb : PE X b (TEx c W g)) : PE X (.BinOp a .FloorDiv b pos) (TEx c W (eOp2 (oInt gDiv) f g)) := s_op op_fdivW k_div ha hb
theorem v_mod (ha : PE X a (TEx c W f)) (hb : PE X b (TEx c W g)) : PE X (.BinOp a .Mod b pos) (TEx c W (eOp2 (oInt gMod) f g)) := s_op op_mod k_mod ha hb
/-- powers, wide -/
@[simp] def gPw (i j : Int) : Option Int := if 0 ≤ j ∧ j ≤ 1000 ∧ i.natAbs < 2 ^ 1000 then some (i ^ j.toNat) else none
theorem bits1000 {i j : Int} (h0 : 0 ≤ j) (h1 : j ≤ 1000) (h2 : i.natAbs < 2 ^ 1000) : (Builtin.Int.intBits i : Int) * j ≤ 2 ^ 27 := by
  have hb : Builtin.Int.intBits i ≤ 1000 := by
    unfold Builtin.Int.intBits
    split
    · omega
    · rename_i hz
      have hz' : i.natAbs ≠ 0 := by simpa using hz
      have := (Nat.log2_lt hz').mpr h2
      omega
  calc (Builtin.Int.intBits i : Int) * j ≤ 1000 * j := Int.mul_le_mul_of_nonneg_right (by omega) h0
    _ ≤ 1000 * 1000 := Int.mul_le_mul_of_nonneg_left h1 (by omega)
    _ ≤ 2 ^ 27 := by decide
theorem op_pw : OpR X (binaryOp .Pow) (rI (fun i j => 0 ≤ j ∧ j ≤ 1000 ∧ i.natAbs < 2 ^ 1000) fun i j => .int (i ^ j.toNat)) := opI fun i j t u s Q E hc q => pow_int hc.1 (bits1000 hc.1 hc.2.1 hc.2.2) q
theorem v_pow (ha : PE X a (TEx c W f)) (hb : PE X b (TEx c W g)) : PE X (.BinOp a .Pow b pos) (TEx c W (eOp2 (oInt gPw) f g)) := s_op op_pw (k_int fun i j k e => by
  unfold gPw at e
  split at e
  · exact ⟨by assumption, (Option.some.inj e).symm⟩
  · cases e) ha hb
theorem v_neg (ha : PE X a (TEx c W f)) : PE X (.UnaryOp .USub a pos) (TEx c W (eOp1 oNeg f)) := s_un un_neg k_neg ha
theorem v_ix (cx : Cxg c W X) (ha : PE X a (TEx c W f)) (hb : PE X b (TEx c W g)) (hs : PlainIx b := by intro _ _; rfl) : PE X (.Subscript a b pos) (TEx c W (eOp2 oIx f g)) := s_ix cx.K.symm ha hb hs
theorem v_sl {lo hi : Option Expr} {l h : FO} {p2 : Pos} (cx : Cxg c W X) (he : PE X e (TEx c W f)) (hl : PO X lo (TOx c W l)) (hh : PO X hi (TOx c W h)) : PE X (.Subscript e (.Slice lo hi none p2) pos) (TEx c W (eSl f l h)) := s_sl cx.K.symm he hl hh
/-! comparisons: the operation's rule and its reading -/
structure Cm (c : Ct) (W : WX) (X : Cx) (op : CmpOp) (o : O2) : Prop where
  ex : ∃ r, OpR X (compareOp op) r ∧ Ok2 c W r o
theorem m_eq (cx : Cxg c W X) (hr : Room k X.A) : Cm c W X .Eq cEq := ⟨_, cx.K ▸ op_eqA hr.units, k_eq⟩
theorem m_ne (cx : Cxg c W X) (hr : Room k X.A) : Cm c W X .NotEq cNe := ⟨_, cx.K ▸ op_neA hr.units, k_ne⟩
theorem m_lt : Cm c W X .Lt (cInt gLt) := ⟨_, op_lt, k_cint⟩
theorem m_le : Cm c W X .LtE (cInt gLe) := ⟨_, op_le, k_cint⟩
theorem m_gt : Cm c W X .Gt (cInt gGt) := ⟨_, op_gt, k_cint⟩
theorem m_ge : Cm c W X .GtE (cInt gGe) := ⟨_, op_ge, k_cint⟩
theorem m_in (cx : Cxg c W X) (hr : Room k X.A) : Cm c W X .In (cInN false) := ⟨_, cx.K ▸ op_inA (by have := hr.un; omega), k_in⟩
theorem m_ni (cx : Cxg c W X) (hr : Room k X.A) : Cm c W X .NotIn (cInN true) := ⟨_, cx.K ▸ op_notInA (by have := hr.un; omega), k_notIn⟩
theorem m_is : Cm c W X .Is (cIsN false) := ⟨_, op_isN, k_isN⟩
theorem m_isn : Cm c W X .IsNot (cIsN true) := ⟨_, op_notN, k_notN⟩
theorem v_cmp {op : CmpOp} {o : O2} (m : Cm c W X op o) (ha : PE X a (TEx c W f)) (hb : PE X b (TEx c W g)) (hm : behindInMarks op b = false := by rfl) : PE X (.Compare a [op] [b] pos) (TEx c W (eOp2 o f g)) := by
  obtain ⟨r, h1, h2⟩ := m.ex
  exact s_cmp h1 h2 ha hb hm
theorem v_tcmp {op : CmpOp} {o : O2} (m : Cm c W X op o) (ha : PE X a (TEx c W f)) (hb : PE X b (TEx c W g)) (hm : behindInMarks op b = false := by rfl) : PT X (.Compare a [op] [b] pos) (TTx c W (tE (eOp2 o f g))) := by
  obtain ⟨r, h1, h2⟩ := m.ex
  exact s_tcmp h1 h2 ha hb hm
theorem v_chain {op op' : CmpOp} {o o' : O2} (m : Cm c W X op o) (m' : Cm c W X op' o') (ha : PE X a (TEx c W f)) (hb : PE X b (TEx c W g)) (hd : PE X d (TEx c W h)) (hm : lastMarks [op, op'] [b, d] = false := by with_unfolding_all rfl) : PE X (.Compare a [op, op'] [b, d] pos) (TEx c W (eCh o o' f g h)) := by
  obtain ⟨r, h1, h2⟩ := m.ex
  obtain ⟨r', h3, h4⟩ := m'.ex
  exact s_chain h1 h3 h2 h4 ha hb hd hm
theorem v_tchain {op op' : CmpOp} {o o' : O2} (m : Cm c W X op o) (m' : Cm c W X op' o') (ha : PE X a (TEx c W f)) (hb : PE X b (TEx c W g)) (hd : PE X d (TEx c W h)) (hm : lastMarks [op, op'] [b, d] = false := by with_unfolding_all rfl) : PT X (.Compare a [op, op'] [b, d] pos) (TTx c W (tE (eCh o o' f g h))) := by
  obtain ⟨r, h1, h2⟩ := m.ex
  obtain ⟨r', h3, h4⟩ := m'.ex
  exact s_tchain h1 h3 h2 h4 ha hb hd hm
end
/-! built-ins: the rule and its reading -/
structure Bf (c : Ct) (W : WX) (X : Cx) (v : Value) (o : FN) : Prop where
  ex : ∃ r, CallR X v r ∧ OkN c W r o
section
variable {x : Str} {p pos : Pos} {e : Expr} {es : List Expr} {fa : FA} {o : FN} {id T : String}
theorem v_blt (b : Bf c W X (.builtin id) o) (hg : Gl X x) (hm : X.mg x = none) (hv : bootBuiltins x = some (.builtin id)) (ha : PA X (e :: es) (TAx c W fa)) (hn : x ≠ "__name__" := by decide) (hdb : (x == ("__debug__" : Str)) = false := by decide)
    (hs : starEach (e :: es) X.env = (false, eval e X.env) :: starEach es X.env := by rfl) (hpl : (backTo pos (starEach es X.env)).any (·.1) = false := by rfl) : PE X (.Call (.Name x p) (e :: es) [] pos) (TEx c W (eApp o fa)) := by
  obtain ⟨r, h1, h2⟩ := b.ex
  exact s_blt h2 h1 hg hm hv ha hn hdb hs hpl
theorem v_bty (b : Bf c W X (.type T) o) (hg : Gl X x) (hm : X.mg x = none) (hv : bootBuiltins x = some (.type T)) (ha : PA X (e :: es) (TAx c W fa)) (hn : x ≠ "__name__" := by decide) (hdb : (x == ("__debug__" : Str)) = false := by decide)
    (hs : starEach (e :: es) X.env = (false, eval e X.env) :: starEach es X.env := by rfl) (hpl : (backTo pos (starEach es X.env)).any (·.1) = false := by rfl) : PE X (.Call (.Name x p) (e :: es) [] pos) (TEx c W (eApp o fa)) := by
  obtain ⟨r, h1, h2⟩ := b.ex
  exact s_bty h2 h1 hg hm hv ha hn hdb hs hpl
end
theorem f_len (cx : Cxg c W X) : Bf c W X (.builtin "len") bLen := ⟨_, cx.K ▸ call_len, k_len⟩
theorem f_abs : Bf c W X (.builtin "abs") bAbs := ⟨_, call_abs, k_abs⟩
theorem f_max2 (hc : X.calm = true) : Bf c W X (.builtin "max") bMax2 := ⟨_, call_max2 hc, k_max2⟩
theorem f_min2 (hc : X.calm = true) : Bf c W X (.builtin "min") bMin2 := ⟨_, call_min2 hc, k_min2⟩
theorem f_sum (cx : Cxg c W X) (hc : X.calm = true) : Bf c W X (.builtin "sum") bSum := ⟨_, cx.K ▸ cr_sum hc, k_sum⟩
theorem f_all (cx : Cxg c W X) (hc : X.calm = true) : Bf c W X (.builtin "all") bAll := ⟨_, cx.K ▸ cr_all hc, k_all⟩
theorem f_any (cx : Cxg c W X) (hc : X.calm = true) : Bf c W X (.builtin "any") bAny := ⟨_, cx.K ▸ cr_any hc, k_any⟩
theorem f_sorted (cx : Cxg c W X) : Bf c W X (.builtin "sorted") bSortI := ⟨_, cx.K ▸ cr_sortedI, k_sortI⟩
theorem f_repr (cx : Cxg c W X) (hr : Room k X.A) : Bf c W X (.builtin "repr") bRepr := ⟨_, call_pr cx.gu, by rw [cx.K]; exact k_repr (by have := hr.un; omega)⟩
theorem f_int : Bf c W X (.type "int") bInt := ⟨_, call_int1, k_toint⟩
theorem f_list (cx : Cxg c W X) : Bf c W X (.type "list") bList := ⟨_, cx.K ▸ call_list_of, k_list⟩
theorem f_listM (cx : Cxg c W X) : Bf c W X (.type "list") bListM := ⟨_, cx.K ▸ call_list_of, k_listM⟩
theorem f_tuple (cx : Cxg c W X) : Bf c W X (.type "tuple") bTup := ⟨_, cx.K ▸ call_tuple_of, k_tup⟩
/-! methods -/
structure Mf (c : Ct) (W : WX) (X : Cx) (T : String) (name : Str) (id : String) (m : FM) : Prop where
  pa : PlainAttrs T
  slot : Slot T name id
  ty : typeOf (.builtin id) = pure (.type "method_descriptor")
  ex : ∃ r, MtR X id r ∧ OkM c W r m
section
variable {o e : Expr} {es : List Expr} {fo : FE} {fa : FA} {name : Str} {apos cpos : Pos} {T id : String} {m : FM}
theorem v_mt (cx : Cxg c W X) (M : Mf c W X T name id m) (ho : PE X o (TEx c W fo)) (ha : PA X (e :: es) (TAx c W fa)) (hbase : attributeBase o name X.env (eval o X.env) = eval o X.env := by rfl)
    (few : ((backTo cpos (starEach (e :: es) X.env)).all (fun x => !x.1) && (backToKw cpos (keywordEach [] X.env)).all (fun x => x.1.isSome) && decide ((e :: es).length + ([] : List Keyword).length + (if ([] : List Keyword).isEmpty then 0 else 1) < 30)) = true := by rfl)
    (line : (apos.endLine == cpos.line) = true := by rfl) (hs : starEach (e :: es) X.env = (false, eval e X.env) :: starEach es X.env := by rfl) (plain : (backTo cpos (starEach es X.env)).any (·.1) = false := by rfl) :
    PE X (.Call (.Attribute o name apos) (e :: es) [] cpos) (TEx c W (eMt T m fo fa)) := by
  obtain ⟨r, h1, h2⟩ := M.ex
  exact s_mt cx h2 M.pa M.slot M.ty h1 ho ha hbase few line hs plain
theorem v_mt0 (cx : Cxg c W X) (M : Mf c W X T name id m) (ho : PE X o (TEx c W fo)) (hbase : attributeBase o name X.env (eval o X.env) = eval o X.env := by rfl) (line : (apos.endLine == cpos.line) = true := by rfl) :
    PE X (.Call (.Attribute o name apos) [] [] cpos) (TEx c W (eMt0 T m fo)) := by
  obtain ⟨r, h1, h2⟩ := M.ex
  exact s_mt0 cx h2 M.pa M.slot M.ty h1 ho hbase line
end
theorem d_append : Mf c W X "list" "append" "list.append" mApp := ⟨F.plainAttrs_list, F.slot_list_append, F.type_list_append, _, mt_append, k_app⟩
theorem d_extend : Mf c W X "list" "extend" "list.extend" mExt := ⟨F.plainAttrs_list, F.slot_list_extend, by show builtinType _ = _; rw [builtinType_eq_fast]; kernel_rfl, _, mt_extend, k_ext⟩
theorem d_pop : Mf c W X "list" "pop" "list.pop" mPop := ⟨F.plainAttrs_list, F.slot_list_pop, by show builtinType _ = _; rw [builtinType_eq_fast]; kernel_rfl, _, mt_pop, k_pop⟩
theorem d_popA : Mf c W X "list" "pop" "list.pop" mPopA := ⟨F.plainAttrs_list, F.slot_list_pop, by show builtinType _ = _; rw [builtinType_eq_fast]; kernel_rfl, _, mt_popAt, k_popA⟩
theorem d_index (cx : Cxg c W X) (hr : Room k X.A) : Mf c W X "list" "index" "list.index" mIdx := ⟨F.plainAttrs_list, F.slot_list_index, by show builtinType _ = _; rw [builtinType_eq_fast]; kernel_rfl, _, cx.K ▸ mt_indexD (by have := hr.un; omega), k_idx⟩
/-! ## a def that is known -/
structure Kn (P : Program) (w : World) (c : Ct) (base : Heap) (k : Nat) (x : Str) (n : Nat) (g : FN) : Prop where
  ex : ∃ f fd ps, FnG P w c base k f fd ps g ∧ c.mg x = some (.ref f) ∧ PySem.W.keepIn c.K (.ref f) = true ∧ Binds c.K fd ps [] ∧ n = ps.length
theorem v_kn {k j n : Nat} {g : FN} {x : Str} {p pos : Pos} {e : Expr} {es : List Expr} {fa : FA} (cx : Cxg c W X) (hr : Room k X.A) (kn : Kn X.prog X.w c X.base j x n g) (hj : j ≤ k) (hg : Gl X x) (ha : PA X (e :: es) (TAx c W fa)) (hdb : (x == ("__debug__" : Str)) = false := by decide)
    (he : starEach (e :: es) X.env = (false, eval e X.env) :: starEach es X.env := by rfl) (hpl : (backTo pos (starEach es X.env)).any (·.1) = false := by rfl) : PE X (.Call (.Name x p) (e :: es) [] pos) (TEx c W (eApp (callN n g) fa)) := by
  obtain ⟨f, fd, ps, h1, h2, h3, h4, h5⟩ := kn.ex
  exact s_call cx h1 (hr.mono hj) hg (by rw [cx.mg]; exact h2) (by rw [cx.K]; exact h3) (by rw [cx.K]; exact h4) h5 ha hdb he hpl
theorem v_knM {k j n : Nat} {g : FN} {x : Str} {p pos : Pos} {e : Expr} {es : List Expr} {fa : FA} (cx : Cxg c W X) (hr : Room k X.A) (kn : Kn X.prog X.w c X.base j x n g) (hj : j ≤ k) (hg : Gl X x) (ha : PA X (e :: es) (TAx c W fa)) (hdb : (x == ("__debug__" : Str)) = false := by decide)
    (he : starEach (e :: es) X.env = (false, eval e X.env) :: starEach es X.env := by rfl) (hpl : (backTo pos (starEach es X.env)).any (·.1) = false := by rfl) : PE X (.Call (.Name x p) (e :: es) [] pos) (TEx c W (eApp (callNM n g) fa)) := by
  obtain ⟨f, fd, ps, h1, h2, h3, h4, h5⟩ := kn.ex
  exact s_callM cx h1 (hr.mono hj) hg (by rw [cx.mg]; exact h2) (by rw [cx.K]; exact h3) (by rw [cx.K]; exact h4) h5 ha hdb he hpl
end
end MI
set_option maxRecDepth 100000
set_option maxHeartbeats 0
namespace K42
open PySem PySem.Spec PyProof.Rows L2 MI
/-! ## the text -/
def top (i : Nat) : Stmt := PySem.Challenge.pw_endforend_k42_whole_points_and_strips.main.body.getD i (.Pass ⟨0, 0, 0, 0⟩)

/-- the names that are not the text's own, its constants -/
structure Blt (c : Ct) : Prop where
  abs_ : c.mg "abs" = none
  all_ : c.mg "all" = none
  bool_ : c.mg "bool" = none
  int_ : c.mg "int" = none
  isinstance_ : c.mg "isinstance" = none
  len_ : c.mg "len" = none
  list_ : c.mg "list" = none
  max_ : c.mg "max" = none
  min_ : c.mg "min" = none
  range_ : c.mg "range" = none
  repr_ : c.mg "repr" = none
  set_ : c.mg "set" = none
  sorted_ : c.mg "sorted" = none
  sum_ : c.mg "sum" = none
  tuple_ : c.mg "tuple" = none
  zip_ : c.mg "zip" = none
  MOST_WAGONS_ : ∃ t, c.mg "MOST_WAGONS" = some (.int 20 t)
theorem bo_abs : bootBuiltins "abs" = some (.builtin "abs") := by decide +kernel
theorem bo_all : bootBuiltins "all" = some (.builtin "all") := by decide +kernel
theorem bo_bool : bootBuiltins "bool" = some (.type "bool") := by decide +kernel
theorem bo_int : bootBuiltins "int" = some (.type "int") := by decide +kernel
theorem bo_isinstance : bootBuiltins "isinstance" = some (.builtin "isinstance") := by decide +kernel
theorem bo_len : bootBuiltins "len" = some (.builtin "len") := by decide +kernel
theorem bo_list : bootBuiltins "list" = some (.type "list") := by decide +kernel
theorem bo_max : bootBuiltins "max" = some (.builtin "max") := by decide +kernel
theorem bo_min : bootBuiltins "min" = some (.builtin "min") := by decide +kernel
theorem bo_repr : bootBuiltins "repr" = some (.builtin "repr") := by decide +kernel
theorem bo_sorted : bootBuiltins "sorted" = some (.builtin "sorted") := by decide +kernel
theorem bo_sum : bootBuiltins "sum" = some (.builtin "sum") := by decide +kernel
theorem bo_tuple : bootBuiltins "tuple" = some (.type "tuple") := by decide +kernel
/-! _law_cells -/
abbrev N__law_cells : List Str := ["script", "most"]
def f__law_cells : FN := fnB 2 ((sCons (sRet (eRgL (rg1 (eApp bMax2 (aCons (eC (.int 1)) (aCons (eApp bMin2 (aCons (eVar 1) (aCons (eApp bLen (aCons (eVar 0) aNil)) aNil))) aNil))))))
  sNil))
/-! _law_pot -/
abbrev N__law_pot : List Str := ["script", "place", "cell", "own", "small"]
def f__law_pot : FN := fnB 5 ((sCons (sSet (eIf (tE (eOp2 (cInt gLt) (eVar 1) (eApp bLen (aCons (eVar 0) aNil)))) (eOp2 oIx (eVar 0) (eVar 1)) (eOp2 oAdd (eOp2 oAdd (eOp2 (oInt gMod) (eApp bSum (aCons (eSl (eVar 0) pNo (pSm (eC (.int 1)))) aNil)) (eC (.int 1000159))) (eOp2 (oInt gMul) (eC (.int 6211)) (eVar 1))) (eC (.int 907)))) 2)
  (sCons (sSet (eOp2 (oInt gMul) (eOp2 (oInt gMod) (eApp bInt (aCons (eApp bAbs (aCons (eVar 2) aNil)) aNil)) (eOp2 (oInt gPw) (eOp2 (oInt gPw) (eC (.int 10)) (eC (.int 60))) (eC (.int 5)))) (eApp bInt (aCons (eOp2 (cInt gGe) (eApp bAbs (aCons (eVar 2) aNil)) (eOp2 (oInt gPw) (eC (.int 10)) (eC (.int 18)))) aNil))) 3)
  (sCons (sSet (eOp2 (oInt gMod) (eApp bInt (aCons (eVar 2) aNil)) (eC (.int 2305843009213693951))) 4)
  (sCons (sRet (eLstM (aCons (eVar 3) (aCons (eOp2 (oInt gMod) (eApp bInt (aCons (eOp2 oAdd (eOp2 oAdd (eOp2 (oInt gMul) (eVar 4) (eC (.int 71917))) (eOp2 (oInt gMul) (eOp2 (oInt gMul) (eC (.int 5309)) (eVar 1)) (eVar 1))) (eC (.int 1451))) aNil)) (eC (.int 2305843009213693921))) (aCons (eC (.int 0)) aNil)))))
  sNil)))))
/-! _law_take -/
abbrev N__law_take : List Str := ["pot", "upto", "prime", "blend", "digit"]
def f__law_take : FN := fnB 5 ((sCons (sIf (tE (eOp2 (cInt gGt) (eOp2 oIx (eVar 0) (eC (.int 0))) (eC (.int 0)))) (sCons (sSet (eOp2 (oInt gMod) (eApp bInt (aCons (eOp2 oIx (eVar 0) (eC (.int 0))) aNil)) (eVar 1)) 4)
  (sCons (sAs (eOp2 (oInt gDiv) (eOp2 oIx (eVar 0) (eC (.int 0))) (eVar 1)) (gSb (eVar 0) (eC (.int 0))))
  (sCons (sRet (eVar 4))
  sNil))) sNil)
  (sCons (sAs (eOp2 oAdd (eOp2 oIx (eVar 0) (eC (.int 2))) (eC (.int 1))) (gSb (eVar 0) (eC (.int 2))))
  (sCons (sSet (eOp2 oIx (eLst (aCons (eC (.int 2147482859)) (aCons (eC (.int 2147482819)) (aCons (eC (.int 2147482817)) (aCons (eC (.int 2147482811)) (aCons (eC (.int 2147482801)) aNil)))))) (eOp2 (oInt gMod) (eApp bInt (aCons (eOp2 oIx (eVar 0) (eC (.int 2))) aNil)) (eC (.int 5)))) 2)
  (sCons (sSet (eOp2 (oInt gMod) (eApp bInt (aCons (eOp2 (oInt gPw) (eApp bInt (aCons (eOp2 oAdd (eOp2 oAdd (eOp2 oIx (eVar 0) (eC (.int 1))) (eOp2 (oInt gMul) (eOp2 (oInt gMul) (eC (.int 79861)) (eOp2 oIx (eVar 0) (eC (.int 2)))) (eOp2 oIx (eVar 0) (eC (.int 2))))) (eC (.int 1697))) aNil)) (eC (.int 3))) aNil)) (eVar 2)) 3)
  (sCons (sSet (eOp2 (oInt gMod) (eApp bInt (aCons (eOp2 (oInt gMul) (eVar 3) (eOp2 oAdd (eOp2 (oInt gMod) (eApp bInt (aCons (eVar 3) aNil)) (eC (.int 8101))) (eOp2 (oInt gMul) (eC (.int 307)) (eOp2 oIx (eVar 0) (eC (.int 2)))))) aNil)) (eC (.int 2305843009213693907))) 3)
  (sCons (sRet (eOp2 (oInt gMod) (eApp bInt (aCons (eOp2 (oInt gDiv) (eVar 3) (eC (.int 173))) aNil)) (eVar 1)))
  sNil)))))))
/-! _law_of -/
abbrev N__law_of : List Str := ["pot", "some"]
def f__law_of : FN := fnB 2 ((sCons (sRet (eOp2 oIx (eVar 1) (eApp (callN 2 f__law_take) (aCons (eVar 0) (aCons (eApp bLen (aCons (eVar 1) aNil)) aNil)))))
  sNil))
/-! is_integer -/
abbrev N_is_integer : List Str := ["value"]
def f_is_integer : FN := fnB 1 ((sCons (sRet (eAn (eIsa "int" (eVar 0)) (eNt (eIsa "bool" (eVar 0)))))
  sNil))
/-! is_row -/
abbrev N_is_row : List Str := ["value", "one"]
def f_is_row : FN := fnB 2 ((sCons (sIf (tOr' (tNt (tE (eIsa "tuple" (eVar 0)))) (tNt (tE (eCh (cInt gLe) (cInt gLe) (eC (.int 1)) (eApp bLen (aCons (eVar 0) aNil)) (eC (.int 20)))))) (sCons (sRet (eC (.bool false)))
  sNil) sNil)
  (sCons (sIf (tNt (tE (eApp bAll (aCons (eLc (iSeq (eVar 0)) (gNm 1) tYe (eApp (callN 1 f_is_integer) (aCons (eVar 1) aNil)) [1]) aNil)))) (sCons (sRet (eC (.bool false)))
  sNil) sNil)
  (sCons (sRet (eOp2 cEq (eApp bSortI (aCons (eLc (iSeq (eVar 0)) (gNm 1) tYe (eApp bAbs (aCons (eVar 1) aNil)) [1]) aNil)) (eRgL (rg2 (eC (.int 1)) (eOp2 oAdd (eApp bLen (aCons (eVar 0) aNil)) (eC (.int 1)))))))
  sNil))))
/-! check_row -/
abbrev N_check_row : List Str := ["value"]
def f_check_row : FN := fnB 1 ((sCons (sIf (tNt (tE (eApp (callN 1 f_is_row) (aCons (eVar 0) aNil)))) (sCons sBad
  sNil) sNil)
  sNil))
/-! outer -/
abbrev N_outer : List Str := ["row"]
def f_outer : FN := fnB 1 ((sCons (sRet (eTup (aCons (eC (.int 0)) (aStar (eVar 0) (aCons (eOp2 oAdd (eApp bLen (aCons (eVar 0) aNil)) (eC (.int 1))) aNil)))))
  sNil))
/-! broken_at -/
abbrev N_broken_at : List Str := ["row", "point", "rows"]
def f_broken_at : FN := fnB 3 ((sCons (sSet (eApp (callN 1 f_outer) (aCons (eVar 0) aNil)) 2)
  (sCons (sRet (eOp2 cNe (eOp2 oIx (eVar 2) (eOp2 oAdd (eVar 1) (eC (.int 1)))) (eOp2 oAdd (eOp2 oIx (eVar 2) (eVar 1)) (eC (.int 1)))))
  sNil)))
/-! broken_points -/
abbrev N_broken_points : List Str := ["row", "point"]
def f_broken_points : FN := fnB 2 ((sCons (sRet (eLc (iR1 (eOp2 oAdd (eApp bLen (aCons (eVar 0) aNil)) (eC (.int 1)))) (gNm 1) (tE (eApp (callN 2 f_broken_at) (aCons (eVar 0) (aCons (eVar 1) aNil)))) (eVar 1) [1]))
  sNil))
/-! breaks -/
abbrev N_breaks : List Str := ["row"]
def f_breaks : FN := fnB 1 ((sCons (sEx (eApp (callN 1 f_check_row) (aCons (eVar 0) aNil)))
  (sCons (sRet (eApp bTup (aCons (eApp (callN 1 f_broken_points) (aCons (eVar 0) aNil)) aNil)))
  sNil)))
/-! strips_of -/
abbrev N_strips_of : List Str := ["row", "cuts", "one", "other"]
def f_strips_of : FN := fnB 4 ((sCons (sSet (eSrtSet (eLst (aCons (eC (.int 0)) (aCons (eApp bLen (aCons (eVar 0) aNil)) (aStar (eApp (callN 1 f_broken_points) (aCons (eVar 0) aNil)) aNil))))) 1)
  (sCons (sRet (eLc (iZp (eVar 1) (eSl (eVar 1) (pSm (eC (.int 1))) pNo)) (gTp 2 (gsCons (gNm 2) (gsCons (gNm 3) gsNil))) tYe (eTup (aCons (eOp2 oAdd (eVar 2) (eC (.int 1))) (aCons (eVar 3) aNil))) [2, 3]))
  sNil)))
/-! bundled_of -/
abbrev N_bundled_of : List Str := ["row", "heads", "order", "first", "last", "wagon"]
def f_bundled_of : FN := fnB 6 ((sCons (sSet (eLc (iSeq (eApp (callN 1 f_strips_of) (aCons (eVar 0) aNil))) (gTp 2 (gsCons (gNm 3) (gsCons (gNm 4) gsNil))) tYe (eOp2 oIx (eVar 0) (eOp2 (oInt gSub) (eVar 3) (eC (.int 1)))) [3, 4]) 1)
  (sCons (sSet (eApp bSortI (aCons (eLc (iSeq (eVar 1)) (gNm 5) tYe (eApp bAbs (aCons (eVar 5) aNil)) [5]) aNil)) 2)
  (sCons (sRet (eApp bTup (aCons (eLc (iSeq (eVar 1)) (gNm 5) tYe (eIf (tE (eOp2 (cInt gGt) (eVar 5) (eC (.int 0)))) (eOp2 oAdd (eMt "list" mIdx (eVar 2) (aCons (eApp bAbs (aCons (eVar 5) aNil)) aNil)) (eC (.int 1))) (eOp2 (oInt gSub) (eOp2 (oInt gSub) (eC (.int 0)) (eMt "list" mIdx (eVar 2) (aCons (eApp bAbs (aCons (eVar 5) aNil)) aNil))) (eC (.int 1)))) [5]) aNil)))
  sNil))))
/-! bundled -/
abbrev N_bundled : List Str := ["row"]
def f_bundled : FN := fnB 1 ((sCons (sEx (eApp (callN 1 f_check_row) (aCons (eVar 0) aNil)))
  (sCons (sRet (eApp (callN 1 f_bundled_of) (aCons (eVar 0) aNil)))
  sNil)))
/-! _law_breaks -/
abbrev N__law_breaks : List Str := ["row", "ends", "point"]
def f__law_breaks : FN := fnB 3 ((sCons (sSet (eOp2 oAdd (eOp2 oAdd (eTup (aCons (eC (.int 0)) aNil)) (eVar 0)) (eTup (aCons (eOp2 oAdd (eApp bLen (aCons (eVar 0) aNil)) (eC (.int 1))) aNil))) 1)
  (sCons (sRet (eApp bTup (aCons (eLc (iR1 (eOp2 oAdd (eApp bLen (aCons (eVar 0) aNil)) (eC (.int 1)))) (gNm 2) (tE (eOp2 cNe (eOp2 oAdd (eOp2 oIx (eVar 1) (eVar 2)) (eC (.int 1))) (eOp2 oIx (eVar 1) (eOp2 oAdd (eVar 2) (eC (.int 1)))))) (eVar 2) [2]) aNil)))
  sNil)))
/-! _law_turns -/
abbrev N__law_turns : List Str := ["many", "found", "first", "last"]
def f__law_turns : FN := fnB 4 ((sCons (sSet (eLstM aNil) 1)
  (sCons (sFor (iR2 (eC (.int 1)) (eOp2 oAdd (eVar 0) (eC (.int 1)))) (gNm 2) (sCons (sEx (eMt "list" mExt (eVar 1) (aCons (eLc (iR2 (eVar 2) (eOp2 oAdd (eVar 0) (eC (.int 1)))) (gNm 3) tYe (eTup (aCons (eVar 2) (aCons (eVar 3) aNil))) [3]) aNil)))
  sNil))
  (sCons (sRet (eVar 1))
  sNil))))
/-! strips -/
abbrev N_strips : List Str := ["row"]
def f_strips : FN := fnB 1 ((sCons (sEx (eApp (callN 1 f_check_row) (aCons (eVar 0) aNil)))
  (sCons (sRet (eApp bTup (aCons (eApp (callN 1 f_strips_of) (aCons (eVar 0) aNil)) aNil)))
  sNil)))
/-! _law_strips -/
abbrev N__law_strips : List Str := ["row", "place", "found", "first"]
def f__law_strips : FN := fnB 4 ((sCons (sPar 2 3 (aCons (eLstM aNil) (aCons (eC (.int 1)) aNil)))
  (sCons (sFor (iR2 (eC (.int 1)) (eOp2 oAdd (eApp bLen (aCons (eVar 0) aNil)) (eC (.int 1)))) (gNm 1) (sCons (sIf (tOr' (tE (eOp2 cEq (eVar 1) (eApp bLen (aCons (eVar 0) aNil)))) (tE (eOp2 cNe (eOp2 oIx (eVar 0) (eVar 1)) (eOp2 oAdd (eOp2 oIx (eVar 0) (eOp2 (oInt gSub) (eVar 1) (eC (.int 1)))) (eC (.int 1)))))) (sCons (sEx (eMt "list" mApp (eVar 2) (aCons (eTup (aCons (eVar 3) (aCons (eVar 1) aNil))) aNil)))
  (sCons (sSet (eOp2 oAdd (eVar 1) (eC (.int 1))) 3)
  sNil)) sNil)
  sNil))
  (sCons (sRet (eApp bTup (aCons (eVar 2) aNil)))
  sNil))))
/-! _law_bundled -/
abbrev N__law_bundled : List Str := ["row", "heads", "found", "wagon", "number", "first", "last", "it"]
def f__law_bundled : FN := fnB 8 ((sCons (sSet (eLc (iSeq (eApp (callN 1 f__law_strips) (aCons (eVar 0) aNil))) (gTp 2 (gsCons (gNm 5) (gsCons (gNm 6) gsNil))) tYe (eOp2 oIx (eVar 0) (eOp2 (oInt gSub) (eVar 5) (eC (.int 1)))) [5, 6]) 1)
  (sCons (sSet (eLstM aNil) 2)
  (sCons (sFor (iSeq (eVar 1)) (gNm 3) (sCons (sSet (eApp bLen (aCons (eLc (iSeq (eVar 1)) (gNm 7) (tE (eOp2 (cInt gLe) (eApp bAbs (aCons (eVar 7) aNil)) (eApp bAbs (aCons (eVar 3) aNil)))) (eVar 7) [7]) aNil)) 4)
  (sCons (sEx (eMt "list" mApp (eVar 2) (aCons (eIf (tE (eOp2 (cInt gGt) (eVar 3) (eC (.int 0)))) (eVar 4) (eOp1 oNeg (eVar 4))) aNil)))
  sNil)))
  (sCons (sRet (eApp bTup (aCons (eVar 2) aNil)))
  sNil)))))
/-! _law_home -/
abbrev N__law_home : List Str := ["many"]
def f__law_home : FN := fnB 1 ((sCons (sRet (eRgT (rg2 (eC (.int 1)) (eOp2 oAdd (eVar 0) (eC (.int 1))))))
  sNil))
/-! is_between -/
abbrev N_is_between : List Str := ["value", "low", "high"]
def f_is_between : FN := fnB 3 ((sCons (sRet (eAn (eApp (callN 1 f_is_integer) (aCons (eVar 0) aNil)) (eCh (cInt gLe) (cInt gLe) (eVar 1) (eVar 0) (eVar 2))))
  sNil))
/-! are_between -/
abbrev N_are_between : List Str := ["value", "low", "high", "one"]
def f_are_between : FN := fnB 4 ((sCons (sRet (eAn (eIsa "tuple" (eVar 0)) (eApp bAll (aCons (eLc (iSeq (eVar 0)) (gNm 3) tYe (eApp (callN 3 f_is_between) (aCons (eVar 3) (aCons (eVar 1) (aCons (eVar 2) aNil)))) [3]) aNil))))
  sNil))
/-! is_turn_of -/
abbrev N_is_turn_of : List Str := ["many", "value"]
def f_is_turn_of : FN := fnB 2 ((sCons (sRet (eAn (eApp (callN 3 f_are_between) (aCons (eVar 1) (aCons (eC (.int 1)) (aCons (eVar 0) aNil)))) (eAn (eOp2 cEq (eApp bLen (aCons (eVar 1) aNil)) (eC (.int 2))) (eOp2 (cInt gLe) (eOp2 oIx (eVar 1) (eC (.int 0))) (eOp2 oIx (eVar 1) (eC (.int 1)))))))
  sNil))
/-! check_turn -/
abbrev N_check_turn : List Str := ["row", "turn"]
def f_check_turn : FN := fnB 2 ((sCons (sEx (eApp (callN 1 f_check_row) (aCons (eVar 0) aNil)))
  (sCons (sIf (tNt (tE (eApp (callN 2 f_is_turn_of) (aCons (eApp bLen (aCons (eVar 0) aNil)) (aCons (eVar 1) aNil))))) (sCons sBad
  sNil) sNil)
  sNil)))
/-! do_turn -/
abbrev N_do_turn : List Str := ["row", "turn", "inner", "first", "last", "wagon"]
def f_do_turn : FN := fnB 6 ((sCons (sAs (eVar 1) (gTp 2 (gsCons (gNm 3) (gsCons (gNm 4) gsNil))))
  (sCons (sSet (eApp bTup (aCons (eLc (iSeq (eRev (eSl (eVar 0) (pSm (eOp2 (oInt gSub) (eVar 3) (eC (.int 1)))) (pSm (eVar 4))))) (gNm 5) tYe (eOp2 (oInt gSub) (eC (.int 0)) (eVar 5)) [5]) aNil)) 2)
  (sCons (sRet (eOp2 oAdd (eOp2 oAdd (eSl (eVar 0) pNo (pSm (eOp2 (oInt gSub) (eVar 3) (eC (.int 1))))) (eVar 2)) (eSl (eVar 0) (pSm (eVar 4)) pNo)))
  sNil))))
/-! mended -/
abbrev N_mended : List Str := ["row", "turn"]
def f_mended : FN := fnB 2 ((sCons (sEx (eApp (callN 2 f_check_turn) (aCons (eVar 0) (aCons (eVar 1) aNil))))
  (sCons (sRet (eOp2 (oInt gSub) (eApp bLen (aCons (eApp (callN 1 f_broken_points) (aCons (eVar 0) aNil)) aNil)) (eApp bLen (aCons (eApp (callN 1 f_broken_points) (aCons (eApp (callN 2 f_do_turn) (aCons (eVar 0) (aCons (eVar 1) aNil))) aNil)) aNil))))
  sNil)))
/-! _law_turned -/
abbrev N__law_turned : List Str := ["row", "turn", "first", "last", "wagon"]
def f__law_turned : FN := fnB 5 ((sCons (sAs (eVar 1) (gTp 2 (gsCons (gNm 2) (gsCons (gNm 3) gsNil))))
  (sCons (sRet (eOp2 oAdd (eOp2 oAdd (eSl (eVar 0) pNo (pSm (eOp2 (oInt gSub) (eVar 2) (eC (.int 1))))) (eApp bTup (aCons (eRev (eLc (iSeq (eSl (eVar 0) (pSm (eOp2 (oInt gSub) (eVar 2) (eC (.int 1)))) (pSm (eVar 3)))) (gNm 4) tYe (eOp1 oNeg (eVar 4)) [4])) aNil))) (eSl (eVar 0) (pSm (eVar 3)) pNo)))
  sNil)))
/-! turned -/
abbrev N_turned : List Str := ["row", "turn"]
def f_turned : FN := fnB 2 ((sCons (sEx (eApp (callN 2 f_check_turn) (aCons (eVar 0) (aCons (eVar 1) aNil))))
  (sCons (sRet (eApp (callN 2 f_do_turn) (aCons (eVar 0) (aCons (eVar 1) aNil))))
  sNil)))
/-! check_point -/
abbrev N_check_point : List Str := ["row", "point"]
def f_check_point : FN := fnB 2 ((sCons (sEx (eApp (callN 1 f_check_row) (aCons (eVar 0) aNil)))
  (sCons (sIf (tNt (tE (eApp (callN 3 f_is_between) (aCons (eVar 1) (aCons (eC (.int 0)) (aCons (eApp bLen (aCons (eVar 0) aNil)) aNil)))))) (sCons sBad
  sNil) sNil)
  sNil)))
/-! is_broken -/
abbrev N_is_broken : List Str := ["row", "point"]
def f_is_broken : FN := fnB 2 ((sCons (sEx (eApp (callN 2 f_check_point) (aCons (eVar 0) (aCons (eVar 1) aNil))))
  (sCons (sRet (eApp (callN 2 f_broken_at) (aCons (eVar 0) (aCons (eVar 1) aNil))))
  sNil)))
/-! _law_is_right -/
abbrev N__law_is_right : List Str := ["pot", "row", "lap", "small", "inner", "many", "due", "turn", "number", "point", "first", "last"]
def f__law_is_right : FN := fnB 12 ((sCons (sAs (eTup (aCons (eApp bLen (aCons (eVar 1) aNil)) (aCons (eApp (callN 1 f__law_breaks) (aCons (eVar 1) aNil)) aNil))) (gTp 2 (gsCons (gNm 5) (gsCons (gNm 6) gsNil))))
  (sCons (sIf (tE (eOp2 cNe (eApp bRepr (aCons (eTup (aCons (eApp (callN 1 f_breaks) (aCons (eVar 1) aNil)) (aCons (eApp (callN 1 f_strips) (aCons (eVar 1) aNil)) (aCons (eApp (callN 1 f_bundled) (aCons (eVar 1) aNil)) aNil)))) aNil)) (eApp bRepr (aCons (eTup (aCons (eVar 6) (aCons (eApp (callN 1 f__law_strips) (aCons (eVar 1) aNil)) (aCons (eApp (callN 1 f__law_bundled) (aCons (eVar 1) aNil)) aNil)))) aNil)))) (sCons (sRet (eC (.bool false)))
  sNil) sNil)
  (sCons (sIf (tOr' (tNt (tE (eApp bAll (aCons (eLc (iR1 (eOp2 oAdd (eVar 5) (eC (.int 1)))) (gNm 9) tYe (eOp2 cEq (eApp bRepr (aCons (eApp (callN 2 f_is_broken) (aCons (eVar 1) (aCons (eVar 9) aNil))) aNil)) (eApp bRepr (aCons (eOp2 (cInN false) (eVar 9) (eVar 6)) aNil))) [9]) aNil)))) (tE (eOp2 cNe (eOp2 cEq (eVar 6) (eTup aNil)) (eOp2 cEq (eVar 1) (eApp (callN 1 f__law_home) (aCons (eVar 5) aNil)))))) (sCons (sRet (eC (.bool false)))
  sNil) sNil)
  (sCons (sFor (iR1 (eC (.int 4))) (gNm 2) (sCons (sSet (eApp (callN 2 f__law_of) (aCons (eVar 0) (aCons (eApp (callN 1 f__law_turns) (aCons (eVar 5) aNil)) aNil))) 7)
  (sCons (sSet (eOp2 (oInt gSub) (eApp bLen (aCons (eVar 6) aNil)) (eApp bLen (aCons (eApp (callN 1 f__law_breaks) (aCons (eApp (callN 2 f__law_turned) (aCons (eVar 1) (aCons (eVar 7) aNil))) aNil)) aNil))) 8)
  (sCons (sIf (tOr' (tE (eOp2 cNe (eApp bRepr (aCons (eApp (callN 2 f_mended) (aCons (eVar 1) (aCons (eVar 7) aNil))) aNil)) (eApp bRepr (aCons (eVar 8) aNil)))) (tOr' (tNt (tE (eCh (cInt gLe) (cInt gLe) (eOp1 oNeg (eC (.int 2))) (eVar 8) (eC (.int 2))))) (tE (eOp2 cNe (eApp (callN 2 f_mended) (aCons (eApp (callN 2 f_turned) (aCons (eVar 1) (aCons (eVar 7) aNil))) (aCons (eVar 7) aNil))) (eOp1 oNeg (eVar 8)))))) (sCons (sRet (eC (.bool false)))
  sNil) sNil)
  sNil))))
  (sCons (sSet (eApp (callN 1 f_bundled) (aCons (eVar 1) aNil)) 3)
  (sCons (sSet (eLc (iSeq (eVar 6)) (gNm 9) (tE (eCh (cInt gLt) (cInt gLt) (eC (.int 0)) (eVar 9) (eVar 5))) (eVar 9) [9]) 4)
  (sCons (sRet (eAn (eOp2 cEq (eApp bLen (aCons (eVar 3) aNil)) (eOp2 oAdd (eApp bLen (aCons (eVar 4) aNil)) (eC (.int 1)))) (eAn (eOp2 cEq (eApp (callN 1 f_bundled) (aCons (eVar 3) aNil)) (eVar 3)) (eApp bAll (aCons (eLc (iSeq (eApp (callN 1 f_strips) (aCons (eVar 3) aNil))) (gTp 2 (gsCons (gNm 10) (gsCons (gNm 11) gsNil))) tYe (eOp2 cEq (eVar 10) (eVar 11)) [10, 11]) aNil)))))
  sNil))))))))
/-! _law_some -/
abbrev N__law_some : List Str := ["pot", "some", "many", "lap", "left", "found"]
def f__law_some : FN := fnB 6 ((sCons (sPar 4 5 (aCons (eApp bListM (aCons (eVar 1) aNil)) (aCons (eLstM aNil) aNil)))
  (sCons (sFor (iR1 (eVar 2)) (gNm 3) (sCons (sEx (eMt "list" mApp (eVar 5) (aCons (eMt "list" mPopA (eVar 4) (aCons (eApp (callN 2 f__law_take) (aCons (eVar 0) (aCons (eApp bLen (aCons (eVar 4) aNil)) aNil))) aNil)) aNil)))
  sNil))
  (sCons (sRet (eVar 5))
  sNil))))
/-! _law_row -/
abbrev N__law_row : List Str := ["pot", "low", "high", "many", "wagon"]
def f__law_row : FN := fnB 5 ((sCons (sSet (eOp2 oAdd (eVar 1) (eApp (callN 2 f__law_take) (aCons (eVar 0) (aCons (eOp2 oAdd (eOp2 (oInt gSub) (eVar 2) (eVar 1)) (eC (.int 1))) aNil)))) 3)
  (sCons (sRet (eApp bTup (aCons (eLc (iSeq (eApp (callN 3 f__law_some) (aCons (eVar 0) (aCons (eRgL (rg2 (eC (.int 1)) (eOp2 oAdd (eVar 3) (eC (.int 1))))) (aCons (eVar 3) aNil))))) (gNm 4) tYe (eOp2 (oInt gMul) (eVar 4) (eApp (callN 2 f__law_of) (aCons (eVar 0) (aCons (eLst (aCons (eC (.int 1)) (aCons (eOp1 oNeg (eC (.int 1))) aNil))) aNil)))) [4]) aNil)))
  sNil)))
/-! _law_near_home -/
abbrev N__law_near_home : List Str := ["pot", "low", "high", "row", "lap"]
def f__law_near_home : FN := fnB 5 ((sCons (sSet (eApp (callN 1 f__law_home) (aCons (eOp2 oAdd (eVar 1) (eApp (callN 2 f__law_take) (aCons (eVar 0) (aCons (eOp2 oAdd (eOp2 (oInt gSub) (eVar 2) (eVar 1)) (eC (.int 1))) aNil)))) aNil)) 3)
  (sCons (sFor (iR1 (eApp (callN 2 f__law_take) (aCons (eVar 0) (aCons (eC (.int 4)) aNil)))) (gNm 4) (sCons (sSet (eApp (callN 2 f__law_turned) (aCons (eVar 3) (aCons (eApp (callN 2 f__law_of) (aCons (eVar 0) (aCons (eApp (callN 1 f__law_turns) (aCons (eApp bLen (aCons (eVar 3) aNil)) aNil)) aNil))) aNil))) 3)
  sNil))
  (sCons (sRet (eVar 3))
  sNil))))
/-! law -/
abbrev N_law : List Str := ["script", "place", "pot", "lap", "row"]
def f_law : FN := fnB 5 ((sCons (sFor (iSeq (eApp (callN 2 f__law_cells) (aCons (eVar 0) (aCons (eC (.int 3)) aNil)))) (gNm 1) (sCons (sSet (eApp (callNM 2 f__law_pot) (aCons (eVar 0) (aCons (eVar 1) aNil))) 2)
  (sCons (sFor (iR1 (eC (.int 6))) (gNm 3) (sCons (sSet (eApp (callN 2 f__law_of) (aCons (eVar 2) (aCons (eLst (aCons (eApp (callN 3 f__law_row) (aCons (eVar 2) (aCons (eC (.int 1)) (aCons (eC (.int 8)) aNil)))) (aCons (eApp (callN 3 f__law_row) (aCons (eVar 2) (aCons (eC (.int 1)) (aCons (eC (.int 20)) aNil)))) (aCons (eApp (callN 3 f__law_near_home) (aCons (eVar 2) (aCons (eC (.int 1)) (aCons (eC (.int 20)) aNil)))) aNil)))) aNil))) 4)
  (sCons (sIf (tNt (tE (eApp (callN 2 f__law_is_right) (aCons (eVar 2) (aCons (eVar 4) aNil))))) (sCons (sRet (eC (.bool false)))
  sNil) sNil)
  sNil)))
  sNil)))
  (sCons (sRet (eAn (eOp2 cEq (eApp (callN 1 f_breaks) (aCons (eTup (aCons (eC (.int 1)) aNil)) aNil)) (eTup aNil)) (eOp2 cEq (eApp (callN 1 f_bundled) (aCons (eTup (aCons (eC (.int 1)) (aCons (eC (.int 2)) (aCons (eC (.int 3)) aNil)))) aNil)) (eTup (aCons (eC (.int 1)) aNil)))))
  sNil)))
section
variable {P : Program} {w : World} {c : Ct} {base : Heap} {f : Addr} {fd : FuncData}
theorem sc__law_cells : FnScope N__law_cells ["script", "most"] (defScope (top 35)) := ⟨rfl, rfl, rfl, by decide +kernel, rfl, by decide +kernel, by decide +kernel⟩
theorem ok__law_cells (F : FunD c.K "_law_cells" "_law_cells" (defArgs (top 35)) (defBody (top 35)) (defScope (top 35)) [] [] f fd) (b : Blt c) : FnG P w c base 1 f fd ["script", "most"] f__law_cells := by
  refine fun_okG F sc__law_cells fun cdv A outer s H E hr hgu => ?_
  have nd := sc__law_cells.nd
  have cx := cxg_of (P := P) (w := w) (c := c) (base := base) (N := N__law_cells) (qual := "_law_cells") (scope := defScope (top 35)) (f := f) (cdv := cdv) (A := A) (outer := outer) (s := s) (H := H) (E := E) hgu
  exact (s_scons (s_ret (s_rgL rfl rfl b.list_ (s_rg1 rfl b.range_ (v_blt (f_max2 rfl) rfl b.max_ bo_max (s_cons s_int (s_cons (v_blt (f_min2 rfl) rfl b.min_ bo_min (s_cons (v_v 1 rfl rfl) (s_cons (v_blt (f_len cx) rfl b.len_ bo_len (s_cons (v_v 0 rfl rfl) s_nil)) s_nil))) s_nil))))))
  s_snil)
theorem sc__law_pot : FnScope N__law_pot ["script", "place"] (defScope (top 31)) := ⟨rfl, rfl, rfl, by decide +kernel, rfl, by decide +kernel, by decide +kernel⟩
theorem ok__law_pot (F : FunD c.K "_law_pot" "_law_pot" (defArgs (top 31)) (defBody (top 31)) (defScope (top 31)) [] [] f fd) (b : Blt c) : FnG P w c base 1 f fd ["script", "place"] f__law_pot := by
  refine fun_okG F sc__law_pot fun cdv A outer s H E hr hgu => ?_
  have nd := sc__law_pot.nd
  have cx := cxg_of (P := P) (w := w) (c := c) (base := base) (N := N__law_pot) (qual := "_law_pot") (scope := defScope (top 31)) (f := f) (cdv := cdv) (A := A) (outer := outer) (s := s) (H := H) (E := E) hgu
  exact (s_scons (s_set (i := 2) nd rfl (loc_by rfl) (s_if (v_tcmp m_lt (v_v 1 rfl rfl) (v_blt (f_len cx) rfl b.len_ bo_len (s_cons (v_v 0 rfl rfl) s_nil))) (v_ix cx (v_v 0 rfl rfl) (v_v 1 rfl rfl)) (v_add cx (v_add cx (v_mod (v_blt (f_sum cx rfl) rfl b.sum_ bo_sum (s_cons (v_sl cx (v_v 0 rfl rfl) s_pno (s_psm s_int)) s_nil)) s_int) (v_mul s_int (v_v 1 rfl rfl))) s_int)))
  (s_scons (s_set (i := 3) nd rfl (loc_by rfl) (v_mul (v_mod (v_bty f_int rfl b.int_ bo_int (s_cons (v_blt (f_abs) rfl b.abs_ bo_abs (s_cons (v_v 2 rfl rfl) s_nil)) s_nil)) (v_pow (v_pow s_int s_int) s_int)) (v_bty f_int rfl b.int_ bo_int (s_cons (v_cmp m_ge (v_blt (f_abs) rfl b.abs_ bo_abs (s_cons (v_v 2 rfl rfl) s_nil)) (v_pow s_int s_int)) s_nil))))
  (s_scons (s_set (i := 4) nd rfl (loc_by rfl) (v_mod (v_bty f_int rfl b.int_ bo_int (s_cons (v_v 2 rfl rfl) s_nil)) s_int))
  (s_scons (s_ret (s_lstM (s_cons (v_v 3 rfl rfl) (s_cons (v_mod (v_bty f_int rfl b.int_ bo_int (s_cons (v_add cx (v_add cx (v_mul (v_v 4 rfl rfl) s_int) (v_mul (v_mul s_int (v_v 1 rfl rfl)) (v_v 1 rfl rfl))) s_int) s_nil)) s_int) (s_cons s_int s_nil)))))
  s_snil))))
theorem sc__law_take : FnScope N__law_take ["pot", "upto"] (defScope (top 32)) := ⟨rfl, rfl, rfl, by decide +kernel, rfl, by decide +kernel, by decide +kernel⟩
theorem ok__law_take (F : FunD c.K "_law_take" "_law_take" (defArgs (top 32)) (defBody (top 32)) (defScope (top 32)) [] [] f fd) (b : Blt c) : FnG P w c base 1 f fd ["pot", "upto"] f__law_take := by
  refine fun_okG F sc__law_take fun cdv A outer s H E hr hgu => ?_
  have nd := sc__law_take.nd
  have cx := cxg_of (P := P) (w := w) (c := c) (base := base) (N := N__law_take) (qual := "_law_take") (scope := defScope (top 32)) (f := f) (cdv := cdv) (A := A) (outer := outer) (s := s) (H := H) (E := E) hgu
  exact (s_scons (s_sif (v_tcmp m_gt (v_ix cx (v_v 0 rfl rfl) s_int) s_int) (s_scons (s_set (i := 4) nd rfl (loc_by rfl) (v_mod (v_bty f_int rfl b.int_ bo_int (s_cons (v_ix cx (v_v 0 rfl rfl) s_int) s_nil)) (v_v 1 rfl rfl)))
  (s_scons (s_as (v_div (v_ix cx (v_v 0 rfl rfl) s_int) (v_v 1 rfl rfl)) (s_gsb (v_v 0 rfl rfl) s_int) g_sb)
  (s_scons (s_ret (v_v 4 rfl rfl))
  s_snil))) s_snil)
  (s_scons (s_as (v_add cx (v_ix cx (v_v 0 rfl rfl) s_int) s_int) (s_gsb (v_v 0 rfl rfl) s_int) g_sb)
  (s_scons (s_set (i := 2) nd rfl (loc_by rfl) (v_ix cx (s_lst (s_cons s_int (s_cons s_int (s_cons s_int (s_cons s_int (s_cons s_int s_nil)))))) (v_mod (v_bty f_int rfl b.int_ bo_int (s_cons (v_ix cx (v_v 0 rfl rfl) s_int) s_nil)) s_int)))
  (s_scons (s_set (i := 3) nd rfl (loc_by rfl) (v_mod (v_bty f_int rfl b.int_ bo_int (s_cons (v_pow (v_bty f_int rfl b.int_ bo_int (s_cons (v_add cx (v_add cx (v_ix cx (v_v 0 rfl rfl) s_int) (v_mul (v_mul s_int (v_ix cx (v_v 0 rfl rfl) s_int)) (v_ix cx (v_v 0 rfl rfl) s_int))) s_int) s_nil)) s_int) s_nil)) (v_v 2 rfl rfl)))
  (s_scons (s_set (i := 3) nd rfl (loc_by rfl) (v_mod (v_bty f_int rfl b.int_ bo_int (s_cons (v_mul (v_v 3 rfl rfl) (v_add cx (v_mod (v_bty f_int rfl b.int_ bo_int (s_cons (v_v 3 rfl rfl) s_nil)) s_int) (v_mul s_int (v_ix cx (v_v 0 rfl rfl) s_int)))) s_nil)) s_int))
  (s_scons (s_ret (v_mod (v_bty f_int rfl b.int_ bo_int (s_cons (v_div (v_v 3 rfl rfl) s_int) s_nil)) (v_v 1 rfl rfl)))
  s_snil))))))
theorem sc__law_of : FnScope N__law_of ["pot", "some"] (defScope (top 33)) := ⟨rfl, rfl, rfl, by decide +kernel, rfl, by decide +kernel, by decide +kernel⟩
theorem ok__law_of (F : FunD c.K "_law_of" "_law_of" (defArgs (top 33)) (defBody (top 33)) (defScope (top 33)) [] [] f fd) (b : Blt c) (k__law_take : Kn P w c base 1 "_law_take" 2 f__law_take) : FnG P w c base 2 f fd ["pot", "some"] f__law_of := by
  refine fun_okG F sc__law_of fun cdv A outer s H E hr hgu => ?_
  have nd := sc__law_of.nd
  have cx := cxg_of (P := P) (w := w) (c := c) (base := base) (N := N__law_of) (qual := "_law_of") (scope := defScope (top 33)) (f := f) (cdv := cdv) (A := A) (outer := outer) (s := s) (H := H) (E := E) hgu
  exact (s_scons (s_ret (v_ix cx (v_v 1 rfl rfl) (v_kn cx hr k__law_take (by decide) rfl (s_cons (v_v 0 rfl rfl) (s_cons (v_blt (f_len cx) rfl b.len_ bo_len (s_cons (v_v 1 rfl rfl) s_nil)) s_nil)))))
  s_snil)
theorem sc_is_integer : FnScope N_is_integer ["value"] (defScope (top 6)) := ⟨rfl, rfl, rfl, by decide +kernel, rfl, by decide +kernel, by decide +kernel⟩
theorem ok_is_integer (F : FunD c.K "is_integer" "is_integer" (defArgs (top 6)) (defBody (top 6)) (defScope (top 6)) [] [] f fd) (b : Blt c) : FnG P w c base 1 f fd ["value"] f_is_integer := by
  refine fun_okG F sc_is_integer fun cdv A outer s H E hr hgu => ?_
  have nd := sc_is_integer.nd
  have cx := cxg_of (P := P) (w := w) (c := c) (base := base) (N := N_is_integer) (qual := "is_integer") (scope := defScope (top 6)) (f := f) (cdv := cdv) (A := A) (outer := outer) (s := s) (H := H) (E := E) hgu
  exact (s_scons (s_ret (s_and (s_isa cx rfl b.isinstance_ bo_isinstance rfl b.int_ bo_int (by decide) (v_v 0 rfl rfl)) (s_one (s_not (s_isa cx rfl b.isinstance_ bo_isinstance rfl b.bool_ bo_bool (by decide) (v_v 0 rfl rfl))))))
  s_snil)
theorem sc_is_row : FnScope N_is_row ["value"] (defScope (top 11)) := ⟨rfl, rfl, rfl, by decide +kernel, rfl, by decide +kernel, by decide +kernel⟩
theorem ok_is_row (F : FunD c.K "is_row" "is_row" (defArgs (top 11)) (defBody (top 11)) (defScope (top 11)) [] [] f fd) (b : Blt c) (k_is_integer : Kn P w c base 1 "is_integer" 1 f_is_integer) : FnG P w c base 2 f fd ["value"] f_is_row := by
  refine fun_okG F sc_is_row fun cdv A outer s H E hr hgu => ?_
  have nd := sc_is_row.nd
  have cx := cxg_of (P := P) (w := w) (c := c) (base := base) (N := N_is_row) (qual := "is_row") (scope := defScope (top 11)) (f := f) (cdv := cdv) (A := A) (outer := outer) (s := s) (H := H) (E := E) hgu
  exact (s_scons (s_sif (PW.pt (s_tor (s_tnot (s_tval (s_isa cx rfl b.isinstance_ bo_isinstance rfl b.tuple_ bo_tuple (by decide) (v_v 0 rfl rfl)))) (s_tor1 (s_tnot (v_tchain m_le m_le s_int (v_blt (f_len cx) rfl b.len_ bo_len (s_cons (v_v 0 rfl rfl) s_nil)) (s_gint rfl b.MOST_WAGONS_)))))) (s_scons (s_ret s_bool)
  s_snil) s_snil)
  (s_scons (s_sif (s_tnot (s_tval (v_blt (f_all cx rfl) rfl b.all_ bo_all (s_cons (s_lc rfl nd (s_iseq rfl (v_v 0 rfl rfl)) (own := [("one", 1)]) (blkOk_by (by kernel_rfl)) g_nm (fun s1 H1 C1 l1 f1 => (w_gnm (by decide) (pg_name (i := 1) nd rfl (loc_by rfl)))) (fun s1 H1 C1 l1 f1 => s_tnil) (fun s1 H1 C1 l1 f1 => (v_kn (Cxg.blk cx) hr k_is_integer (by decide) rfl (s_cons (v_v 1 rfl rfl) s_nil)))) s_nil)))) (s_scons (s_ret s_bool)
  s_snil) s_snil)
  (s_scons (s_ret (v_cmp (m_eq cx hr) (v_blt (f_sorted cx) rfl b.sorted_ bo_sorted (s_cons (s_lc rfl nd (s_iseq rfl (v_v 0 rfl rfl)) (own := [("one", 1)]) (blkOk_by (by kernel_rfl)) g_nm (fun s1 H1 C1 l1 f1 => (w_gnm (by decide) (pg_name (i := 1) nd rfl (loc_by rfl)))) (fun s1 H1 C1 l1 f1 => s_tnil) (fun s1 H1 C1 l1 f1 => (v_blt (f_abs) rfl b.abs_ bo_abs (s_cons (v_v 1 rfl rfl) s_nil)))) s_nil)) (s_rgL rfl rfl b.list_ (s_rg2 rfl b.range_ s_int (v_add cx (v_blt (f_len cx) rfl b.len_ bo_len (s_cons (v_v 0 rfl rfl) s_nil)) s_int)))))
  s_snil)))
theorem sc_check_row : FnScope N_check_row ["value"] (defScope (top 12)) := ⟨rfl, rfl, rfl, by decide +kernel, rfl, by decide +kernel, by decide +kernel⟩
theorem ok_check_row (F : FunD c.K "check_row" "check_row" (defArgs (top 12)) (defBody (top 12)) (defScope (top 12)) [] [] f fd) (b : Blt c) (k_is_row : Kn P w c base 2 "is_row" 1 f_is_row) : FnG P w c base 3 f fd ["value"] f_check_row := by
  refine fun_okG F sc_check_row fun cdv A outer s H E hr hgu => ?_
  have nd := sc_check_row.nd
  have cx := cxg_of (P := P) (w := w) (c := c) (base := base) (N := N_check_row) (qual := "check_row") (scope := defScope (top 12)) (f := f) (cdv := cdv) (A := A) (outer := outer) (s := s) (H := H) (E := E) hgu
  exact (s_scons (s_sif (s_tnot (s_tval (v_kn cx hr k_is_row (by decide) rfl (s_cons (v_v 0 rfl rfl) s_nil)))) (s_scons s_sbad
  s_snil) s_snil)
  s_snil)
theorem sc_outer : FnScope N_outer ["row"] (defScope (top 19)) := ⟨rfl, rfl, rfl, by decide +kernel, rfl, by decide +kernel, by decide +kernel⟩
theorem ok_outer (F : FunD c.K "outer" "outer" (defArgs (top 19)) (defBody (top 19)) (defScope (top 19)) [] [] f fd) (b : Blt c) : FnG P w c base 1 f fd ["row"] f_outer := by
  refine fun_okG F sc_outer fun cdv A outer s H E hr hgu => ?_
  have nd := sc_outer.nd
  have cx := cxg_of (P := P) (w := w) (c := c) (base := base) (N := N_outer) (qual := "outer") (scope := defScope (top 19)) (f := f) (cdv := cdv) (A := A) (outer := outer) (s := s) (H := H) (E := E) hgu
  exact (s_scons (s_ret (s_tup (s_cons s_int (s_star rfl rfl (v_v 0 rfl rfl) (s_cons (v_add cx (v_blt (f_len cx) rfl b.len_ bo_len (s_cons (v_v 0 rfl rfl) s_nil)) s_int) s_nil)))))
  s_snil)
theorem sc_broken_at : FnScope N_broken_at ["row", "point"] (defScope (top 20)) := ⟨rfl, rfl, rfl, by decide +kernel, rfl, by decide +kernel, by decide +kernel⟩
theorem ok_broken_at (F : FunD c.K "broken_at" "broken_at" (defArgs (top 20)) (defBody (top 20)) (defScope (top 20)) [] [] f fd) (b : Blt c) (k_outer : Kn P w c base 1 "outer" 1 f_outer) : FnG P w c base 2 f fd ["row", "point"] f_broken_at := by
  refine fun_okG F sc_broken_at fun cdv A outer s H E hr hgu => ?_
  have nd := sc_broken_at.nd
  have cx := cxg_of (P := P) (w := w) (c := c) (base := base) (N := N_broken_at) (qual := "broken_at") (scope := defScope (top 20)) (f := f) (cdv := cdv) (A := A) (outer := outer) (s := s) (H := H) (E := E) hgu
  exact (s_scons (s_set (i := 2) nd rfl (loc_by rfl) (v_kn cx hr k_outer (by decide) rfl (s_cons (v_v 0 rfl rfl) s_nil)))
  (s_scons (s_ret (v_cmp (m_ne cx hr) (v_ix cx (v_v 2 rfl rfl) (v_add cx (v_v 1 rfl rfl) s_int)) (v_add cx (v_ix cx (v_v 2 rfl rfl) (v_v 1 rfl rfl)) s_int)))
  s_snil))
theorem sc_broken_points : FnScope N_broken_points ["row"] (defScope (top 21)) := ⟨rfl, rfl, rfl, by decide +kernel, rfl, by decide +kernel, by decide +kernel⟩
theorem ok_broken_points (F : FunD c.K "broken_points" "broken_points" (defArgs (top 21)) (defBody (top 21)) (defScope (top 21)) [] [] f fd) (b : Blt c) (k_broken_at : Kn P w c base 2 "broken_at" 2 f_broken_at) : FnG P w c base 3 f fd ["row"] f_broken_points := by
  refine fun_okG F sc_broken_points fun cdv A outer s H E hr hgu => ?_
  have nd := sc_broken_points.nd
  have cx := cxg_of (P := P) (w := w) (c := c) (base := base) (N := N_broken_points) (qual := "broken_points") (scope := defScope (top 21)) (f := f) (cdv := cdv) (A := A) (outer := outer) (s := s) (H := H) (E := E) hgu
  exact (s_scons (s_ret (s_lc rfl nd (s_ir1 rfl b.range_ (v_add cx (v_blt (f_len cx) rfl b.len_ bo_len (s_cons (v_v 0 rfl rfl) s_nil)) s_int)) (own := [("point", 1)]) (blkOk_by (by kernel_rfl)) g_nm (fun s1 H1 C1 l1 f1 => (w_gnm (by decide) (pg_name (i := 1) nd rfl (loc_by rfl)))) (fun s1 H1 C1 l1 f1 => (s_tone (s_tval (v_kn (Cxg.blk cx) hr k_broken_at (by decide) rfl (s_cons (v_v 0 rfl rfl) (s_cons (v_v 1 rfl rfl) s_nil)))))) (fun s1 H1 C1 l1 f1 => (v_v 1 rfl rfl))))
  s_snil)
theorem sc_breaks : FnScope N_breaks ["row"] (defScope (top 23)) := ⟨rfl, rfl, rfl, by decide +kernel, rfl, by decide +kernel, by decide +kernel⟩
theorem ok_breaks (F : FunD c.K "breaks" "breaks" (defArgs (top 23)) (defBody (top 23)) (defScope (top 23)) [] [] f fd) (b : Blt c) (k_check_row : Kn P w c base 3 "check_row" 1 f_check_row) (k_broken_points : Kn P w c base 3 "broken_points" 1 f_broken_points) : FnG P w c base 4 f fd ["row"] f_breaks := by
  refine fun_okG F sc_breaks fun cdv A outer s H E hr hgu => ?_
  have nd := sc_breaks.nd
  have cx := cxg_of (P := P) (w := w) (c := c) (base := base) (N := N_breaks) (qual := "breaks") (scope := defScope (top 23)) (f := f) (cdv := cdv) (A := A) (outer := outer) (s := s) (H := H) (E := E) hgu
  exact (s_scons (s_ex (v_kn cx hr k_check_row (by decide) rfl (s_cons (v_v 0 rfl rfl) s_nil)))
  (s_scons (s_ret (v_bty (f_tuple cx) rfl b.tuple_ bo_tuple (s_cons (v_kn cx hr k_broken_points (by decide) rfl (s_cons (v_v 0 rfl rfl) s_nil)) s_nil)))
  s_snil))
theorem sc_strips_of : FnScope N_strips_of ["row"] (defScope (top 25)) := ⟨rfl, rfl, rfl, by decide +kernel, rfl, by decide +kernel, by decide +kernel⟩
theorem ok_strips_of (F : FunD c.K "strips_of" "strips_of" (defArgs (top 25)) (defBody (top 25)) (defScope (top 25)) [] [] f fd) (b : Blt c) (k_broken_points : Kn P w c base 3 "broken_points" 1 f_broken_points) : FnG P w c base 4 f fd ["row"] f_strips_of := by
  refine fun_okG F sc_strips_of fun cdv A outer s H E hr hgu => ?_
  have nd := sc_strips_of.nd
  have cx := cxg_of (P := P) (w := w) (c := c) (base := base) (N := N_strips_of) (qual := "strips_of") (scope := defScope (top 25)) (f := f) (cdv := cdv) (A := A) (outer := outer) (s := s) (H := H) (E := E) hgu
  exact (s_scons (s_set (i := 1) nd rfl (loc_by rfl) (s_srtSet cx rfl b.sorted_ rfl b.set_ (s_lst (s_cons s_int (s_cons (v_blt (f_len cx) rfl b.len_ bo_len (s_cons (v_v 0 rfl rfl) s_nil)) (s_star rfl rfl (v_kn cx hr k_broken_points (by decide) rfl (s_cons (v_v 0 rfl rfl) s_nil)) s_nil)))) rfl))
  (s_scons (s_ret (s_lc rfl nd (s_izp rfl rfl b.zip_ (v_v 1 rfl rfl) (v_sl cx (v_v 1 rfl rfl) (s_psm s_int) s_pno)) (own := [("one", 2), ("other", 3)]) (blkOk_by (by kernel_rfl)) (g_tp (g_scons g_nm (g_scons g_nm g_snil))) (fun s1 H1 C1 l1 f1 => (w_gtp rfl rfl (w_gscons (w_gnm (by decide) (pg_name (i := 2) nd rfl (loc_by rfl))) (w_gscons (w_gnm (by decide) (pg_name (i := 3) nd rfl (loc_by rfl))) w_gsnil)))) (fun s1 H1 C1 l1 f1 => s_tnil) (fun s1 H1 C1 l1 f1 => (s_tup (s_cons (v_add (Cxg.blk cx) (v_v 2 rfl rfl) s_int) (s_cons (v_v 3 rfl rfl) s_nil))))))
  s_snil))
theorem sc_bundled_of : FnScope N_bundled_of ["row"] (defScope (top 27)) := ⟨rfl, rfl, rfl, by decide +kernel, rfl, by decide +kernel, by decide +kernel⟩
theorem ok_bundled_of (F : FunD c.K "bundled_of" "bundled_of" (defArgs (top 27)) (defBody (top 27)) (defScope (top 27)) [] [] f fd) (b : Blt c) (k_strips_of : Kn P w c base 4 "strips_of" 1 f_strips_of) : FnG P w c base 5 f fd ["row"] f_bundled_of := by
  refine fun_okG F sc_bundled_of fun cdv A outer s H E hr hgu => ?_
  have nd := sc_bundled_of.nd
  have cx := cxg_of (P := P) (w := w) (c := c) (base := base) (N := N_bundled_of) (qual := "bundled_of") (scope := defScope (top 27)) (f := f) (cdv := cdv) (A := A) (outer := outer) (s := s) (H := H) (E := E) hgu
  exact (s_scons (by first | exact s_setLc (i := 1) rfl nd rfl rfl rfl (s_iseq rfl (v_kn cx hr k_strips_of (by decide) rfl (s_cons (v_v 0 rfl rfl) s_nil))) (own := [("first", 3), ("last", 4)]) (blkOk_by (by kernel_rfl)) (fun s1 H1 C1 l1 f1 => (w_gtp rfl rfl (w_gscons (w_gnm (by decide) (pg_name (i := 3) nd rfl (loc_by rfl))) (w_gscons (w_gnm (by decide) (pg_name (i := 4) nd rfl (loc_by rfl))) w_gsnil)))) (fun s1 H1 C1 l1 f1 => s_tnil) (fun s1 H1 C1 l1 f1 => (v_ix (Cxg.blk cx) (v_v 0 rfl rfl) (v_sub (v_v 3 rfl rfl) s_int))) (fun _ _ _ => tlc_fr (g_tp (g_scons g_nm (g_scons g_nm g_snil)))) | exact s_set (i := 1) nd rfl (loc_by rfl) (s_lc rfl nd (s_iseq rfl (v_kn cx hr k_strips_of (by decide) rfl (s_cons (v_v 0 rfl rfl) s_nil))) (own := [("first", 3), ("last", 4)]) (blkOk_by (by kernel_rfl)) (g_tp (g_scons g_nm (g_scons g_nm g_snil))) (fun s1 H1 C1 l1 f1 => (w_gtp rfl rfl (w_gscons (w_gnm (by decide) (pg_name (i := 3) nd rfl (loc_by rfl))) (w_gscons (w_gnm (by decide) (pg_name (i := 4) nd rfl (loc_by rfl))) w_gsnil)))) (fun s1 H1 C1 l1 f1 => s_tnil) (fun s1 H1 C1 l1 f1 => (v_ix (Cxg.blk cx) (v_v 0 rfl rfl) (v_sub (v_v 3 rfl rfl) s_int)))))
  (s_scons (s_set (i := 2) nd rfl (loc_by rfl) (v_blt (f_sorted cx) rfl b.sorted_ bo_sorted (s_cons (s_lc rfl nd (s_iseq rfl (v_v 1 rfl rfl)) (own := [("wagon", 5)]) (blkOk_by (by kernel_rfl)) g_nm (fun s1 H1 C1 l1 f1 => (w_gnm (by decide) (pg_name (i := 5) nd rfl (loc_by rfl)))) (fun s1 H1 C1 l1 f1 => s_tnil) (fun s1 H1 C1 l1 f1 => (v_blt (f_abs) rfl b.abs_ bo_abs (s_cons (v_v 5 rfl rfl) s_nil)))) s_nil)))
  (s_scons (s_ret (v_bty (f_tuple cx) rfl b.tuple_ bo_tuple (s_cons (s_lc rfl nd (s_iseq rfl (v_v 1 rfl rfl)) (own := [("wagon", 5)]) (blkOk_by (by kernel_rfl)) g_nm (fun s1 H1 C1 l1 f1 => (w_gnm (by decide) (pg_name (i := 5) nd rfl (loc_by rfl)))) (fun s1 H1 C1 l1 f1 => s_tnil) (fun s1 H1 C1 l1 f1 => (s_if (v_tcmp m_gt (v_v 5 rfl rfl) s_int) (v_add (Cxg.blk cx) (v_mt (Cxg.blk cx) (d_index (Cxg.blk cx) hr) (v_v 2 rfl rfl) (s_cons (v_blt (f_abs) rfl b.abs_ bo_abs (s_cons (v_v 5 rfl rfl) s_nil)) s_nil)) s_int) (v_sub (v_sub s_int (v_mt (Cxg.blk cx) (d_index (Cxg.blk cx) hr) (v_v 2 rfl rfl) (s_cons (v_blt (f_abs) rfl b.abs_ bo_abs (s_cons (v_v 5 rfl rfl) s_nil)) s_nil))) s_int)))) s_nil)))
  s_snil)))
theorem sc_bundled : FnScope N_bundled ["row"] (defScope (top 28)) := ⟨rfl, rfl, rfl, by decide +kernel, rfl, by decide +kernel, by decide +kernel⟩
theorem ok_bundled (F : FunD c.K "bundled" "bundled" (defArgs (top 28)) (defBody (top 28)) (defScope (top 28)) [] [] f fd) (b : Blt c) (k_check_row : Kn P w c base 3 "check_row" 1 f_check_row) (k_bundled_of : Kn P w c base 5 "bundled_of" 1 f_bundled_of) : FnG P w c base 6 f fd ["row"] f_bundled := by
  refine fun_okG F sc_bundled fun cdv A outer s H E hr hgu => ?_
  have nd := sc_bundled.nd
  have cx := cxg_of (P := P) (w := w) (c := c) (base := base) (N := N_bundled) (qual := "bundled") (scope := defScope (top 28)) (f := f) (cdv := cdv) (A := A) (outer := outer) (s := s) (H := H) (E := E) hgu
  exact (s_scons (s_ex (v_kn cx hr k_check_row (by decide) rfl (s_cons (v_v 0 rfl rfl) s_nil)))
  (s_scons (s_ret (v_kn cx hr k_bundled_of (by decide) rfl (s_cons (v_v 0 rfl rfl) s_nil)))
  s_snil))
theorem sc__law_breaks : FnScope N__law_breaks ["row"] (defScope (top 40)) := ⟨rfl, rfl, rfl, by decide +kernel, rfl, by decide +kernel, by decide +kernel⟩
theorem ok__law_breaks (F : FunD c.K "_law_breaks" "_law_breaks" (defArgs (top 40)) (defBody (top 40)) (defScope (top 40)) [] [] f fd) (b : Blt c) : FnG P w c base 1 f fd ["row"] f__law_breaks := by
  refine fun_okG F sc__law_breaks fun cdv A outer s H E hr hgu => ?_
  have nd := sc__law_breaks.nd
  have cx := cxg_of (P := P) (w := w) (c := c) (base := base) (N := N__law_breaks) (qual := "_law_breaks") (scope := defScope (top 40)) (f := f) (cdv := cdv) (A := A) (outer := outer) (s := s) (H := H) (E := E) hgu
  exact (s_scons (s_set (i := 1) nd rfl (loc_by rfl) (v_add cx (v_add cx (s_tup (s_cons s_int s_nil)) (v_v 0 rfl rfl)) (s_tup (s_cons (v_add cx (v_blt (f_len cx) rfl b.len_ bo_len (s_cons (v_v 0 rfl rfl) s_nil)) s_int) s_nil))))
  (s_scons (s_ret (v_bty (f_tuple cx) rfl b.tuple_ bo_tuple (s_cons (s_lc rfl nd (s_ir1 rfl b.range_ (v_add cx (v_blt (f_len cx) rfl b.len_ bo_len (s_cons (v_v 0 rfl rfl) s_nil)) s_int)) (own := [("point", 2)]) (blkOk_by (by kernel_rfl)) g_nm (fun s1 H1 C1 l1 f1 => (w_gnm (by decide) (pg_name (i := 2) nd rfl (loc_by rfl)))) (fun s1 H1 C1 l1 f1 => (s_tone (v_tcmp (m_ne (Cxg.blk cx) hr) (v_add (Cxg.blk cx) (v_ix (Cxg.blk cx) (v_v 1 rfl rfl) (v_v 2 rfl rfl)) s_int) (v_ix (Cxg.blk cx) (v_v 1 rfl rfl) (v_add (Cxg.blk cx) (v_v 2 rfl rfl) s_int))))) (fun s1 H1 C1 l1 f1 => (v_v 2 rfl rfl))) s_nil)))
  s_snil))
theorem sc__law_turns : FnScope N__law_turns ["many"] (defScope (top 38)) := ⟨rfl, rfl, rfl, by decide +kernel, rfl, by decide +kernel, by decide +kernel⟩
theorem ok__law_turns (F : FunD c.K "_law_turns" "_law_turns" (defArgs (top 38)) (defBody (top 38)) (defScope (top 38)) [] [] f fd) (b : Blt c) : FnG P w c base 1 f fd ["many"] f__law_turns := by
  refine fun_okG F sc__law_turns fun cdv A outer s H E hr hgu => ?_
  have nd := sc__law_turns.nd
  have cx := cxg_of (P := P) (w := w) (c := c) (base := base) (N := N__law_turns) (qual := "_law_turns") (scope := defScope (top 38)) (f := f) (cdv := cdv) (A := A) (outer := outer) (s := s) (H := H) (E := E) hgu
  exact (s_scons (s_set (i := 1) nd rfl (loc_by rfl) (s_lstM s_nil))
  (s_scons (s_for (passes_of rfl) rfl (s_ir2 rfl b.range_ s_int (v_add cx (v_v 0 rfl rfl) s_int)) (s_gnm (pg_name (i := 2) nd rfl (loc_by rfl))) g_nm (s_scons (s_ex (v_mt cx d_extend (v_v 1 rfl rfl) (s_cons (s_lc rfl nd (s_ir2 rfl b.range_ (v_v 2 rfl rfl) (v_add cx (v_v 0 rfl rfl) s_int)) (own := [("last", 3)]) (blkOk_by (by kernel_rfl)) g_nm (fun s1 H1 C1 l1 f1 => (w_gnm (by decide) (pg_name (i := 3) nd rfl (loc_by rfl)))) (fun s1 H1 C1 l1 f1 => s_tnil) (fun s1 H1 C1 l1 f1 => (s_tup (s_cons (v_v 2 rfl rfl) (s_cons (v_v 3 rfl rfl) s_nil))))) s_nil)))
  s_snil))
  (s_scons (s_ret (v_v 1 rfl rfl))
  s_snil)))
theorem sc_strips : FnScope N_strips ["row"] (defScope (top 26)) := ⟨rfl, rfl, rfl, by decide +kernel, rfl, by decide +kernel, by decide +kernel⟩
theorem ok_strips (F : FunD c.K "strips" "strips" (defArgs (top 26)) (defBody (top 26)) (defScope (top 26)) [] [] f fd) (b : Blt c) (k_check_row : Kn P w c base 3 "check_row" 1 f_check_row) (k_strips_of : Kn P w c base 4 "strips_of" 1 f_strips_of) : FnG P w c base 5 f fd ["row"] f_strips := by
  refine fun_okG F sc_strips fun cdv A outer s H E hr hgu => ?_
  have nd := sc_strips.nd
  have cx := cxg_of (P := P) (w := w) (c := c) (base := base) (N := N_strips) (qual := "strips") (scope := defScope (top 26)) (f := f) (cdv := cdv) (A := A) (outer := outer) (s := s) (H := H) (E := E) hgu
  exact (s_scons (s_ex (v_kn cx hr k_check_row (by decide) rfl (s_cons (v_v 0 rfl rfl) s_nil)))
  (s_scons (s_ret (v_bty (f_tuple cx) rfl b.tuple_ bo_tuple (s_cons (v_kn cx hr k_strips_of (by decide) rfl (s_cons (v_v 0 rfl rfl) s_nil)) s_nil)))
  s_snil))
theorem sc__law_strips : FnScope N__law_strips ["row"] (defScope (top 41)) := ⟨rfl, rfl, rfl, by decide +kernel, rfl, by decide +kernel, by decide +kernel⟩
theorem ok__law_strips (F : FunD c.K "_law_strips" "_law_strips" (defArgs (top 41)) (defBody (top 41)) (defScope (top 41)) [] [] f fd) (b : Blt c) : FnG P w c base 1 f fd ["row"] f__law_strips := by
  refine fun_okG F sc__law_strips fun cdv A outer s H E hr hgu => ?_
  have nd := sc__law_strips.nd
  have cx := cxg_of (P := P) (w := w) (c := c) (base := base) (N := N__law_strips) (qual := "_law_strips") (scope := defScope (top 41)) (f := f) (cdv := cdv) (A := A) (outer := outer) (s := s) (H := H) (E := E) hgu
  exact (s_scons (s_par (i := 2) (j := 3) rfl nd rfl rfl (by decide) rfl rfl (s_cons (s_lstM s_nil) (s_cons s_int s_nil)) rfl)
  (s_scons (s_for (passes_of rfl) rfl (s_ir2 rfl b.range_ s_int (v_add cx (v_blt (f_len cx) rfl b.len_ bo_len (s_cons (v_v 0 rfl rfl) s_nil)) s_int)) (s_gnm (pg_name (i := 1) nd rfl (loc_by rfl))) g_nm (s_scons (s_sif (PW.pt (s_tor (v_tcmp (m_eq cx hr) (v_v 1 rfl rfl) (v_blt (f_len cx) rfl b.len_ bo_len (s_cons (v_v 0 rfl rfl) s_nil))) (s_tor1 (v_tcmp (m_ne cx hr) (v_ix cx (v_v 0 rfl rfl) (v_v 1 rfl rfl)) (v_add cx (v_ix cx (v_v 0 rfl rfl) (v_sub (v_v 1 rfl rfl) s_int)) s_int))))) (s_scons (s_ex (v_mt cx d_append (v_v 2 rfl rfl) (s_cons (s_tup (s_cons (v_v 3 rfl rfl) (s_cons (v_v 1 rfl rfl) s_nil))) s_nil)))
  (s_scons (s_set (i := 3) nd rfl (loc_by rfl) (v_add cx (v_v 1 rfl rfl) s_int))
  s_snil)) s_snil)
  s_snil))
  (s_scons (s_ret (v_bty (f_tuple cx) rfl b.tuple_ bo_tuple (s_cons (v_v 2 rfl rfl) s_nil)))
  s_snil)))
theorem sc__law_bundled : FnScope N__law_bundled ["row"] (defScope (top 42)) := ⟨rfl, rfl, rfl, by decide +kernel, rfl, by decide +kernel, by decide +kernel⟩
theorem ok__law_bundled (F : FunD c.K "_law_bundled" "_law_bundled" (defArgs (top 42)) (defBody (top 42)) (defScope (top 42)) [] [] f fd) (b : Blt c) (k__law_strips : Kn P w c base 1 "_law_strips" 1 f__law_strips) : FnG P w c base 2 f fd ["row"] f__law_bundled := by
  refine fun_okG F sc__law_bundled fun cdv A outer s H E hr hgu => ?_
  have nd := sc__law_bundled.nd
  have cx := cxg_of (P := P) (w := w) (c := c) (base := base) (N := N__law_bundled) (qual := "_law_bundled") (scope := defScope (top 42)) (f := f) (cdv := cdv) (A := A) (outer := outer) (s := s) (H := H) (E := E) hgu
  exact (s_scons (by first | exact s_setLc (i := 1) rfl nd rfl rfl rfl (s_iseq rfl (v_kn cx hr k__law_strips (by decide) rfl (s_cons (v_v 0 rfl rfl) s_nil))) (own := [("first", 5), ("last", 6)]) (blkOk_by (by kernel_rfl)) (fun s1 H1 C1 l1 f1 => (w_gtp rfl rfl (w_gscons (w_gnm (by decide) (pg_name (i := 5) nd rfl (loc_by rfl))) (w_gscons (w_gnm (by decide) (pg_name (i := 6) nd rfl (loc_by rfl))) w_gsnil)))) (fun s1 H1 C1 l1 f1 => s_tnil) (fun s1 H1 C1 l1 f1 => (v_ix (Cxg.blk cx) (v_v 0 rfl rfl) (v_sub (v_v 5 rfl rfl) s_int))) (fun _ _ _ => tlc_fr (g_tp (g_scons g_nm (g_scons g_nm g_snil)))) | exact s_set (i := 1) nd rfl (loc_by rfl) (s_lc rfl nd (s_iseq rfl (v_kn cx hr k__law_strips (by decide) rfl (s_cons (v_v 0 rfl rfl) s_nil))) (own := [("first", 5), ("last", 6)]) (blkOk_by (by kernel_rfl)) (g_tp (g_scons g_nm (g_scons g_nm g_snil))) (fun s1 H1 C1 l1 f1 => (w_gtp rfl rfl (w_gscons (w_gnm (by decide) (pg_name (i := 5) nd rfl (loc_by rfl))) (w_gscons (w_gnm (by decide) (pg_name (i := 6) nd rfl (loc_by rfl))) w_gsnil)))) (fun s1 H1 C1 l1 f1 => s_tnil) (fun s1 H1 C1 l1 f1 => (v_ix (Cxg.blk cx) (v_v 0 rfl rfl) (v_sub (v_v 5 rfl rfl) s_int)))))
  (s_scons (s_set (i := 2) nd rfl (loc_by rfl) (s_lstM s_nil))
  (s_scons (s_for (passes_of rfl) rfl (s_iseq rfl (v_v 1 rfl rfl)) (s_gnm (pg_name (i := 3) nd rfl (loc_by rfl))) g_nm (s_scons (s_set (i := 4) nd rfl (loc_by rfl) (v_blt (f_len cx) rfl b.len_ bo_len (s_cons (s_lc rfl nd (s_iseq rfl (v_v 1 rfl rfl)) (own := [("it", 7)]) (blkOk_by (by kernel_rfl)) g_nm (fun s1 H1 C1 l1 f1 => (w_gnm (by decide) (pg_name (i := 7) nd rfl (loc_by rfl)))) (fun s1 H1 C1 l1 f1 => (s_tone (v_tcmp m_le (v_blt (f_abs) rfl b.abs_ bo_abs (s_cons (v_v 7 rfl rfl) s_nil)) (v_blt (f_abs) rfl b.abs_ bo_abs (s_cons (v_v 3 rfl rfl) s_nil))))) (fun s1 H1 C1 l1 f1 => (v_v 7 rfl rfl))) s_nil)))
  (s_scons (s_ex (v_mt cx d_append (v_v 2 rfl rfl) (s_cons (s_if (v_tcmp m_gt (v_v 3 rfl rfl) s_int) (v_v 4 rfl rfl) (v_neg (v_v 4 rfl rfl))) s_nil)))
  s_snil)))
  (s_scons (s_ret (v_bty (f_tuple cx) rfl b.tuple_ bo_tuple (s_cons (v_v 2 rfl rfl) s_nil)))
  s_snil))))
theorem sc__law_home : FnScope N__law_home ["many"] (defScope (top 39)) := ⟨rfl, rfl, rfl, by decide +kernel, rfl, by decide +kernel, by decide +kernel⟩
theorem ok__law_home (F : FunD c.K "_law_home" "_law_home" (defArgs (top 39)) (defBody (top 39)) (defScope (top 39)) [] [] f fd) (b : Blt c) : FnG P w c base 1 f fd ["many"] f__law_home := by
  refine fun_okG F sc__law_home fun cdv A outer s H E hr hgu => ?_
  have nd := sc__law_home.nd
  have cx := cxg_of (P := P) (w := w) (c := c) (base := base) (N := N__law_home) (qual := "_law_home") (scope := defScope (top 39)) (f := f) (cdv := cdv) (A := A) (outer := outer) (s := s) (H := H) (E := E) hgu
  exact (s_scons (s_ret (s_rgT rfl rfl b.tuple_ (s_rg2 rfl b.range_ s_int (v_add cx (v_v 0 rfl rfl) s_int))))
  s_snil)
theorem sc_is_between : FnScope N_is_between ["value", "low", "high"] (defScope (top 7)) := ⟨rfl, rfl, rfl, by decide +kernel, rfl, by decide +kernel, by decide +kernel⟩
theorem ok_is_between (F : FunD c.K "is_between" "is_between" (defArgs (top 7)) (defBody (top 7)) (defScope (top 7)) [] [] f fd) (b : Blt c) (k_is_integer : Kn P w c base 1 "is_integer" 1 f_is_integer) : FnG P w c base 2 f fd ["value", "low", "high"] f_is_between := by
  refine fun_okG F sc_is_between fun cdv A outer s H E hr hgu => ?_
  have nd := sc_is_between.nd
  have cx := cxg_of (P := P) (w := w) (c := c) (base := base) (N := N_is_between) (qual := "is_between") (scope := defScope (top 7)) (f := f) (cdv := cdv) (A := A) (outer := outer) (s := s) (H := H) (E := E) hgu
  exact (s_scons (s_ret (s_and (v_kn cx hr k_is_integer (by decide) rfl (s_cons (v_v 0 rfl rfl) s_nil)) (s_one (v_chain m_le m_le (v_v 1 rfl rfl) (v_v 0 rfl rfl) (v_v 2 rfl rfl)))))
  s_snil)
theorem sc_are_between : FnScope N_are_between ["value", "low", "high"] (defScope (top 8)) := ⟨rfl, rfl, rfl, by decide +kernel, rfl, by decide +kernel, by decide +kernel⟩
theorem ok_are_between (F : FunD c.K "are_between" "are_between" (defArgs (top 8)) (defBody (top 8)) (defScope (top 8)) [] [] f fd) (b : Blt c) (k_is_between : Kn P w c base 2 "is_between" 3 f_is_between) : FnG P w c base 3 f fd ["value", "low", "high"] f_are_between := by
  refine fun_okG F sc_are_between fun cdv A outer s H E hr hgu => ?_
  have nd := sc_are_between.nd
  have cx := cxg_of (P := P) (w := w) (c := c) (base := base) (N := N_are_between) (qual := "are_between") (scope := defScope (top 8)) (f := f) (cdv := cdv) (A := A) (outer := outer) (s := s) (H := H) (E := E) hgu
  exact (s_scons (s_ret (s_and (s_isa cx rfl b.isinstance_ bo_isinstance rfl b.tuple_ bo_tuple (by decide) (v_v 0 rfl rfl)) (s_one (v_blt (f_all cx rfl) rfl b.all_ bo_all (s_cons (s_lc rfl nd (s_iseq rfl (v_v 0 rfl rfl)) (own := [("one", 3)]) (blkOk_by (by kernel_rfl)) g_nm (fun s1 H1 C1 l1 f1 => (w_gnm (by decide) (pg_name (i := 3) nd rfl (loc_by rfl)))) (fun s1 H1 C1 l1 f1 => s_tnil) (fun s1 H1 C1 l1 f1 => (v_kn (Cxg.blk cx) hr k_is_between (by decide) rfl (s_cons (v_v 3 rfl rfl) (s_cons (v_v 1 rfl rfl) (s_cons (v_v 2 rfl rfl) s_nil)))))) s_nil)))))
  s_snil)
theorem sc_is_turn_of : FnScope N_is_turn_of ["many", "value"] (defScope (top 14)) := ⟨rfl, rfl, rfl, by decide +kernel, rfl, by decide +kernel, by decide +kernel⟩
theorem ok_is_turn_of (F : FunD c.K "is_turn_of" "is_turn_of" (defArgs (top 14)) (defBody (top 14)) (defScope (top 14)) [] [] f fd) (b : Blt c) (k_are_between : Kn P w c base 3 "are_between" 3 f_are_between) : FnG P w c base 4 f fd ["many", "value"] f_is_turn_of := by
  refine fun_okG F sc_is_turn_of fun cdv A outer s H E hr hgu => ?_
  have nd := sc_is_turn_of.nd
  have cx := cxg_of (P := P) (w := w) (c := c) (base := base) (N := N_is_turn_of) (qual := "is_turn_of") (scope := defScope (top 14)) (f := f) (cdv := cdv) (A := A) (outer := outer) (s := s) (H := H) (E := E) hgu
  exact (s_scons (s_ret (s_and (v_kn cx hr k_are_between (by decide) rfl (s_cons (v_v 1 rfl rfl) (s_cons s_int (s_cons (v_v 0 rfl rfl) s_nil)))) (s_and (v_cmp (m_eq cx hr) (v_blt (f_len cx) rfl b.len_ bo_len (s_cons (v_v 1 rfl rfl) s_nil)) s_int) (s_one (v_cmp m_le (v_ix cx (v_v 1 rfl rfl) s_int) (v_ix cx (v_v 1 rfl rfl) s_int))))))
  s_snil)
theorem sc_check_turn : FnScope N_check_turn ["row", "turn"] (defScope (top 15)) := ⟨rfl, rfl, rfl, by decide +kernel, rfl, by decide +kernel, by decide +kernel⟩
theorem ok_check_turn (F : FunD c.K "check_turn" "check_turn" (defArgs (top 15)) (defBody (top 15)) (defScope (top 15)) [] [] f fd) (b : Blt c) (k_check_row : Kn P w c base 3 "check_row" 1 f_check_row) (k_is_turn_of : Kn P w c base 4 "is_turn_of" 2 f_is_turn_of) : FnG P w c base 5 f fd ["row", "turn"] f_check_turn := by
  refine fun_okG F sc_check_turn fun cdv A outer s H E hr hgu => ?_
  have nd := sc_check_turn.nd
  have cx := cxg_of (P := P) (w := w) (c := c) (base := base) (N := N_check_turn) (qual := "check_turn") (scope := defScope (top 15)) (f := f) (cdv := cdv) (A := A) (outer := outer) (s := s) (H := H) (E := E) hgu
  exact (s_scons (s_ex (v_kn cx hr k_check_row (by decide) rfl (s_cons (v_v 0 rfl rfl) s_nil)))
  (s_scons (s_sif (s_tnot (s_tval (v_kn cx hr k_is_turn_of (by decide) rfl (s_cons (v_blt (f_len cx) rfl b.len_ bo_len (s_cons (v_v 0 rfl rfl) s_nil)) (s_cons (v_v 1 rfl rfl) s_nil))))) (s_scons s_sbad
  s_snil) s_snil)
  s_snil))
theorem sc_do_turn : FnScope N_do_turn ["row", "turn"] (defScope (top 16)) := ⟨rfl, rfl, rfl, by decide +kernel, rfl, by decide +kernel, by decide +kernel⟩
theorem ok_do_turn (F : FunD c.K "do_turn" "do_turn" (defArgs (top 16)) (defBody (top 16)) (defScope (top 16)) [] [] f fd) (b : Blt c) : FnG P w c base 1 f fd ["row", "turn"] f_do_turn := by
  refine fun_okG F sc_do_turn fun cdv A outer s H E hr hgu => ?_
  have nd := sc_do_turn.nd
  have cx := cxg_of (P := P) (w := w) (c := c) (base := base) (N := N_do_turn) (qual := "do_turn") (scope := defScope (top 16)) (f := f) (cdv := cdv) (A := A) (outer := outer) (s := s) (H := H) (E := E) hgu
  exact (s_scons (s_as (v_v 1 rfl rfl) (s_gtp rfl rfl (s_gscons (s_gnm (pg_name (i := 3) nd rfl (loc_by rfl))) (s_gscons (s_gnm (pg_name (i := 4) nd rfl (loc_by rfl))) s_gsnil))) (g_tp (g_scons g_nm (g_scons g_nm g_snil))))
  (s_scons (s_set (i := 2) nd rfl (loc_by rfl) (v_bty (f_tuple cx) rfl b.tuple_ bo_tuple (s_cons (s_lc rfl nd (s_iseq rfl (s_rev cx (v_sl cx (v_v 0 rfl rfl) (s_psm (v_sub (v_v 3 rfl rfl) s_int)) (s_psm (v_v 4 rfl rfl))))) (own := [("wagon", 5)]) (blkOk_by (by kernel_rfl)) g_nm (fun s1 H1 C1 l1 f1 => (w_gnm (by decide) (pg_name (i := 5) nd rfl (loc_by rfl)))) (fun s1 H1 C1 l1 f1 => s_tnil) (fun s1 H1 C1 l1 f1 => (v_sub s_int (v_v 5 rfl rfl)))) s_nil)))
  (s_scons (s_ret (v_add cx (v_add cx (v_sl cx (v_v 0 rfl rfl) s_pno (s_psm (v_sub (v_v 3 rfl rfl) s_int))) (v_v 2 rfl rfl)) (v_sl cx (v_v 0 rfl rfl) (s_psm (v_v 4 rfl rfl)) s_pno)))
  s_snil)))
theorem sc_mended : FnScope N_mended ["row", "turn"] (defScope (top 29)) := ⟨rfl, rfl, rfl, by decide +kernel, rfl, by decide +kernel, by decide +kernel⟩
theorem ok_mended (F : FunD c.K "mended" "mended" (defArgs (top 29)) (defBody (top 29)) (defScope (top 29)) [] [] f fd) (b : Blt c) (k_check_turn : Kn P w c base 5 "check_turn" 2 f_check_turn) (k_broken_points : Kn P w c base 3 "broken_points" 1 f_broken_points) (k_do_turn : Kn P w c base 1 "do_turn" 2 f_do_turn) : FnG P w c base 6 f fd ["row", "turn"] f_mended := by
  refine fun_okG F sc_mended fun cdv A outer s H E hr hgu => ?_
  have nd := sc_mended.nd
  have cx := cxg_of (P := P) (w := w) (c := c) (base := base) (N := N_mended) (qual := "mended") (scope := defScope (top 29)) (f := f) (cdv := cdv) (A := A) (outer := outer) (s := s) (H := H) (E := E) hgu
  exact (s_scons (s_ex (v_kn cx hr k_check_turn (by decide) rfl (s_cons (v_v 0 rfl rfl) (s_cons (v_v 1 rfl rfl) s_nil))))
  (s_scons (s_ret (v_sub (v_blt (f_len cx) rfl b.len_ bo_len (s_cons (v_kn cx hr k_broken_points (by decide) rfl (s_cons (v_v 0 rfl rfl) s_nil)) s_nil)) (v_blt (f_len cx) rfl b.len_ bo_len (s_cons (v_kn cx hr k_broken_points (by decide) rfl (s_cons (v_kn cx hr k_do_turn (by decide) rfl (s_cons (v_v 0 rfl rfl) (s_cons (v_v 1 rfl rfl) s_nil))) s_nil)) s_nil))))
  s_snil))
theorem sc__law_turned : FnScope N__law_turned ["row", "turn"] (defScope (top 37)) := ⟨rfl, rfl, rfl, by decide +kernel, rfl, by decide +kernel, by decide +kernel⟩
theorem ok__law_turned (F : FunD c.K "_law_turned" "_law_turned" (defArgs (top 37)) (defBody (top 37)) (defScope (top 37)) [] [] f fd) (b : Blt c) : FnG P w c base 1 f fd ["row", "turn"] f__law_turned := by
  refine fun_okG F sc__law_turned fun cdv A outer s H E hr hgu => ?_
  have nd := sc__law_turned.nd
  have cx := cxg_of (P := P) (w := w) (c := c) (base := base) (N := N__law_turned) (qual := "_law_turned") (scope := defScope (top 37)) (f := f) (cdv := cdv) (A := A) (outer := outer) (s := s) (H := H) (E := E) hgu
  exact (s_scons (s_as (v_v 1 rfl rfl) (s_gtp rfl rfl (s_gscons (s_gnm (pg_name (i := 2) nd rfl (loc_by rfl))) (s_gscons (s_gnm (pg_name (i := 3) nd rfl (loc_by rfl))) s_gsnil))) (g_tp (g_scons g_nm (g_scons g_nm g_snil))))
  (s_scons (s_ret (v_add cx (v_add cx (v_sl cx (v_v 0 rfl rfl) s_pno (s_psm (v_sub (v_v 2 rfl rfl) s_int))) (v_bty (f_tuple cx) rfl b.tuple_ bo_tuple (s_cons (s_rev cx (s_lc rfl nd (s_iseq rfl (v_sl cx (v_v 0 rfl rfl) (s_psm (v_sub (v_v 2 rfl rfl) s_int)) (s_psm (v_v 3 rfl rfl)))) (own := [("wagon", 4)]) (blkOk_by (by kernel_rfl)) g_nm (fun s1 H1 C1 l1 f1 => (w_gnm (by decide) (pg_name (i := 4) nd rfl (loc_by rfl)))) (fun s1 H1 C1 l1 f1 => s_tnil) (fun s1 H1 C1 l1 f1 => (v_neg (v_v 4 rfl rfl))))) s_nil))) (v_sl cx (v_v 0 rfl rfl) (s_psm (v_v 3 rfl rfl)) s_pno)))
  s_snil))
theorem sc_turned : FnScope N_turned ["row", "turn"] (defScope (top 17)) := ⟨rfl, rfl, rfl, by decide +kernel, rfl, by decide +kernel, by decide +kernel⟩
theorem ok_turned (F : FunD c.K "turned" "turned" (defArgs (top 17)) (defBody (top 17)) (defScope (top 17)) [] [] f fd) (b : Blt c) (k_check_turn : Kn P w c base 5 "check_turn" 2 f_check_turn) (k_do_turn : Kn P w c base 1 "do_turn" 2 f_do_turn) : FnG P w c base 6 f fd ["row", "turn"] f_turned := by
  refine fun_okG F sc_turned fun cdv A outer s H E hr hgu => ?_
  have nd := sc_turned.nd
  have cx := cxg_of (P := P) (w := w) (c := c) (base := base) (N := N_turned) (qual := "turned") (scope := defScope (top 17)) (f := f) (cdv := cdv) (A := A) (outer := outer) (s := s) (H := H) (E := E) hgu
  exact (s_scons (s_ex (v_kn cx hr k_check_turn (by decide) rfl (s_cons (v_v 0 rfl rfl) (s_cons (v_v 1 rfl rfl) s_nil))))
  (s_scons (s_ret (v_kn cx hr k_do_turn (by decide) rfl (s_cons (v_v 0 rfl rfl) (s_cons (v_v 1 rfl rfl) s_nil))))
  s_snil))
theorem sc_check_point : FnScope N_check_point ["row", "point"] (defScope (top 22)) := ⟨rfl, rfl, rfl, by decide +kernel, rfl, by decide +kernel, by decide +kernel⟩
theorem ok_check_point (F : FunD c.K "check_point" "check_point" (defArgs (top 22)) (defBody (top 22)) (defScope (top 22)) [] [] f fd) (b : Blt c) (k_check_row : Kn P w c base 3 "check_row" 1 f_check_row) (k_is_between : Kn P w c base 2 "is_between" 3 f_is_between) : FnG P w c base 4 f fd ["row", "point"] f_check_point := by
  refine fun_okG F sc_check_point fun cdv A outer s H E hr hgu => ?_
  have nd := sc_check_point.nd
  have cx := cxg_of (P := P) (w := w) (c := c) (base := base) (N := N_check_point) (qual := "check_point") (scope := defScope (top 22)) (f := f) (cdv := cdv) (A := A) (outer := outer) (s := s) (H := H) (E := E) hgu
  exact (s_scons (s_ex (v_kn cx hr k_check_row (by decide) rfl (s_cons (v_v 0 rfl rfl) s_nil)))
  (s_scons (s_sif (s_tnot (s_tval (v_kn cx hr k_is_between (by decide) rfl (s_cons (v_v 1 rfl rfl) (s_cons s_int (s_cons (v_blt (f_len cx) rfl b.len_ bo_len (s_cons (v_v 0 rfl rfl) s_nil)) s_nil)))))) (s_scons s_sbad
  s_snil) s_snil)
  s_snil))
theorem sc_is_broken : FnScope N_is_broken ["row", "point"] (defScope (top 24)) := ⟨rfl, rfl, rfl, by decide +kernel, rfl, by decide +kernel, by decide +kernel⟩
theorem ok_is_broken (F : FunD c.K "is_broken" "is_broken" (defArgs (top 24)) (defBody (top 24)) (defScope (top 24)) [] [] f fd) (b : Blt c) (k_check_point : Kn P w c base 4 "check_point" 2 f_check_point) (k_broken_at : Kn P w c base 2 "broken_at" 2 f_broken_at) : FnG P w c base 5 f fd ["row", "point"] f_is_broken := by
  refine fun_okG F sc_is_broken fun cdv A outer s H E hr hgu => ?_
  have nd := sc_is_broken.nd
  have cx := cxg_of (P := P) (w := w) (c := c) (base := base) (N := N_is_broken) (qual := "is_broken") (scope := defScope (top 24)) (f := f) (cdv := cdv) (A := A) (outer := outer) (s := s) (H := H) (E := E) hgu
  exact (s_scons (s_ex (v_kn cx hr k_check_point (by decide) rfl (s_cons (v_v 0 rfl rfl) (s_cons (v_v 1 rfl rfl) s_nil))))
  (s_scons (s_ret (v_kn cx hr k_broken_at (by decide) rfl (s_cons (v_v 0 rfl rfl) (s_cons (v_v 1 rfl rfl) s_nil))))
  s_snil))
theorem sc__law_is_right : FnScope N__law_is_right ["pot", "row"] (defScope (top 44)) := ⟨rfl, rfl, rfl, by decide +kernel, rfl, by decide +kernel, by decide +kernel⟩
theorem ok__law_is_right (F : FunD c.K "_law_is_right" "_law_is_right" (defArgs (top 44)) (defBody (top 44)) (defScope (top 44)) [] [] f fd) (b : Blt c) (k__law_breaks : Kn P w c base 1 "_law_breaks" 1 f__law_breaks) (k_breaks : Kn P w c base 4 "breaks" 1 f_breaks) (k_strips : Kn P w c base 5 "strips" 1 f_strips) (k_bundled : Kn P w c base 6 "bundled" 1 f_bundled) (k__law_strips : Kn P w c base 1 "_law_strips" 1 f__law_strips) (k__law_bundled : Kn P w c base 2 "_law_bundled" 1 f__law_bundled) (k_is_broken : Kn P w c base 5 "is_broken" 2 f_is_broken) (k__law_home : Kn P w c base 1 "_law_home" 1 f__law_home) (k__law_of : Kn P w c base 2 "_law_of" 2 f__law_of) (k__law_turns : Kn P w c base 1 "_law_turns" 1 f__law_turns) (k__law_turned : Kn P w c base 1 "_law_turned" 2 f__law_turned) (k_mended : Kn P w c base 6 "mended" 2 f_mended) (k_turned : Kn P w c base 6 "turned" 2 f_turned) : FnG P w c base 7 f fd ["pot", "row"] f__law_is_right := by
  refine fun_okG F sc__law_is_right fun cdv A outer s H E hr hgu => ?_
  have nd := sc__law_is_right.nd
  have cx := cxg_of (P := P) (w := w) (c := c) (base := base) (N := N__law_is_right) (qual := "_law_is_right") (scope := defScope (top 44)) (f := f) (cdv := cdv) (A := A) (outer := outer) (s := s) (H := H) (E := E) hgu
  exact (s_scons (s_as (s_tup (s_cons (v_blt (f_len cx) rfl b.len_ bo_len (s_cons (v_v 1 rfl rfl) s_nil)) (s_cons (v_kn cx hr k__law_breaks (by decide) rfl (s_cons (v_v 1 rfl rfl) s_nil)) s_nil))) (s_gtp rfl rfl (s_gscons (s_gnm (pg_name (i := 5) nd rfl (loc_by rfl))) (s_gscons (s_gnm (pg_name (i := 6) nd rfl (loc_by rfl))) s_gsnil))) (g_tp (g_scons g_nm (g_scons g_nm g_snil))))
  (s_scons (s_sif (v_tcmp (m_ne cx hr) (v_blt (f_repr cx hr) rfl b.repr_ bo_repr (s_cons (s_tup (s_cons (v_kn cx hr k_breaks (by decide) rfl (s_cons (v_v 1 rfl rfl) s_nil)) (s_cons (v_kn cx hr k_strips (by decide) rfl (s_cons (v_v 1 rfl rfl) s_nil)) (s_cons (v_kn cx hr k_bundled (by decide) rfl (s_cons (v_v 1 rfl rfl) s_nil)) s_nil)))) s_nil)) (v_blt (f_repr cx hr) rfl b.repr_ bo_repr (s_cons (s_tup (s_cons (v_v 6 rfl rfl) (s_cons (v_kn cx hr k__law_strips (by decide) rfl (s_cons (v_v 1 rfl rfl) s_nil)) (s_cons (v_kn cx hr k__law_bundled (by decide) rfl (s_cons (v_v 1 rfl rfl) s_nil)) s_nil)))) s_nil))) (s_scons (s_ret s_bool)
  s_snil) s_snil)
  (s_scons (s_sif (PW.pt (s_tor (s_tnot (s_tval (v_blt (f_all cx rfl) rfl b.all_ bo_all (s_cons (s_lc rfl nd (s_ir1 rfl b.range_ (v_add cx (v_v 5 rfl rfl) s_int)) (own := [("point", 9)]) (blkOk_by (by kernel_rfl)) g_nm (fun s1 H1 C1 l1 f1 => (w_gnm (by decide) (pg_name (i := 9) nd rfl (loc_by rfl)))) (fun s1 H1 C1 l1 f1 => s_tnil) (fun s1 H1 C1 l1 f1 => (v_cmp (m_eq (Cxg.blk cx) hr) (v_blt (f_repr (Cxg.blk cx) hr) rfl b.repr_ bo_repr (s_cons (v_kn (Cxg.blk cx) hr k_is_broken (by decide) rfl (s_cons (v_v 1 rfl rfl) (s_cons (v_v 9 rfl rfl) s_nil))) s_nil)) (v_blt (f_repr (Cxg.blk cx) hr) rfl b.repr_ bo_repr (s_cons (v_cmp (m_in (Cxg.blk cx) hr) (v_v 9 rfl rfl) (v_v 6 rfl rfl)) s_nil))))) s_nil)))) (s_tor1 (v_tcmp (m_ne cx hr) (v_cmp (m_eq cx hr) (v_v 6 rfl rfl) (s_tup s_nil)) (v_cmp (m_eq cx hr) (v_v 1 rfl rfl) (v_kn cx hr k__law_home (by decide) rfl (s_cons (v_v 5 rfl rfl) s_nil))))))) (s_scons (s_ret s_bool)
  s_snil) s_snil)
  (s_scons (s_for (passes_of rfl) rfl (s_ir1 rfl b.range_ s_int) (s_gnm (pg_name (i := 2) nd rfl (loc_by rfl))) g_nm (s_scons (s_set (i := 7) nd rfl (loc_by rfl) (v_kn cx hr k__law_of (by decide) rfl (s_cons (v_v 0 rfl rfl) (s_cons (v_kn cx hr k__law_turns (by decide) rfl (s_cons (v_v 5 rfl rfl) s_nil)) s_nil))))
  (s_scons (s_set (i := 8) nd rfl (loc_by rfl) (v_sub (v_blt (f_len cx) rfl b.len_ bo_len (s_cons (v_v 6 rfl rfl) s_nil)) (v_blt (f_len cx) rfl b.len_ bo_len (s_cons (v_kn cx hr k__law_breaks (by decide) rfl (s_cons (v_kn cx hr k__law_turned (by decide) rfl (s_cons (v_v 1 rfl rfl) (s_cons (v_v 7 rfl rfl) s_nil))) s_nil)) s_nil))))
  (s_scons (s_sif (PW.pt (s_tor (v_tcmp (m_ne cx hr) (v_blt (f_repr cx hr) rfl b.repr_ bo_repr (s_cons (v_kn cx hr k_mended (by decide) rfl (s_cons (v_v 1 rfl rfl) (s_cons (v_v 7 rfl rfl) s_nil))) s_nil)) (v_blt (f_repr cx hr) rfl b.repr_ bo_repr (s_cons (v_v 8 rfl rfl) s_nil))) (s_tor (s_tnot (v_tchain m_le m_le (v_neg s_int) (v_v 8 rfl rfl) s_int)) (s_tor1 (v_tcmp (m_ne cx hr) (v_kn cx hr k_mended (by decide) rfl (s_cons (v_kn cx hr k_turned (by decide) rfl (s_cons (v_v 1 rfl rfl) (s_cons (v_v 7 rfl rfl) s_nil))) (s_cons (v_v 7 rfl rfl) s_nil))) (v_neg (v_v 8 rfl rfl))))))) (s_scons (s_ret s_bool)
  s_snil) s_snil)
  s_snil))))
  (s_scons (s_set (i := 3) nd rfl (loc_by rfl) (v_kn cx hr k_bundled (by decide) rfl (s_cons (v_v 1 rfl rfl) s_nil)))
  (s_scons (by first | exact s_setLc (i := 4) rfl nd rfl rfl rfl (s_iseq rfl (v_v 6 rfl rfl)) (own := [("point", 9)]) (blkOk_by (by kernel_rfl)) (fun s1 H1 C1 l1 f1 => (w_gnm (by decide) (pg_name (i := 9) nd rfl (loc_by rfl)))) (fun s1 H1 C1 l1 f1 => (s_tone (v_tchain m_lt m_lt s_int (v_v 9 rfl rfl) (v_v 5 rfl rfl)))) (fun s1 H1 C1 l1 f1 => (v_v 9 rfl rfl)) (fun _ _ _ => tlc_fr g_nm) | exact s_set (i := 4) nd rfl (loc_by rfl) (s_lc rfl nd (s_iseq rfl (v_v 6 rfl rfl)) (own := [("point", 9)]) (blkOk_by (by kernel_rfl)) g_nm (fun s1 H1 C1 l1 f1 => (w_gnm (by decide) (pg_name (i := 9) nd rfl (loc_by rfl)))) (fun s1 H1 C1 l1 f1 => (s_tone (v_tchain m_lt m_lt s_int (v_v 9 rfl rfl) (v_v 5 rfl rfl)))) (fun s1 H1 C1 l1 f1 => (v_v 9 rfl rfl))))
  (s_scons (s_ret (s_and (v_cmp (m_eq cx hr) (v_blt (f_len cx) rfl b.len_ bo_len (s_cons (v_v 3 rfl rfl) s_nil)) (v_add cx (v_blt (f_len cx) rfl b.len_ bo_len (s_cons (v_v 4 rfl rfl) s_nil)) s_int)) (s_and (v_cmp (m_eq cx hr) (v_kn cx hr k_bundled (by decide) rfl (s_cons (v_v 3 rfl rfl) s_nil)) (v_v 3 rfl rfl)) (s_one (v_blt (f_all cx rfl) rfl b.all_ bo_all (s_cons (s_lc rfl nd (s_iseq rfl (v_kn cx hr k_strips (by decide) rfl (s_cons (v_v 3 rfl rfl) s_nil))) (own := [("first", 10), ("last", 11)]) (blkOk_by (by kernel_rfl)) (g_tp (g_scons g_nm (g_scons g_nm g_snil))) (fun s1 H1 C1 l1 f1 => (w_gtp rfl rfl (w_gscons (w_gnm (by decide) (pg_name (i := 10) nd rfl (loc_by rfl))) (w_gscons (w_gnm (by decide) (pg_name (i := 11) nd rfl (loc_by rfl))) w_gsnil)))) (fun s1 H1 C1 l1 f1 => s_tnil) (fun s1 H1 C1 l1 f1 => (v_cmp (m_eq (Cxg.blk cx) hr) (v_v 10 rfl rfl) (v_v 11 rfl rfl)))) s_nil))))))
  s_snil)))))))
theorem sc__law_some : FnScope N__law_some ["pot", "some", "many"] (defScope (top 34)) := ⟨rfl, rfl, rfl, by decide +kernel, rfl, by decide +kernel, by decide +kernel⟩
theorem ok__law_some (F : FunD c.K "_law_some" "_law_some" (defArgs (top 34)) (defBody (top 34)) (defScope (top 34)) [] [] f fd) (b : Blt c) (k__law_take : Kn P w c base 1 "_law_take" 2 f__law_take) : FnG P w c base 2 f fd ["pot", "some", "many"] f__law_some := by
  refine fun_okG F sc__law_some fun cdv A outer s H E hr hgu => ?_
  have nd := sc__law_some.nd
  have cx := cxg_of (P := P) (w := w) (c := c) (base := base) (N := N__law_some) (qual := "_law_some") (scope := defScope (top 34)) (f := f) (cdv := cdv) (A := A) (outer := outer) (s := s) (H := H) (E := E) hgu
  exact (s_scons (s_par (i := 4) (j := 5) rfl nd rfl rfl (by decide) rfl rfl (s_cons (v_bty (f_listM cx) rfl b.list_ bo_list (s_cons (v_v 1 rfl rfl) s_nil)) (s_cons (s_lstM s_nil) s_nil)) rfl)
  (s_scons (s_for (passes_of rfl) rfl (s_ir1 rfl b.range_ (v_v 2 rfl rfl)) (s_gnm (pg_name (i := 3) nd rfl (loc_by rfl))) g_nm (s_scons (s_ex (v_mt cx d_append (v_v 5 rfl rfl) (s_cons (v_mt cx d_popA (v_v 4 rfl rfl) (s_cons (v_kn cx hr k__law_take (by decide) rfl (s_cons (v_v 0 rfl rfl) (s_cons (v_blt (f_len cx) rfl b.len_ bo_len (s_cons (v_v 4 rfl rfl) s_nil)) s_nil))) s_nil)) s_nil)))
  s_snil))
  (s_scons (s_ret (v_v 5 rfl rfl))
  s_snil)))
theorem sc__law_row : FnScope N__law_row ["pot", "low", "high"] (defScope (top 36)) := ⟨rfl, rfl, rfl, by decide +kernel, rfl, by decide +kernel, by decide +kernel⟩
theorem ok__law_row (F : FunD c.K "_law_row" "_law_row" (defArgs (top 36)) (defBody (top 36)) (defScope (top 36)) [] [] f fd) (b : Blt c) (k__law_take : Kn P w c base 1 "_law_take" 2 f__law_take) (k__law_some : Kn P w c base 2 "_law_some" 3 f__law_some) (k__law_of : Kn P w c base 2 "_law_of" 2 f__law_of) : FnG P w c base 3 f fd ["pot", "low", "high"] f__law_row := by
  refine fun_okG F sc__law_row fun cdv A outer s H E hr hgu => ?_
  have nd := sc__law_row.nd
  have cx := cxg_of (P := P) (w := w) (c := c) (base := base) (N := N__law_row) (qual := "_law_row") (scope := defScope (top 36)) (f := f) (cdv := cdv) (A := A) (outer := outer) (s := s) (H := H) (E := E) hgu
  exact (s_scons (s_set (i := 3) nd rfl (loc_by rfl) (v_add cx (v_v 1 rfl rfl) (v_kn cx hr k__law_take (by decide) rfl (s_cons (v_v 0 rfl rfl) (s_cons (v_add cx (v_sub (v_v 2 rfl rfl) (v_v 1 rfl rfl)) s_int) s_nil)))))
  (s_scons (s_ret (v_bty (f_tuple cx) rfl b.tuple_ bo_tuple (s_cons (s_lc rfl nd (s_iseq rfl (v_kn cx hr k__law_some (by decide) rfl (s_cons (v_v 0 rfl rfl) (s_cons (s_rgL rfl rfl b.list_ (s_rg2 rfl b.range_ s_int (v_add cx (v_v 3 rfl rfl) s_int))) (s_cons (v_v 3 rfl rfl) s_nil))))) (own := [("wagon", 4)]) (blkOk_by (by kernel_rfl)) g_nm (fun s1 H1 C1 l1 f1 => (w_gnm (by decide) (pg_name (i := 4) nd rfl (loc_by rfl)))) (fun s1 H1 C1 l1 f1 => s_tnil) (fun s1 H1 C1 l1 f1 => (v_mul (v_v 4 rfl rfl) (v_kn (Cxg.blk cx) hr k__law_of (by decide) rfl (s_cons (v_v 0 rfl rfl) (s_cons (s_lst (s_cons s_int (s_cons (v_neg s_int) s_nil))) s_nil)))))) s_nil)))
  s_snil))
theorem sc__law_near_home : FnScope N__law_near_home ["pot", "low", "high"] (defScope (top 43)) := ⟨rfl, rfl, rfl, by decide +kernel, rfl, by decide +kernel, by decide +kernel⟩
theorem ok__law_near_home (F : FunD c.K "_law_near_home" "_law_near_home" (defArgs (top 43)) (defBody (top 43)) (defScope (top 43)) [] [] f fd) (b : Blt c) (k__law_home : Kn P w c base 1 "_law_home" 1 f__law_home) (k__law_take : Kn P w c base 1 "_law_take" 2 f__law_take) (k__law_turned : Kn P w c base 1 "_law_turned" 2 f__law_turned) (k__law_of : Kn P w c base 2 "_law_of" 2 f__law_of) (k__law_turns : Kn P w c base 1 "_law_turns" 1 f__law_turns) : FnG P w c base 3 f fd ["pot", "low", "high"] f__law_near_home := by
  refine fun_okG F sc__law_near_home fun cdv A outer s H E hr hgu => ?_
  have nd := sc__law_near_home.nd
  have cx := cxg_of (P := P) (w := w) (c := c) (base := base) (N := N__law_near_home) (qual := "_law_near_home") (scope := defScope (top 43)) (f := f) (cdv := cdv) (A := A) (outer := outer) (s := s) (H := H) (E := E) hgu
  exact (s_scons (s_set (i := 3) nd rfl (loc_by rfl) (v_kn cx hr k__law_home (by decide) rfl (s_cons (v_add cx (v_v 1 rfl rfl) (v_kn cx hr k__law_take (by decide) rfl (s_cons (v_v 0 rfl rfl) (s_cons (v_add cx (v_sub (v_v 2 rfl rfl) (v_v 1 rfl rfl)) s_int) s_nil)))) s_nil)))
  (s_scons (s_for (passes_of rfl) rfl (s_ir1 rfl b.range_ (v_kn cx hr k__law_take (by decide) rfl (s_cons (v_v 0 rfl rfl) (s_cons s_int s_nil)))) (s_gnm (pg_name (i := 4) nd rfl (loc_by rfl))) g_nm (s_scons (s_set (i := 3) nd rfl (loc_by rfl) (v_kn cx hr k__law_turned (by decide) rfl (s_cons (v_v 3 rfl rfl) (s_cons (v_kn cx hr k__law_of (by decide) rfl (s_cons (v_v 0 rfl rfl) (s_cons (v_kn cx hr k__law_turns (by decide) rfl (s_cons (v_blt (f_len cx) rfl b.len_ bo_len (s_cons (v_v 3 rfl rfl) s_nil)) s_nil)) s_nil))) s_nil))))
  s_snil))
  (s_scons (s_ret (v_v 3 rfl rfl))
  s_snil)))
theorem sc_law : FnScope N_law ["script"] (defScope (top 45)) := ⟨rfl, rfl, rfl, by decide +kernel, rfl, by decide +kernel, by decide +kernel⟩
theorem ok_law (F : FunD c.K "law" "law" (defArgs (top 45)) (defBody (top 45)) (defScope (top 45)) [] [] f fd) (b : Blt c) (k__law_cells : Kn P w c base 1 "_law_cells" 2 f__law_cells) (k__law_pot : Kn P w c base 1 "_law_pot" 2 f__law_pot) (k__law_of : Kn P w c base 2 "_law_of" 2 f__law_of) (k__law_row : Kn P w c base 3 "_law_row" 3 f__law_row) (k__law_near_home : Kn P w c base 3 "_law_near_home" 3 f__law_near_home) (k__law_is_right : Kn P w c base 7 "_law_is_right" 2 f__law_is_right) (k_breaks : Kn P w c base 4 "breaks" 1 f_breaks) (k_bundled : Kn P w c base 6 "bundled" 1 f_bundled) : FnG P w c base 8 f fd ["script"] f_law := by
  refine fun_okG F sc_law fun cdv A outer s H E hr hgu => ?_
  have nd := sc_law.nd
  have cx := cxg_of (P := P) (w := w) (c := c) (base := base) (N := N_law) (qual := "law") (scope := defScope (top 45)) (f := f) (cdv := cdv) (A := A) (outer := outer) (s := s) (H := H) (E := E) hgu
  exact (s_scons (s_for (passes_of rfl) rfl (s_iseq rfl (v_kn cx hr k__law_cells (by decide) rfl (s_cons (v_v 0 rfl rfl) (s_cons s_int s_nil)))) (s_gnm (pg_name (i := 1) nd rfl (loc_by rfl))) g_nm (s_scons (s_set (i := 2) nd rfl (loc_by rfl) (v_knM cx hr k__law_pot (by decide) rfl (s_cons (v_v 0 rfl rfl) (s_cons (v_v 1 rfl rfl) s_nil))))
  (s_scons (s_for (passes_of rfl) rfl (s_ir1 rfl b.range_ s_int) (s_gnm (pg_name (i := 3) nd rfl (loc_by rfl))) g_nm (s_scons (s_set (i := 4) nd rfl (loc_by rfl) (v_kn cx hr k__law_of (by decide) rfl (s_cons (v_v 2 rfl rfl) (s_cons (s_lst (s_cons (v_kn cx hr k__law_row (by decide) rfl (s_cons (v_v 2 rfl rfl) (s_cons s_int (s_cons s_int s_nil)))) (s_cons (v_kn cx hr k__law_row (by decide) rfl (s_cons (v_v 2 rfl rfl) (s_cons s_int (s_cons s_int s_nil)))) (s_cons (v_kn cx hr k__law_near_home (by decide) rfl (s_cons (v_v 2 rfl rfl) (s_cons s_int (s_cons s_int s_nil)))) s_nil)))) s_nil))))
  (s_scons (s_sif (s_tnot (s_tval (v_kn cx hr k__law_is_right (by decide) rfl (s_cons (v_v 2 rfl rfl) (s_cons (v_v 4 rfl rfl) s_nil))))) (s_scons (s_ret s_bool)
  s_snil) s_snil)
  s_snil)))
  s_snil)))
  (s_scons (s_ret (s_and (v_cmp (m_eq cx hr) (v_kn cx hr k_breaks (by decide) rfl (s_cons (s_tup (s_cons s_int s_nil)) s_nil)) (s_tup s_nil)) (s_one (v_cmp (m_eq cx hr) (v_kn cx hr k_bundled (by decide) rfl (s_cons (s_tup (s_cons s_int (s_cons s_int (s_cons s_int s_nil)))) s_nil)) (s_tup (s_cons s_int s_nil))))))
  s_snil))
end
/-! ## the head -/
def d__law_cells : He.DefD := ⟨("_law_cells", none), "_law_cells", "_law_cells", defArgs (top 35), defBody (top 35), defScope (top 35), [], []⟩
def d__law_pot : He.DefD := ⟨("_law_pot", none), "_law_pot", "_law_pot", defArgs (top 31), defBody (top 31), defScope (top 31), [], []⟩
def d__law_take : He.DefD := ⟨("_law_take", none), "_law_take", "_law_take", defArgs (top 32), defBody (top 32), defScope (top 32), [], []⟩
def d__law_of : He.DefD := ⟨("_law_of", none), "_law_of", "_law_of", defArgs (top 33), defBody (top 33), defScope (top 33), [], []⟩
def d_is_integer : He.DefD := ⟨("is_integer", none), "is_integer", "is_integer", defArgs (top 6), defBody (top 6), defScope (top 6), [], []⟩
def d_is_row : He.DefD := ⟨("is_row", none), "is_row", "is_row", defArgs (top 11), defBody (top 11), defScope (top 11), [], []⟩
def d_check_row : He.DefD := ⟨("check_row", none), "check_row", "check_row", defArgs (top 12), defBody (top 12), defScope (top 12), [], []⟩
def d_outer : He.DefD := ⟨("outer", none), "outer", "outer", defArgs (top 19), defBody (top 19), defScope (top 19), [], []⟩
def d_broken_at : He.DefD := ⟨("broken_at", none), "broken_at", "broken_at", defArgs (top 20), defBody (top 20), defScope (top 20), [], []⟩
def d_broken_points : He.DefD := ⟨("broken_points", none), "broken_points", "broken_points", defArgs (top 21), defBody (top 21), defScope (top 21), [], []⟩
def d_breaks : He.DefD := ⟨("breaks", none), "breaks", "breaks", defArgs (top 23), defBody (top 23), defScope (top 23), [], []⟩
def d_strips_of : He.DefD := ⟨("strips_of", none), "strips_of", "strips_of", defArgs (top 25), defBody (top 25), defScope (top 25), [], []⟩
def d_bundled_of : He.DefD := ⟨("bundled_of", none), "bundled_of", "bundled_of", defArgs (top 27), defBody (top 27), defScope (top 27), [], []⟩
def d_bundled : He.DefD := ⟨("bundled", none), "bundled", "bundled", defArgs (top 28), defBody (top 28), defScope (top 28), [], []⟩
def d__law_breaks : He.DefD := ⟨("_law_breaks", none), "_law_breaks", "_law_breaks", defArgs (top 40), defBody (top 40), defScope (top 40), [], []⟩
def d__law_turns : He.DefD := ⟨("_law_turns", none), "_law_turns", "_law_turns", defArgs (top 38), defBody (top 38), defScope (top 38), [], []⟩
def d_strips : He.DefD := ⟨("strips", none), "strips", "strips", defArgs (top 26), defBody (top 26), defScope (top 26), [], []⟩
def d__law_strips : He.DefD := ⟨("_law_strips", none), "_law_strips", "_law_strips", defArgs (top 41), defBody (top 41), defScope (top 41), [], []⟩
def d__law_bundled : He.DefD := ⟨("_law_bundled", none), "_law_bundled", "_law_bundled", defArgs (top 42), defBody (top 42), defScope (top 42), [], []⟩
def d__law_home : He.DefD := ⟨("_law_home", none), "_law_home", "_law_home", defArgs (top 39), defBody (top 39), defScope (top 39), [], []⟩
def d_is_between : He.DefD := ⟨("is_between", none), "is_between", "is_between", defArgs (top 7), defBody (top 7), defScope (top 7), [], []⟩
def d_are_between : He.DefD := ⟨("are_between", none), "are_between", "are_between", defArgs (top 8), defBody (top 8), defScope (top 8), [], []⟩
def d_is_turn_of : He.DefD := ⟨("is_turn_of", none), "is_turn_of", "is_turn_of", defArgs (top 14), defBody (top 14), defScope (top 14), [], []⟩
def d_check_turn : He.DefD := ⟨("check_turn", none), "check_turn", "check_turn", defArgs (top 15), defBody (top 15), defScope (top 15), [], []⟩
def d_do_turn : He.DefD := ⟨("do_turn", none), "do_turn", "do_turn", defArgs (top 16), defBody (top 16), defScope (top 16), [], []⟩
def d_mended : He.DefD := ⟨("mended", none), "mended", "mended", defArgs (top 29), defBody (top 29), defScope (top 29), [], []⟩
def d__law_turned : He.DefD := ⟨("_law_turned", none), "_law_turned", "_law_turned", defArgs (top 37), defBody (top 37), defScope (top 37), [], []⟩
def d_turned : He.DefD := ⟨("turned", none), "turned", "turned", defArgs (top 17), defBody (top 17), defScope (top 17), [], []⟩
def d_check_point : He.DefD := ⟨("check_point", none), "check_point", "check_point", defArgs (top 22), defBody (top 22), defScope (top 22), [], []⟩
def d_is_broken : He.DefD := ⟨("is_broken", none), "is_broken", "is_broken", defArgs (top 24), defBody (top 24), defScope (top 24), [], []⟩
def d__law_is_right : He.DefD := ⟨("_law_is_right", none), "_law_is_right", "_law_is_right", defArgs (top 44), defBody (top 44), defScope (top 44), [], []⟩
def d__law_some : He.DefD := ⟨("_law_some", none), "_law_some", "_law_some", defArgs (top 34), defBody (top 34), defScope (top 34), [], []⟩
def d__law_row : He.DefD := ⟨("_law_row", none), "_law_row", "_law_row", defArgs (top 36), defBody (top 36), defScope (top 36), [], []⟩
def d__law_near_home : He.DefD := ⟨("_law_near_home", none), "_law_near_home", "_law_near_home", defArgs (top 43), defBody (top 43), defScope (top 43), [], []⟩
def d_law : He.DefD := ⟨("law", none), "law", "law", defArgs (top 45), defBody (top 45), defScope (top 45), [], []⟩
def fns : List He.DefD := [d__law_cells, d__law_pot, d__law_take, d__law_of, d_is_integer, d_is_row, d_check_row, d_outer, d_broken_at, d_broken_points, d_breaks, d_strips_of, d_bundled_of, d_bundled, d__law_breaks, d__law_turns, d_strips, d__law_strips, d__law_bundled, d__law_home, d_is_between, d_are_between, d_is_turn_of, d_check_turn, d_do_turn, d_mended, d__law_turned, d_turned, d_check_point, d_is_broken, d__law_is_right, d__law_some, d__law_row, d__law_near_home, d_law]
def fas : List He.Fa := [.glo "_law_cells", .glo "_law_pot", .glo "_law_take", .glo "_law_of", .glo "is_integer", .glo "is_row", .glo "check_row", .glo "outer", .glo "broken_at", .glo "broken_points", .glo "breaks", .glo "strips_of", .glo "bundled_of", .glo "bundled", .glo "_law_breaks", .glo "_law_turns", .glo "strips", .glo "_law_strips", .glo "_law_bundled", .glo "_law_home", .glo "is_between", .glo "are_between", .glo "is_turn_of", .glo "check_turn", .glo "do_turn", .glo "mended", .glo "_law_turned", .glo "turned", .glo "check_point", .glo "is_broken", .glo "_law_is_right", .glo "_law_some", .glo "_law_row", .glo "_law_near_home", .glo "law", .free "abs", .free "all", .free "bool", .free "int", .free "isinstance", .free "len", .free "list", .free "max", .free "min", .free "range", .free "repr", .free "set", .free "sorted", .free "sum", .free "tuple", .free "zip", .int "MOST_WAGONS" 20]
end K42
set_option maxRecDepth 100000
set_option maxHeartbeats 0
namespace K42
open PySem PySem.Spec PyProof.Rows L2 MI
abbrev R : PySem.W.OpenRow := PySem.W.OpenLaw.row PySem.Challenge.rw_endforend_k42_whole_points_and_strips
abbrev loose : List PySem.Str := ("TurnError" : PySem.Str) :: ("BadPoint" : PySem.Str) :: ("BadRow" : PySem.Str) :: ("BadTurn" : PySem.Str) :: ("is_integer" : PySem.Str) :: ("is_between" : PySem.Str) :: ("are_between" : PySem.Str) :: ("MOST_WAGONS" : PySem.Str) :: ("is_row" : PySem.Str) :: ("check_row" : PySem.Str) :: ("is_turn_of" : PySem.Str) :: ("check_turn" : PySem.Str) :: ("do_turn" : PySem.Str) :: ("turned" : PySem.Str) :: ("outer" : PySem.Str) :: ("broken_at" : PySem.Str) :: ("broken_points" : PySem.Str) :: ("check_point" : PySem.Str) :: ("breaks" : PySem.Str) :: ("is_broken" : PySem.Str) :: ("strips_of" : PySem.Str) :: ("strips" : PySem.Str) :: ("bundled_of" : PySem.Str) :: ("bundled" : PySem.Str) :: ("mended" : PySem.Str) :: ("_law_pot" : PySem.Str) :: ("_law_take" : PySem.Str) :: ("_law_of" : PySem.Str) :: ("_law_some" : PySem.Str) :: ("_law_cells" : PySem.Str) :: ("_law_row" : PySem.Str) :: ("_law_turned" : PySem.Str) :: ("_law_turns" : PySem.Str) :: ("_law_home" : PySem.Str) :: ("_law_breaks" : PySem.Str) :: ("_law_strips" : PySem.Str) :: ("_law_bundled" : PySem.Str) :: ("_law_near_home" : PySem.Str) :: ("_law_is_right" : PySem.Str) :: []
abbrev hk : PySem.W.Hook := He.hookD 46 fas fns
def ob (s : PySem.W.SharedT) : He.AlD := He.obsDG 46 fas fns (HandSHeadRun.getT s)
theorem ob_eq (s : PySem.W.SharedT) : ob s = hk.obs s.abs := He.obsDG_eq (HandSHeadRun.getT_eq s)
theorem run (w : World) : HandSHeadRun.RunEq R (PySem.W.view R.prog [45]) hk ob 4000 loose w := by
  intro os
  kernel_rfl
theorem facts {P : Program} {w : World} {K : PySem.W.Frag} {h : Heap} {mg : Str → Option Value} {f : Addr} (X : K.In h) (G : h.Ns mainGlobals mg) (hfa : mg ("law" : Str) = some (.ref f)) (c : He.SaysD fas fns K) :
    ∃ fd : FuncData, (∀ (s : Shared) (v : Value), BindsTo s fd ⟨[v], []⟩ [("script", v)]) ∧ ∀ base : Heap, K.In base → base.Ns mainGlobals mg → FnG P w ⟨K, mg⟩ base 8 f fd ["script"] f_law := by
  have b : Blt ⟨K, mg⟩ := ⟨He.free_ok X G (c.fact 35 (f := .free "abs") rfl), He.free_ok X G (c.fact 36 (f := .free "all") rfl), He.free_ok X G (c.fact 37 (f := .free "bool") rfl), He.free_ok X G (c.fact 38 (f := .free "int") rfl), He.free_ok X G (c.fact 39 (f := .free "isinstance") rfl), He.free_ok X G (c.fact 40 (f := .free "len") rfl), He.free_ok X G (c.fact 41 (f := .free "list") rfl), He.free_ok X G (c.fact 42 (f := .free "max") rfl), He.free_ok X G (c.fact 43 (f := .free "min") rfl), He.free_ok X G (c.fact 44 (f := .free "range") rfl), He.free_ok X G (c.fact 45 (f := .free "repr") rfl), He.free_ok X G (c.fact 46 (f := .free "set") rfl), He.free_ok X G (c.fact 47 (f := .free "sorted") rfl), He.free_ok X G (c.fact 48 (f := .free "sum") rfl), He.free_ok X G (c.fact 49 (f := .free "tuple") rfl), He.free_ok X G (c.fact 50 (f := .free "zip") rfl), He.int_ok X G (c.fact 51 (f := .int "MOST_WAGONS" 20) rfl)⟩
  obtain ⟨fd__law_cells, F__law_cells⟩ := c.def_ 0 (d := d__law_cells) rfl
  have k__law_cells : ∀ base : Heap, Kn P w ⟨K, mg⟩ base 1 "_law_cells" 2 f__law_cells := fun base => ⟨_, fd__law_cells, ["script", "most"], ok__law_cells F__law_cells b, He.glo_ok X G (c.fact 0 (f := .glo "_law_cells") rfl), F__law_cells.kp, FunD.bindsN (ps := ["script", "most"]) F__law_cells fun _ _ _ _ _ _ us hl => match us, hl with | [_, _], _ => rfl, rfl⟩
  obtain ⟨fd__law_pot, F__law_pot⟩ := c.def_ 1 (d := d__law_pot) rfl
  have k__law_pot : ∀ base : Heap, Kn P w ⟨K, mg⟩ base 1 "_law_pot" 2 f__law_pot := fun base => ⟨_, fd__law_pot, ["script", "place"], ok__law_pot F__law_pot b, He.glo_ok X G (c.fact 1 (f := .glo "_law_pot") rfl), F__law_pot.kp, FunD.bindsN (ps := ["script", "place"]) F__law_pot fun _ _ _ _ _ _ us hl => match us, hl with | [_, _], _ => rfl, rfl⟩
  obtain ⟨fd__law_take, F__law_take⟩ := c.def_ 2 (d := d__law_take) rfl
  have k__law_take : ∀ base : Heap, Kn P w ⟨K, mg⟩ base 1 "_law_take" 2 f__law_take := fun base => ⟨_, fd__law_take, ["pot", "upto"], ok__law_take F__law_take b, He.glo_ok X G (c.fact 2 (f := .glo "_law_take") rfl), F__law_take.kp, FunD.bindsN (ps := ["pot", "upto"]) F__law_take fun _ _ _ _ _ _ us hl => match us, hl with | [_, _], _ => rfl, rfl⟩
  obtain ⟨fd__law_of, F__law_of⟩ := c.def_ 3 (d := d__law_of) rfl
  have k__law_of : ∀ base : Heap, Kn P w ⟨K, mg⟩ base 2 "_law_of" 2 f__law_of := fun base => ⟨_, fd__law_of, ["pot", "some"], ok__law_of F__law_of b (k__law_take base), He.glo_ok X G (c.fact 3 (f := .glo "_law_of") rfl), F__law_of.kp, FunD.bindsN (ps := ["pot", "some"]) F__law_of fun _ _ _ _ _ _ us hl => match us, hl with | [_, _], _ => rfl, rfl⟩
  obtain ⟨fd_is_integer, F_is_integer⟩ := c.def_ 4 (d := d_is_integer) rfl
  have k_is_integer : ∀ base : Heap, Kn P w ⟨K, mg⟩ base 1 "is_integer" 1 f_is_integer := fun base => ⟨_, fd_is_integer, ["value"], ok_is_integer F_is_integer b, He.glo_ok X G (c.fact 4 (f := .glo "is_integer") rfl), F_is_integer.kp, FunD.bindsN (ps := ["value"]) F_is_integer fun _ _ _ _ _ _ us hl => match us, hl with | [_], _ => rfl, rfl⟩
  obtain ⟨fd_is_row, F_is_row⟩ := c.def_ 5 (d := d_is_row) rfl
  have k_is_row : ∀ base : Heap, Kn P w ⟨K, mg⟩ base 2 "is_row" 1 f_is_row := fun base => ⟨_, fd_is_row, ["value"], ok_is_row F_is_row b (k_is_integer base), He.glo_ok X G (c.fact 5 (f := .glo "is_row") rfl), F_is_row.kp, FunD.bindsN (ps := ["value"]) F_is_row fun _ _ _ _ _ _ us hl => match us, hl with | [_], _ => rfl, rfl⟩
  obtain ⟨fd_check_row, F_check_row⟩ := c.def_ 6 (d := d_check_row) rfl
  have k_check_row : ∀ base : Heap, Kn P w ⟨K, mg⟩ base 3 "check_row" 1 f_check_row := fun base => ⟨_, fd_check_row, ["value"], ok_check_row F_check_row b (k_is_row base), He.glo_ok X G (c.fact 6 (f := .glo "check_row") rfl), F_check_row.kp, FunD.bindsN (ps := ["value"]) F_check_row fun _ _ _ _ _ _ us hl => match us, hl with | [_], _ => rfl, rfl⟩
  obtain ⟨fd_outer, F_outer⟩ := c.def_ 7 (d := d_outer) rfl
  have k_outer : ∀ base : Heap, Kn P w ⟨K, mg⟩ base 1 "outer" 1 f_outer := fun base => ⟨_, fd_outer, ["row"], ok_outer F_outer b, He.glo_ok X G (c.fact 7 (f := .glo "outer") rfl), F_outer.kp, FunD.bindsN (ps := ["row"]) F_outer fun _ _ _ _ _ _ us hl => match us, hl with | [_], _ => rfl, rfl⟩
  obtain ⟨fd_broken_at, F_broken_at⟩ := c.def_ 8 (d := d_broken_at) rfl
  have k_broken_at : ∀ base : Heap, Kn P w ⟨K, mg⟩ base 2 "broken_at" 2 f_broken_at := fun base => ⟨_, fd_broken_at, ["row", "point"], ok_broken_at F_broken_at b (k_outer base), He.glo_ok X G (c.fact 8 (f := .glo "broken_at") rfl), F_broken_at.kp, FunD.bindsN (ps := ["row", "point"]) F_broken_at fun _ _ _ _ _ _ us hl => match us, hl with | [_, _], _ => rfl, rfl⟩
  obtain ⟨fd_broken_points, F_broken_points⟩ := c.def_ 9 (d := d_broken_points) rfl
  have k_broken_points : ∀ base : Heap, Kn P w ⟨K, mg⟩ base 3 "broken_points" 1 f_broken_points := fun base => ⟨_, fd_broken_points, ["row"], ok_broken_points F_broken_points b (k_broken_at base), He.glo_ok X G (c.fact 9 (f := .glo "broken_points") rfl), F_broken_points.kp, FunD.bindsN (ps := ["row"]) F_broken_points fun _ _ _ _ _ _ us hl => match us, hl with | [_], _ => rfl, rfl⟩
  obtain ⟨fd_breaks, F_breaks⟩ := c.def_ 10 (d := d_breaks) rfl
  have k_breaks : ∀ base : Heap, Kn P w ⟨K, mg⟩ base 4 "breaks" 1 f_breaks := fun base => ⟨_, fd_breaks, ["row"], ok_breaks F_breaks b (k_check_row base) (k_broken_points base), He.glo_ok X G (c.fact 10 (f := .glo "breaks") rfl), F_breaks.kp, FunD.bindsN (ps := ["row"]) F_breaks fun _ _ _ _ _ _ us hl => match us, hl with | [_], _ => rfl, rfl⟩
  obtain ⟨fd_strips_of, F_strips_of⟩ := c.def_ 11 (d := d_strips_of) rfl
  have k_strips_of : ∀ base : Heap, Kn P w ⟨K, mg⟩ base 4 "strips_of" 1 f_strips_of := fun base => ⟨_, fd_strips_of, ["row"], ok_strips_of F_strips_of b (k_broken_points base), He.glo_ok X G (c.fact 11 (f := .glo "strips_of") rfl), F_strips_of.kp, FunD.bindsN (ps := ["row"]) F_strips_of fun _ _ _ _ _ _ us hl => match us, hl with | [_], _ => rfl, rfl⟩
  obtain ⟨fd_bundled_of, F_bundled_of⟩ := c.def_ 12 (d := d_bundled_of) rfl
  have k_bundled_of : ∀ base : Heap, Kn P w ⟨K, mg⟩ base 5 "bundled_of" 1 f_bundled_of := fun base => ⟨_, fd_bundled_of, ["row"], ok_bundled_of F_bundled_of b (k_strips_of base), He.glo_ok X G (c.fact 12 (f := .glo "bundled_of") rfl), F_bundled_of.kp, FunD.bindsN (ps := ["row"]) F_bundled_of fun _ _ _ _ _ _ us hl => match us, hl with | [_], _ => rfl, rfl⟩
  obtain ⟨fd_bundled, F_bundled⟩ := c.def_ 13 (d := d_bundled) rfl
  have k_bundled : ∀ base : Heap, Kn P w ⟨K, mg⟩ base 6 "bundled" 1 f_bundled := fun base => ⟨_, fd_bundled, ["row"], ok_bundled F_bundled b (k_check_row base) (k_bundled_of base), He.glo_ok X G (c.fact 13 (f := .glo "bundled") rfl), F_bundled.kp, FunD.bindsN (ps := ["row"]) F_bundled fun _ _ _ _ _ _ us hl => match us, hl with | [_], _ => rfl, rfl⟩
  obtain ⟨fd__law_breaks, F__law_breaks⟩ := c.def_ 14 (d := d__law_breaks) rfl
  have k__law_breaks : ∀ base : Heap, Kn P w ⟨K, mg⟩ base 1 "_law_breaks" 1 f__law_breaks := fun base => ⟨_, fd__law_breaks, ["row"], ok__law_breaks F__law_breaks b, He.glo_ok X G (c.fact 14 (f := .glo "_law_breaks") rfl), F__law_breaks.kp, FunD.bindsN (ps := ["row"]) F__law_breaks fun _ _ _ _ _ _ us hl => match us, hl with | [_], _ => rfl, rfl⟩
  obtain ⟨fd__law_turns, F__law_turns⟩ := c.def_ 15 (d := d__law_turns) rfl
  have k__law_turns : ∀ base : Heap, Kn P w ⟨K, mg⟩ base 1 "_law_turns" 1 f__law_turns := fun base => ⟨_, fd__law_turns, ["many"], ok__law_turns F__law_turns b, He.glo_ok X G (c.fact 15 (f := .glo "_law_turns") rfl), F__law_turns.kp, FunD.bindsN (ps := ["many"]) F__law_turns fun _ _ _ _ _ _ us hl => match us, hl with | [_], _ => rfl, rfl⟩
  obtain ⟨fd_strips, F_strips⟩ := c.def_ 16 (d := d_strips) rfl
  have k_strips : ∀ base : Heap, Kn P w ⟨K, mg⟩ base 5 "strips" 1 f_strips := fun base => ⟨_, fd_strips, ["row"], ok_strips F_strips b (k_check_row base) (k_strips_of base), He.glo_ok X G (c.fact 16 (f := .glo "strips") rfl), F_strips.kp, FunD.bindsN (ps := ["row"]) F_strips fun _ _ _ _ _ _ us hl => match us, hl with | [_], _ => rfl, rfl⟩
  obtain ⟨fd__law_strips, F__law_strips⟩ := c.def_ 17 (d := d__law_strips) rfl
  have k__law_strips : ∀ base : Heap, Kn P w ⟨K, mg⟩ base 1 "_law_strips" 1 f__law_strips := fun base => ⟨_, fd__law_strips, ["row"], ok__law_strips F__law_strips b, He.glo_ok X G (c.fact 17 (f := .glo "_law_strips") rfl), F__law_strips.kp, FunD.bindsN (ps := ["row"]) F__law_strips fun _ _ _ _ _ _ us hl => match us, hl with | [_], _ => rfl, rfl⟩
  obtain ⟨fd__law_bundled, F__law_bundled⟩ := c.def_ 18 (d := d__law_bundled) rfl
  have k__law_bundled : ∀ base : Heap, Kn P w ⟨K, mg⟩ base 2 "_law_bundled" 1 f__law_bundled := fun base => ⟨_, fd__law_bundled, ["row"], ok__law_bundled F__law_bundled b (k__law_strips base), He.glo_ok X G (c.fact 18 (f := .glo "_law_bundled") rfl), F__law_bundled.kp, FunD.bindsN (ps := ["row"]) F__law_bundled fun _ _ _ _ _ _ us hl => match us, hl with | [_], _ => rfl, rfl⟩
  obtain ⟨fd__law_home, F__law_home⟩ := c.def_ 19 (d := d__law_home) rfl
  have k__law_home : ∀ base : Heap, Kn P w ⟨K, mg⟩ base 1 "_law_home" 1 f__law_home := fun base => ⟨_, fd__law_home, ["many"], ok__law_home F__law_home b, He.glo_ok X G (c.fact 19 (f := .glo "_law_home") rfl), F__law_home.kp, FunD.bindsN (ps := ["many"]) F__law_home fun _ _ _ _ _ _ us hl => match us, hl with | [_], _ => rfl, rfl⟩
  obtain ⟨fd_is_between, F_is_between⟩ := c.def_ 20 (d := d_is_between) rfl
  have k_is_between : ∀ base : Heap, Kn P w ⟨K, mg⟩ base 2 "is_between" 3 f_is_between := fun base => ⟨_, fd_is_between, ["value", "low", "high"], ok_is_between F_is_between b (k_is_integer base), He.glo_ok X G (c.fact 20 (f := .glo "is_between") rfl), F_is_between.kp, FunD.bindsN (ps := ["value", "low", "high"]) F_is_between fun _ _ _ _ _ _ us hl => match us, hl with | [_, _, _], _ => rfl, rfl⟩
  obtain ⟨fd_are_between, F_are_between⟩ := c.def_ 21 (d := d_are_between) rfl
  have k_are_between : ∀ base : Heap, Kn P w ⟨K, mg⟩ base 3 "are_between" 3 f_are_between := fun base => ⟨_, fd_are_between, ["value", "low", "high"], ok_are_between F_are_between b (k_is_between base), He.glo_ok X G (c.fact 21 (f := .glo "are_between") rfl), F_are_between.kp, FunD.bindsN (ps := ["value", "low", "high"]) F_are_between fun _ _ _ _ _ _ us hl => match us, hl with | [_, _, _], _ => rfl, rfl⟩
  obtain ⟨fd_is_turn_of, F_is_turn_of⟩ := c.def_ 22 (d := d_is_turn_of) rfl
  have k_is_turn_of : ∀ base : Heap, Kn P w ⟨K, mg⟩ base 4 "is_turn_of" 2 f_is_turn_of := fun base => ⟨_, fd_is_turn_of, ["many", "value"], ok_is_turn_of F_is_turn_of b (k_are_between base), He.glo_ok X G (c.fact 22 (f := .glo "is_turn_of") rfl), F_is_turn_of.kp, FunD.bindsN (ps := ["many", "value"]) F_is_turn_of fun _ _ _ _ _ _ us hl => match us, hl with | [_, _], _ => rfl, rfl⟩
  obtain ⟨fd_check_turn, F_check_turn⟩ := c.def_ 23 (d := d_check_turn) rfl
  have k_check_turn : ∀ base : Heap, Kn P w ⟨K, mg⟩ base 5 "check_turn" 2 f_check_turn := fun base => ⟨_, fd_check_turn, ["row", "turn"], ok_check_turn F_check_turn b (k_check_row base) (k_is_turn_of base), He.glo_ok X G (c.fact 23 (f := .glo "check_turn") rfl), F_check_turn.kp, FunD.bindsN (ps := ["row", "turn"]) F_check_turn fun _ _ _ _ _ _ us hl => match us, hl with | [_, _], _ => rfl, rfl⟩
  obtain ⟨fd_do_turn, F_do_turn⟩ := c.def_ 24 (d := d_do_turn) rfl
  have k_do_turn : ∀ base : Heap, Kn P w ⟨K, mg⟩ base 1 "do_turn" 2 f_do_turn := fun base => ⟨_, fd_do_turn, ["row", "turn"], ok_do_turn F_do_turn b, He.glo_ok X G (c.fact 24 (f := .glo "do_turn") rfl), F_do_turn.kp, FunD.bindsN (ps := ["row", "turn"]) F_do_turn fun _ _ _ _ _ _ us hl => match us, hl with | [_, _], _ => rfl, rfl⟩
  obtain ⟨fd_mended, F_mended⟩ := c.def_ 25 (d := d_mended) rfl
  have k_mended : ∀ base : Heap, Kn P w ⟨K, mg⟩ base 6 "mended" 2 f_mended := fun base => ⟨_, fd_mended, ["row", "turn"], ok_mended F_mended b (k_check_turn base) (k_broken_points base) (k_do_turn base), He.glo_ok X G (c.fact 25 (f := .glo "mended") rfl), F_mended.kp, FunD.bindsN (ps := ["row", "turn"]) F_mended fun _ _ _ _ _ _ us hl => match us, hl with | [_, _], _ => rfl, rfl⟩
  obtain ⟨fd__law_turned, F__law_turned⟩ := c.def_ 26 (d := d__law_turned) rfl
  have k__law_turned : ∀ base : Heap, Kn P w ⟨K, mg⟩ base 1 "_law_turned" 2 f__law_turned := fun base => ⟨_, fd__law_turned, ["row", "turn"], ok__law_turned F__law_turned b, He.glo_ok X G (c.fact 26 (f := .glo "_law_turned") rfl), F__law_turned.kp, FunD.bindsN (ps := ["row", "turn"]) F__law_turned fun _ _ _ _ _ _ us hl => match us, hl with | [_, _], _ => rfl, rfl⟩
  obtain ⟨fd_turned, F_turned⟩ := c.def_ 27 (d := d_turned) rfl
  have k_turned : ∀ base : Heap, Kn P w ⟨K, mg⟩ base 6 "turned" 2 f_turned := fun base => ⟨_, fd_turned, ["row", "turn"], ok_turned F_turned b (k_check_turn base) (k_do_turn base), He.glo_ok X G (c.fact 27 (f := .glo "turned") rfl), F_turned.kp, FunD.bindsN (ps := ["row", "turn"]) F_turned fun _ _ _ _ _ _ us hl => match us, hl with | [_, _], _ => rfl, rfl⟩
  obtain ⟨fd_check_point, F_check_point⟩ := c.def_ 28 (d := d_check_point) rfl
  have k_check_point : ∀ base : Heap, Kn P w ⟨K, mg⟩ base 4 "check_point" 2 f_check_point := fun base => ⟨_, fd_check_point, ["row", "point"], ok_check_point F_check_point b (k_check_row base) (k_is_between base), He.glo_ok X G (c.fact 28 (f := .glo "check_point") rfl), F_check_point.kp, FunD.bindsN (ps := ["row", "point"]) F_check_point fun _ _ _ _ _ _ us hl => match us, hl with | [_, _], _ => rfl, rfl⟩
  obtain ⟨fd_is_broken, F_is_broken⟩ := c.def_ 29 (d := d_is_broken) rfl
  have k_is_broken : ∀ base : Heap, Kn P w ⟨K, mg⟩ base 5 "is_broken" 2 f_is_broken := fun base => ⟨_, fd_is_broken, ["row", "point"], ok_is_broken F_is_broken b (k_check_point base) (k_broken_at base), He.glo_ok X G (c.fact 29 (f := .glo "is_broken") rfl), F_is_broken.kp, FunD.bindsN (ps := ["row", "point"]) F_is_broken fun _ _ _ _ _ _ us hl => match us, hl with | [_, _], _ => rfl, rfl⟩
  obtain ⟨fd__law_is_right, F__law_is_right⟩ := c.def_ 30 (d := d__law_is_right) rfl
  have k__law_is_right : ∀ base : Heap, Kn P w ⟨K, mg⟩ base 7 "_law_is_right" 2 f__law_is_right := fun base => ⟨_, fd__law_is_right, ["pot", "row"], ok__law_is_right F__law_is_right b (k__law_breaks base) (k_breaks base) (k_strips base) (k_bundled base) (k__law_strips base) (k__law_bundled base) (k_is_broken base) (k__law_home base) (k__law_of base) (k__law_turns base) (k__law_turned base) (k_mended base) (k_turned base), He.glo_ok X G (c.fact 30 (f := .glo "_law_is_right") rfl), F__law_is_right.kp, FunD.bindsN (ps := ["pot", "row"]) F__law_is_right fun _ _ _ _ _ _ us hl => match us, hl with | [_, _], _ => rfl, rfl⟩
  obtain ⟨fd__law_some, F__law_some⟩ := c.def_ 31 (d := d__law_some) rfl
  have k__law_some : ∀ base : Heap, Kn P w ⟨K, mg⟩ base 2 "_law_some" 3 f__law_some := fun base => ⟨_, fd__law_some, ["pot", "some", "many"], ok__law_some F__law_some b (k__law_take base), He.glo_ok X G (c.fact 31 (f := .glo "_law_some") rfl), F__law_some.kp, FunD.bindsN (ps := ["pot", "some", "many"]) F__law_some fun _ _ _ _ _ _ us hl => match us, hl with | [_, _, _], _ => rfl, rfl⟩
  obtain ⟨fd__law_row, F__law_row⟩ := c.def_ 32 (d := d__law_row) rfl
  have k__law_row : ∀ base : Heap, Kn P w ⟨K, mg⟩ base 3 "_law_row" 3 f__law_row := fun base => ⟨_, fd__law_row, ["pot", "low", "high"], ok__law_row F__law_row b (k__law_take base) (k__law_some base) (k__law_of base), He.glo_ok X G (c.fact 32 (f := .glo "_law_row") rfl), F__law_row.kp, FunD.bindsN (ps := ["pot", "low", "high"]) F__law_row fun _ _ _ _ _ _ us hl => match us, hl with | [_, _, _], _ => rfl, rfl⟩
  obtain ⟨fd__law_near_home, F__law_near_home⟩ := c.def_ 33 (d := d__law_near_home) rfl
  have k__law_near_home : ∀ base : Heap, Kn P w ⟨K, mg⟩ base 3 "_law_near_home" 3 f__law_near_home := fun base => ⟨_, fd__law_near_home, ["pot", "low", "high"], ok__law_near_home F__law_near_home b (k__law_home base) (k__law_take base) (k__law_turned base) (k__law_of base) (k__law_turns base), He.glo_ok X G (c.fact 33 (f := .glo "_law_near_home") rfl), F__law_near_home.kp, FunD.bindsN (ps := ["pot", "low", "high"]) F__law_near_home fun _ _ _ _ _ _ us hl => match us, hl with | [_, _, _], _ => rfl, rfl⟩
  obtain ⟨fd, F⟩ := c.def_ 34 (d := d_law) rfl
  have e := hfa.symm.trans (He.glo_ok X G (c.fact 34 (f := .glo "law") rfl))
  cases e
  have bs := FunD.bindsA (ps := ["script"]) F fun _ _ _ _ _ _ us hl => match us, hl with | [_], _ => rfl
  exact ⟨fd, fun s v => bs s [v] rfl, fun base _ _ => ok_law F b (k__law_cells base) (k__law_pot base) (k__law_of base) (k__law_row base) (k__law_near_home base) (k__law_is_right base) (k_breaks base) (k_bundled base)⟩
end K42
set_option maxRecDepth 100000
set_option maxHeartbeats 4000000
namespace MI
open PySem L2
/-! ## evaluation by simp -/
@[simp] theorem bind_ok_ {α β : Type} (v : α) (S : Sto) (f : α → Sto → Out β) : (Out.ok v S).bind f = f v S := rfl
@[simp] theorem bind_bad_ {α β : Type} (f : α → Sto → Out β) : (Out.bad : Out α).bind f = .bad := rfl
@[simp] theorem to_ok_ {α : Type} (v : α) (S : Sto) (r : Rho) (f : α → Sto → SOut) : (Out.ok v S).to r f = f v S := rfl
@[simp] theorem to_bad_ {α : Type} (r : Rho) (f : α → Sto → SOut) : (Out.bad : Out α).to r f = .bad := rfl
@[simp] theorem seq_nx_ (r : Rho) (S : Sto) (f : Rho → Sto → SOut) : (SOut.nx r S).seq f = f r S := rfl
@[simp] theorem seq_ret_ (v : IV) (S : Sto) (f : Rho → Sto → SOut) : (SOut.ret v S).seq f = .ret v S := rfl
@[simp] theorem seq_brk_ (r : Rho) (S : Sto) (f : Rho → Sto → SOut) : (SOut.brk r S).seq f = .brk r S := rfl
@[simp] theorem seq_ct_ (r : Rho) (S : Sto) (f : Rho → Sto → SOut) : (SOut.ct r S).seq f = .ct r S := rfl
@[simp] theorem seq_bad_ (f : Rho → Sto → SOut) : SOut.bad.seq f = .bad := rfl
@[simp] theorem fin_nx_ (r : Rho) (S : Sto) : (SOut.nx r S).fin = .ok (.d .none) S := rfl
@[simp] theorem fin_ret_ (v : IV) (S : Sto) : (SOut.ret v S).fin = .ok v S := rfl
@[simp] theorem nox_ok_ {α : Type} (v : α) (S : Sto) : (Out.ok v S).nox = .ok v S := rfl
@[simp] theorem fnB1 (n : Nat) (fs : FS) (a : IV) (S : Sto) (h : 1 ≤ n) : fnB n fs [a] S = (fs (some a :: List.replicate (n - 1) none) S).fin := by
  unfold fnB; rw [if_pos (by simpa using h)]; rfl
@[simp] theorem fnB2 (n : Nat) (fs : FS) (a b : IV) (S : Sto) (h : 2 ≤ n) : fnB n fs [a, b] S = (fs (some a :: some b :: List.replicate (n - 2) none) S).fin := by
  unfold fnB; rw [if_pos (by simpa using h)]; rfl
@[simp] theorem fnB3 (n : Nat) (fs : FS) (a b d : IV) (S : Sto) (h : 3 ≤ n) : fnB n fs [a, b, d] S = (fs (some a :: some b :: some d :: List.replicate (n - 3) none) S).fin := by
  unfold fnB; rw [if_pos (by simpa using h)]; rfl
/-- calls: the usual borrowings -/
def dV : IV → Bool
  | .d _ => true
  | .scr _ => true
  | .gl _ => true
  | _ => false
theorem dv_brw : ∀ l : List IV, l.all dV = true → brw l = [] ∧ ∀ ns, inAs ns l = some l
  | [], _ => ⟨rfl, fun _ => rfl⟩
  | a :: t, h => by
    rw [List.all_cons, Bool.and_eq_true] at h
    obtain ⟨i1, i2⟩ := dv_brw t h.2
    have h1 := h.1
    cases a with
    | d x => exact ⟨i1, fun ns => by simp [inAs, inA, i2]⟩
    | gl x => exact ⟨i1, fun ns => by simp [inAs, inA, i2]⟩
    | scr x => exact ⟨i1, fun ns => by simp [inAs, inA, i2]⟩
    | ref n => cases h1
    | tup n => cases h1
    | clo n m => cases h1
    | exc n m => cases h1
theorem dv_out {v : IV} (h : dV v = true) (ns : List Nat) (T : Sto) : outV ns T v = some v := by
  cases v with
  | d x => simp [outV, toD]
  | gl x => rfl
  | scr x => rfl
  | ref n => cases h
  | tup n => cases h
  | clo n m => cases h
  | exc n m => cases h
theorem call_pure {g : FN} {is : List IV} {S T : Sto} {v : IV} (h : is.all dV = true) (hg : g is [] = .ok v T) (hv : dV v = true) : callW backW g is S = .ok v S := by
  obtain ⟨n1, n2⟩ := dv_brw is h
  unfold callW
  rw [n1, n2]
  simp only [inS]
  rw [hg]
  simp [backW, outS, dv_out hv]
/-- a new list, frozen -/
theorem call_new {g : FN} {is : List IV} {S T : Sto} {n : Nat} {ds : List PyData} (h : is.all dV = true) (hg : g is [] = .ok (.ref n) T) (hT : T[n]? = some (.lst ds)) : callW backW g is S = .ok (.d (.list ds)) S := by
  obtain ⟨n1, n2⟩ := dv_brw is h
  unfold callW
  rw [n1, n2]
  simp only [inS]
  rw [hg]
  simp [backW, outS, outV, toD, hT]
/-- a new list, kept to be changed -/
theorem call_newM {g : FN} {is : List IV} {S T : Sto} {n : Nat} {ds : List PyData} (h : is.all dV = true) (hg : g is [] = .ok (.ref n) T) (hT : T[n]? = some (.lst ds)) : callW backN g is S = .ok (.ref S.length) (S ++ [.lst ds]) := by
  obtain ⟨n1, n2⟩ := dv_brw is h
  unfold callW
  rw [n1, n2]
  simp only [inS]
  rw [hg]
  simp [backN, backM, outS, toD, hT]
/-- the first argument is a list of the store that the callee may change -/
theorem call_pot {g : FN} {is : List IV} {S T : Sto} {v : IV} {n : Nat} {ds es : List PyData} (h : is.all dV = true) (hS : S[n]? = some (.lst ds)) (hg : g (.ref 0 :: is) [.lst ds] = .ok v (.lst es :: T)) (hv : dV v = true) :
    callW backW g (.ref n :: is) S = .ok v (S.set n (.lst es)) := by
  obtain ⟨n1, n2⟩ := dv_brw is h
  unfold callW
  have e1 : brw (.ref n :: is) = [n] := by simp [brw, n1]
  rw [e1]
  simp only [inAs, inA, n2, inS, hS, List.mem_singleton, if_true, List.idxOf_cons_self]
  rw [hg]
  simp [backW, outS, dv_out hv]
/-- the same, a new list comes back -/
theorem call_potN {g : FN} {is : List IV} {S T : Sto} {n k : Nat} {ds es fs : List PyData} (h : is.all dV = true) (hS : S[n]? = some (.lst ds)) (hg : g (.ref 0 :: is) [.lst ds] = .ok (.ref (k + 1)) (.lst es :: T)) (hk : T[k]? = some (.lst fs)) :
    callW backW g (.ref n :: is) S = .ok (.d (.list fs)) (S.set n (.lst es)) := by
  obtain ⟨n1, n2⟩ := dv_brw is h
  unfold callW
  have e1 : brw (.ref n :: is) = [n] := by simp [brw, n1]
  rw [e1]
  simp only [inAs, inA, n2, inS, hS, List.mem_singleton, if_true, List.idxOf_cons_self]
  rw [hg]
  simp [backW, outS, outV, toD, hk]
end MI
set_option maxRecDepth 100000
set_option maxHeartbeats 4000000
namespace MI
open PySem L2
/-! ## loops, comprehensions: general laws -/
theorem forL_inv {g : FG} {b : FS} {ds : List PyData} (P : Nat → Rho → Sto → Prop) (step : ∀ (i : Nat) (r : Rho) (S : Sto) (d : PyData), ds[i]? = some d → P i r S → ∃ r' S', (g (.d d) r S).seq b = .nx r' S' ∧ P (i + 1) r' S') {r : Rho} {S : Sto} (h0 : P 0 r S) :
    ∃ r' S', forL g b ds r S = .nx r' S' ∧ P ds.length r' S' := by
  have go : ∀ (es : List PyData) (k : Nat) (r : Rho) (S : Sto), es = ds.drop k → k ≤ ds.length → P k r S → ∃ r' S', forL g b es r S = .nx r' S' ∧ P ds.length r' S' := by
    intro es
    induction es with
    | nil =>
      intro k r S e hk p
      have : ds.length ≤ k := List.drop_eq_nil_iff.mp e.symm
      have : k = ds.length := by omega
      subst this
      exact ⟨r, S, rfl, p⟩
    | cons d es ih =>
      intro k r S e hk p
      have hlt : k < ds.length := by
        by_cases h : k < ds.length
        · exact h
        · rw [List.drop_eq_nil_of_le (by omega)] at e; cases e
      rw [List.drop_eq_getElem_cons hlt] at e
      injection e with e1 e2
      obtain ⟨r1, S1, h1, h2⟩ := step k r S d (by rw [List.getElem?_eq_getElem hlt, ← e1]) p
      obtain ⟨r2, S2, h3, h4⟩ := ih (k + 1) r1 S1 e2 hlt h2
      refine ⟨r2, S2, ?_, h4⟩
      unfold forL
      rw [h1]
      exact h3
  exact go ds 0 r S rfl (Nat.zero_le _) h0
/-- a loop whose body may end by return: the answer is the same where it does not -/
theorem lcL_inv {g : FG} {t : FT} {e : FE} {r0 : Rho} {ds : List PyData} (P : Nat → List PyData → Sto → Prop) (step : ∀ (i : Nat) (acc : List PyData) (S : Sto) (d : PyData), ds[i]? = some d → P i acc S → ∃ r1 S1 k S2, g (.d d) r0 S = .nx r1 S1 ∧ t r1 S1 = .ok k S2 ∧
      if k = true then ∃ x S3, e r1 S2 = .ok (.d x) S3 ∧ P (i + 1) (acc ++ [x]) S3 else P (i + 1) acc S2) {S : Sto} (h0 : P 0 [] S) :
    ∃ all S', lcL g t e r0 ds S = .ok all S' ∧ P ds.length all S' := by
  have go : ∀ (es : List PyData) (k : Nat) (acc : List PyData) (S : Sto), es = ds.drop k → k ≤ ds.length → P k acc S → ∃ more S', lcL g t e r0 es S = .ok more S' ∧ P ds.length (acc ++ more) S' := by
    intro es
    induction es with
    | nil =>
      intro k acc S q hk p
      have : ds.length ≤ k := List.drop_eq_nil_iff.mp q.symm
      have : k = ds.length := by omega
      subst this
      exact ⟨[], S, rfl, by rw [List.append_nil]; exact p⟩
    | cons d es ih =>
      intro k acc S q hk p
      have hlt : k < ds.length := by
        by_cases h : k < ds.length
        · exact h
        · rw [List.drop_eq_nil_of_le (by omega)] at q; cases q
      rw [List.drop_eq_getElem_cons hlt] at q
      injection q with e1 e2
      obtain ⟨r1, S1, b, S2, h1, h2, h3⟩ := step k acc S d (by rw [List.getElem?_eq_getElem hlt, ← e1]) p
      cases b with
      | true =>
        rw [if_pos rfl] at h3
        obtain ⟨x, S3, h4, h5⟩ := h3
        obtain ⟨more, S4, h6, h7⟩ := ih (k + 1) _ S3 e2 hlt h5
        refine ⟨x :: more, S4, ?_, by rw [List.append_assoc] at h7; exact h7⟩
        unfold lcL
        rw [h1]
        dsimp only
        rw [h2]
        simp [h4, h6]
      | false =>
        rw [if_neg Bool.false_ne_true] at h3
        obtain ⟨more, S4, h6, h7⟩ := ih (k + 1) _ S2 e2 hlt h3
        refine ⟨more, S4, ?_, h7⟩
        unfold lcL
        rw [h1]
        dsimp only
        rw [h2]
        simp [h6]
  obtain ⟨all, S', h1, h2⟩ := go ds 0 [] S rfl (Nat.zero_le _) h0
  exact ⟨all, S', h1, by simpa using h2⟩
/-- a comprehension that changes nothing -/
theorem lcL_filter {g : FG} {t : FT} {e : FE} {r0 : Rho} {S : Sto} {ds : List PyData} (p : PyData → Bool) (φ : PyData → PyData) (h : ∀ d, d ∈ ds → ∃ r1, g (.d d) r0 S = .nx r1 S ∧ t r1 S = .ok (p d) S ∧ (p d = true → e r1 S = .ok (.d (φ d)) S)) :
    lcL g t e r0 ds S = .ok ((ds.filter p).map φ) S := by
  induction ds with
  | nil => rfl
  | cons d ds ih =>
    obtain ⟨r1, h1, h2, h3⟩ := h d List.mem_cons_self
    have ih := ih fun x m => h x (List.mem_cons_of_mem _ m)
    unfold lcL
    rw [h1]
    dsimp only
    rw [h2]
    by_cases hp : p d = true
    · simp [hp, h3 hp, ih, List.filter_cons_of_pos hp]
    · simp [hp, ih, List.filter_cons_of_neg hp]
theorem lcL_map {g : FG} {e : FE} {r0 : Rho} {S : Sto} {ds : List PyData} (φ : PyData → PyData) (h : ∀ d, d ∈ ds → ∃ r1, g (.d d) r0 S = .nx r1 S ∧ e r1 S = .ok (.d (φ d)) S) :
    lcL g tYe e r0 ds S = .ok (ds.map φ) S := by
  have := lcL_filter (g := g) (t := tYe) (e := e) (r0 := r0) (S := S) (ds := ds) (fun _ => true) φ fun d m => by
    obtain ⟨r1, h1, h2⟩ := h d m
    exact ⟨r1, h1, rfl, fun _ => h2⟩
  rw [this, List.filter_eq_self.mpr fun _ _ => rfl]
/-- over ints -/
theorem lcL_ints {g : FG} {e : FE} {r0 : Rho} {S : Sto} {ns : List Int} (φ : Int → PyData) (h : ∀ n, n ∈ ns → ∃ r1, g (.d (.int n)) r0 S = .nx r1 S ∧ e r1 S = .ok (.d (φ n)) S) :
    lcL g tYe e r0 (ns.map .int) S = .ok (ns.map φ) S := by
  have := lcL_map (g := g) (e := e) (r0 := r0) (S := S) (ds := ns.map PyData.int) (fun d => match d with | .int n => φ n | d => d) fun d m => by
    obtain ⟨n, hn, rfl⟩ := List.mem_map.mp m
    exact h n hn
  rw [this, List.map_map]
  rfl
theorem lcL_intsF {g : FG} {t : FT} {e : FE} {r0 : Rho} {S : Sto} {ns : List Int} (p : Int → Bool) (φ : Int → PyData) (h : ∀ n, n ∈ ns → ∃ r1, g (.d (.int n)) r0 S = .nx r1 S ∧ t r1 S = .ok (p n) S ∧ (p n = true → e r1 S = .ok (.d (φ n)) S)) :
    lcL g t e r0 (ns.map .int) S = .ok ((ns.filter p).map φ) S := by
  have := lcL_filter (g := g) (t := t) (e := e) (r0 := r0) (S := S) (ds := ns.map PyData.int) (fun d => match d with | .int n => p n | _ => true) (fun d => match d with | .int n => φ n | d => d) fun d m => by
    obtain ⟨n, hn, rfl⟩ := List.mem_map.mp m
    exact h n hn
  rw [this]
  congr 1
  rw [List.filter_map, List.map_map]
  rfl
/-- the ints i .. j - 1 -/
def rgI (i j : Int) : List Int := (List.range (j - i).toNat).map fun (k : Nat) => i + (k : Nat)
theorem rngD_rg (i j : Int) : rngD i j = (rgI i j).map .int := by unfold rngD rgI; rw [List.map_map]; rfl
theorem rgD_rg (i j : Int) : rgD i j = (rgI i j).map .int := by unfold rgD rgI; rw [List.map_map]; rfl
theorem mem_rgI {i j k : Int} : k ∈ rgI i j ↔ i ≤ k ∧ k < j := by
  unfold rgI
  rw [List.mem_map]
  constructor
  · rintro ⟨n, hn, rfl⟩
    rw [List.mem_range] at hn
    omega
  · rintro ⟨h1, h2⟩
    exact ⟨(k - i).toNat, by rw [List.mem_range]; omega, by omega⟩
theorem len_rgI (i j : Int) : (rgI i j).length = (j - i).toNat := by unfold rgI; simp
theorem at_rgI {i j : Int} {k : Nat} (h : k < (j - i).toNat) : (rgI i j)[k]? = some (i + k) := by unfold rgI; simp [h]
theorem iR1_ok {f : FE} {r : Rho} {S S' : Sto} {j : Int} (h : f r S = .ok (.d (.int j)) S') (h0 : j.natAbs < 2 ^ 24) : iR1 f r S = .ok (rngD 0 j) S' := by
  simp only [iR1, h, bind_ok_]
  rw [if_pos h0]
theorem iR2_ok {f g : FE} {r : Rho} {S S1 S2 : Sto} {i j : Int} (h : f r S = .ok (.d (.int i)) S1) (h2 : g r S1 = .ok (.d (.int j)) S2) (h0 : i.natAbs < 2 ^ 23 ∧ j.natAbs < 2 ^ 23) : iR2 f g r S = .ok (rngD i j) S2 := by
  simp only [iR2, h, h2, bind_ok_]
  rw [if_pos h0]
end MI
set_option maxRecDepth 100000
set_option maxHeartbeats 4000000
namespace MI
open PySem L2
/-! ## data of ints -/
abbrev ti (xs : List Int) : IV := .d (.tuple (xs.map .int))
abbrev li (xs : List Int) : IV := .d (.list (xs.map .int))
theorem depth_ints : ∀ xs : List Int, PyData.depthAll (xs.map .int) = 0
  | [] => rfl
  | x :: t => by simp [PyData.depthAll, PyData.depth, depth_ints t]
theorem lay_ints : ∀ xs : List Int, PyData.canLayAll0 (xs.map .int) = true
  | [] => rfl
  | x :: t => by simp [PyData.canLayAll0, PyData.canLay0, lay_ints t]
theorem shp_tup (xs : List Int) : shp (.tuple (xs.map .int)) = true := by
  simp [shp, SeqAt.shaped, PyData.canLay0, PyData.depth, depth_ints, lay_ints]
theorem shp_lst (xs : List Int) : shp (.list (xs.map .int)) = true := by
  simp [shp, SeqAt.shaped, PyData.canLay0, PyData.depth, depth_ints, lay_ints]
theorem shp_int (i : Int) : shp (.int i) = true := by simp [shp, SeqAt.shaped, PyData.canLay0, PyData.depth]
theorem shp_bool (i : Bool) : shp (.bool i) = true := by simp [shp, SeqAt.shaped, PyData.canLay0, PyData.depth]
theorem eqv_ints : ∀ xs ys : List Int, PyData.eqvAll (xs.map .int) (ys.map .int) = decide (xs = ys)
  | [], [] => rfl
  | [], _ :: _ => rfl
  | _ :: _, [] => rfl
  | x :: xs, y :: ys => by
    simp only [List.map_cons, PyData.eqvAll, PyData.eqv, eqv_ints xs ys, List.cons.injEq]
    by_cases h : x = y <;> by_cases h2 : xs = ys <;> simp [h, h2]
theorem eqv_tup (xs ys : List Int) : PyData.eqv (.tuple (xs.map .int)) (.tuple (ys.map .int)) = decide (xs = ys) := by simp only [PyData.eqv]; exact eqv_ints xs ys
theorem eqv_lst (xs ys : List Int) : PyData.eqv (.list (xs.map .int)) (.list (ys.map .int)) = decide (xs = ys) := by simp only [PyData.eqv]; exact eqv_ints xs ys
theorem cEq_tup (xs ys : List Int) (S : Sto) : cEq (ti xs) (ti ys) S = .ok (.d (.bool (decide (xs = ys)))) S := by
  show (if shp (.tuple (xs.map .int)) = true ∧ shp (.tuple (ys.map .int)) = true then Out.ok (IV.d (.bool (PyData.eqv (.tuple (xs.map .int)) (.tuple (ys.map .int))))) S else .bad) = _
  rw [if_pos ⟨shp_tup xs, shp_tup ys⟩, eqv_tup]
theorem cEq_lst (xs ys : List Int) (S : Sto) : cEq (li xs) (li ys) S = .ok (.d (.bool (decide (xs = ys)))) S := by
  show (if shp (.list (xs.map .int)) = true ∧ shp (.list (ys.map .int)) = true then Out.ok (IV.d (.bool (PyData.eqv (.list (xs.map .int)) (.list (ys.map .int))))) S else .bad) = _
  rw [if_pos ⟨shp_lst xs, shp_lst ys⟩, eqv_lst]
theorem isIn_ints (x : Int) (ys : List Int) : isIn (.int x) (ys.map .int) = decide (x ∈ ys) := by
  unfold isIn
  induction ys with
  | nil => rfl
  | cons y t ih =>
    rw [List.map_cons, List.any_cons, ih]
    simp only [PyData.eqv, List.mem_cons]
    by_cases h : y = x
    · simp [h]
    · have h' : ¬ x = y := fun q => h q.symm
      have hb : (y == x) = false := by simp [h]
      rw [hb]
      by_cases h2 : x ∈ t <;> simp [h', h2]
theorem len_ti {xs : List Int} {N : Int} (h : N = xs.length) (S : Sto) : bLen [ti xs] S = .ok (.d (.int N)) S := by subst h; simp
theorem len_li {xs : List Int} {N : Int} (h : N = xs.length) (S : Sto) : bLen [li xs] S = .ok (.d (.int N)) S := by subst h; simp
/-! comprehensions over data -/
theorem eLc_fil {it : FI} {g : FG} {t : FT} {e : FE} {vs : List Nat} {r : Rho} {S S1 : Sto} {ds : List PyData} (p : PyData → Bool) (φ : PyData → PyData) (hi : it r S = .ok ds S1) (hl : ds.length ≤ 1000000)
    (h : ∀ d, d ∈ ds → ∃ r1, g (.d d) (wipeR r vs) S1 = .nx r1 S1 ∧ t r1 S1 = .ok (p d) S1 ∧ (p d = true → e r1 S1 = .ok (.d (φ d)) S1)) : eLc it g t e vs r S = .ok (.d (.list ((ds.filter p).map φ))) S1 := by
  unfold eLc lcR
  rw [hi]
  show ((if ds.length ≤ 1000000 then (lcL g t e (wipeR r vs) ds S1).nox else .bad : Out (List PyData)).bind _) = _
  rw [if_pos hl, lcL_filter p φ h]
  rfl
theorem eLc_map {it : FI} {g : FG} {e : FE} {vs : List Nat} {r : Rho} {S S1 : Sto} {ds : List PyData} (φ : PyData → PyData) (hi : it r S = .ok ds S1) (hl : ds.length ≤ 1000000)
    (h : ∀ d, d ∈ ds → ∃ r1, g (.d d) (wipeR r vs) S1 = .nx r1 S1 ∧ e r1 S1 = .ok (.d (φ d)) S1) : eLc it g tYe e vs r S = .ok (.d (.list (ds.map φ))) S1 := by
  unfold eLc lcR
  rw [hi]
  show ((if ds.length ≤ 1000000 then (lcL g tYe e (wipeR r vs) ds S1).nox else .bad : Out (List PyData)).bind _) = _
  rw [if_pos hl, lcL_map φ h]
  rfl
theorem eLc_i {it : FI} {g : FG} {e : FE} {vs : List Nat} {r : Rho} {S S1 : Sto} {ns : List Int} (φ : Int → PyData) (hi : it r S = .ok (ns.map .int) S1) (hl : ns.length ≤ 1000000)
    (h : ∀ d, d ∈ ns → ∃ r1, g (.d (.int d)) (wipeR r vs) S1 = .nx r1 S1 ∧ e r1 S1 = .ok (.d (φ d)) S1) : eLc it g tYe e vs r S = .ok (.d (.list (ns.map φ))) S1 := by
  unfold eLc lcR
  rw [hi]
  show ((if (ns.map PyData.int).length ≤ 1000000 then (lcL g tYe e (wipeR r vs) (ns.map PyData.int) S1).nox else .bad : Out (List PyData)).bind _) = _
  rw [if_pos (by rw [List.length_map]; exact hl), lcL_ints φ h]
  rfl
theorem eLc_iF {it : FI} {g : FG} {t : FT} {e : FE} {vs : List Nat} {r : Rho} {S S1 : Sto} {ns : List Int} (p : Int → Bool) (φ : Int → PyData) (hi : it r S = .ok (ns.map .int) S1) (hl : ns.length ≤ 1000000)
    (h : ∀ d, d ∈ ns → ∃ r1, g (.d (.int d)) (wipeR r vs) S1 = .nx r1 S1 ∧ t r1 S1 = .ok (p d) S1 ∧ (p d = true → e r1 S1 = .ok (.d (φ d)) S1)) : eLc it g t e vs r S = .ok (.d (.list ((ns.filter p).map φ))) S1 := by
  unfold eLc lcR
  rw [hi]
  show ((if (ns.map PyData.int).length ≤ 1000000 then (lcL g t e (wipeR r vs) (ns.map PyData.int) S1).nox else .bad : Out (List PyData)).bind _) = _
  rw [if_pos (by rw [List.length_map]; exact hl), lcL_intsF p φ h]
  rfl
theorem iSeq_ok {f : FE} {r : Rho} {S S' : Sto} {v : IV} {ds : List PyData} (h : f r S = .ok v S') (hf : frozen v = some ds) (hl : ds.length < sizeLine) : iSeq f r S = .ok ds S' := by
  simp only [iSeq, h, bind_ok_, hf]
  rw [if_pos hl]
theorem sortI_ok (xs : List Int) (S : Sto) : bSortI [li xs] S = .ok (li (isort xs)) S := by
  simp only [bSortI, lintsOf, lstOf, intsOf_map]
theorem all_ok (xs : List Bool) (S : Sto) : bAll [.d (.list (xs.map .bool))] S = .ok (.d (.bool (xs.all id))) S := by
  simp only [bAll, lboolsOf, lstOf, boolsOf_map]
theorem rgL_ok {g : RgF} {r : Rho} {S S' : Sto} {i j : Int} (h : g r S = .ok (i, j) S') (hb : rgOk i j = true) : eRgL g r S = .ok (li (rgI i j)) S' := by
  simp only [eRgL, h, bind_ok_]
  rw [if_pos hb, rgD_rg]
theorem rgT_ok {g : RgF} {r : Rho} {S S' : Sto} {i j : Int} (h : g r S = .ok (i, j) S') (hb : rgOk i j = true) : eRgT g r S = .ok (ti (rgI i j)) S' := by
  simp only [eRgT, h, bind_ok_]
  rw [if_pos hb, rgD_rg]
theorem rgOk_s {i j : Int} (h0 : 0 ≤ i) (h1 : i < 2 ^ 20) (h2 : 0 ≤ j) (h3 : j < 2 ^ 20) : rgOk i j = true := by
  unfold rgOk
  simp only [Bool.and_eq_true, decide_eq_true_eq]
  exact ⟨by omega, by omega⟩
end MI
set_option maxRecDepth 100000
set_option maxHeartbeats 4000000
namespace MI
open PySem L2
/-! ## repr of data without texts: its size -/
mutual
def nd : PyData → Nat
  | .list xs => 1 + nds xs
  | .tuple xs => 1 + nds xs
  | _ => 1
def nds : List PyData → Nat
  | [] => 0
  | x :: t => nd x + nds t
end
mutual
def noS : PyData → Bool
  | .str _ => false
  | .dict _ => false
  | .list xs => noSs xs
  | .tuple xs => noSs xs
  | .int i => decide (i.natAbs.log2 < 1920)
  | .none => true
  | .bool _ => true
def noSs : List PyData → Bool
  | [] => true
  | x :: t => noS x && noSs t
end
theorem tupT_len (ts : List Str) : (tupleText ts).length ≤ piled ts + 3 := by
  unfold tupleText
  rw [strLen_append, strLen_append]
  have e1 : ((("(" : String) : Str)).length = 1 := rfl
  have e3 : (((if ts.length == 1 then ",)" else ")" : String) : Str)).length ≤ 2 := by split <;> decide
  rw [e1]
  by_cases h : ts = []
  · subst h
    have : (Str.join ", " ([] : List Str)).length = 0 := rfl
    omega
  · have := join_length_add ts h
    omega
theorem lstT_len : ∀ ts : List Str, (listText ts).length ≤ piled ts + 3
  | [] => by decide
  | t :: r => by
    have h := textFrom_length_pos r 1 (("[" : Str) ++ (if (0 : Nat) > 0 then ", " else "" : String) ++ t) (Nat.succ_pos 0)
    have e : ((("[" : Str) ++ (if (0 : Nat) > 0 then ", " else "" : String) ++ t)).length = 1 + t.length := by
      rw [strLen_append, strLen_append] <;> rfl
    have x1 : (listText (t :: r)).length = (textFrom 0 "[" (t :: r)).length + 1 := by
      show (textFrom 0 "[" (t :: r) ++ "]").length = _
      rw [strLen_append] <;> rfl
    have x2 : (textFrom 0 "[" (t :: r)).length = (textFrom 1 (("[" : Str) ++ (if (0 : Nat) > 0 then ", " else "" : String) ++ t) r).length := rfl
    rw [x1, x2, h, e, piled_cons]
    omega
mutual
theorem shown_len : ∀ d : PyData, noS d = true → d.shown.length + 2 ≤ 2000 * nd d ∧ d.showable = true ∧ d.hasDict = false
  | .none, _ => ⟨by decide, rfl, rfl⟩
  | .bool b, _ => ⟨by cases b <;> decide, rfl, rfl⟩
  | .int i, h => by
    have h : i.natAbs.log2 < 1920 := of_decide_eq_true h
    refine ⟨?_, by simp [PyData.showable, h], rfl⟩
    have := PyProof.Rows.int_text_len_1921 h
    show (Str.ofString (toString i)).length + 2 ≤ 2000 * 1
    omega
  | .str _, h => by cases h
  | .dict _, h => by cases h
  | .list xs, h => by
    have h : noSs xs = true := h
    obtain ⟨h1, h2, h3⟩ := shown_lens xs h
    have := lstT_len (PyData.shownAll xs)
    refine ⟨?_, h2, h3⟩
    show (listText (PyData.shownAll xs)).length + 2 ≤ 2000 * (1 + nds xs)
    omega
  | .tuple xs, h => by
    have h : noSs xs = true := h
    obtain ⟨h1, h2, h3⟩ := shown_lens xs h
    have := tupT_len (PyData.shownAll xs)
    refine ⟨?_, h2, h3⟩
    show (tupleText (PyData.shownAll xs)).length + 2 ≤ 2000 * (1 + nds xs)
    omega
theorem shown_lens : ∀ ds : List PyData, noSs ds = true → piled (PyData.shownAll ds) ≤ 2000 * nds ds ∧ PyData.showableAll ds = true ∧ PyData.hasDictAll ds = false
  | [], _ => ⟨by decide, rfl, rfl⟩
  | d :: t, h => by
    have h : (noS d && noSs t) = true := h
    rw [Bool.and_eq_true] at h
    obtain ⟨h1, h2, h3⟩ := shown_len d h.1
    obtain ⟨h4, h5, h6⟩ := shown_lens t h.2
    refine ⟨?_, ?_, ?_⟩
    · show piled (d.shown :: PyData.shownAll t) ≤ 2000 * (nd d + nds t)
      rw [piled_cons]
      omega
    · show (d.showable && PyData.showableAll t) = true
      rw [h2, h5] <;> rfl
    · show (d.hasDict || PyData.hasDictAll t) = false
      rw [h3, h6] <;> rfl
end
theorem prOk_of {d : PyData} (h : noS d = true) (hn : nd d ≤ 8000) (hd : d.depth ≤ 64) : prOk d = true := by
  obtain ⟨h1, h2, h3⟩ := shown_len d h
  have hz : sizeLine = 16777216 := by decide
  unfold prOk
  rw [h2, h3]
  simp only [Bool.not_false, Bool.true_and, Bool.and_eq_true, decide_eq_true_eq]
  exact ⟨hd, by omega⟩
theorem repr_ok {d : PyData} (h : prOk d = true) (S : Sto) : bRepr [.d d] S = .ok (.d (.str d.shown)) S := by
  simp only [bRepr, toD]
  rw [if_pos h]
theorem noS_ints : ∀ xs : List Int, (∀ x ∈ xs, x.natAbs < 2 ^ 1000) → noSs (xs.map .int) = true
  | [], _ => rfl
  | x :: t, h => by
    show (decide (x.natAbs.log2 < 1920) && noSs (t.map .int)) = true
    rw [noS_ints t fun y m => h y (List.mem_cons_of_mem _ m), Bool.and_true, decide_eq_true_eq]
    have hx := h x List.mem_cons_self
    by_cases h0 : x.natAbs = 0
    · rw [h0]; decide
    · have := (Nat.log2_lt h0).mpr hx
      omega
theorem nds_ints : ∀ xs : List Int, nds (xs.map .int) = xs.length
  | [] => rfl
  | x :: t => by
    show 1 + nds (t.map .int) = t.length + 1
    rw [nds_ints t]
    omega
end MI
set_option maxRecDepth 100000
set_option maxHeartbeats 4000000
namespace K42
open PySem L2 MI
/-! ## the plain law: the draws -/
theorem px0 (a b c : PyData) : oIx (.ref 0) (.d (.int 0)) [.lst [a, b, c]] = .ok (.d a) [.lst [a, b, c]] := by simp [atI, ixN]
theorem px1 (a b c : PyData) : oIx (.ref 0) (.d (.int 1)) [.lst [a, b, c]] = .ok (.d b) [.lst [a, b, c]] := by simp [atI, ixN]
theorem px2 (a b c : PyData) : oIx (.ref 0) (.d (.int 2)) [.lst [a, b, c]] = .ok (.d c) [.lst [a, b, c]] := by simp [atI, ixN]
theorem pp0 (a b c x : PyData) : stPut (.ref 0) (.d (.int 0)) (.d x) [.lst [a, b, c]] = some [.lst [x, b, c]] := by simp [ixN]
theorem pp2 (a b c x : PyData) : stPut (.ref 0) (.d (.int 2)) (.d x) [.lst [a, b, c]] = some [.lst [a, b, x]] := by simp [ixN]
theorem small_lt {n k : Nat} (h : n < 2 ^ k) (hk : k ≤ 2000) : n < 2 ^ 2000 := Nat.lt_of_lt_of_le h (Nat.pow_le_pow_right (by omega) hk)
theorem gMul_ok {i j : Int} (h1 : i.natAbs < 2 ^ 200) (h2 : j.natAbs < 2 ^ 200) : gMul i j = some (i * j) := if_pos ⟨small_lt h1 (by omega), small_lt h2 (by omega)⟩
theorem gDiv_ok {i j : Int} (h0 : 0 < j) (h1 : j.natAbs < 2 ^ 200) : gDiv i j = some (i / j) := if_pos ⟨h0, small_lt h1 (by omega)⟩
theorem gMod_ok {i j : Int} (h0 : 0 < j) : gMod i j = some (i % j) := if_pos h0
theorem gPw_ok {i j : Int} (h0 : 0 ≤ j) (h1 : j ≤ 1000) (h2 : i.natAbs < 2 ^ 200) : gPw i j = some (i ^ j.toNat) := if_pos ⟨h0, h1, Nat.lt_of_lt_of_le h2 (Nat.pow_le_pow_right (by omega) (by omega))⟩
def Pot (n : Nat) (ds : List PyData) : Prop := ∃ a b c : Int, ds = [.int a, .int b, .int c] ∧ 0 ≤ a ∧ a < 10 ^ 300 ∧ 0 ≤ b ∧ b < 2 ^ 61 ∧ 0 ≤ c ∧ c ≤ n
theorem take_ok {n : Nat} {ds : List PyData} {u : Int} (hp : Pot n ds) (hn : n ≤ 1000000) (hu : 0 < u) (hu2 : u < 2 ^ 60) :
    ∃ v es, f__law_take [.ref 0, .d (.int u)] [.lst ds] = .ok (.d (.int v)) [.lst es] ∧ 0 ≤ v ∧ v < u ∧ Pot (n + 1) es := by
  obtain ⟨a, b, c, rfl, h1, h2, h3, h4, h5, h6⟩ := hp
  have m0 : gMod a u = some (a % u) := gMod_ok hu
  have d0 : gDiv a u = some (a / u) := gDiv_ok hu (by omega)
  by_cases ha : 0 < a
  · refine ⟨a % u, [.int (a / u), .int b, .int c], ?_, Int.emod_nonneg _ (by omega), Int.emod_lt_of_pos _ hu, ⟨a / u, b, c, rfl, Int.ediv_nonneg h1 (by omega), ?_, h3, h4, h5, by omega⟩⟩
    · simp [f__law_take, ha, px0, pp0, m0, d0, List.replicate, -oIx, -stPut, -gMod, -gDiv]
    · exact Int.lt_of_le_of_lt (Int.ediv_le_self _ h1) h2
  · have m1 : gMul 79861 (c + 1) = some (79861 * (c + 1)) := gMul_ok (by decide) (by omega)
    have m2 : gMul (79861 * (c + 1)) (c + 1) = some (79861 * (c + 1) * (c + 1)) := gMul_ok (by omega) (by omega)
    have q0 : 0 ≤ (c + 1) * (c + 1) := Int.mul_nonneg (by omega) (by omega)
    have q1 : (c + 1) * (c + 1) ≤ 1000001 * 1000001 := Int.mul_le_mul (by omega) (by omega) (by omega) (by omega)
    have e2 : 79861 * (c + 1) * (c + 1) = 79861 * ((c + 1) * (c + 1)) := Int.mul_assoc _ _ _
    have m3 : gPw (b + 79861 * (c + 1) * (c + 1) + 1697) 3 = some ((b + 79861 * (c + 1) * (c + 1) + 1697) ^ 3) := gPw_ok (by omega) (by omega) (by rw [e2]; omega)
    obtain ⟨p, hp1, hp2, hp⟩ : ∃ p : Int, 0 < p ∧ p < 2 ^ 40 ∧ ∀ S, oIx (.d (.list [.int 2147482859, .int 2147482819, .int 2147482817, .int 2147482811, .int 2147482801])) (.d (.int ((c + 1) % 5))) S = .ok (.d (.int p)) S := by
      have : (c + 1) % 5 = 0 ∨ (c + 1) % 5 = 1 ∨ (c + 1) % 5 = 2 ∨ (c + 1) % 5 = 3 ∨ (c + 1) % 5 = 4 := by omega
      rcases this with h | h | h | h | h <;> rw [h] <;> refine ⟨_, ?_, ?_, fun S => by simp [atI, ixN]; rfl⟩ <;> decide
    have m4 : gMod (c + 1) 5 = some ((c + 1) % 5) := gMod_ok (by omega)
    generalize hx : (b + 79861 * (c + 1) * (c + 1) + 1697) ^ 3 = x at m3
    have m5 : gMod x p = some (x % p) := gMod_ok hp1
    have y0 : 0 ≤ x % p := Int.emod_nonneg _ (by omega)
    have y1 : x % p < p := Int.emod_lt_of_pos _ hp1
    generalize hy : x % p = y at m5 y0 y1
    have m6 : gMod y 8101 = some (y % 8101) := gMod_ok (by omega)
    have m7 : gMul 307 (c + 1) = some (307 * (c + 1)) := gMul_ok (by decide) (by omega)
    have m8 : gMul y (y % 8101 + 307 * (c + 1)) = some (y * (y % 8101 + 307 * (c + 1))) := gMul_ok (by omega) (by omega)
    generalize hz : y * (y % 8101 + 307 * (c + 1)) = z at m8
    have m9 : gMod z 2305843009213693907 = some (z % 2305843009213693907) := gMod_ok (by omega)
    generalize hw : z % 2305843009213693907 = w at m9
    have m10 : gDiv w 173 = some (w / 173) := gDiv_ok (by omega) (by decide)
    have m11 : gMod (w / 173) u = some (w / 173 % u) := gMod_ok hu
    refine ⟨w / 173 % u, [.int a, .int b, .int (c + 1)], ?_, Int.emod_nonneg _ (by omega), Int.emod_lt_of_pos _ hu, ⟨a, b, c + 1, rfl, h1, h2, h3, h4, by omega, by omega⟩⟩
    simp [f__law_take, ha, px0, px1, px2, pp2, m1, m2, m3, m4, m5, m6, m7, m8, m9, m10, m11, hp, List.replicate, -oIx, -stPut, -gMod, -gDiv, -gMul, -gPw]
end K42
set_option maxRecDepth 100000
set_option maxHeartbeats 4000000
namespace K42
open PySem L2 MI
theorem ixN_ok {n : Nat} {i : Int} (h0 : 0 ≤ i) (h1 : i < n) : ixN n i = some i.toNat := by unfold ixN; rw [if_pos h0, if_pos h1]
theorem atI_ok {α : Type} {xs : List α} {i : Int} {x : α} (h0 : 0 ≤ i) (h : xs[i.toNat]? = some x) : atI xs i = some x := by
  have h1 : i < xs.length := by have := (List.getElem?_eq_some_iff.mp h).1; omega
  unfold atI
  rw [ixN_ok h0 h1]
  exact h
theorem size_line : sizeLine = 16777216 := by decide
/-! ### _law_of, _law_some -/
theorem of_ok {n : Nat} {ds : List PyData} {xs : List PyData} (hp : Pot n ds) (hn : n ≤ 1000000) (h0 : 0 < xs.length) (h1 : xs.length < 2 ^ 50) :
    ∃ d es, d ∈ xs ∧ f__law_of [.ref 0, .d (.list xs)] [.lst ds] = .ok (.d d) [.lst es] ∧ Pot (n + 1) es := by
  obtain ⟨v, es, e, v0, v1, p⟩ := take_ok hp hn (u := xs.length) (by omega) (by omega)
  have hc := call_pot (n := 0) (S := [.lst ds]) (is := [.d (.int xs.length)]) rfl rfl e rfl
  have hv : v.toNat < xs.length := by omega
  have ha : atI xs v = some xs[v.toNat] := atI_ok v0 (List.getElem?_eq_getElem hv)
  refine ⟨xs[v.toNat], es, List.getElem_mem hv, ?_, p⟩
  simp [f__law_of, hc, ha, List.replicate]
theorem call_of {n : Nat} {ds : List PyData} {xs : List PyData} {S : Sto} {k : Nat} (hp : Pot n ds) (hn : n ≤ 1000000) (h0 : 0 < xs.length) (h1 : xs.length < 2 ^ 50) (hS : S[k]? = some (.lst ds)) :
    ∃ d es, d ∈ xs ∧ callW backW f__law_of [.ref k, .d (.list xs)] S = .ok (.d d) (S.set k (.lst es)) ∧ Pot (n + 1) es := by
  obtain ⟨d, es, m, e, p⟩ := of_ok hp hn h0 h1
  exact ⟨d, es, m, call_pot rfl hS e rfl, p⟩
theorem call_take {n : Nat} {ds : List PyData} {u : Int} {S : Sto} {k : Nat} (hp : Pot n ds) (hn : n ≤ 1000000) (hu : 0 < u) (hu2 : u < 2 ^ 60) (hS : S[k]? = some (.lst ds)) :
    ∃ v es, callW backW f__law_take [.ref k, .d (.int u)] S = .ok (.d (.int v)) (S.set k (.lst es)) ∧ 0 ≤ v ∧ v < u ∧ Pot (n + 1) es := by
  obtain ⟨v, es, e, v0, v1, p⟩ := take_ok hp hn hu hu2
  exact ⟨v, es, call_pot rfl hS e rfl, v0, v1, p⟩
theorem erase_perm {α : Type} : ∀ {l : List α} {i : Nat} (h : i < l.length), (l[i] :: l.eraseIdx i).Perm l
  | x :: t, 0, _ => .refl _
  | x :: t, i + 1, h => by
    have ih := erase_perm (l := t) (i := i) (by simpa using h)
    exact (List.Perm.swap x _ _).trans (ih.cons x)
theorem small_line {k : Nat} (h : k < 2 ^ 20) : k < sizeLine := by rw [size_line]; omega
theorem someStep {n i : Nat} {m : Int} {xs zs ys es : List PyData} {d : PyData} {v : Option IV} (hn : n + i ≤ 1000000) (q3 : (ys ++ zs).Perm xs) (h1 : xs.length < 2 ^ 20) (q4 : ys.length = i) (q5 : Pot (n + i) es) (hi : i < xs.length) :
    ∃ zs' ys' fs, (sCons (sEx (eMt "list" mApp (eVar 5) (aCons (eMt "list" mPopA (eVar 4) (aCons (eApp (callN 2 f__law_take) (aCons (eVar 0) (aCons (eApp bLen (aCons (eVar 4) aNil)) aNil))) aNil)) aNil))) sNil)
      [some (.ref 0), some (.d (.list xs)), some (.d (.int m)), some (.d d), some (.ref 1), some (.ref 2)] [.lst es, .lst zs, .lst ys] = .nx [some (.ref 0), some (.d (.list xs)), some (.d (.int m)), some (.d d), some (.ref 1), some (.ref 2)] [.lst fs, .lst zs', .lst ys'] ∧
      (ys' ++ zs').Perm xs ∧ ys'.length = i + 1 ∧ Pot (n + i + 1) fs := by
  have hl : zs.length = xs.length - i := by have := q3.length_eq; rw [List.length_append] at this; omega
  obtain ⟨t, fs, c1, c2, c3, c4⟩ := call_take (u := zs.length) (k := 0) (S := [.lst es, .lst zs, .lst ys]) q5 hn (by omega) (by omega) rfl
  have ht : t.toNat < zs.length := by omega
  have hx : seqIndex? t zs.length = some t.toNat := PySem.StrLaws.seqIndex_nonneg c2 c3
  have hyl : ys.length < sizeLine := small_line (by omega)
  have k1 : t.natAbs < 2 ^ 63 := by omega
  have hw : mPopA (.ref 1) [.d (.int t)] [.lst fs, .lst zs, .lst ys] = .ok (.d zs[t.toNat]) [.lst fs, .lst (zs.eraseIdx t.toNat), .lst ys] := by
    simp only [mPopA, List.getElem?_cons_succ, List.getElem?_cons_zero]
    rw [if_pos k1, hx]
    simp only [List.getElem?_eq_getElem ht, List.set_cons_succ, List.set_cons_zero]
  have hz : mApp (.ref 2) [.d zs[t.toNat]] [.lst fs, .lst (zs.eraseIdx t.toNat), .lst ys] = .ok (.d .none) [.lst fs, .lst (zs.eraseIdx t.toNat), .lst (ys ++ [zs[t.toNat]])] := by
    simp only [mApp, List.getElem?_cons_succ, List.getElem?_cons_zero]
    rw [if_pos hyl]
    simp only [List.set_cons_succ, List.set_cons_zero]
  refine ⟨zs.eraseIdx t.toNat, ys ++ [zs[t.toNat]], fs, ?_, ?_, by simp [q4], c4⟩
  · simp [c1, hw, hz, -mPopA, -mApp]
  · rw [List.append_assoc]
    exact (List.Perm.append_left _ (erase_perm ht)).trans q3
theorem rg_small {j : Int} (h0 : 0 ≤ j) (h1 : j < 2 ^ 20) : j.natAbs < 2 ^ 24 := by omega
theorem some_ok {n : Nat} {ds : List PyData} {xs : List PyData} {m : Nat} {M : Int} (hM : M = m) (hp : Pot n ds) (hn : n + m ≤ 1000000) (hm : m ≤ xs.length) (h1 : xs.length < 2 ^ 20) :
    ∃ ys zs es T, (ys ++ zs).Perm xs ∧ ys.length = m ∧ f__law_some [.ref 0, .d (.list xs), .d (.int M)] [.lst ds] = .ok (.ref 2) [.lst es, T, .lst ys] ∧ Pot (n + m) es := by
  have hr : (rngD 0 M).length = m := by rw [rngD_rg, List.length_map, len_rgI]; omega
  obtain ⟨r', S', e, zs, ys, es, v, q1, q2, q3, q4, q5⟩ := forL_inv (g := gNm 3) (b := sCons (sEx (eMt "list" mApp (eVar 5) (aCons (eMt "list" mPopA (eVar 4) (aCons (eApp (callN 2 f__law_take) (aCons (eVar 0) (aCons (eApp bLen (aCons (eVar 4) aNil)) aNil))) aNil)) aNil))) sNil) (ds := rngD 0 M)
    (fun i r S => ∃ zs ys es v, r = [some (.ref 0), some (.d (.list xs)), some (.d (.int M)), v, some (.ref 1), some (.ref 2)] ∧ S = [.lst es, .lst zs, .lst ys] ∧ (ys ++ zs).Perm xs ∧ ys.length = i ∧ Pot (n + i) es)
    (fun i r S d hd ⟨zs, ys, es, v, q1, q2, q3, q4, q5⟩ => by
      have hi : i < m := by have := (List.getElem?_eq_some_iff.mp hd).1; rw [hr] at this; exact this
      obtain ⟨zs', ys', fs, e, p1, p2, p3⟩ := someStep (m := M) (d := d) (v := v) (by omega) q3 h1 q4 q5 (by omega)
      subst q1 q2
      exact ⟨_, _, e, zs', ys', fs, _, rfl, rfl, p1, p2, by rw [← Nat.add_assoc]; exact p3⟩)
    (r := [some (.ref 0), some (.d (.list xs)), some (.d (.int M)), none, some (.ref 1), some (.ref 2)]) (S := [.lst ds, .lst xs, .lst []]) ⟨xs, [], ds, none, rfl, rfl, by simp, rfl, by simpa using hp⟩
  subst q1 q2
  rw [hr] at q4 q5
  refine ⟨ys, zs, es, .lst zs, q3, q4, ?_, q5⟩
  have b := rg_small (j := M) (by omega) (by omega)
  have hi : iR1 (eVar 2) [some (.ref 0), some (.d (.list xs)), some (.d (.int M)), none, some (.ref 1), some (.ref 2)] [.lst ds, .lst xs, .lst []] = .ok (rngD 0 M) [.lst ds, .lst xs, .lst []] := iR1_ok rfl b
  simp [f__law_some, List.replicate, hi, e, -iR1]
end K42
set_option maxRecDepth 100000
set_option maxHeartbeats 4000000
namespace K42
open PySem L2 MI
/-! ### rows -/
def iabs (i : Int) : Int := if i < 0 then -i else i
/-- a row: n wagons, each number once, either way about -/
structure VR (xs : List Int) (N : Int) : Prop where
  len : N = xs.length
  lo : 1 ≤ N
  hi : N ≤ 20
  srt : isort (xs.map iabs) = rgI 1 (N + 1)
section
variable {xs : List Int} {N : Int}
theorem VR.sz (v : VR xs N) : xs.length < sizeLine := by have := v.len; have := v.hi; rw [size_line]; omega
theorem VR.sz2 (v : VR xs N) : xs.length ≤ 1000000 := by have := v.len; have := v.hi; omega
theorem isint_ok (i : Int) : f_is_integer [.d (.int i)] [] = .ok (.d (.bool true)) [] := by
  simp [f_is_integer, subTy, List.replicate]
theorem frz_ti (xs : List Int) : frozen (ti xs) = some (xs.map .int) := rfl
theorem frz_li (xs : List Int) : frozen (li xs) = some (xs.map .int) := rfl
theorem is_row_ok (v : VR xs N) : f_is_row [ti xs] [] = .ok (.d (.bool true)) [] := by
  have hs : iSeq (eVar 0) [some (ti xs), none] [] = .ok (xs.map .int) [] := iSeq_ok (v := ti xs) rfl rfl (by rw [List.length_map]; exact v.sz)
  have c1 : eLc (iSeq (eVar 0)) (gNm 1) tYe (eApp (callN 1 f_is_integer) (aCons (eVar 1) aNil)) [1] [some (ti xs), none] [] = .ok (.d (.list (xs.map fun _ => .bool true))) [] :=
    eLc_i (fun _ => .bool true) hs v.sz2 fun d _ => ⟨[some (ti xs), some (.d (.int d))], rfl, by
      have := call_pure (S := []) (is := [.d (.int d)]) rfl (isint_ok d) rfl
      simp [this]⟩
  have c2 : eLc (iSeq (eVar 0)) (gNm 1) tYe (eApp bAbs (aCons (eVar 1) aNil)) [1] [some (ti xs), none] [] = .ok (.d (.list (xs.map fun d => .int (iabs d)))) [] :=
    eLc_i (fun d => .int (iabs d)) hs v.sz2 fun d _ => ⟨[some (ti xs), some (.d (.int d))], rfl, by simp [iabs]⟩
  have e1 : (xs.map fun d => PyData.int (iabs d)) = (xs.map iabs).map .int := by rw [List.map_map]; rfl
  have e2 : (xs.map fun _ => PyData.bool true) = (xs.map fun _ => true).map .bool := by rw [List.map_map]; rfl
  rw [e1] at c2
  rw [e2] at c1
  have ha : (xs.map fun _ => true).all id = true := by simp
  have hl := len_ti v.len []
  have hlo := v.lo
  have hhi := v.hi
  have hg : eRgL (rg2 (eC (.int 1)) (eOp2 oAdd (eApp bLen (aCons (eVar 0) aNil)) (eC (.int 1)))) [some (ti xs), none] [] = .ok (li (rgI 1 (N + 1))) [] := by
    refine rgL_ok ?_ (rgOk_s (by omega) (by omega) (by omega) (by omega))
    simp [hl, -bLen]
  simp [f_is_row, c1, c2, hl, hlo, hhi, all_ok, ha, sortI_ok, v.srt, hg, cEq_lst, -bLen, -eLc, -bAll, -bSortI, -eRgL, -cEq, -List.map_map, List.replicate]
theorem check_row_ok (v : VR xs N) : f_check_row [ti xs] [] = .ok (.d .none) [] := by
  have h := call_pure (S := []) (is := [ti xs]) rfl (is_row_ok v) rfl
  simp [f_check_row, h]
/-- the row with its two ends -/
def ext (xs : List Int) (N : Int) : List Int := 0 :: (xs ++ [N + 1])
def E (xs : List Int) (N p : Int) : Int := (ext xs N).getD p.toNat 0
theorem datas_d : ∀ ds : List PyData, datas (ds.map IV.d) = some ds
  | [] => rfl
  | d :: t => by simp [datas, datas_d t]
theorem ext_at (v : VR xs N) {p : Int} (h0 : 0 ≤ p) (h1 : p ≤ N + 1) : (ext xs N)[p.toNat]? = some (E xs N p) := by
  have hl : p.toNat < (ext xs N).length := by
    have := v.len
    simp [ext]
    omega
  unfold E
  rw [List.getD_eq_getElem?_getD, List.getElem?_eq_getElem hl]
  rfl
theorem oIx_ti {ys : List Int} {p y : Int} (S : Sto) (h0 : 0 ≤ p) (h : ys[p.toNat]? = some y) : oIx (ti ys) (.d (.int p)) S = .ok (.d (.int y)) S := by
  have : atI (ys.map PyData.int) p = some (.int y) := atI_ok h0 (by rw [List.getElem?_map, h]; rfl)
  simp [this]
theorem oIx_li {ys : List Int} {p y : Int} (S : Sto) (h0 : 0 ≤ p) (h : ys[p.toNat]? = some y) : oIx (li ys) (.d (.int p)) S = .ok (.d (.int y)) S := by
  have : atI (ys.map PyData.int) p = some (.int y) := atI_ok h0 (by rw [List.getElem?_map, h]; rfl)
  simp [this]
theorem outer_ok (v : VR xs N) : f_outer [ti xs] [] = .ok (ti (ext xs N)) [] := by
  have hl := len_ti v.len []
  have e1 : IV.d (.int 0) :: ((xs.map PyData.int).map IV.d ++ [IV.d (.int (N + 1))]) = ((ext xs N).map PyData.int).map IV.d := by simp [ext]
  have hk : mkTup (IV.d (.int 0) :: ((xs.map PyData.int).map IV.d ++ [IV.d (.int (N + 1))])) [] = .ok (ti (ext xs N)) [] := by
    rw [e1]
    unfold mkTup
    rw [datas_d, if_pos]
    have := v.len
    have := v.hi
    simp [ext]
    omega
  simp [f_outer, hl, hk, -bLen, -mkTup, -List.map_map]
def brk (xs : List Int) (N p : Int) : Bool := !decide (E xs N (p + 1) = E xs N p + 1)
theorem broken_at_ok (v : VR xs N) {p : Int} (h0 : 0 ≤ p) (h1 : p ≤ N) : f_broken_at [ti xs, .d (.int p)] [] = .ok (.d (.bool (brk xs N p))) [] := by
  have h := call_pure (S := []) (is := [ti xs]) rfl (outer_ok v) rfl
  have a1 := oIx_ti (ys := ext xs N) [] h0 (ext_at v h0 (by omega))
  have a2 := oIx_ti (ys := ext xs N) (p := p + 1) [] (by omega) (ext_at v (by omega) (by omega))
  simp [f_broken_at, h, a1, a2, brk, -oIx]
def bps (xs : List Int) (N : Int) : List Int := (rgI 0 (N + 1)).filter (brk xs N)
theorem rg_len {i j : Int} (h : j - i ≤ 1000000) : (rgI i j).length ≤ 1000000 := by rw [len_rgI]; omega
theorem broken_points_ok (v : VR xs N) : f_broken_points [ti xs] [] = .ok (li (bps xs N)) [] := by
  have hl := len_ti v.len []
  have hlo := v.lo
  have hhi := v.hi
  have hi : iR1 (eOp2 oAdd (eApp bLen (aCons (eVar 0) aNil)) (eC (.int 1))) [some (ti xs), none] [] = .ok ((rgI 0 (N + 1)).map .int) [] := by
    rw [← rngD_rg]
    exact iR1_ok (by simp [hl, -bLen]) (by omega)
  have c := eLc_iF (g := gNm 1) (t := tE (eApp (callN 2 f_broken_at) (aCons (eVar 0) (aCons (eVar 1) aNil)))) (e := eVar 1) (vs := [1]) (brk xs N) .int hi (rg_len (by omega)) fun d hd => by
    have hd := mem_rgI.mp hd
    have h := call_pure (S := []) (is := [ti xs, .d (.int d)]) rfl (broken_at_ok v (p := d) (by omega) (by omega)) rfl
    exact ⟨[some (ti xs), some (.d (.int d))], rfl, by simp [h], fun _ => rfl⟩
  simp [f_broken_points, c, -eLc, bps]
theorem breaks_ok (v : VR xs N) : f_breaks [ti xs] [] = .ok (ti (bps xs N)) [] := by
  have h := call_pure (S := []) (is := [ti xs]) rfl (check_row_ok v) rfl
  have h2 := call_pure (S := []) (is := [ti xs]) rfl (broken_points_ok v) rfl
  simp [f_breaks, h, h2]
theorem law_breaks_ok (v : VR xs N) : f__law_breaks [ti xs] [] = .ok (ti (bps xs N)) [] := by
  have hl := len_ti v.len []
  have hlo := v.lo
  have hhi := v.hi
  have a1 : oAdd (ti [0]) (ti xs) [] = .ok (ti (0 :: xs)) [] := by
    have := v.sz
    show (if ([PyData.int 0] : List PyData).length + (xs.map PyData.int).length ≤ sizeLine then Out.ok (IV.d (.tuple ([PyData.int 0] ++ xs.map PyData.int))) [] else .bad) = _
    rw [if_pos (by simp; omega)]
    rfl
  have a2 : oAdd (ti (0 :: xs)) (ti [N + 1]) [] = .ok (ti (ext xs N)) [] := by
    have := v.len
    show (if ((0 :: xs).map PyData.int).length + ([PyData.int (N + 1)] : List PyData).length ≤ sizeLine then Out.ok (IV.d (.tuple ((0 :: xs).map PyData.int ++ [PyData.int (N + 1)]))) [] else .bad) = _
    rw [if_pos (by rw [size_line]; simp; omega)]
    simp [ext]
  have hi : iR1 (eOp2 oAdd (eApp bLen (aCons (eVar 0) aNil)) (eC (.int 1))) [some (ti xs), some (ti (ext xs N)), none] [] = .ok ((rgI 0 (N + 1)).map .int) [] := by
    rw [← rngD_rg]
    exact iR1_ok (by simp [hl, -bLen]) (by omega)
  have c := eLc_iF (g := gNm 2) (t := tE (eOp2 cNe (eOp2 oAdd (eOp2 oIx (eVar 1) (eVar 2)) (eC (.int 1))) (eOp2 oIx (eVar 1) (eOp2 oAdd (eVar 2) (eC (.int 1)))))) (e := eVar 2) (vs := [2]) (brk xs N) .int hi (rg_len (by omega)) fun d hd => by
    have hd := mem_rgI.mp hd
    have b1 := oIx_ti (ys := ext xs N) [] hd.1 (ext_at v hd.1 (by omega))
    have b2 := oIx_ti (ys := ext xs N) (p := d + 1) [] (by omega) (ext_at v (by omega) (by omega))
    refine ⟨[some (ti xs), some (ti (ext xs N)), some (.d (.int d))], rfl, ?_, fun _ => rfl⟩
    have hb : decide (E xs N d + 1 = E xs N (d + 1)) = decide (E xs N (d + 1) = E xs N d + 1) := decide_eq_decide.mpr ⟨Eq.symm, Eq.symm⟩
    simp [b1, b2, brk, hb, -oIx]
  have z1 : mkTup [IV.d (.int 0)] [] = .ok (ti [0]) [] := rfl
  have z2 : mkTup [IV.d (.int (N + 1))] [] = .ok (ti [N + 1]) [] := rfl
  have q1 : eOp2 oAdd (eOp2 oAdd (eTup (aCons (eC (.int 0)) aNil)) (eVar 0)) (eTup (aCons (eOp2 oAdd (eApp bLen (aCons (eVar 0) aNil)) (eC (.int 1))) aNil)) [some (ti xs), none, none] [] = .ok (ti (ext xs N)) [] := by
    have q0 : eOp2 oAdd (eApp bLen (aCons (eVar 0) aNil)) (eC (.int 1)) [some (ti xs), none, none] [] = .ok (.d (.int (N + 1))) [] := by simp [hl, -bLen]
    show (eOp2 oAdd (eTup (aCons (eC (.int 0)) aNil)) (eVar 0) [some (ti xs), none, none] []).bind _ = _
    have q2 : eOp2 oAdd (eTup (aCons (eC (.int 0)) aNil)) (eVar 0) [some (ti xs), none, none] [] = .ok (ti (0 :: xs)) [] := a1
    rw [q2, bind_ok_]
    have q3 : eTup (aCons (eOp2 oAdd (eApp bLen (aCons (eVar 0) aNil)) (eC (.int 1))) aNil) [some (ti xs), none, none] [] = .ok (ti [N + 1]) [] := by
      simp only [eTup, aCons, aNil, q0, bind_ok_]
      exact z2
    rw [q3, bind_ok_]
    exact a2
  have u : ∀ fs : FS, fnB 3 fs [ti xs] [] = (fs [some (ti xs), none, none] []).fin := fun _ => rfl
  rw [f__law_breaks, u]
  simp only [sCons, sSet, q1]
  simp [c, -eLc, bps]
end
end K42
set_option maxRecDepth 100000
set_option maxHeartbeats 4000000
namespace K42
open PySem L2 MI
/-! ### strips -/
section
variable {xs : List Int} {N : Int}
theorem rg_pw (i j : Int) : (rgI i j).Pairwise (· < ·) := by
  unfold rgI
  rw [List.pairwise_map]
  exact List.Pairwise.imp (fun {a b} h => by omega) List.pairwise_lt_range
def cutP (xs : List Int) (N p : Int) : Bool := decide (p = 0) || decide (p = N) || brk xs N p
def cuts (xs : List Int) (N : Int) : List Int := (rgI 0 (N + 1)).filter (cutP xs N)
theorem cuts_eq (v : VR xs N) : dsort (0 :: N :: bps xs N) = cuts xs N := by
  have hlo := v.lo
  refine slt_unique (fun k => ?_) (dsort_pw _) ((rg_pw _ _).filter _)
  rw [dsort_mem, List.mem_cons, List.mem_cons]
  unfold bps cuts
  rw [List.mem_filter, List.mem_filter, mem_rgI]
  unfold cutP
  simp only [Bool.or_eq_true, decide_eq_true_eq]
  constructor
  · rintro (h | h | ⟨h1, h2⟩)
    · exact ⟨by omega, .inl (.inl h)⟩
    · exact ⟨by omega, .inl (.inr h)⟩
    · exact ⟨h1, .inr h2⟩
  · rintro ⟨h1, (h | h) | h⟩
    · exact .inl h
    · exact .inr (.inl h)
    · exact .inr (.inr ⟨h1, h⟩)
theorem cuts_len (v : VR xs N) : (cuts xs N).length ≤ 21 := by
  have h := List.length_filter_le (cutP xs N) (rgI 0 (N + 1))
  have h2 := len_rgI 0 (N + 1)
  have := v.hi
  unfold cuts
  omega
/-- neighbours -/
def prs : List Int → List (Int × Int)
  | a :: b :: t => (a + 1, b) :: prs (b :: t)
  | _ => []
theorem prs_zip : ∀ l : List Int, (l.zip (l.drop 1)).map (fun p => (p.1 + 1, p.2)) = prs l
  | [] => rfl
  | [a] => rfl
  | a :: b :: t => by
    have := prs_zip (b :: t)
    simp only [List.drop_succ_cons, List.drop_zero] at this
    simp only [List.drop_succ_cons, List.drop_zero, List.zip_cons_cons, List.map_cons, prs, this]
abbrev pD (p : Int × Int) : PyData := .tuple [.int p.1, .int p.2]
theorem zipD_ints (l m : List Int) : zipD (l.map .int) (m.map .int) = (l.zip m).map pD := by
  unfold zipD
  rw [List.zip_map, List.map_map]
  rfl
theorem cut1 (l : List PyData) : cutD l (some 1) none = l.drop 1 := by
  unfold cutD
  rw [HT.sIx_none, show (some (1 : Int)) = some ((1 : Nat) : Int) from rfl, HT.sIx_nat]
  cases l with
  | nil => rfl
  | cons a t => simp
theorem pr_frz {l : List (Int × Int)} : frozen (.d (.list (l.map pD))) = some (l.map pD) := rfl
theorem strips_of_ok (v : VR xs N) : f_strips_of [ti xs] [] = .ok (.d (.list ((prs (cuts xs N)).map pD))) [] := by
  have hl := len_ti v.len []
  have hcl := cuts_len v
  have hb := call_pure (S := []) (is := [ti xs]) rfl (broken_points_ok v) rfl
  have e1 : IV.d (.int 0) :: IV.d (.int N) :: ((bps xs N).map PyData.int).map IV.d = ((0 :: N :: bps xs N).map PyData.int).map IV.d := by simp
  have hbl : (bps xs N).length ≤ 21 := by
    have h := List.length_filter_le (brk xs N) (rgI 0 (N + 1))
    have h2 := len_rgI 0 (N + 1)
    have := v.hi
    unfold bps
    omega
  have hk : mkLst (IV.d (.int 0) :: IV.d (.int N) :: ((bps xs N).map PyData.int).map IV.d) [] = .ok (li (0 :: N :: bps xs N)) [] := by
    rw [e1]
    unfold mkLst
    rw [datas_d, if_pos]
    simp
    omega
  have q1 : eSrtSet (eLst (aCons (eC (.int 0)) (aCons (eApp bLen (aCons (eVar 0) aNil)) (aStar (eApp (callN 1 f_broken_points) (aCons (eVar 0) aNil)) aNil)))) [some (ti xs), none, none, none] [] = .ok (li (cuts xs N)) [] := by
    have q0 : eLst (aCons (eC (.int 0)) (aCons (eApp bLen (aCons (eVar 0) aNil)) (aStar (eApp (callN 1 f_broken_points) (aCons (eVar 0) aNil)) aNil))) [some (ti xs), none, none, none] [] = .ok (li (0 :: N :: bps xs N)) [] := by
      simp [hl, hb, hk, -bLen, -mkLst, -List.map_map]
    have hlen : (0 :: N :: bps xs N).length < 64 := by simp; omega
    have hil : lintsOf [] (li (0 :: N :: bps xs N)) = some (0 :: N :: bps xs N) := by simp only [lintsOf, lstOf, intsOf_map]
    unfold eSrtSet
    rw [q0, bind_ok_, hil]
    show (if (0 :: N :: bps xs N).length < 64 then Out.ok (li (dsort (0 :: N :: bps xs N))) [] else .bad) = _
    rw [if_pos hlen, cuts_eq v]
  have hz : iZp (eVar 1) (eSl (eVar 1) (pSm (eC (.int 1))) pNo) [some (ti xs), some (li (cuts xs N)), none, none] [] = .ok (((cuts xs N).zip ((cuts xs N).drop 1)).map pD) [] := by
    have q2 : eSl (eVar 1) (pSm (eC (.int 1))) pNo [some (ti xs), some (li (cuts xs N)), none, none] [] = .ok (li ((cuts xs N).drop 1)) [] := by
      show Out.ok (IV.d (.list (cutD ((cuts xs N).map PyData.int) (some 1) none))) [] = _
      rw [cut1, ← List.map_drop]
    have q3 : zipOf (li (cuts xs N)) (li ((cuts xs N).drop 1)) = some (((cuts xs N).zip ((cuts xs N).drop 1)).map pD) := by
      show some (zipD _ _) = _
      rw [zipD_ints]
    unfold iZp
    rw [show eVar 1 [some (ti xs), some (li (cuts xs N)), none, none] [] = Out.ok (li (cuts xs N)) [] from rfl, bind_ok_, q2, bind_ok_, q3]
    show (if (((cuts xs N).zip ((cuts xs N).drop 1)).map pD).length < sizeLine then Out.ok _ _ else .bad) = _
    rw [if_pos]
    rw [size_line]
    simp
    omega
  have c := eLc_map (g := gTp 2 (gsCons (gNm 2) (gsCons (gNm 3) gsNil))) (e := eTup (aCons (eOp2 oAdd (eVar 2) (eC (.int 1))) (aCons (eVar 3) aNil))) (vs := [2, 3]) (fun d => match d with | .tuple [.int a, .int b] => pD (a + 1, b) | d => d) hz (by simp; omega) fun d hd => by
    obtain ⟨⟨a, b⟩, _, rfl⟩ := List.mem_map.mp hd
    exact ⟨[some (ti xs), some (li (cuts xs N)), some (.d (.int a)), some (.d (.int b))], rfl, by simp⟩
  rw [List.map_map] at c
  have e2 : ((fun d => match d with | PyData.tuple [.int a, .int b] => pD (a + 1, b) | d => d) ∘ pD) = pD ∘ fun p : Int × Int => (p.1 + 1, p.2) := rfl
  rw [e2, ← List.map_map, prs_zip] at c
  have u : ∀ fs : FS, fnB 4 fs [ti xs] [] = (fs [some (ti xs), none, none, none] []).fin := fun _ => rfl
  rw [f_strips_of, u]
  simp only [sCons, sSet, q1]
  simp [c, -eLc]
theorem strips_ok (v : VR xs N) : f_strips [ti xs] [] = .ok (.d (.tuple ((prs (cuts xs N)).map pD))) [] := by
  have h := call_pure (S := []) (is := [ti xs]) rfl (check_row_ok v) rfl
  have h2 := call_pure (S := []) (is := [ti xs]) rfl (strips_of_ok v) rfl
  simp [f_strips, h, h2]
theorem row_at (v : VR xs N) {p : Int} (h0 : 0 ≤ p) (h1 : p < N) : xs[p.toNat]? = some (E xs N (p + 1)) := by
  have h := ext_at v (p := p + 1) (by omega) (by omega)
  have e : (p + 1).toNat = p.toNat + 1 := by omega
  have hl : p.toNat < xs.length := by have := v.len; omega
  rw [e] at h
  unfold ext at h
  rw [List.getElem?_cons_succ, List.getElem?_append_left hl] at h
  exact h
theorem prs_snoc : ∀ (l : List Int) (a p : Int), prs (l ++ [a] ++ [p]) = prs (l ++ [a]) ++ [(a + 1, p)]
  | [], a, p => rfl
  | [b], a, p => rfl
  | b :: d :: t, a, p => by
    have := prs_snoc (d :: t) a p
    simp only [List.cons_append, prs] at this ⊢
    rw [this]
/-- the cuts up to i -/
def cutsTo (xs : List Int) (N i : Int) : List Int := (rgI 0 (i + 1)).filter (cutP xs N)
theorem rg_succ {i : Int} (h : 0 ≤ i) : rgI 0 (i + 1) = rgI 0 i ++ [i] := by
  unfold rgI
  have e : (i + 1 - 0).toNat = i.toNat + 1 := by omega
  have e2 : (i - 0).toNat = i.toNat := by omega
  rw [e, e2, List.range_succ, List.map_append]
  simp
  omega
theorem cutsTo0 : cutsTo xs N 0 = [0] := by
  unfold cutsTo
  rw [rg_succ (by omega)]
  have : rgI 0 0 = [] := rfl
  rw [this]
  simp [cutP]
theorem cutsTo_succ {i : Int} (h : 0 ≤ i) : cutsTo xs N (i + 1) = if cutP xs N (i + 1) then cutsTo xs N i ++ [i + 1] else cutsTo xs N i := by
  unfold cutsTo
  rw [rg_succ (by omega : 0 ≤ i + 1), List.filter_append]
  by_cases hc : cutP xs N (i + 1) = true
  · simp [hc]
  · simp [hc]
theorem law_strips_ok (v : VR xs N) : f__law_strips [ti xs] [] = .ok (.d (.tuple ((prs (cuts xs N)).map pD))) [.lst ((prs (cuts xs N)).map pD)] := by
  have hlo := v.lo
  have hhi := v.hi
  have hr : (rngD 1 (N + 1)).length = N.toNat := by rw [rngD_rg, List.length_map, len_rgI]; omega
  obtain ⟨r', S', e, l, a, w, q1, q2, q3⟩ := forL_inv (g := gNm 1) (b := sCons (sIf (tOr' (tE (eOp2 cEq (eVar 1) (eApp bLen (aCons (eVar 0) aNil)))) (tE (eOp2 cNe (eOp2 oIx (eVar 0) (eVar 1)) (eOp2 oAdd (eOp2 oIx (eVar 0) (eOp2 (oInt gSub) (eVar 1) (eC (.int 1)))) (eC (.int 1)))))) (sCons (sEx (eMt "list" mApp (eVar 2) (aCons (eTup (aCons (eVar 3) (aCons (eVar 1) aNil))) aNil)))
      (sCons (sSet (eOp2 oAdd (eVar 1) (eC (.int 1))) 3) sNil)) sNil) sNil) (ds := rngD 1 (N + 1))
    (fun i r S => ∃ (l : List Int) (a : Int) (w : Option IV), r = [some (ti xs), w, some (.ref 0), some (.d (.int (a + 1)))] ∧ S = [.lst ((prs (l ++ [a])).map pD)] ∧ cutsTo xs N i = l ++ [a])
    (fun i r S d hd ⟨l, a, w, q1, q2, q3⟩ => by
      have hi : i < N.toNat := by have := (List.getElem?_eq_some_iff.mp hd).1; rw [hr] at this; exact this
      rw [rngD_rg, List.getElem?_map, at_rgI (by omega)] at hd
      cases hd
      subst q1 q2
      obtain ⟨p, hp⟩ : ∃ p : Int, p = 1 + (i : Int) := ⟨_, rfl⟩
      rw [← hp]
      have hs := cutsTo_succ (xs := xs) (N := N) (i := (i : Int)) (by omega)
      rw [show ((i : Int) + 1) = p by omega] at hs
      have hcast : ((i + 1 : Nat) : Int) = p := by omega
      rw [hcast]
      have hl := len_ti v.len [.lst ((prs (l ++ [a])).map pD)]
      have hlen : (l ++ [a]).length ≤ 21 := by
        rw [← q3]
        have h := List.length_filter_le (cutP xs N) (rgI 0 ((i : Int) + 1))
        have h2 := len_rgI 0 ((i : Int) + 1)
        unfold cutsTo
        omega
      have hpl : ∀ l : List Int, (prs l).length ≤ l.length := by
        intro l
        rw [← prs_zip]
        simp <;> omega
      have hpl2 := hpl (l ++ [a])
      have happ : mApp (.ref 0) [.d (pD (a + 1, p))] [.lst ((prs (l ++ [a])).map pD)] = .ok (.d .none) [.lst ((prs (l ++ [a] ++ [p])).map pD)] := by
        simp only [mApp, List.getElem?_cons_zero]
        rw [if_pos (by rw [size_line, List.length_map]; omega), prs_snoc, List.map_append]
        rfl
      by_cases hN : p = N
      · have hc : cutP xs N p = true := by simp [cutP, hN]
        rw [if_pos hc, q3] at hs
        refine ⟨[some (ti xs), some (.d (.int p)), some (.ref 0), some (.d (.int (p + 1)))], [.lst ((prs (l ++ [a] ++ [p])).map pD)], ?_, l ++ [a], p, some (.d (.int p)), rfl, rfl, hs⟩
        have hb : cEq (.d (.int p)) (.d (.int N)) [.lst ((prs (l ++ [a])).map pD)] = .ok (.d (.bool true)) [.lst ((prs (l ++ [a])).map pD)] := by simp [hN]
        simp [hl, hb, happ, -bLen, -mApp, -cEq]
      · have a1 := oIx_ti (ys := xs) (p := p) [.lst ((prs (l ++ [a])).map pD)] (by omega) (row_at v (by omega) (by omega))
        have a2 := oIx_ti (ys := xs) (p := p - 1) [.lst ((prs (l ++ [a])).map pD)] (by omega) (row_at v (by omega) (by omega))
        rw [show p - 1 + 1 = p by omega] at a2
        have hb : cEq (.d (.int p)) (.d (.int N)) [.lst ((prs (l ++ [a])).map pD)] = .ok (.d (.bool false)) [.lst ((prs (l ++ [a])).map pD)] := by simp [hN]
        have hn : cNe (.d (.int (E xs N (p + 1)))) (.d (.int (E xs N p + 1))) [.lst ((prs (l ++ [a])).map pD)] = .ok (.d (.bool (brk xs N p))) [.lst ((prs (l ++ [a])).map pD)] := rfl
        cases hk : brk xs N p with
        | true =>
          have hc : cutP xs N p = true := by simp [cutP, hk]
          rw [if_pos hc, q3] at hs
          refine ⟨[some (ti xs), some (.d (.int p)), some (.ref 0), some (.d (.int (p + 1)))], [.lst ((prs (l ++ [a] ++ [p])).map pD)], ?_, l ++ [a], p, some (.d (.int p)), rfl, rfl, hs⟩
          simp [hl, hb, hn, hk, a1, a2, happ, -bLen, -mApp, -cEq, -cNe, -oIx]
        | false =>
          have hp0 : ¬ p = 0 := by omega
          have hc : ¬ cutP xs N p = true := by simp [cutP, hk, hN, hp0]
          rw [if_neg hc, q3] at hs
          refine ⟨[some (ti xs), some (.d (.int p)), some (.ref 0), some (.d (.int (a + 1)))], [.lst ((prs (l ++ [a])).map pD)], ?_, l, a, some (.d (.int p)), rfl, rfl, hs⟩
          simp [hl, hb, hn, hk, a1, a2, -bLen, -mApp, -cEq, -cNe, -oIx])
    (r := [some (ti xs), none, some (.ref 0), some (.d (.int 1))]) (S := [.lst []]) ⟨[], 0, none, rfl, rfl, cutsTo0⟩
  rw [hr] at q3
  have q4 : cuts xs N = l ++ [a] := by
    rw [← q3]
    unfold cuts cutsTo
    rw [show ((N.toNat : Nat) : Int) = N by omega]
  subst q1 q2
  rw [← q4] at e
  have hl := len_ti v.len [.lst []]
  have hi : iR2 (eC (.int 1)) (eOp2 oAdd (eApp bLen (aCons (eVar 0) aNil)) (eC (.int 1))) [some (ti xs), none, some (.ref 0), some (.d (.int 1))] [.lst []] = .ok (rngD 1 (N + 1)) [.lst []] :=
    iR2_ok (i := 1) (j := N + 1) rfl (by simp [hl, -bLen]) (by omega)
  rw [q4]
  rw [q4] at e
  simp [f__law_strips, hi, e, -iR2]
end
end K42
set_option maxRecDepth 100000
set_option maxHeartbeats 4000000
namespace K42
open PySem L2 MI
/-! ### bundled -/
section
variable {xs : List Int} {N : Int}
theorem E_row (v : VR xs N) {i : Nat} (h : i < xs.length) : E xs N ((i : Int) + 1) = xs[i] := by
  have := row_at v (p := (i : Int)) (by omega) (by have := v.len; omega)
  rw [Int.toNat_natCast, List.getElem?_eq_getElem h] at this
  exact (Option.some.inj this).symm
theorem VR.perm (v : VR xs N) : (xs.map iabs).Perm (rgI 1 (N + 1)) := by
  rw [← v.srt]
  exact (isort_perm _).symm
theorem VR.nd (v : VR xs N) : (xs.map iabs).Nodup := by
  rw [v.perm.nodup_iff]
  exact (rg_pw 1 (N + 1)).imp fun {a b} h => by omega
theorem VR.mem (v : VR xs N) {x : Int} (h : x ∈ xs) : 1 ≤ iabs x ∧ iabs x ≤ N := by
  have := v.perm.mem_iff.mp (List.mem_map.mpr ⟨x, h, rfl⟩)
  rw [mem_rgI] at this
  omega
theorem VR.E_inj (v : VR xs N) {p q : Int} (hp : 1 ≤ p) (hp2 : p ≤ N) (hq : 1 ≤ q) (hq2 : q ≤ N) (h : iabs (E xs N p) = iabs (E xs N q)) : p = q := by
  have hl := v.len
  have e1 := E_row v (i := (p - 1).toNat) (by omega)
  have e2 := E_row v (i := (q - 1).toNat) (by omega)
  rw [show (((p - 1).toNat : Nat) : Int) + 1 = p by omega] at e1
  rw [show (((q - 1).toNat : Nat) : Int) + 1 = q by omega] at e2
  rw [e1, e2] at h
  have l1 : (p - 1).toNat < (xs.map iabs).length := by rw [List.length_map]; omega
  have l2 : (q - 1).toNat < (xs.map iabs).length := by rw [List.length_map]; omega
  have := (List.getElem_inj (i := (p - 1).toNat) (j := (q - 1).toNat) (h₀ := l1) (h₁ := l2) v.nd).mp (by simpa using h)
  omega
theorem VR.E_mem (v : VR xs N) {p : Int} (hp : 1 ≤ p) (hp2 : p ≤ N) : E xs N p ∈ xs := by
  have e1 := E_row v (i := (p - 1).toNat) (by have := v.len; omega)
  rw [show (((p - 1).toNat : Nat) : Int) + 1 = p by omega] at e1
  rw [e1]
  exact List.getElem_mem _
/-- the pairs' first parts -/
theorem prs_fst : ∀ l : List Int, l.Pairwise (· < ·) → ((prs l).map (·.1)).Pairwise (· < ·) ∧ ∀ p, p ∈ prs l → ∃ a b, p = (a + 1, b) ∧ a ∈ l ∧ b ∈ l ∧ a < b
  | [], _ => ⟨.nil, fun p h => by cases h⟩
  | [a], _ => ⟨.nil, fun p h => by cases h⟩
  | a :: b :: t, h => by
    have z := List.pairwise_cons.mp h
    obtain ⟨h1, h2⟩ := prs_fst (b :: t) z.2
    have ab : a < b := z.1 b List.mem_cons_self
    refine ⟨?_, fun p hp => ?_⟩
    · show ((a + 1) :: (prs (b :: t)).map (·.1)).Pairwise (· < ·)
      refine List.pairwise_cons.mpr ⟨fun x hx => ?_, h1⟩
      obtain ⟨p, hp, rfl⟩ := List.mem_map.mp hx
      obtain ⟨c, d, rfl, hc, _, _⟩ := h2 p hp
      have : b ≤ c := by
        rcases List.mem_cons.mp hc with e | e
        · omega
        · have := (List.pairwise_cons.mp z.2).1 c e; omega
      show a + 1 < c + 1
      omega
    · have hp : p ∈ (a + 1, b) :: prs (b :: t) := hp
      rcases List.mem_cons.mp hp with e | e
      · exact ⟨a, b, e, List.mem_cons_self, List.mem_cons_of_mem _ List.mem_cons_self, ab⟩
      · obtain ⟨c, d, e1, e2, e3, e4⟩ := h2 p e
        exact ⟨c, d, e1, List.mem_cons_of_mem _ e2, List.mem_cons_of_mem _ e3, e4⟩
def sps (xs : List Int) (N : Int) : List (Int × Int) := prs (cuts xs N)
theorem cuts_mem {p : Int} (h : p ∈ cuts xs N) : 0 ≤ p ∧ p ≤ N := by
  have := (List.mem_filter.mp h).1
  rw [mem_rgI] at this
  omega
theorem cuts_pw : (cuts xs N).Pairwise (· < ·) := (rg_pw _ _).filter _
theorem sps_mem {p : Int × Int} (h : p ∈ sps xs N) : 1 ≤ p.1 ∧ p.1 ≤ p.2 ∧ p.2 ≤ N := by
  obtain ⟨a, b, rfl, h1, h2, h3⟩ := (prs_fst _ cuts_pw).2 p h
  have := cuts_mem h1
  have := cuts_mem h2
  exact ⟨by show 1 ≤ a + 1; omega, by show a + 1 ≤ b; omega, by show b ≤ N; omega⟩
def heads (xs : List Int) (N : Int) : List Int := (sps xs N).map fun p => E xs N p.1
theorem heads_nd (v : VR xs N) : ((heads xs N).map iabs).Nodup := by
  unfold heads
  rw [List.map_map]
  have h1 := (prs_fst _ (cuts_pw (xs := xs) (N := N))).1
  rw [List.pairwise_map] at h1
  show ((sps xs N).map _).Pairwise (· ≠ ·)
  rw [List.pairwise_map]
  refine List.Pairwise.imp_of_mem (fun {p q} hp hq h e => ?_) h1
  have a1 := sps_mem (xs := xs) (N := N) hp
  have a2 := sps_mem (xs := xs) (N := N) hq
  have := v.E_inj (p := p.1) (q := q.1) (by omega) (by omega) (by omega) (by omega) e
  omega
/-- how many are not greater -/
def rk (hs : List Int) (w : Int) : Int := ((hs.filter fun it => decide (iabs it ≤ iabs w)).length : Nat)
theorem idx_of : ∀ {l : List Int}, l.Pairwise (· < ·) → ∀ {x : Int}, x ∈ l → ∃ j : Nat, (l.map PyData.int).findIdx? (fun z => PyData.eqv z (.int x)) = some j ∧ j + 1 = (l.filter fun y => decide (y ≤ x)).length
  | y :: t, h, x, hx => by
    have z := List.pairwise_cons.mp h
    have e0 : PyData.eqv (.int y) (.int x) = (y == x) := rfl
    rw [List.map_cons, List.findIdx?_cons, e0]
    by_cases hy : y = x
    · subst hy
      have : t.filter (fun z => decide (z ≤ y)) = [] := by
        rw [List.filter_eq_nil_iff]
        intro a ha
        have := z.1 a ha
        simp
        omega
      exact ⟨0, by simp, by simp [this]⟩
    · have hx' : x ∈ t := by
        rcases List.mem_cons.mp hx with e | e
        · exact absurd e.symm hy
        · exact e
      obtain ⟨j, h1, h2⟩ := idx_of z.2 hx'
      have hle : y ≤ x := by have := z.1 x hx'; omega
      have hb : (y == x) = false := by simp [hy]
      exact ⟨j + 1, by rw [hb]; simp [h1], by simp [hle, h2]⟩
theorem isort_lt {l : List Int} (h : l.Nodup) : (isort l).Pairwise (· < ·) := by
  have h1 := isort_pw l
  have h2 : (isort l).Nodup := (isort_perm l).nodup_iff.mpr h
  exact (List.pairwise_and_iff.mpr ⟨h1, h2⟩).imp fun {a b} ⟨p, q⟩ => by
    have q : a ≠ b := q
    omega
theorem rank_of {hs : List Int} (h : (hs.map iabs).Nodup) {w : Int} (hw : w ∈ hs) :
    ∃ j : Nat, ((isort (hs.map iabs)).map PyData.int).findIdx? (fun z => PyData.eqv z (.int (iabs w))) = some j ∧ (j : Int) + 1 = rk hs w := by
  obtain ⟨j, h1, h2⟩ := idx_of (isort_lt h) (x := iabs w) ((isort_perm _).mem_iff.mpr (List.mem_map.mpr ⟨w, hw, rfl⟩))
  refine ⟨j, h1, ?_⟩
  have e := ((isort_perm (hs.map iabs)).filter fun y => decide (y ≤ iabs w)).length_eq
  rw [List.filter_map, List.length_map] at e
  unfold rk
  have e2 : (hs.filter fun it => decide (iabs it ≤ iabs w)).length = (hs.filter ((fun y => decide (y ≤ iabs w)) ∘ iabs)).length := rfl
  omega
/-- the bundle -/
def bun (xs : List Int) (N : Int) : List Int := (heads xs N).map fun w => if 0 < w then rk (heads xs N) w else - rk (heads xs N) w
end
end K42
set_option maxRecDepth 100000
set_option maxHeartbeats 4000000
namespace K42
open PySem L2 MI
section
variable {xs : List Int} {N : Int}
theorem prs_len : ∀ l : List Int, (prs l).length ≤ l.length := fun l => by
  rw [← prs_zip]
  simp <;> omega
theorem sps_len (v : VR xs N) : (sps xs N).length ≤ 21 := Nat.le_trans (prs_len _) (cuts_len v)
theorem heads_len (v : VR xs N) : (heads xs N).length ≤ 21 := by unfold heads; rw [List.length_map]; exact sps_len v
theorem E_at (v : VR xs N) {p : Int × Int} (h : p ∈ sps xs N) (S : Sto) : oIx (ti xs) (.d (.int (p.1 - 1))) S = .ok (.d (.int (E xs N p.1))) S := by
  have := sps_mem h
  have r := row_at v (p := p.1 - 1) (by omega) (by omega)
  rw [show p.1 - 1 + 1 = p.1 by omega] at r
  exact oIx_ti S (by omega) r
theorem heads_map : ((sps xs N).map fun p => PyData.int (E xs N p.1)) = (heads xs N).map .int := by unfold heads; rw [List.map_map]; rfl
theorem abs_ok (w : Int) (S : Sto) : bAbs [.d (.int w)] S = .ok (.d (.int (iabs w))) S := rfl
theorem bundled_of_ok (v : VR xs N) : f_bundled_of [ti xs] [] = .ok (ti (bun xs N)) [] := by
  have h0 := call_pure (S := []) (is := [ti xs]) rfl (strips_of_ok v) rfl
  have hsl := sps_len v
  have hhl := heads_len v
  have i1 : iSeq (eApp (callN 1 f_strips_of) (aCons (eVar 0) aNil)) [some (ti xs), none, none, none, none, none] [] = .ok ((sps xs N).map pD) [] :=
    iSeq_ok (v := .d (.list ((sps xs N).map pD))) (by simp [h0, sps]) rfl (by rw [size_line, List.length_map]; omega)
  have c1 := eLc_map (g := gTp 2 (gsCons (gNm 3) (gsCons (gNm 4) gsNil))) (e := eOp2 oIx (eVar 0) (eOp2 (oInt gSub) (eVar 3) (eC (.int 1)))) (vs := [3, 4]) (fun d => match d with | .tuple [.int a, .int b] => .int (E xs N a) | d => d) i1 (by rw [List.length_map]; omega) fun d hd => by
    obtain ⟨p, hp, rfl⟩ := List.mem_map.mp hd
    exact ⟨[some (ti xs), none, none, some (.d (.int p.1)), some (.d (.int p.2)), none], rfl, by simp [E_at v hp, -oIx]⟩
  rw [List.map_map, show ((fun d => match d with | PyData.tuple [.int a, .int b] => PyData.int (E xs N a) | d => d) ∘ pD) = (fun p : Int × Int => PyData.int (E xs N p.1)) from rfl, heads_map] at c1
  have i2 : ∀ r : Rho, r[1]? = some (some (li (heads xs N))) → iSeq (eVar 1) r [] = .ok ((heads xs N).map .int) [] := fun r hr =>
    iSeq_ok (v := li (heads xs N)) (by simp [hr]) rfl (by rw [size_line, List.length_map]; omega)
  have c2 := eLc_i (g := gNm 5) (e := eApp bAbs (aCons (eVar 5) aNil)) (vs := [5]) (r := [some (ti xs), some (li (heads xs N)), none, none, none, none]) (fun w => .int (iabs w)) (i2 _ rfl) (by omega) fun d _ => ⟨[some (ti xs), some (li (heads xs N)), none, none, none, some (.d (.int d))], rfl, by simp [abs_ok, -bAbs]⟩
  rw [show ((heads xs N).map fun w => PyData.int (iabs w)) = ((heads xs N).map iabs).map .int by rw [List.map_map]; rfl] at c2
  have c3 := eLc_i (g := gNm 5) (e := eIf (tE (eOp2 (cInt gGt) (eVar 5) (eC (.int 0)))) (eOp2 oAdd (eMt "list" mIdx (eVar 2) (aCons (eApp bAbs (aCons (eVar 5) aNil)) aNil)) (eC (.int 1))) (eOp2 (oInt gSub) (eOp2 (oInt gSub) (eC (.int 0)) (eMt "list" mIdx (eVar 2) (aCons (eApp bAbs (aCons (eVar 5) aNil)) aNil))) (eC (.int 1)))) (vs := [5])
    (r := [some (ti xs), some (li (heads xs N)), some (li (isort ((heads xs N).map iabs))), none, none, none]) (fun w => .int (if 0 < w then rk (heads xs N) w else - rk (heads xs N) w)) (i2 _ rfl) (by omega) fun d hd => by
      obtain ⟨j, j1, j2⟩ := rank_of (heads_nd v) hd
      have hm : mIdx (li (isort ((heads xs N).map iabs))) [.d (.int (iabs d))] [] = .ok (.d (.int (j : Nat))) [] := by
        have hs : (SeqAt.shaped (.list ((isort ((heads xs N).map iabs)).map PyData.int)) && SeqAt.shaped (.int (iabs d))) = true := by
          rw [Bool.and_eq_true]
          exact ⟨shp_lst _, shp_int _⟩
        simp only [mIdx, lstOf, toD]
        rw [if_pos hs, j1]
      refine ⟨[some (ti xs), some (li (heads xs N)), some (li (isort ((heads xs N).map iabs))), none, none, some (.d (.int d))], rfl, ?_⟩
      by_cases h : 0 < d
      · simp [h, hm, abs_ok, -bAbs, -mIdx]
        omega
      · simp [h, hm, abs_ok, -bAbs, -mIdx]
        omega
  rw [show ((heads xs N).map fun w => PyData.int (if 0 < w then rk (heads xs N) w else - rk (heads xs N) w)) = (bun xs N).map .int by unfold bun; rw [List.map_map]; rfl] at c3
  have u : ∀ fs : FS, fnB 6 fs [ti xs] [] = (fs [some (ti xs), none, none, none, none, none] []).fin := fun _ => rfl
  rw [f_bundled_of, u]
  simp only [sCons, sSet, c1]
  simp [c2, c3, sortI_ok, -eLc, -bSortI, -List.map_map]
theorem bundled_ok (v : VR xs N) : f_bundled [ti xs] [] = .ok (ti (bun xs N)) [] := by
  have h := call_pure (S := []) (is := [ti xs]) rfl (check_row_ok v) rfl
  have h2 := call_pure (S := []) (is := [ti xs]) rfl (bundled_of_ok v) rfl
  simp [f_bundled, h, h2]
theorem law_bundled_ok (v : VR xs N) : ∃ T, f__law_bundled [ti xs] [] = .ok (ti (bun xs N)) T := by
  have h0 : callW backW f__law_strips [ti xs] [] = .ok (.d (.tuple ((sps xs N).map pD))) [] := call_pure (S := []) (is := [ti xs]) rfl (law_strips_ok v) rfl
  have hsl := sps_len v
  have hhl := heads_len v
  have i1 : iSeq (eApp (callN 1 f__law_strips) (aCons (eVar 0) aNil)) [some (ti xs), none, none, none, none, none, none, none] [] = .ok ((sps xs N).map pD) [] :=
    iSeq_ok (v := .d (.tuple ((sps xs N).map pD))) (by simp [h0]) rfl (by rw [size_line, List.length_map]; omega)
  have c1 := eLc_map (g := gTp 2 (gsCons (gNm 5) (gsCons (gNm 6) gsNil))) (e := eOp2 oIx (eVar 0) (eOp2 (oInt gSub) (eVar 5) (eC (.int 1)))) (vs := [5, 6]) (fun d => match d with | .tuple [.int a, .int b] => .int (E xs N a) | d => d) i1 (by rw [List.length_map]; omega) fun d hd => by
    obtain ⟨p, hp, rfl⟩ := List.mem_map.mp hd
    exact ⟨[some (ti xs), none, none, none, none, some (.d (.int p.1)), some (.d (.int p.2)), none], rfl, by simp [E_at v hp, -oIx]⟩
  rw [List.map_map, show ((fun d => match d with | PyData.tuple [.int a, .int b] => PyData.int (E xs N a) | d => d) ∘ pD) = (fun p : Int × Int => PyData.int (E xs N p.1)) from rfl, heads_map] at c1
  have i2 : ∀ (r : Rho) (S : Sto), r[1]? = some (some (li (heads xs N))) → iSeq (eVar 1) r S = .ok ((heads xs N).map .int) S := fun r S hr =>
    iSeq_ok (v := li (heads xs N)) (by simp [hr]) rfl (by rw [size_line, List.length_map]; omega)
  obtain ⟨r', S', e, w3, w4, w7, q1, q2⟩ := forL_inv (g := gNm 3) (b := sCons (sSet (eApp bLen (aCons (eLc (iSeq (eVar 1)) (gNm 7) (tE (eOp2 (cInt gLe) (eApp bAbs (aCons (eVar 7) aNil)) (eApp bAbs (aCons (eVar 3) aNil)))) (eVar 7) [7]) aNil)) 4)
      (sCons (sEx (eMt "list" mApp (eVar 2) (aCons (eIf (tE (eOp2 (cInt gGt) (eVar 3) (eC (.int 0)))) (eVar 4) (eOp1 oNeg (eVar 4))) aNil))) sNil)) (ds := (heads xs N).map .int)
    (fun i r S => ∃ w3 w4 w7, r = [some (ti xs), some (li (heads xs N)), some (.ref 0), w3, w4, none, none, w7] ∧ S = [.lst (((bun xs N).take i).map .int)])
    (fun i r S d hd ⟨w3, w4, w7, q1, q2⟩ => by
      rw [List.getElem?_map] at hd
      cases hx : (heads xs N)[i]? with
      | none => rw [hx] at hd; cases hd
      | some w =>
        rw [hx] at hd
        cases hd
        have hi := (List.getElem?_eq_some_iff.mp hx).1
        subst q1 q2
        have cc := eLc_iF (g := gNm 7) (t := tE (eOp2 (cInt gLe) (eApp bAbs (aCons (eVar 7) aNil)) (eApp bAbs (aCons (eVar 3) aNil)))) (e := eVar 7) (vs := [7]) (r := [some (ti xs), some (li (heads xs N)), some (.ref 0), some (.d (.int w)), w4, none, none, w7]) (fun it => decide (iabs it ≤ iabs w)) .int (i2 _ [.lst (((bun xs N).take i).map .int)] rfl) (by omega)
          fun d _ => ⟨[some (ti xs), some (li (heads xs N)), some (.ref 0), some (.d (.int w)), w4, none, none, some (.d (.int d))], rfl, by simp [abs_ok, -bAbs], fun _ => rfl⟩
        have hlen := len_li (xs := (heads xs N).filter fun it => decide (iabs it ≤ iabs w)) (N := rk (heads xs N) w) rfl [.lst (((bun xs N).take i).map .int)]
        have hb : (bun xs N)[i]? = some (if 0 < w then rk (heads xs N) w else - rk (heads xs N) w) := by unfold bun; rw [List.getElem?_map, hx]; rfl
        have ht : (bun xs N).take (i + 1) = (bun xs N).take i ++ [if 0 < w then rk (heads xs N) w else - rk (heads xs N) w] := by rw [List.take_add_one, hb]; rfl
        have happ : ∀ z : Int, z = (if 0 < w then rk (heads xs N) w else - rk (heads xs N) w) → mApp (.ref 0) [.d (.int z)] [.lst (((bun xs N).take i).map .int)] = .ok (.d .none) [.lst (((bun xs N).take (i + 1)).map .int)] := fun z hz => by
          simp only [mApp, List.getElem?_cons_zero]
          rw [if_pos (by rw [size_line, List.length_map, List.length_take]; omega), ht, List.map_append, hz]
          rfl
        by_cases h : 0 < w
        · have ha := happ (rk (heads xs N) w) (by rw [if_pos h])
          exact ⟨[some (ti xs), some (li (heads xs N)), some (.ref 0), some (.d (.int w)), some (.d (.int (rk (heads xs N) w))), none, none, w7], _, by simp [cc, hlen, h, ha, -eLc, -bLen, -mApp, -List.map_take], _, _, _, rfl, rfl⟩
        · have ha := happ (- rk (heads xs N) w) (by rw [if_neg h])
          exact ⟨[some (ti xs), some (li (heads xs N)), some (.ref 0), some (.d (.int w)), some (.d (.int (rk (heads xs N) w))), none, none, w7], _, by simp [cc, hlen, h, ha, -eLc, -bLen, -mApp, -List.map_take], _, _, _, rfl, rfl⟩)
    (r := [some (ti xs), some (li (heads xs N)), some (.ref 0), none, none, none, none, none]) (S := [.lst []]) ⟨none, none, none, rfl, rfl⟩
  have hb : (bun xs N).length = (heads xs N).length := by unfold bun; rw [List.length_map]
  rw [List.length_map, ← hb, List.take_length] at q2
  subst q1 q2
  have u : ∀ fs : FS, fnB 8 fs [ti xs] [] = (fs [some (ti xs), none, none, none, none, none, none, none] []).fin := fun _ => rfl
  refine ⟨[.lst ((bun xs N).map .int)], ?_⟩
  rw [f__law_bundled, u]
  simp only [sCons, sSet, c1]
  simp [i2, e, -iSeq]
end
end K42
set_option maxRecDepth 100000
set_option maxHeartbeats 4000000
namespace K42
open PySem L2 MI
/-! ### turns -/
theorem sIx_int {n d : Nat} {v : Int} (h : 0 ≤ v) : HT.sIx n d (some v) = min v.toNat n := by
  obtain ⟨k, rfl⟩ := Int.eq_ofNat_of_zero_le h
  rw [HT.sIx_nat, Int.toNat_natCast]
theorem cut_to (l : List PyData) {v : Int} (h : 0 ≤ v) (h2 : v.toNat ≤ l.length) : cutD l none (some v) = l.take v.toNat := by
  unfold cutD
  rw [HT.sIx_none, sIx_int h, Nat.min_eq_left h2]
  simp
theorem cut_from (l : List PyData) {v : Int} (h : 0 ≤ v) (h2 : v.toNat ≤ l.length) : cutD l (some v) none = l.drop v.toNat := by
  unfold cutD
  rw [HT.sIx_none, sIx_int h, Nat.min_eq_left h2, List.take_of_length_le (by simp)]
theorem cut_mid (l : List PyData) {u v : Int} (h : 0 ≤ u) (h1 : u ≤ v) (h2 : v.toNat ≤ l.length) : cutD l (some u) (some v) = (l.drop u.toNat).take (v.toNat - u.toNat) := by
  unfold cutD
  rw [sIx_int h, sIx_int (by omega : 0 ≤ v), Nat.min_eq_left h2, Nat.min_eq_left (by omega)]
def mid (xs : List Int) (f l : Int) : List Int := (xs.drop (f - 1).toNat).take (l.toNat - (f - 1).toNat)
def trn (xs : List Int) (f l : Int) : List Int := xs.take (f - 1).toNat ++ (mid xs f l).reverse.map (fun w => -w) ++ xs.drop l.toNat
section
variable {xs : List Int} {N f l : Int}
theorem sl_to (v : VR xs N) {u : Int} (h : 0 ≤ u) (h2 : u ≤ N) (S : Sto) : oSl (ti xs) none (some u) S = .ok (ti (xs.take u.toNat)) S := by
  show Out.ok (IV.d (.tuple (cutD (xs.map PyData.int) none (some u)))) S = _
  rw [cut_to _ h (by rw [List.length_map]; have := v.len; omega), ← List.map_take]
theorem sl_from (v : VR xs N) {u : Int} (h : 0 ≤ u) (h2 : u ≤ N) (S : Sto) : oSl (ti xs) (some u) none S = .ok (ti (xs.drop u.toNat)) S := by
  show Out.ok (IV.d (.tuple (cutD (xs.map PyData.int) (some u) none))) S = _
  rw [cut_from _ h (by rw [List.length_map]; have := v.len; omega), ← List.map_drop]
theorem sl_mid (v : VR xs N) (h : 1 ≤ f) (h1 : f ≤ l) (h2 : l ≤ N) (S : Sto) : oSl (ti xs) (some (f - 1)) (some l) S = .ok (ti (mid xs f l)) S := by
  show Out.ok (IV.d (.tuple (cutD (xs.map PyData.int) (some (f - 1)) (some l)))) S = _
  rw [cut_mid _ (by omega) (by omega) (by rw [List.length_map]; have := v.len; omega), ← List.map_drop, ← List.map_take]
  rfl
theorem mid_len (v : VR xs N) (h : 1 ≤ f) (h1 : f ≤ l) (h2 : l ≤ N) : (mid xs f l).length = (l - f + 1).toNat := by
  have := v.len
  unfold mid
  rw [List.length_take, List.length_drop]
  omega
theorem trn_len (v : VR xs N) (h : 1 ≤ f) (h1 : f ≤ l) (h2 : l ≤ N) : (trn xs f l).length = xs.length := by
  have := v.len
  unfold trn
  rw [List.length_append, List.length_append, List.length_take, List.length_map, List.length_reverse, mid_len v h h1 h2, List.length_drop]
  omega
theorem add_ti {as bs : List Int} (h : as.length + bs.length ≤ 1000) (S : Sto) : oAdd (ti as) (ti bs) S = .ok (ti (as ++ bs)) S := by
  show (if (as.map PyData.int).length + (bs.map PyData.int).length ≤ sizeLine then Out.ok (IV.d (.tuple (as.map PyData.int ++ bs.map PyData.int))) S else .bad) = _
  rw [if_pos (by rw [size_line, List.length_map, List.length_map]; omega), ← List.map_append]
theorem do_turn_ok (v : VR xs N) (h : 1 ≤ f) (h1 : f ≤ l) (h2 : l ≤ N) : f_do_turn [ti xs, .d (pD (f, l))] [] = .ok (ti (trn xs f l)) [] := by
  have hl := v.len
  have hhi := v.hi
  have s1 := sl_to v (u := f - 1) (by omega) (by omega) []
  have s2 := sl_mid v h h1 h2 []
  have s3 := sl_from v (u := l) (by omega) (by omega) []
  have hm := mid_len v h h1 h2
  have i1 : iSeq (eRev (eSl (eVar 0) (pSm (eOp2 (oInt gSub) (eVar 3) (eC (.int 1)))) (pSm (eVar 4)))) [some (ti xs), some (.d (pD (f, l))), none, some (.d (.int f)), some (.d (.int l)), none] [] = .ok ((mid xs f l).reverse.map .int) [] :=
    iSeq_ok (v := ti (mid xs f l).reverse) (by simp [s2, -oSl]) rfl (by rw [size_line, List.length_map, List.length_reverse]; omega)
  have c := eLc_i (g := gNm 5) (e := eOp2 (oInt gSub) (eC (.int 0)) (eVar 5)) (vs := [5]) (fun w => .int (-w)) i1 (by rw [List.length_reverse]; omega) fun d _ => ⟨[some (ti xs), some (.d (pD (f, l))), none, some (.d (.int f)), some (.d (.int l)), some (.d (.int d))], rfl, by simp⟩
  rw [show ((mid xs f l).reverse.map fun w => PyData.int (-w)) = ((mid xs f l).reverse.map fun w => -w).map .int by rw [List.map_map]; rfl] at c
  have a1 := add_ti (as := xs.take (f - 1).toNat) (bs := (mid xs f l).reverse.map fun w => -w) (by rw [List.length_take, List.length_map, List.length_reverse]; omega) []
  have a2 := add_ti (as := xs.take (f - 1).toNat ++ (mid xs f l).reverse.map fun w => -w) (bs := xs.drop l.toNat) (by rw [List.length_append, List.length_take, List.length_map, List.length_reverse, List.length_drop]; omega) []
  have u : ∀ fs : FS, fnB 6 fs [ti xs, .d (pD (f, l))] [] = (fs [some (ti xs), some (.d (pD (f, l))), none, none, none, none] []).fin := fun _ => rfl
  rw [f_do_turn, u]
  have g0 : sAs (eVar 1) (gTp 2 (gsCons (gNm 3) (gsCons (gNm 4) gsNil))) [some (ti xs), some (.d (pD (f, l))), none, none, none, none] [] = .nx [some (ti xs), some (.d (pD (f, l))), none, some (.d (.int f)), some (.d (.int l)), none] [] := rfl
  obtain ⟨as, has⟩ : ∃ as, as = xs.take (f - 1).toNat := ⟨_, rfl⟩
  obtain ⟨ms, hms⟩ : ∃ ms, ms = (mid xs f l).reverse.map fun w => -w := ⟨_, rfl⟩
  obtain ⟨bs, hbs⟩ : ∃ bs, bs = xs.drop l.toNat := ⟨_, rfl⟩
  have ht : trn xs f l = as ++ ms ++ bs := by rw [has, hms, hbs]; rfl
  rw [ht]
  rw [← has] at s1 a1 a2
  rw [← hms] at a1 a2 c
  rw [← hbs] at s3 a2
  simp only [sCons, g0, seq_nx_]
  simp [c, s1, s3, a1, a2, -eLc, -oSl, -oAdd, -List.map_map, -List.map_reverse, -List.map_take, -List.map_drop, -List.map_append, -List.append_assoc]
theorem law_turned_ok (v : VR xs N) (h : 1 ≤ f) (h1 : f ≤ l) (h2 : l ≤ N) : f__law_turned [ti xs, .d (pD (f, l))] [] = .ok (ti (trn xs f l)) [] := by
  have hl := v.len
  have hhi := v.hi
  have s1 := sl_to v (u := f - 1) (by omega) (by omega) []
  have s2 := sl_mid v h h1 h2 []
  have s3 := sl_from v (u := l) (by omega) (by omega) []
  have hm := mid_len v h h1 h2
  have i1 : iSeq (eSl (eVar 0) (pSm (eOp2 (oInt gSub) (eVar 2) (eC (.int 1)))) (pSm (eVar 3))) [some (ti xs), some (.d (pD (f, l))), some (.d (.int f)), some (.d (.int l)), none] [] = .ok ((mid xs f l).map .int) [] :=
    iSeq_ok (v := ti (mid xs f l)) (by simp [s2, -oSl]) rfl (by rw [size_line, List.length_map]; omega)
  have c := eLc_i (g := gNm 4) (e := eOp1 oNeg (eVar 4)) (vs := [4]) (fun w => .int (-w)) i1 (by omega) fun d _ => ⟨[some (ti xs), some (.d (pD (f, l))), some (.d (.int f)), some (.d (.int l)), some (.d (.int d))], rfl, by simp⟩
  have c2 : eRev (eLc (iSeq (eSl (eVar 0) (pSm (eOp2 (oInt gSub) (eVar 2) (eC (.int 1)))) (pSm (eVar 3)))) (gNm 4) tYe (eOp1 oNeg (eVar 4)) [4]) [some (ti xs), some (.d (pD (f, l))), some (.d (.int f)), some (.d (.int l)), none] [] = .ok (li ((mid xs f l).reverse.map fun w => -w)) [] := by
    unfold eRev
    rw [c]
    show Out.ok (IV.d (.list ((mid xs f l).map fun w => PyData.int (-w)).reverse)) [] = _
    rw [← List.map_reverse]
    show _ = Out.ok (IV.d (.list (((mid xs f l).reverse.map fun w => -w).map PyData.int))) []
    rw [List.map_map]
    rfl
  have a1 := add_ti (as := xs.take (f - 1).toNat) (bs := (mid xs f l).reverse.map fun w => -w) (by rw [List.length_take, List.length_map, List.length_reverse]; omega) []
  have a2 := add_ti (as := xs.take (f - 1).toNat ++ (mid xs f l).reverse.map fun w => -w) (bs := xs.drop l.toNat) (by rw [List.length_append, List.length_take, List.length_map, List.length_reverse, List.length_drop]; omega) []
  have u : ∀ fs : FS, fnB 5 fs [ti xs, .d (pD (f, l))] [] = (fs [some (ti xs), some (.d (pD (f, l))), none, none, none] []).fin := fun _ => rfl
  rw [f__law_turned, u]
  have g0 : sAs (eVar 1) (gTp 2 (gsCons (gNm 2) (gsCons (gNm 3) gsNil))) [some (ti xs), some (.d (pD (f, l))), none, none, none] [] = .nx [some (ti xs), some (.d (pD (f, l))), some (.d (.int f)), some (.d (.int l)), none] [] := rfl
  obtain ⟨as, has⟩ : ∃ as, as = xs.take (f - 1).toNat := ⟨_, rfl⟩
  obtain ⟨ms, hms⟩ : ∃ ms, ms = (mid xs f l).reverse.map fun w => -w := ⟨_, rfl⟩
  obtain ⟨bs, hbs⟩ : ∃ bs, bs = xs.drop l.toNat := ⟨_, rfl⟩
  have ht : trn xs f l = as ++ ms ++ bs := by rw [has, hms, hbs]; rfl
  rw [ht]
  rw [← has] at s1 a1 a2
  rw [← hms] at a1 a2 c2
  rw [← hbs] at s3 a2
  simp only [sCons, g0, seq_nx_]
  simp [c2, s1, s3, a1, a2, -eRev, -oSl, -oAdd, -List.map_map, -List.map_reverse, -List.map_take, -List.map_drop, -List.map_append, -List.append_assoc]
end
end K42
set_option maxRecDepth 100000
set_option maxHeartbeats 4000000
namespace K42
open PySem L2 MI
section
variable {xs : List Int} {N f l : Int}
theorem three (v : VR xs N) (h : 1 ≤ f) (h1 : f ≤ l) (h2 : l ≤ N) : xs = xs.take (f - 1).toNat ++ mid xs f l ++ xs.drop l.toNat := by
  unfold mid
  have e : xs.drop l.toNat = (xs.drop (f - 1).toNat).drop (l.toNat - (f - 1).toNat) := by rw [List.drop_drop]; congr 1; omega
  rw [List.append_assoc, e, List.take_append_drop, List.take_append_drop]
theorem trn_of {A M C : List Int} (hA : A.length = (f - 1).toNat) (hM : M.length = l.toNat - (f - 1).toNat) (hl : (f - 1).toNat ≤ l.toNat) : trn (A ++ M ++ C) f l = A ++ M.reverse.map (fun w => -w) ++ C := by
  have e1 : (A ++ M ++ C).take (f - 1).toNat = A := by rw [List.append_assoc, ← hA, List.take_left]
  have e2 : (A ++ M ++ C).drop l.toNat = C := by
    have : l.toNat = (A ++ M).length := by rw [List.length_append]; omega
    rw [this, List.drop_left]
  have e3 : mid (A ++ M ++ C) f l = M := by
    unfold mid
    rw [List.append_assoc, ← hA, List.drop_left, hA, ← hM, List.take_left]
  unfold trn
  rw [e1, e2, e3]
theorem neg_neg_map : ∀ M : List Int, ((M.reverse.map fun w => -w).reverse.map fun w => -w) = M := fun M => by
  rw [← List.map_reverse, List.reverse_reverse, List.map_map]
  rw [show ((fun w : Int => -w) ∘ fun w => -w) = id from funext fun w => by simp]
  exact List.map_id M
theorem trn_trn (v : VR xs N) (h : 1 ≤ f) (h1 : f ≤ l) (h2 : l ≤ N) : trn (trn xs f l) f l = xs := by
  have hm := mid_len v h h1 h2
  have hl := v.len
  have hA : (xs.take (f - 1).toNat).length = (f - 1).toNat := by rw [List.length_take]; omega
  have e := three v h h1 h2
  have t1 : trn xs f l = xs.take (f - 1).toNat ++ (mid xs f l).reverse.map (fun w => -w) ++ xs.drop l.toNat := rfl
  rw [t1, trn_of hA (by rw [List.length_map, List.length_reverse]; omega) (by omega), neg_neg_map]
  exact e.symm
theorem iabs_neg (w : Int) : iabs (-w) = iabs w := by unfold iabs; split <;> split <;> omega
theorem VR.trn (v : VR xs N) (h : 1 ≤ f) (h1 : f ≤ l) (h2 : l ≤ N) : VR (trn xs f l) N := by
  have p : ((K42.trn xs f l).map iabs).Perm (xs.map iabs) := by
    have e := three v h h1 h2
    unfold K42.trn
    conv => rhs; rw [e]
    rw [List.map_append, List.map_append, List.map_append, List.map_append, List.map_map]
    rw [show (iabs ∘ fun w => -w) = iabs from funext iabs_neg, List.map_reverse]
    exact ((List.reverse_perm _).append_left _).append_right _
  refine ⟨by rw [trn_len v h h1 h2]; exact v.len, v.lo, v.hi, ?_⟩
  rw [← v.srt]
  exact pw_unique (((isort_perm _).trans p).trans (isort_perm _).symm) (isort_pw _) (isort_pw _)
/-! ### what is asked of a turn -/
theorem betw_ok (i lo hi : Int) : f_is_between [.d (.int i), .d (.int lo), .d (.int hi)] [] = .ok (.d (.bool (decide (lo ≤ i) && decide (i ≤ hi)))) [] := by
  have h := call_pure (S := []) (is := [.d (.int i)]) rfl (isint_ok i) rfl
  by_cases h1 : lo ≤ i <;> simp [f_is_between, h, h1]
theorem areb_ok (h : 1 ≤ f) (h1 : f ≤ l) (h2 : l ≤ N) : f_are_between [.d (pD (f, l)), .d (.int 1), .d (.int N)] [] = .ok (.d (.bool true)) [] := by
  have i1 : iSeq (eVar 0) [some (.d (pD (f, l))), some (.d (.int 1)), some (.d (.int N)), none] [] = .ok ([f, l].map .int) [] := iSeq_ok (v := .d (pD (f, l))) rfl rfl (by rw [size_line]; simp)
  have c := eLc_i (g := gNm 3) (e := eApp (callN 3 f_is_between) (aCons (eVar 3) (aCons (eVar 1) (aCons (eVar 2) aNil)))) (vs := [3]) (fun _ => .bool true) i1 (by simp) fun d hd => by
    have hd : 1 ≤ d ∧ d ≤ N := by
      rcases List.mem_cons.mp hd with e | e
      · omega
      · rcases List.mem_cons.mp e with e | e
        · omega
        · cases e
    have b := call_pure (S := []) (is := [.d (.int d), .d (.int 1), .d (.int N)]) rfl (betw_ok d 1 N) rfl
    exact ⟨[some (.d (pD (f, l))), some (.d (.int 1)), some (.d (.int N)), some (.d (.int d))], rfl, by simp [b, hd.1, hd.2]⟩
  have ha := all_ok [true, true] []
  simp [f_are_between, c, -eLc, -bAll]
  exact ha
theorem isturn_ok (h : 1 ≤ f) (h1 : f ≤ l) (h2 : l ≤ N) : f_is_turn_of [.d (.int N), .d (pD (f, l))] [] = .ok (.d (.bool true)) [] := by
  have c := call_pure (S := []) (is := [.d (pD (f, l)), .d (.int 1), .d (.int N)]) rfl (areb_ok h h1 h2) rfl
  have hl : bLen [.d (pD (f, l))] [] = .ok (.d (.int 2)) [] := rfl
  have o1 : oIx (.d (pD (f, l))) (.d (.int 0)) [] = .ok (.d (.int f)) [] := rfl
  have o2 : oIx (.d (pD (f, l))) (.d (.int 1)) [] = .ok (.d (.int l)) [] := rfl
  simp [f_is_turn_of, c, hl, o1, o2, h1, -bLen, -oIx]
theorem check_turn_ok (v : VR xs N) (h : 1 ≤ f) (h1 : f ≤ l) (h2 : l ≤ N) : f_check_turn [ti xs, .d (pD (f, l))] [] = .ok (.d .none) [] := by
  have c1 := call_pure (S := []) (is := [ti xs]) rfl (check_row_ok v) rfl
  have c2 := call_pure (S := []) (is := [.d (.int N), .d (pD (f, l))]) rfl (isturn_ok h h1 h2) rfl
  have hl := len_ti v.len []
  simp [f_check_turn, c1, c2, hl, -bLen]
theorem turned_ok (v : VR xs N) (h : 1 ≤ f) (h1 : f ≤ l) (h2 : l ≤ N) : f_turned [ti xs, .d (pD (f, l))] [] = .ok (ti (trn xs f l)) [] := by
  have c1 := call_pure (S := []) (is := [ti xs, .d (pD (f, l))]) rfl (check_turn_ok v h h1 h2) rfl
  have c2 := call_pure (S := []) (is := [ti xs, .d (pD (f, l))]) rfl (do_turn_ok v h h1 h2) rfl
  simp [f_turned, c1, c2]
/-- how many breaks -/
def nb (xs : List Int) (N : Int) : Int := ((bps xs N).length : Nat)
theorem mended_ok (v : VR xs N) (h : 1 ≤ f) (h1 : f ≤ l) (h2 : l ≤ N) : f_mended [ti xs, .d (pD (f, l))] [] = .ok (.d (.int (nb xs N - nb (trn xs f l) N))) [] := by
  have c1 := call_pure (S := []) (is := [ti xs, .d (pD (f, l))]) rfl (check_turn_ok v h h1 h2) rfl
  have c2 := call_pure (S := []) (is := [ti xs, .d (pD (f, l))]) rfl (do_turn_ok v h h1 h2) rfl
  have c3 := call_pure (S := []) (is := [ti xs]) rfl (broken_points_ok v) rfl
  have c4 := call_pure (S := []) (is := [ti (trn xs f l)]) rfl (broken_points_ok (v.trn h h1 h2)) rfl
  have l1 := len_li (xs := bps xs N) (N := nb xs N) rfl []
  have l2 := len_li (xs := bps (trn xs f l) N) (N := nb (trn xs f l) N) rfl []
  simp [f_mended, c1, c2, c3, c4, l1, l2, -bLen]
theorem check_point_ok (v : VR xs N) {p : Int} (h0 : 0 ≤ p) (h1 : p ≤ N) : f_check_point [ti xs, .d (.int p)] [] = .ok (.d .none) [] := by
  have c1 := call_pure (S := []) (is := [ti xs]) rfl (check_row_ok v) rfl
  have c2 := call_pure (S := []) (is := [.d (.int p), .d (.int 0), .d (.int N)]) rfl (betw_ok p 0 N) rfl
  have hl := len_ti v.len []
  simp [f_check_point, c1, c2, hl, h0, h1, -bLen]
theorem is_broken_ok (v : VR xs N) {p : Int} (h0 : 0 ≤ p) (h1 : p ≤ N) : f_is_broken [ti xs, .d (.int p)] [] = .ok (.d (.bool (brk xs N p))) [] := by
  have c1 := call_pure (S := []) (is := [ti xs, .d (.int p)]) rfl (check_point_ok v h0 h1) rfl
  have c2 := call_pure (S := []) (is := [ti xs, .d (.int p)]) rfl (broken_at_ok v h0 h1) rfl
  simp [f_is_broken, c1, c2]
theorem home_ok {M : Int} (h0 : 0 ≤ M) (h1 : M ≤ 1000) : f__law_home [.d (.int M)] [] = .ok (ti (rgI 1 (M + 1))) [] := by
  have hg : eRgT (rg2 (eC (.int 1)) (eOp2 oAdd (eVar 0) (eC (.int 1)))) [some (.d (.int M))] [] = .ok (ti (rgI 1 (M + 1))) [] := rgT_ok (by simp) (rgOk_s (by omega) (by omega) (by omega) (by omega))
  simp [f__law_home, hg, -eRgT]
end
end K42
set_option maxRecDepth 100000
set_option maxHeartbeats 4000000
namespace K42
open PySem L2 MI
section
variable {xs : List Int} {N f l : Int}
/-! ### a turn changes at most two breaks -/
theorem E_zero : E xs N 0 = 0 := rfl
theorem E_last (v : VR xs N) : E xs N (N + 1) = N + 1 := by
  have h := ext_at v (p := N + 1) (by have := v.lo; omega) (by omega)
  have e : (N + 1).toNat = xs.length + 1 := by have := v.len; omega
  rw [e] at h
  unfold ext at h
  rw [List.getElem?_cons_succ, List.getElem?_append_right (Nat.le_refl _)] at h
  simp at h
  exact h.symm
theorem trn_at (v : VR xs N) (h : 1 ≤ f) (h1 : f ≤ l) (h2 : l ≤ N) {q : Nat} (hq : q < xs.length) : (trn xs f l)[q]? = if (f - 1).toNat ≤ q ∧ q < l.toNat then (xs[(f - 1).toNat + l.toNat - 1 - q]?).map (fun w => -w) else xs[q]? := by
  have hl := v.len
  have hm := mid_len v h h1 h2
  have hA : (xs.take (f - 1).toNat).length = (f - 1).toNat := by rw [List.length_take]; omega
  have hM : ((mid xs f l).reverse.map fun w => -w).length = l.toNat - (f - 1).toNat := by rw [List.length_map, List.length_reverse]; omega
  unfold trn
  by_cases c1 : q < (f - 1).toNat
  · rw [if_neg (by omega), List.append_assoc, List.getElem?_append_left (by omega), List.getElem?_take_of_lt c1]
  · by_cases c2 : q < l.toNat
    · rw [if_pos (by omega), List.append_assoc, List.getElem?_append_right (by omega), hA, List.getElem?_append_left (by omega), List.getElem?_map, List.getElem?_reverse (by omega)]
      congr 1
      unfold mid
      rw [List.getElem?_take_of_lt (by rw [List.length_take, List.length_drop]; omega), List.getElem?_drop]
      congr 1
      rw [List.length_take, List.length_drop]
      omega
    · rw [if_neg (by omega), List.getElem?_append_right (by rw [List.length_append]; omega), List.length_append, hA, hM, List.getElem?_drop]
      congr 1
      omega
theorem E_trn (v : VR xs N) (h : 1 ≤ f) (h1 : f ≤ l) (h2 : l ≤ N) {p : Int} (p0 : 0 ≤ p) (p1 : p ≤ N + 1) : E (trn xs f l) N p = if f ≤ p ∧ p ≤ l then - E xs N (f + l - p) else E xs N p := by
  have hl := v.len
  by_cases c0 : p = 0
  · subst c0
    rw [if_neg (by omega)]
    rfl
  · by_cases cN : p = N + 1
    · subst cN
      rw [if_neg (by omega), E_last v, E_last (v.trn h h1 h2)]
    · have r := row_at (v.trn h h1 h2) (p := p - 1) (by omega) (by omega)
      rw [show p - 1 + 1 = p by omega, trn_at v h h1 h2 (by omega)] at r
      by_cases c : f ≤ p ∧ p ≤ l
      · rw [if_pos (by omega)] at r
        rw [if_pos c]
        have r2 := row_at v (p := f + l - p - 1) (by omega) (by omega)
        rw [show (f + l - p - 1).toNat = (f - 1).toNat + l.toNat - 1 - (p - 1).toNat by omega] at r2
        rw [r2] at r
        rw [show f + l - p - 1 + 1 = f + l - p by omega] at r
        exact (Option.some.inj r).symm
      · rw [if_neg (by omega)] at r
        rw [if_neg c]
        have r2 := row_at v (p := p - 1) (by omega) (by omega)
        rw [show p - 1 + 1 = p by omega] at r2
        rw [r2] at r
        exact (Option.some.inj r).symm
theorem brk_out (v : VR xs N) (h : 1 ≤ f) (h1 : f ≤ l) (h2 : l ≤ N) {p : Int} (p0 : 0 ≤ p) (p1 : p ≤ N) (c : p < f - 1 ∨ l < p) : brk (trn xs f l) N p = brk xs N p := by
  unfold brk
  rw [E_trn v h h1 h2 (by omega) (by omega), E_trn v h h1 h2 p0 (by omega), if_neg (by omega), if_neg (by omega)]
theorem brk_in (v : VR xs N) (h : 1 ≤ f) (h1 : f ≤ l) (h2 : l ≤ N) {p : Int} (p0 : f ≤ p) (p1 : p < l) : brk (trn xs f l) N p = brk xs N (f + l - 1 - p) := by
  unfold brk
  rw [E_trn v h h1 h2 (by omega) (by omega), E_trn v h h1 h2 (by omega) (by omega), if_pos (by omega), if_pos (by omega)]
  rw [show f + l - (p + 1) = f + l - 1 - p by omega, show f + l - p = f + l - 1 - p + 1 by omega]
  congr 1
  rw [decide_eq_decide]
  omega
theorem rg_split {i k j : Int} (h1 : i ≤ k) (h2 : k ≤ j) : rgI i j = rgI i k ++ rgI k j := by
  refine slt_unique (fun x => ?_) (rg_pw _ _) (List.pairwise_append.mpr ⟨rg_pw _ _, rg_pw _ _, fun a ha b hb => ?_⟩)
  · rw [List.mem_append, mem_rgI, mem_rgI, mem_rgI]; omega
  · rw [mem_rgI] at ha hb; omega
theorem rg_one (i : Int) : rgI i (i + 1) = [i] := by
  refine slt_unique (fun x => ?_) (rg_pw _ _) (by simp)
  rw [mem_rgI, List.mem_singleton]; omega
theorem nb_count (xs : List Int) (N : Int) : nb xs N = ((rgI 0 (N + 1)).countP (brk xs N) : Nat) := by
  unfold nb bps
  rw [List.countP_eq_length_filter]
theorem nb_near (v : VR xs N) (h : 1 ≤ f) (h1 : f ≤ l) (h2 : l ≤ N) : -2 ≤ nb xs N - nb (trn xs f l) N ∧ nb xs N - nb (trn xs f l) N ≤ 2 := by
  have sp : rgI 0 (N + 1) = rgI 0 (f - 1) ++ ([f - 1] ++ (rgI f l ++ ([l] ++ rgI (l + 1) (N + 1)))) := by
    rw [rg_split (i := 0) (k := f - 1) (j := N + 1) (by omega) (by omega), rg_split (i := f - 1) (k := f) (j := N + 1) (by omega) (by omega), rg_split (i := f) (k := l) (j := N + 1) (by omega) (by omega),
      rg_split (i := l) (k := l + 1) (j := N + 1) (by omega) (by omega), rg_one, show rgI (f - 1) f = [f - 1] by have := rg_one (f - 1); rw [show f - 1 + 1 = f by omega] at this; exact this]
  have c1 : (rgI 0 (f - 1)).countP (brk (trn xs f l) N) = (rgI 0 (f - 1)).countP (brk xs N) := List.countP_congr fun p hp => by
    rw [mem_rgI] at hp
    rw [brk_out v h h1 h2 (by omega) (by omega) (by omega)]
  have c3 : (rgI (l + 1) (N + 1)).countP (brk (trn xs f l) N) = (rgI (l + 1) (N + 1)).countP (brk xs N) := List.countP_congr fun p hp => by
    rw [mem_rgI] at hp
    rw [brk_out v h h1 h2 (by omega) (by omega) (by omega)]
  have c2 : (rgI f l).countP (brk (trn xs f l) N) = (rgI f l).countP (brk xs N) := by
    have a1 : (rgI f l).countP (brk (trn xs f l) N) = (rgI f l).countP (brk xs N ∘ fun p => f + l - 1 - p) := List.countP_congr fun p hp => by
      rw [mem_rgI] at hp
      rw [brk_in v h h1 h2 (by omega) (by omega)]
      rfl
    rw [a1, ← List.countP_map]
    refine List.Perm.countP_eq _ ?_
    refine (List.perm_ext_iff_of_nodup ?_ ((rg_pw f l).imp fun {a b} q => by omega)).mpr fun a => ?_
    · show ((rgI f l).map _).Pairwise (· ≠ ·)
      rw [List.pairwise_map]
      exact (rg_pw f l).imp fun {a b} q => by omega
    · rw [List.mem_map, mem_rgI]
      constructor
      · rintro ⟨b, hb, rfl⟩
        rw [mem_rgI] at hb
        omega
      · intro ha
        exact ⟨f + l - 1 - a, mem_rgI.mpr (by omega), by omega⟩
  have one : ∀ (q : Int → Bool) (x : Int), [x].countP q ≤ 1 := fun q x => List.countP_le_length
  have o1 := one (brk xs N) (f - 1)
  have o2 := one (brk xs N) l
  have o3 := one (brk (trn xs f l) N) (f - 1)
  have o4 := one (brk (trn xs f l) N) l
  rw [nb_count, nb_count, sp]
  simp only [List.countP_append]
  rw [c1, c2, c3]
  omega
/-! ### no break: the home row -/
theorem home_iff (v : VR xs N) : bps xs N = [] ↔ xs = rgI 1 (N + 1) := by
  have hl := v.len
  constructor
  · intro h
    have hb : ∀ p : Int, 0 ≤ p → p ≤ N → E xs N (p + 1) = E xs N p + 1 := fun p p0 p1 => by
      have := List.filter_eq_nil_iff.mp h p (mem_rgI.mpr ⟨p0, by omega⟩)
      unfold brk at this
      simpa using this
    have he : ∀ k : Nat, (k : Int) ≤ N + 1 → E xs N k = k := by
      intro k
      induction k with
      | zero => intro _; rfl
      | succ k ih =>
        intro hk
        have := hb k (by omega) (by omega)
        rw [ih (by omega)] at this
        have e : ((k + 1 : Nat) : Int) = (k : Int) + 1 := by omega
        rw [e]; exact this
    refine List.ext_getElem? fun k => ?_
    by_cases hk : k < xs.length
    · have r := row_at v (p := (k : Int)) (by omega) (by omega)
      rw [Int.toNat_natCast] at r
      rw [r, at_rgI (by omega)]
      have := he (k + 1) (by omega)
      have e : ((k + 1 : Nat) : Int) = (k : Int) + 1 := by omega
      rw [e] at this
      rw [this]
      congr 1
      omega
    · rw [List.getElem?_eq_none (by omega), List.getElem?_eq_none (by rw [len_rgI]; omega)]
  · intro h
    refine List.filter_eq_nil_iff.mpr fun p hp => ?_
    rw [mem_rgI] at hp
    have he : ∀ p : Int, 0 ≤ p → p ≤ N + 1 → E xs N p = p := fun p p0 p1 => by
      by_cases c0 : p = 0
      · subst c0; rfl
      · by_cases c1 : p = N + 1
        · subst c1; exact E_last v
        · have r := row_at v (p := p - 1) (by omega) (by omega)
          have hx : xs[(p - 1).toNat]? = some (1 + (((p - 1).toNat : Nat) : Int)) := by rw [h]; exact at_rgI (by omega)
          rw [hx, show p - 1 + 1 = p by omega] at r
          have := Option.some.inj r
          omega
    unfold brk
    rw [he p (by omega) (by omega), he (p + 1) (by omega) (by omega)]
    simp
end
end K42
set_option maxRecDepth 100000
set_option maxHeartbeats 4000000
namespace K42
open PySem L2 MI
section
variable {xs : List Int} {N f l : Int}
/-! ### strips: neighbours, cover, uniqueness -/
theorem prs_length : ∀ l : List Int, (prs l).length = l.length - 1
  | [] => rfl
  | [a] => rfl
  | a :: b :: t => by
    have := prs_length (b :: t)
    simp [prs] at this ⊢
    omega
theorem prs_next : ∀ (l : List Int) (i : Nat) (s s' : Int × Int), (prs l)[i]? = some s → (prs l)[i + 1]? = some s' → s'.1 = s.2 + 1
  | [], i, s, s', h, _ => by simp [prs] at h
  | [a], i, s, s', h, _ => by simp [prs] at h
  | [a, b], i, s, s', _, h => by simp [prs] at h
  | a :: b :: d :: t, 0, s, s', h, h' => by
    simp [prs] at h h'
    rw [← h, ← h']
  | a :: b :: d :: t, i + 1, s, s', h, h' => prs_next (b :: d :: t) i s s' (by simpa [prs] using h) (by simpa [prs] using h')
theorem prs_cover : ∀ (a : Int) (l : List Int) (y z : Int), (a :: l).Pairwise (· < ·) → (a :: l).getLast? = some z → a < y → y ≤ z → ∃ s, s ∈ prs (a :: l) ∧ s.1 ≤ y ∧ y ≤ s.2
  | a, [], y, z, _, h, h1, h2 => by simp at h; omega
  | a, b :: t, y, z, hp, h, h1, h2 => by
    by_cases c : y ≤ b
    · exact ⟨(a + 1, b), List.mem_cons_self, by show a + 1 ≤ y; omega, c⟩
    · obtain ⟨s, m, h3⟩ := prs_cover b t y z (List.pairwise_cons.mp hp).2 (by rw [List.getLast?_cons_cons] at h; exact h) (by omega) h2
      exact ⟨s, List.mem_cons_of_mem _ m, h3⟩
theorem prs_uniq : ∀ (l : List Int), l.Pairwise (· < ·) → ∀ (s s' : Int × Int) (y : Int), s ∈ prs l → s' ∈ prs l → s.1 ≤ y → y ≤ s.2 → s'.1 ≤ y → y ≤ s'.2 → s = s'
  | [], _, s, s', y, h, _, _, _, _, _ => by cases h
  | [a], _, s, s', y, h, _, _, _, _, _ => by cases h
  | a :: b :: t, hp, s, s', y, h, h', a1, a2, b1, b2 => by
    have z := (List.pairwise_cons.mp hp).2
    have low : ∀ q, q ∈ prs (b :: t) → b < q.1 := fun q hq => by
      obtain ⟨c, d, e, hc, _, _⟩ := (prs_fst _ z).2 q hq
      have : b ≤ c := by
        rcases List.mem_cons.mp hc with e | e
        · omega
        · have := (List.pairwise_cons.mp z).1 c e; omega
      rw [e]
      show b < c + 1
      omega
    have h : s ∈ (a + 1, b) :: prs (b :: t) := h
    have h' : s' ∈ (a + 1, b) :: prs (b :: t) := h'
    rcases List.mem_cons.mp h with e | m <;> rcases List.mem_cons.mp h' with e' | m'
    · rw [e, e']
    · have := low s' m'; rw [e] at a2; exact absurd a2 (by show ¬ y ≤ b; omega)
    · have := low s m; rw [e'] at b2; exact absurd b2 (by show ¬ y ≤ b; omega)
    · exact prs_uniq (b :: t) z s s' y m m' a1 a2 b1 b2
theorem cuts_ends (v : VR xs N) : ∃ t, cuts xs N = 0 :: t ∧ (cuts xs N).getLast? = some N := by
  have hlo := v.lo
  have e1 : rgI 0 (N + 1) = 0 :: rgI 1 (N + 1) := by
    have := rg_split (i := 0) (k := 1) (j := N + 1) (by omega) (by omega)
    rw [show rgI 0 1 = [0] from rfl] at this
    exact this
  have e2 : rgI 0 (N + 1) = rgI 0 N ++ [N] := rg_succ (by omega)
  refine ⟨(rgI 1 (N + 1)).filter (cutP xs N), ?_, ?_⟩
  · unfold cuts
    rw [e1, List.filter_cons_of_pos (by simp [cutP])]
  · unfold cuts
    rw [e2, List.filter_append]
    have : [N].filter (cutP xs N) = [N] := by rw [List.filter_cons_of_pos (by simp [cutP])]; rfl
    rw [this, List.getLast?_concat]
theorem cover (v : VR xs N) {y : Int} (h0 : 1 ≤ y) (h1 : y ≤ N) : ∃ s, s ∈ sps xs N ∧ s.1 ≤ y ∧ y ≤ s.2 := by
  obtain ⟨t, e, e2⟩ := cuts_ends v
  unfold sps
  rw [e] at e2 ⊢
  have hp : (0 :: t).Pairwise (· < ·) := by rw [← e]; exact cuts_pw
  exact prs_cover 0 t y N hp e2 (by omega) h1
/-- no cut inside a strip -/
theorem prs_gap : ∀ (l : List Int), l.Pairwise (· < ·) → ∀ (s : Int × Int) (y : Int), s ∈ prs l → s.1 ≤ y → y < s.2 → y ∉ l
  | [], _, s, y, h, _, _ => by cases h
  | [a], _, s, y, h, _, _ => by cases h
  | a :: b :: t, hp, s, y, h, a1, a2 => by
    have z := List.pairwise_cons.mp hp
    have h : s ∈ (a + 1, b) :: prs (b :: t) := h
    intro m
    rcases List.mem_cons.mp h with e | hm
    · rw [e] at a1 a2
      have a1 : a + 1 ≤ y := a1
      have a2 : y < b := a2
      rcases List.mem_cons.mp m with q | q
      · omega
      · rcases List.mem_cons.mp q with q | q
        · omega
        · have := (List.pairwise_cons.mp z.2).1 y q; omega
    · obtain ⟨c, d, e, hc, _, _⟩ := (prs_fst _ z.2).2 s hm
      have hc2 : b ≤ c := by
        rcases List.mem_cons.mp hc with e | e
        · omega
        · have := (List.pairwise_cons.mp z.2).1 c e; omega
      have hs : s.1 = c + 1 := by rw [e]
      rcases List.mem_cons.mp m with q | q
      · have := z.1 b List.mem_cons_self; omega
      · exact prs_gap (b :: t) z.2 s y hm a1 a2 q
theorem strip_run (v : VR xs N) {s : Int × Int} (hs : s ∈ sps xs N) : ∀ k : Nat, s.1 + k ≤ s.2 → E xs N (s.1 + k) = E xs N s.1 + k := by
  have hm := sps_mem hs
  intro k
  induction k with
  | zero => intro _; simp
  | succ k ih =>
    intro hk
    have ih := ih (by omega)
    have hn := prs_gap _ cuts_pw s (s.1 + k) hs (by omega) (by omega)
    have hb : ¬ cutP xs N (s.1 + k) = true := fun q => hn (List.mem_filter.mpr ⟨mem_rgI.mpr (by omega), q⟩)
    unfold cutP brk at hb
    simp only [Bool.or_eq_true, decide_eq_true_eq, Bool.not_eq_true', decide_eq_false_iff_not, not_or, Classical.not_not] at hb
    rw [show s.1 + ((k + 1 : Nat) : Int) = s.1 + k + 1 by omega, hb.2, ih]
    omega
theorem strip_E (v : VR xs N) {s : Int × Int} (hs : s ∈ sps xs N) {y : Int} (h0 : s.1 ≤ y) (h1 : y ≤ s.2) : E xs N y = E xs N s.1 + (y - s.1) := by
  have := strip_run v hs (y - s.1).toNat (by omega)
  rw [show s.1 + (((y - s.1).toNat : Nat) : Int) = y by omega] at this
  rw [this]
  omega
theorem E_ne (v : VR xs N) {y : Int} (h0 : 1 ≤ y) (h1 : y ≤ N) : E xs N y ≠ 0 ∧ iabs (E xs N y) ≤ N := by
  have := v.mem (v.E_mem h0 h1)
  unfold iabs at this ⊢
  split at this <;> split <;> omega
/-- the sign is the head's -/
theorem strip_sign (v : VR xs N) {s : Int × Int} (hs : s ∈ sps xs N) {y : Int} (h0 : s.1 ≤ y) (h1 : y ≤ s.2) : (0 < E xs N s.1 → 0 < E xs N y) ∧ (E xs N s.1 < 0 → E xs N y < 0) := by
  have hm := sps_mem hs
  have e := strip_E v hs h0 h1
  refine ⟨fun h => by omega, fun h => ?_⟩
  by_cases c : E xs N y < 0
  · exact c
  · have z := strip_E v hs (y := s.1 + (- E xs N s.1)) (by omega) (by omega)
    have := (E_ne v (y := s.1 + (- E xs N s.1)) (by omega) (by omega)).1
    omega
/-- a number between two others lies in a strip whose head is between them -/
theorem between (v : VR xs N) {L U x y pL pU : Int} {s : Int × Int} (hs : s ∈ sps xs N) (h0 : s.1 ≤ y) (h1 : y ≤ s.2) (hx : iabs (E xs N y) = x) (hL : L < x) (hU : x < U)
    (l0 : 1 ≤ pL) (l1 : pL ≤ N) (lE : iabs (E xs N pL) = L) (u0 : 1 ≤ pU) (u1 : pU ≤ N) (uE : iabs (E xs N pU) = U) (nl : pL < s.1 ∨ s.2 < pL) (nu : pU < s.1 ∨ s.2 < pU) : L < iabs (E xs N s.1) ∧ iabs (E xs N s.1) < U := by
  have hm := sps_mem hs
  have e := strip_E v hs h0 h1
  have sg := strip_sign v hs h0 h1
  have ne := (E_ne v (y := s.1) (by omega) (by omega)).1
  by_cases c : 0 < E xs N s.1
  · have hy := sg.1 c
    have ix : iabs (E xs N y) = E xs N y := by unfold iabs; rw [if_neg (by omega)]
    have ig : iabs (E xs N s.1) = E xs N s.1 := by unfold iabs; rw [if_neg (by omega)]
    rw [ig]
    refine ⟨?_, by omega⟩
    by_cases d : L < E xs N s.1
    · exact d
    · have z := strip_E v hs (y := s.1 + (L - E xs N s.1)) (by omega) (by omega)
      have i2 : iabs (E xs N (s.1 + (L - E xs N s.1))) = L := by rw [z]; unfold iabs; rw [if_neg (by omega)]; omega
      have := v.E_inj (p := s.1 + (L - E xs N s.1)) (q := pL) (by omega) (by omega) l0 l1 (by rw [i2, lE])
      omega
  · have c : E xs N s.1 < 0 := by omega
    have hy := sg.2 c
    have ix : iabs (E xs N y) = - E xs N y := by unfold iabs; rw [if_pos (by omega)]
    have ig : iabs (E xs N s.1) = - E xs N s.1 := by unfold iabs; rw [if_pos (by omega)]
    rw [ig]
    refine ⟨by omega, ?_⟩
    by_cases d : - E xs N s.1 < U
    · exact d
    · have z := strip_E v hs (y := s.1 + (- E xs N s.1 - U)) (by omega) (by omega)
      have i2 : iabs (E xs N (s.1 + (- E xs N s.1 - U))) = U := by rw [z]; unfold iabs; rw [if_pos (by omega)]; omega
      have := v.E_inj (p := s.1 + (- E xs N s.1 - U)) (q := pU) (by omega) (by omega) u0 u1 (by rw [i2, uE])
      omega
end
end K42
set_option maxRecDepth 100000
set_option maxHeartbeats 4000000
namespace K42
open PySem L2 MI
section
variable {xs : List Int} {N f l : Int}
/-! ### ranks -/
theorem rk_pos {hs : List Int} {w : Int} (h : w ∈ hs) : 1 ≤ rk hs w := by
  unfold rk
  have : w ∈ hs.filter fun it => decide (iabs it ≤ iabs w) := List.mem_filter.mpr ⟨h, by simp⟩
  have := List.length_pos_of_mem this
  omega
theorem rk_lt {hs : List Int} {a b : Int} (hb : b ∈ hs) (h : iabs a < iabs b) : rk hs a < rk hs b := by
  unfold rk
  rw [← List.countP_eq_length_filter, ← List.countP_eq_length_filter]
  have key : ∀ l : List Int, b ∈ l → l.countP (fun it => decide (iabs it ≤ iabs a)) < l.countP (fun it => decide (iabs it ≤ iabs b)) ∧ True := by
    intro l
    have mono : ∀ t : List Int, t.countP (fun it => decide (iabs it ≤ iabs a)) ≤ t.countP (fun it => decide (iabs it ≤ iabs b)) := fun t => List.countP_mono_left fun x _ hx => by
      simp only [decide_eq_true_eq] at hx ⊢
      omega
    induction l with
    | nil => intro m; cases m
    | cons x t ih =>
      intro m
      rw [List.countP_cons, List.countP_cons]
      rcases List.mem_cons.mp m with e | m
      · subst e
        have := mono t
        rw [if_neg (by simp; omega), if_pos (by simp)]
        exact ⟨by omega, trivial⟩
      · have := (ih m).1
        refine ⟨?_, trivial⟩
        split
        · rename_i c
          rw [if_pos (by simp only [decide_eq_true_eq] at c ⊢; omega)]
          omega
        · split <;> omega
  have := (key hs hb).1
  omega
theorem rk_mono {hs : List Int} {a b : Int} (hb : b ∈ hs) (h : iabs a < iabs b) : rk hs a < rk hs b := rk_lt hb h
theorem rk_cmp {hs : List Int} {a b : Int} (ha : a ∈ hs) (h : rk hs a < rk hs b) : iabs a < iabs b := by
  by_cases c : iabs a < iabs b
  · exact c
  · by_cases d : iabs b < iabs a
    · have := rk_lt ha d; omega
    · have e : iabs a = iabs b := by omega
      unfold rk at h
      rw [e] at h
      omega
/-- the counts of a sorted list -/
theorem cnt_sorted : ∀ l : List Int, l.Pairwise (· < ·) → ∀ j x, l[j]? = some x → (l.filter fun y => decide (y ≤ x)).length = j + 1
  | [], _, j, x, h => by simp at h
  | y :: t, hp, 0, x, h => by
    have z := List.pairwise_cons.mp hp
    simp at h
    subst h
    have : t.filter (fun z => decide (z ≤ y)) = [] := by
      rw [List.filter_eq_nil_iff]
      intro a ha
      have := z.1 a ha
      simp
      omega
    simp [this]
  | y :: t, hp, j + 1, x, h => by
    have z := List.pairwise_cons.mp hp
    have h : t[j]? = some x := by simpa using h
    have hle : y ≤ x := by have := z.1 x (List.mem_of_getElem? h); omega
    have := cnt_sorted t z.2 j x h
    simp [hle, this]
theorem rk_sorted {hs : List Int} (h : (hs.map iabs).Nodup) : (hs.map (rk hs)).Perm (rgI 1 ((hs.length : Int) + 1)) := by
  have e1 : hs.map (rk hs) = (hs.map iabs).map fun x => (((isort (hs.map iabs)).filter fun y => decide (y ≤ x)).length : Int) := by
    rw [List.map_map]
    refine List.map_congr_left fun w _ => ?_
    have e := ((isort_perm (hs.map iabs)).filter fun y => decide (y ≤ iabs w)).length_eq
    rw [List.filter_map, List.length_map] at e
    unfold rk
    show _ = (((isort (hs.map iabs)).filter fun y => decide (y ≤ iabs w)).length : Int)
    rw [e]
    rfl
  rw [e1]
  refine ((isort_perm (hs.map iabs)).symm.map _).trans ?_
  have e2 : (isort (hs.map iabs)).map (fun x => (((isort (hs.map iabs)).filter fun y => decide (y ≤ x)).length : Int)) = rgI 1 ((hs.length : Int) + 1) := by
    have hl : (isort (hs.map iabs)).length = hs.length := by rw [(isort_perm _).length_eq, List.length_map]
    refine List.ext_getElem? fun j => ?_
    rw [List.getElem?_map]
    by_cases hj : j < hs.length
    · have hx : (isort (hs.map iabs))[j]? = some (isort (hs.map iabs))[j] := List.getElem?_eq_getElem (by omega)
      rw [hx, at_rgI (by omega)]
      have := cnt_sorted _ (isort_lt h) j _ hx
      refine congrArg some ?_
      dsimp only
      rw [this]
      omega
    · rw [List.getElem?_eq_none (by omega), List.getElem?_eq_none (by rw [len_rgI]; omega)]
      rfl
  rw [e2]
/-! ### the bundle is a row -/
theorem bun_abs (v : VR xs N) : (bun xs N).map iabs = (heads xs N).map (rk (heads xs N)) := by
  unfold bun
  rw [List.map_map]
  refine List.map_congr_left fun w hw => ?_
  have := rk_pos hw
  show iabs (if 0 < w then rk (heads xs N) w else - rk (heads xs N) w) = _
  split <;> (unfold iabs; split <;> omega)
theorem cuts_two (v : VR xs N) : 2 ≤ (cuts xs N).length := by
  obtain ⟨t, e, e2⟩ := cuts_ends v
  have := v.lo
  cases t with
  | nil => rw [e] at e2; simp at e2; omega
  | cons b t => rw [e]; simp
theorem heads_length (xs : List Int) (N : Int) : (heads xs N).length = (cuts xs N).length - 1 := by
  unfold heads sps
  rw [List.length_map, prs_length]
theorem bun_length (xs : List Int) (N : Int) : (bun xs N).length = (heads xs N).length := by unfold bun; rw [List.length_map]
theorem VR.bun (v : VR xs N) {M : Int} (hM : M = (K42.bun xs N).length) : VR (K42.bun xs N) M := by
  have h2 := cuts_two v
  have hl := heads_length xs N
  have hb := bun_length xs N
  have hc : (cuts xs N).length ≤ 21 := cuts_len v
  refine ⟨hM, by omega, by omega, ?_⟩
  rw [bun_abs v]
  have p := rk_sorted (heads_nd v)
  have e : (((heads xs N).length : Nat) : Int) + 1 = M + 1 := by omega
  rw [e] at p
  exact pw_unique ((isort_perm _).trans p) (isort_pw _) ((rg_pw _ _).imp fun {a b} h => by omega)
theorem head_in {s : Int × Int} (h : s ∈ sps xs N) : E xs N s.1 ∈ heads xs N := List.mem_map.mpr ⟨s, h, rfl⟩
theorem bun_at (v : VR xs N) {i : Nat} {s : Int × Int} (h : (sps xs N)[i]? = some s) : (bun xs N)[i]? = some (if 0 < E xs N s.1 then rk (heads xs N) (E xs N s.1) else - rk (heads xs N) (E xs N s.1)) := by
  unfold bun heads
  rw [List.getElem?_map, List.getElem?_map, h]
  rfl
/-- two heads beside one another in the row are not beside one another in rank -/
theorem not_next (v : VR xs N) {i : Nat} {s s' : Int × Int} (h : (sps xs N)[i]? = some s) (h' : (sps xs N)[i + 1]? = some s') :
    (if 0 < E xs N s'.1 then rk (heads xs N) (E xs N s'.1) else - rk (heads xs N) (E xs N s'.1)) ≠ (if 0 < E xs N s.1 then rk (heads xs N) (E xs N s.1) else - rk (heads xs N) (E xs N s.1)) + 1 := by
  have ms := List.mem_of_getElem? h
  have ms' := List.mem_of_getElem? h'
  have b := sps_mem ms
  have b' := sps_mem ms'
  have nx : s'.1 = s.2 + 1 := prs_next _ i s s' h h'
  have r := rk_pos (head_in ms)
  have r' := rk_pos (head_in ms')
  have e2 := strip_E v ms (y := s.2) (by omega) (by omega)
  have sg2 := strip_sign v ms (y := s.2) (by omega) (by omega)
  have ne := (E_ne v (y := s.1) (by omega) (by omega)).1
  have ne' := (E_ne v (y := s'.1) (by omega) (by omega)).1
  -- the last of a strip is a cut
  have hbk : E xs N (s.2 + 1) ≠ E xs N s.2 + 1 := by
    obtain ⟨c, d, q, _, hd, _⟩ := (prs_fst _ (cuts_pw (xs := xs) (N := N))).2 s ms
    have hs2 : s.2 = d := by rw [q]
    have hc := (List.mem_filter.mp hd).2
    unfold cutP brk at hc
    simp only [Bool.or_eq_true, decide_eq_true_eq, Bool.not_eq_true', decide_eq_false_iff_not] at hc
    rw [← hs2] at hc
    rcases hc with (hc | hc) | hc
    · omega
    · omega
    · exact hc
  -- what lies between the ranks does not exist
  have mid : ∀ L U x : Int, L < x → x < U → (∃ y, 1 ≤ y ∧ y ≤ N ∧ iabs (E xs N y) = x) → ((iabs (E xs N s.2) = L ∧ iabs (E xs N s'.1) = U) ∨ (iabs (E xs N s'.1) = L ∧ iabs (E xs N s.2) = U)) →
      (∀ y, s.1 ≤ y → y ≤ s.2 → iabs (E xs N y) ≠ x) → (∀ y, s'.1 ≤ y → y ≤ s'.2 → iabs (E xs N y) ≠ x) → ∃ g, g ∈ heads xs N ∧ L < iabs g ∧ iabs g < U := fun L U x hL hU ⟨y, y0, y1, yx⟩ hc n1 n2 => by
    obtain ⟨t, mt, t0, t1⟩ := cover v y0 y1
    have mtb := sps_mem mt
    have a1 : s.2 < t.1 ∨ t.2 < s.2 := by
      by_cases q : s.2 < t.1
      · exact .inl q
      · by_cases q2 : t.2 < s.2
        · exact .inr q2
        · have : t = s := prs_uniq _ cuts_pw t s s.2 mt ms (by omega) (by omega) (by omega) (by omega)
          subst this
          exact absurd yx (n1 y t0 t1)
    have a2 : s'.1 < t.1 ∨ t.2 < s'.1 := by
      by_cases q : s'.1 < t.1
      · exact .inl q
      · by_cases q2 : t.2 < s'.1
        · exact .inr q2
        · have : t = s' := prs_uniq _ cuts_pw t s' s'.1 mt ms' (by omega) (by omega) (by omega) (by omega)
          subst this
          exact absurd yx (n2 y t0 t1)
    refine ⟨E xs N t.1, head_in mt, ?_⟩
    rcases hc with ⟨c1, c2⟩ | ⟨c1, c2⟩
    · exact between v mt t0 t1 yx hL hU (by omega) (by omega) c1 (by omega) (by omega) c2 a1 a2
    · exact between v mt t0 t1 yx hL hU (by omega) (by omega) c1 (by omega) (by omega) c2 a2 a1
  have onto : ∀ x : Int, 1 ≤ x → x ≤ N → ∃ y, 1 ≤ y ∧ y ≤ N ∧ iabs (E xs N y) = x := fun x x0 x1 => by
    have hm : x ∈ xs.map iabs := v.perm.mem_iff.mpr (mem_rgI.mpr (by omega))
    obtain ⟨z, hz, rfl⟩ := List.mem_map.mp hm
    obtain ⟨k, hk⟩ := List.mem_iff_getElem?.mp hz
    have hkl := (List.getElem?_eq_some_iff.mp hk).1
    have hl := v.len
    have r := row_at v (p := (k : Int)) (by omega) (by omega)
    rw [Int.toNat_natCast, hk] at r
    exact ⟨(k : Int) + 1, by omega, by omega, by rw [← Option.some.inj r]⟩
  have up := (E_ne v (y := s'.1) (by omega) (by omega)).2
  have up1 := (E_ne v (y := s.1) (by omega) (by omega)).2
  by_cases p : 0 < E xs N s.1
  · rw [if_pos p]
    by_cases p' : 0 < E xs N s'.1
    · rw [if_pos p']
      intro q
      have lt := rk_cmp (head_in ms) (show rk (heads xs N) (E xs N s.1) < rk (heads xs N) (E xs N s'.1) by omega)
      have i1 : iabs (E xs N s.1) = E xs N s.1 := by unfold iabs; rw [if_neg (by omega)]
      have i2 : iabs (E xs N s'.1) = E xs N s'.1 := by unfold iabs; rw [if_neg (by omega)]
      have i3 : iabs (E xs N s.2) = E xs N s.2 := by unfold iabs; rw [if_neg (by have := sg2.1 p; omega)]
      rw [i1, i2] at lt
      rw [i2] at up
      -- the next head is above the strip
      have ab : E xs N s.2 < E xs N s'.1 := by
        by_cases c : E xs N s.2 < E xs N s'.1
        · exact c
        · have z := strip_E v ms (y := s.1 + (E xs N s'.1 - E xs N s.1)) (by omega) (by omega)
          have := v.E_inj (p := s.1 + (E xs N s'.1 - E xs N s.1)) (q := s'.1) (by omega) (by omega) (by omega) (by omega) (by rw [z]; congr 1; omega)
          omega
      rw [nx] at ab i2 up p' ne'
      have ab2 : E xs N s.2 + 1 < E xs N (s.2 + 1) := by omega
      obtain ⟨g, hg, g1, g2⟩ := mid (E xs N s.2) (E xs N (s.2 + 1)) (E xs N s.2 + 1) (by omega) ab2 (onto _ (by have := sg2.1 p; omega) (by omega)) (.inl ⟨i3, by rw [nx]; exact i2⟩)
        (fun y y0 y1 => by
          have z := strip_E v ms y0 y1
          have := (strip_sign v ms y0 y1).1 p
          unfold iabs
          rw [if_neg (by omega)]
          omega)
        (fun y y0 y1 => by
          have z := strip_E v ms' y0 y1
          rw [nx] at z
          unfold iabs
          rw [if_neg (by omega)]
          omega)
      have q1 := rk_lt (hs := heads xs N) hg (a := E xs N s.1) (by rw [i1]; omega)
      have q2 := rk_lt (hs := heads xs N) (head_in ms') (a := g) (by rw [nx, i2]; exact g2)
      omega
    · rw [if_neg p']
      omega
  · rw [if_neg p]
    have p : E xs N s.1 < 0 := by omega
    by_cases p' : 0 < E xs N s'.1
    · rw [if_pos p']
      omega
    · rw [if_neg p']
      have p' : E xs N s'.1 < 0 := by omega
      intro q
      have lt := rk_cmp (head_in ms') (show rk (heads xs N) (E xs N s'.1) < rk (heads xs N) (E xs N s.1) by omega)
      have n2 := sg2.2 p
      have i1 : iabs (E xs N s.1) = - E xs N s.1 := by unfold iabs; rw [if_pos (by omega)]
      have i2 : iabs (E xs N s'.1) = - E xs N s'.1 := by unfold iabs; rw [if_pos (by omega)]
      have i3 : iabs (E xs N s.2) = - E xs N s.2 := by unfold iabs; rw [if_pos (by omega)]
      rw [i1, i2] at lt
      rw [i1] at up1
      have ab : E xs N s.2 < E xs N s'.1 := by
        by_cases c : E xs N s.2 < E xs N s'.1
        · exact c
        · have z := strip_E v ms (y := s.1 + (E xs N s'.1 - E xs N s.1)) (by omega) (by omega)
          have := v.E_inj (p := s.1 + (E xs N s'.1 - E xs N s.1)) (q := s'.1) (by omega) (by omega) (by omega) (by omega) (by rw [z]; congr 1; omega)
          omega
      rw [nx] at ab i2 p' ne'
      have ab2 : E xs N s.2 + 1 < E xs N (s.2 + 1) := by omega
      obtain ⟨g, hg, g1, g2⟩ := mid (- E xs N (s.2 + 1)) (- E xs N s.2) (- (E xs N s.2 + 1)) (by omega) (by omega) (onto _ (by omega) (by omega)) (.inr ⟨by rw [nx]; exact i2, i3⟩)
        (fun y y0 y1 => by
          have z := strip_E v ms y0 y1
          have := (strip_sign v ms y0 y1).2 p
          unfold iabs
          rw [if_pos (by omega)]
          omega)
        (fun y y0 y1 => by
          have z := strip_E v ms' y0 y1
          have := (strip_sign v ms' y0 y1).2 (by rw [nx]; exact p')
          rw [nx] at z
          unfold iabs
          rw [if_pos (by omega)]
          omega)
      have q1 := rk_lt (hs := heads xs N) hg (a := E xs N s'.1) (by rw [nx, i2]; exact g1)
      have q2 := rk_lt (hs := heads xs N) (head_in ms) (a := g) (by rw [i1]; omega)
      omega
end
end K42
set_option maxRecDepth 100000
set_option maxHeartbeats 4000000
namespace K42
open PySem L2 MI
section
variable {xs : List Int} {N M f l : Int}
theorem prs_first : ∀ (l : List Int) (a : Int) (s : Int × Int), (prs (a :: l))[0]? = some s → s.1 = a + 1
  | [], a, s, h => by simp [prs] at h
  | b :: t, a, s, h => by simp [prs] at h; rw [← h]
theorem bun_cuts (v : VR xs N) (hM : M = (bun xs N).length) : cuts (bun xs N) M = rgI 0 (M + 1) := by
  have v' := v.bun hM
  have hb := bun_length xs N
  have hs : (sps xs N).length = (heads xs N).length := by unfold heads; rw [List.length_map]
  refine List.filter_eq_self.mpr fun p hp => ?_
  rw [mem_rgI] at hp
  unfold cutP brk
  by_cases c0 : p = 0
  · simp [c0]
  · by_cases c1 : p = M
    · simp [c1]
    · have h1 : (sps xs N)[(p - 1).toNat]? = some (sps xs N)[(p - 1).toNat] := List.getElem?_eq_getElem (by omega)
      have h2 : (sps xs N)[(p - 1).toNat + 1]? = some (sps xs N)[(p - 1).toNat + 1] := List.getElem?_eq_getElem (by omega)
      have q1 := bun_at v h1
      have q2 := bun_at v h2
      have e1 := row_at v' (p := p - 1) (by omega) (by omega)
      have e2 := row_at v' (p := p) (by omega) (by omega)
      rw [q1] at e1
      rw [show p.toNat = (p - 1).toNat + 1 by omega, q2] at e2
      have nn := not_next v h1 h2
      have e1 := Option.some.inj e1
      have e2 := Option.some.inj e2
      rw [show p - 1 + 1 = p by omega] at e1
      rw [e1, e2] at nn
      simp [nn]
theorem bun_sps (v : VR xs N) (hM : M = (bun xs N).length) : ∀ s, s ∈ sps (bun xs N) M → s.1 = s.2 := fun s hs => by
  have b := sps_mem hs
  by_cases c : s.1 = s.2
  · exact c
  · have := prs_gap _ cuts_pw s s.1 hs (by omega) (by omega)
    rw [bun_cuts v hM, mem_rgI] at this
    omega
theorem bun_sps_at (v : VR xs N) (hM : M = (bun xs N).length) : ∀ (i : Nat) (s : Int × Int), (sps (bun xs N) M)[i]? = some s → s.1 = (i : Int) + 1
  | 0, s, h => by
    obtain ⟨t, e, _⟩ := cuts_ends (v.bun hM)
    unfold sps at h
    rw [e] at h
    have := prs_first t 0 s h
    omega
  | i + 1, s, h => by
    have hl := (List.getElem?_eq_some_iff.mp h).1
    have h0 : (sps (bun xs N) M)[i]? = some (sps (bun xs N) M)[i] := List.getElem?_eq_getElem (by omega)
    have ih := bun_sps_at v hM i _ h0
    have := prs_next _ i _ s h0 h
    have := bun_sps v hM _ (List.mem_of_getElem? h0)
    omega
theorem bun_heads (v : VR xs N) (hM : M = (bun xs N).length) : heads (bun xs N) M = bun xs N := by
  have v' := v.bun hM
  have hlen : (heads (bun xs N) M).length = (bun xs N).length := by
    rw [heads_length, bun_cuts v hM, len_rgI]
    omega
  refine List.ext_getElem? fun i => ?_
  by_cases hi : i < (bun xs N).length
  · have hs : (sps (bun xs N) M).length = (heads (bun xs N) M).length := by unfold heads; rw [List.length_map]
    have h0 : (sps (bun xs N) M)[i]? = some (sps (bun xs N) M)[i] := List.getElem?_eq_getElem (by omega)
    have e := bun_sps_at v hM i _ h0
    have r := row_at v' (p := (i : Int)) (by omega) (by omega)
    rw [Int.toNat_natCast] at r
    rw [r]
    unfold heads
    rw [List.getElem?_map, h0]
    show some (E (bun xs N) M ((sps (bun xs N) M)[i]).1) = _
    rw [e]
  · rw [List.getElem?_eq_none (by omega), List.getElem?_eq_none (by omega)]
theorem bun_bun (v : VR xs N) (hM : M = (bun xs N).length) : bun (bun xs N) M = bun xs N := by
  have v' := v.bun hM
  have hh := bun_heads v hM
  have hr : ∀ w, w ∈ bun xs N → rk (bun xs N) w = iabs w := fun w hw => by
    have hm := v'.mem hw
    have e := (v'.perm.filter fun y => decide (y ≤ iabs w)).length_eq
    rw [List.filter_map, List.length_map] at e
    have e2 := cnt_sorted (rgI 1 (M + 1)) (rg_pw _ _) (iabs w - 1).toNat (iabs w) (by rw [at_rgI (by omega)]; congr 1; omega)
    unfold rk
    have e3 : ((bun xs N).filter fun it => decide (iabs it ≤ iabs w)).length = ((bun xs N).filter ((fun y => decide (y ≤ iabs w)) ∘ iabs)).length := rfl
    omega
  have : bun (bun xs N) M = (bun xs N).map fun w => if 0 < w then rk (bun xs N) w else - rk (bun xs N) w := by
    show (heads (bun xs N) M).map (fun w => if 0 < w then rk (heads (bun xs N) M) w else - rk (heads (bun xs N) M) w) = _
    rw [hh]
  rw [this]
  conv => rhs; rw [← List.map_id (bun xs N)]
  refine List.map_congr_left fun w hw => ?_
  rw [hr w hw]
  show (if 0 < w then iabs w else - iabs w) = w
  unfold iabs
  split <;> split <;> omega
/-- the inner breaks -/
theorem inner_len (v : VR xs N) (hM : M = (bun xs N).length) : M = (((bps xs N).filter fun p => decide (0 < p) && decide (p < N)).length : Nat) + 1 := by
  have hb := bun_length xs N
  have hl := heads_length xs N
  have h2 := cuts_two v
  have hlo := v.lo
  have e : cuts xs N = 0 :: (((bps xs N).filter fun p => decide (0 < p) && decide (p < N)) ++ [N]) := by
    refine slt_unique (fun k => ?_) cuts_pw (List.pairwise_cons.mpr ⟨fun a ha => ?_, List.pairwise_append.mpr ⟨((rg_pw _ _).filter _).filter _, by simp, fun a ha b hb => ?_⟩⟩)
    · unfold cuts bps
      rw [List.mem_cons, List.mem_append, List.mem_filter, List.mem_filter, List.mem_filter, List.mem_singleton, mem_rgI]
      unfold cutP
      simp only [Bool.or_eq_true, Bool.and_eq_true, decide_eq_true_eq]
      constructor
      · rintro ⟨h1, (h | h) | h⟩
        · exact .inl h
        · exact .inr (.inr h)
        · by_cases c0 : k = 0
          · exact .inl c0
          · by_cases c1 : k = N
            · exact .inr (.inr c1)
            · exact .inr (.inl ⟨⟨h1, h⟩, by omega, by omega⟩)
      · rintro (h | ⟨⟨h1, h⟩, h3⟩ | h)
        · exact ⟨by omega, .inl (.inl h)⟩
        · exact ⟨h1, .inr h⟩
        · exact ⟨by omega, .inl (.inr h)⟩
    · rcases List.mem_append.mp ha with ha | ha
      · have := (List.mem_filter.mp ha).2
        simp only [Bool.and_eq_true, decide_eq_true_eq] at this
        omega
      · rw [List.mem_singleton.mp ha]; omega
    · have := (List.mem_filter.mp ha).2
      simp only [Bool.and_eq_true, decide_eq_true_eq] at this
      rw [List.mem_singleton.mp hb]
      omega
  have el := congrArg List.length e
  rw [List.length_cons, List.length_append, List.length_singleton] at el
  omega
end
end K42
set_option maxRecDepth 100000
set_option maxHeartbeats 4000000
namespace K42
open PySem L2 MI
section
variable {xs : List Int} {N M f l : Int}
/-! ### _law_turns -/
def Trn (N : Int) (d : PyData) : Prop := ∃ f l : Int, d = pD (f, l) ∧ 1 ≤ f ∧ f ≤ l ∧ l ≤ N
theorem turns_ok (h0 : 1 ≤ N) (h1 : N ≤ 20) : ∃ es : List PyData, f__law_turns [.d (.int N)] [] = .ok (.ref 0) [.lst es] ∧ (∀ d, d ∈ es → Trn N d) ∧ 0 < es.length ∧ es.length ≤ 1000 := by
  have hr : (rngD 1 (N + 1)).length = N.toNat := by rw [rngD_rg, List.length_map, len_rgI]; omega
  obtain ⟨r', S', e, w2, w3, es, q1, q2, q3, q4, q5⟩ := forL_inv (g := gNm 2) (b := sCons (sEx (eMt "list" mExt (eVar 1) (aCons (eLc (iR2 (eVar 2) (eOp2 oAdd (eVar 0) (eC (.int 1)))) (gNm 3) tYe (eTup (aCons (eVar 2) (aCons (eVar 3) aNil))) [3]) aNil))) sNil) (ds := rngD 1 (N + 1))
    (fun i r S => ∃ (w2 w3 : Option IV) (es : List PyData), r = [some (.d (.int N)), some (.ref 0), w2, w3] ∧ S = [.lst es] ∧ (∀ d, d ∈ es → Trn N d) ∧ es.length ≤ 20 * i ∧ (0 < i → 0 < es.length))
    (fun i r S d hd ⟨w2, w3, es, q1, q2, q3, q4, q5⟩ => by
      have hi : i < N.toNat := by have := (List.getElem?_eq_some_iff.mp hd).1; rw [hr] at this; exact this
      rw [rngD_rg, List.getElem?_map, at_rgI (by omega)] at hd
      cases hd
      subst q1 q2
      obtain ⟨p, hp⟩ : ∃ p : Int, p = 1 + (i : Int) := ⟨_, rfl⟩
      rw [← hp]
      have hit : iR2 (eVar 2) (eOp2 oAdd (eVar 0) (eC (.int 1))) [some (.d (.int N)), some (.ref 0), some (.d (.int p)), w3] [.lst es] = .ok ((rgI p (N + 1)).map .int) [.lst es] := by
        rw [← rngD_rg]
        exact iR2_ok (i := p) (j := N + 1) rfl (by simp) (by omega)
      have c := eLc_i (g := gNm 3) (e := eTup (aCons (eVar 2) (aCons (eVar 3) aNil))) (vs := [3]) (fun q => pD (p, q)) hit (rg_len (by omega)) fun q _ => ⟨[some (.d (.int N)), some (.ref 0), some (.d (.int p)), some (.d (.int q))], rfl, by simp⟩
      have hlen : ((rgI p (N + 1)).map fun q => pD (p, q)).length = (N + 1 - p).toNat := by rw [List.length_map, len_rgI]
      have hx : mExt (.ref 0) [.d (.list ((rgI p (N + 1)).map fun q => pD (p, q)))] [.lst es] = .ok (.d .none) [.lst (es ++ (rgI p (N + 1)).map fun q => pD (p, q))] := by
        simp only [mExt, List.getElem?_cons_zero, lst2]
        rw [if_pos (by rw [hlen, size_line]; omega)]
        rfl
      refine ⟨[some (.d (.int N)), some (.ref 0), some (.d (.int p)), w3], [.lst (es ++ (rgI p (N + 1)).map fun q => pD (p, q))], by simp [c, hx, -eLc, -mExt], some (.d (.int p)), w3, _, rfl, rfl, fun d hd => ?_, ?_, fun _ => ?_⟩
      · rcases List.mem_append.mp hd with hd | hd
        · exact q3 d hd
        · obtain ⟨q, hq, rfl⟩ := List.mem_map.mp hd
          rw [mem_rgI] at hq
          exact ⟨p, q, rfl, by omega, by omega, by omega⟩
      · rw [List.length_append, hlen]; omega
      · rw [List.length_append, hlen]; omega)
    (r := [some (.d (.int N)), some (.ref 0), none, none]) (S := [.lst []]) ⟨none, none, [], rfl, rfl, (fun d h => by cases h), by simp, fun h => absurd h (by omega)⟩
  rw [hr] at q4 q5
  subst q1 q2
  have hi : iR2 (eC (.int 1)) (eOp2 oAdd (eVar 0) (eC (.int 1))) [some (.d (.int N)), some (.ref 0), none, none] [.lst []] = .ok (rngD 1 (N + 1)) [.lst []] := iR2_ok (i := 1) (j := N + 1) rfl (by simp) (by omega)
  refine ⟨es, ?_, q3, q5 (by omega), by omega⟩
  simp [f__law_turns, hi, e, -iR2]
theorem call_turns (h0 : 1 ≤ N) (h1 : N ≤ 20) (S : Sto) : ∃ es : List PyData, callW backW f__law_turns [.d (.int N)] S = .ok (.d (.list es)) S ∧ (∀ d, d ∈ es → Trn N d) ∧ 0 < es.length ∧ es.length ≤ 1000 := by
  obtain ⟨es, e, h2, h3, h4⟩ := turns_ok h0 h1
  exact ⟨es, call_new (S := S) (is := [.d (.int N)]) rfl e rfl, h2, h3, h4⟩
/-! ### _law_is_right, statement by statement -/
theorem bps_mem (v : VR xs N) {p : Int} (h0 : 0 ≤ p) (h1 : p ≤ N) : decide (p ∈ bps xs N) = brk xs N p := by
  have m : p ∈ bps xs N ↔ (0 ≤ p ∧ p < N + 1) ∧ brk xs N p = true := by unfold bps; rw [List.mem_filter, mem_rgI]
  cases h : brk xs N p with
  | true => exact decide_eq_true (m.mpr ⟨by omega, h⟩)
  | false => exact decide_eq_false fun q => by have := (m.mp q).2; rw [h] at this; cases this
theorem dep_pairs : ∀ l : List (Int × Int), PyData.depthAll (l.map pD) ≤ 1
  | [] => by decide
  | p :: t => by
    have := dep_pairs t
    have e : PyData.depth (pD p) = 1 := rfl
    show max (PyData.depth (pD p)) (PyData.depthAll (t.map pD)) ≤ 1
    omega
theorem noS_pairs : ∀ l : List (Int × Int), (∀ p, p ∈ l → p.1.natAbs < 2 ^ 1000 ∧ p.2.natAbs < 2 ^ 1000) → noSs (l.map pD) = true
  | [], _ => rfl
  | p :: t, h => by
    have hp := h p List.mem_cons_self
    have := noS_ints [p.1, p.2] fun x hx => by
      rcases List.mem_cons.mp hx with e | e
      · rw [e]; exact hp.1
      · rw [List.mem_singleton.mp e]; exact hp.2
    show (noS (pD p) && noSs (t.map pD)) = true
    rw [noS_pairs t fun q hq => h q (List.mem_cons_of_mem _ hq), Bool.and_true]
    exact this
theorem nds_pairs : ∀ l : List (Int × Int), nds (l.map pD) = 3 * l.length
  | [] => rfl
  | p :: t => by
    show 3 + nds (t.map pD) = 3 * (t.length + 1)
    rw [nds_pairs t]
    omega
theorem big {k : Nat} (h : k < 2 ^ 60) : k < 2 ^ 1000 := Nat.lt_of_lt_of_le h (Nat.pow_le_pow_right (by omega) (by omega))
abbrev trip (xs : List Int) (N : Int) : PyData := .tuple [.tuple ((bps xs N).map .int), .tuple ((sps xs N).map pD), .tuple ((bun xs N).map .int)]
theorem bps_len (v : VR xs N) : (bps xs N).length ≤ 21 := by
  have h := List.length_filter_le (brk xs N) (rgI 0 (N + 1))
  have h2 := len_rgI 0 (N + 1)
  have := v.hi
  unfold bps
  omega
theorem trip_ok (v : VR xs N) : prOk (trip xs N) = true := by
  have h1 := bps_len v
  have h2 := sps_len v
  have h3 := heads_len v
  have h4 := bun_length xs N
  have hhi := v.hi
  have vb := v.bun (M := ((bun xs N).length : Nat)) rfl
  refine prOk_of ?_ ?_ ?_
  · show (noSs ((bps xs N).map .int) && (noSs ((sps xs N).map pD) && (noSs ((bun xs N).map .int) && true))) = true
    rw [noS_ints, noS_pairs, noS_ints]
    · rfl
    · intro x hx
      have := vb.mem hx
      unfold iabs at this
      exact big (by split at this <;> omega)
    · intro p hp
      have := sps_mem hp
      exact ⟨big (by omega), big (by omega)⟩
    · intro x hx
      have := mem_rgI.mp (List.mem_filter.mp hx).1
      exact big (by omega)
  · show 1 + ((1 + nds ((bps xs N).map .int)) + ((1 + nds ((sps xs N).map pD)) + ((1 + nds ((bun xs N).map .int)) + 0))) ≤ 8000
    rw [nds_ints, nds_ints, nds_pairs]
    omega
  · show max (PyData.depthAll ((bps xs N).map .int) + 1) (max (PyData.depthAll ((sps xs N).map pD) + 1) (max (PyData.depthAll ((bun xs N).map .int) + 1) 0)) + 1 ≤ 64
    have := dep_pairs (sps xs N)
    rw [depth_ints, depth_ints]
    omega
theorem prOk_int {i : Int} (h : i.natAbs < 2 ^ 60) : prOk (.int i) = true := by
  refine prOk_of ?_ (by show 1 ≤ 8000; omega) (by show 0 ≤ 64; omega)
  have := noS_ints [i] fun x hx => by rw [List.mem_singleton.mp hx]; exact big h
  have h2 : (noS (.int i) && true) = true := this
  rw [Bool.and_true] at h2
  exact h2
theorem prOk_bool (b : Bool) : prOk (.bool b) = true := prOk_of rfl (by show 1 ≤ 8000; omega) (by show 0 ≤ 64; omega)
end
end K42
set_option maxRecDepth 100000
set_option maxHeartbeats 4000000
namespace K42
open PySem L2 MI
section
variable {xs : List Int} {N M f l : Int} {S : Sto}
abbrev r12 (p0 p1 p2 p3 p4 p5 p6 p7 p8 p9 p10 p11 : Option IV) : Rho := [p0, p1, p2, p3, p4, p5, p6, p7, p8, p9, p10, p11]
theorem k_breaks (v : VR xs N) : callW backW f_breaks [ti xs] S = .ok (ti (bps xs N)) S := call_pure (is := [ti xs]) rfl (breaks_ok v) rfl
theorem k_strips (v : VR xs N) : callW backW f_strips [ti xs] S = .ok (.d (.tuple ((sps xs N).map pD))) S := call_pure (is := [ti xs]) rfl (strips_ok v) rfl
theorem k_bundled (v : VR xs N) : callW backW f_bundled [ti xs] S = .ok (ti (bun xs N)) S := call_pure (is := [ti xs]) rfl (bundled_ok v) rfl
theorem k_lbreaks (v : VR xs N) : callW backW f__law_breaks [ti xs] S = .ok (ti (bps xs N)) S := call_pure (is := [ti xs]) rfl (law_breaks_ok v) rfl
theorem k_lstrips (v : VR xs N) : callW backW f__law_strips [ti xs] S = .ok (.d (.tuple ((sps xs N).map pD))) S := call_pure (is := [ti xs]) rfl (law_strips_ok v) rfl
theorem k_lbundled (v : VR xs N) : callW backW f__law_bundled [ti xs] S = .ok (ti (bun xs N)) S := by
  obtain ⟨T, e⟩ := law_bundled_ok v
  exact call_pure (is := [ti xs]) rfl e rfl
theorem k_isbroken (v : VR xs N) {p : Int} (h0 : 0 ≤ p) (h1 : p ≤ N) : callW backW f_is_broken [ti xs, .d (.int p)] S = .ok (.d (.bool (brk xs N p))) S := call_pure (is := [ti xs, .d (.int p)]) rfl (is_broken_ok v h0 h1) rfl
theorem k_home (h0 : 0 ≤ N) (h1 : N ≤ 1000) : callW backW f__law_home [.d (.int N)] S = .ok (ti (rgI 1 (N + 1))) S := call_pure (is := [.d (.int N)]) rfl (home_ok h0 h1) rfl
theorem k_mended (v : VR xs N) (h : 1 ≤ f) (h1 : f ≤ l) (h2 : l ≤ N) : callW backW f_mended [ti xs, .d (pD (f, l))] S = .ok (.d (.int (nb xs N - nb (trn xs f l) N))) S := call_pure (is := [ti xs, .d (pD (f, l))]) rfl (mended_ok v h h1 h2) rfl
theorem k_turned (v : VR xs N) (h : 1 ≤ f) (h1 : f ≤ l) (h2 : l ≤ N) : callW backW f_turned [ti xs, .d (pD (f, l))] S = .ok (ti (trn xs f l)) S := call_pure (is := [ti xs, .d (pD (f, l))]) rfl (turned_ok v h h1 h2) rfl
theorem k_lturned (v : VR xs N) (h : 1 ≤ f) (h1 : f ≤ l) (h2 : l ≤ N) : callW backW f__law_turned [ti xs, .d (pD (f, l))] S = .ok (ti (trn xs f l)) S := call_pure (is := [ti xs, .d (pD (f, l))]) rfl (law_turned_ok v h h1 h2) rfl
theorem cNe_str (x : Str) : cNe (.d (.str x)) (.d (.str x)) S = .ok (.d (.bool false)) S := by
  show Out.ok (IV.d (.bool (!decide (x = x)))) S = _
  rw [decide_eq_true rfl] <;> rfl
theorem cEq_str (x : Str) : cEq (.d (.str x)) (.d (.str x)) S = .ok (.d (.bool true)) S := by
  show Out.ok (IV.d (.bool (decide (x = x)))) S = _
  rw [decide_eq_true rfl] <;> rfl
theorem mkTup3 (a b c : PyData) : mkTup [.d a, .d b, .d c] S = .ok (.d (.tuple [a, b, c])) S := rfl
theorem st2 (v : VR xs N) (ds : List PyData) (a b : FS) {r : Rho} (h1 : r[1]? = some (some (ti xs))) (h6 : r[6]? = some (some (ti (bps xs N)))) :
    sIf (tE (eOp2 cNe (eApp bRepr (aCons (eTup (aCons (eApp (callN 1 f_breaks) (aCons (eVar 1) aNil)) (aCons (eApp (callN 1 f_strips) (aCons (eVar 1) aNil)) (aCons (eApp (callN 1 f_bundled) (aCons (eVar 1) aNil)) aNil)))) aNil)) (eApp bRepr (aCons (eTup (aCons (eVar 6) (aCons (eApp (callN 1 f__law_strips) (aCons (eVar 1) aNil)) (aCons (eApp (callN 1 f__law_bundled) (aCons (eVar 1) aNil)) aNil)))) aNil)))) a b r S = b r S := by
  have t := repr_ok (trip_ok v) S
  simp [h1, h6, k_breaks v, k_strips v, k_bundled v, k_lstrips v, k_lbundled v, mkTup3, t, cNe_str, -mkTup, -bRepr, -cNe]
theorem in_bps (v : VR xs N) {p : Int} (h0 : 0 ≤ p) (h1 : p ≤ N) : cInN false (.d (.int p)) (ti (bps xs N)) S = .ok (.d (.bool (brk xs N p))) S := by
  show (if shp (.int p) = true ∧ shp (.list ((bps xs N).map .int)) = true then Out.ok (IV.d (.bool (if false = true then !isIn (.int p) ((bps xs N).map .int) else isIn (.int p) ((bps xs N).map .int)))) S else .bad) = _
  rw [if_pos ⟨shp_int p, shp_lst _⟩, if_neg Bool.false_ne_true, isIn_ints, bps_mem v h0 h1]
theorem st3 (v : VR xs N) (a b : FS) {p0 p2 p3 p4 p7 p8 p9 p10 p11 : Option IV} :
    sIf (tOr' (tNt (tE (eApp bAll (aCons (eLc (iR1 (eOp2 oAdd (eVar 5) (eC (.int 1)))) (gNm 9) tYe (eOp2 cEq (eApp bRepr (aCons (eApp (callN 2 f_is_broken) (aCons (eVar 1) (aCons (eVar 9) aNil))) aNil)) (eApp bRepr (aCons (eOp2 (cInN false) (eVar 9) (eVar 6)) aNil))) [9]) aNil)))) (tE (eOp2 cNe (eOp2 cEq (eVar 6) (eTup aNil)) (eOp2 cEq (eVar 1) (eApp (callN 1 f__law_home) (aCons (eVar 5) aNil)))))) a b
      (r12 p0 (some (ti xs)) p2 p3 p4 (some (.d (.int N))) (some (ti (bps xs N))) p7 p8 p9 p10 p11) S = b (r12 p0 (some (ti xs)) p2 p3 p4 (some (.d (.int N))) (some (ti (bps xs N))) p7 p8 p9 p10 p11) S := by
  have hlo := v.lo
  have hhi := v.hi
  have hi : iR1 (eOp2 oAdd (eVar 5) (eC (.int 1))) (r12 p0 (some (ti xs)) p2 p3 p4 (some (.d (.int N))) (some (ti (bps xs N))) p7 p8 p9 p10 p11) S = .ok ((rgI 0 (N + 1)).map .int) S := by
    rw [← rngD_rg]
    exact iR1_ok (by simp) (by omega)
  have c := eLc_i (g := gNm 9) (e := eOp2 cEq (eApp bRepr (aCons (eApp (callN 2 f_is_broken) (aCons (eVar 1) (aCons (eVar 9) aNil))) aNil)) (eApp bRepr (aCons (eOp2 (cInN false) (eVar 9) (eVar 6)) aNil))) (vs := [9]) (fun _ => .bool true) hi (rg_len (by omega)) fun d hd => by
    rw [mem_rgI] at hd
    have k1 := k_isbroken (S := S) v (p := d) (by omega) (by omega)
    have k2 := in_bps (S := S) v (p := d) (by omega) (by omega)
    have k3 := repr_ok (prOk_bool (brk xs N d)) S
    exact ⟨r12 p0 (some (ti xs)) p2 p3 p4 (some (.d (.int N))) (some (ti (bps xs N))) p7 p8 (some (.d (.int d))) p10 p11, rfl, by simp [k1, k2, k3, cEq_str, -cInN, -bRepr, -cEq]⟩
  rw [show ((rgI 0 (N + 1)).map fun _ => PyData.bool true) = ((rgI 0 (N + 1)).map fun _ => true).map .bool by rw [List.map_map]; rfl] at c
  have ha := all_ok ((rgI 0 (N + 1)).map fun _ => true) S
  rw [show ((rgI 0 (N + 1)).map fun _ => true).all id = true by simp] at ha
  have e1 : cEq (ti (bps xs N)) (.d (.tuple [])) S = .ok (.d (.bool (decide (bps xs N = [])))) S := cEq_tup (bps xs N) [] S
  have e2 := cEq_tup xs (rgI 1 (N + 1)) S
  have e3 : ∀ b : Bool, cNe (.d (.bool b)) (.d (.bool b)) S = .ok (.d (.bool false)) S := fun b => by cases b <;> rfl
  have e4 : decide (bps xs N = []) = decide (xs = rgI 1 (N + 1)) := decide_eq_decide.mpr (home_iff v)
  have hk := k_home (S := S) (N := N) (by omega) (by omega)
  have z : mkTup [] S = .ok (.d (.tuple [])) S := rfl
  simp [c, ha, e1, e2, e3, e4, hk, z, -eLc, -bAll, -cEq, -cNe, -mkTup, -List.map_map]
/-- one lap -/
theorem lap (v : VR xs N) {n : Nat} {ds : List PyData} (hp : Pot n ds) (hn : n ≤ 900000) {d : PyData} {p3 p4 p7 p8 p9 p10 p11 : Option IV} :
    ∃ es q7 q8, (sCons (sSet (eApp (callN 2 f__law_of) (aCons (eVar 0) (aCons (eApp (callN 1 f__law_turns) (aCons (eVar 5) aNil)) aNil))) 7)
  (sCons (sSet (eOp2 (oInt gSub) (eApp bLen (aCons (eVar 6) aNil)) (eApp bLen (aCons (eApp (callN 1 f__law_breaks) (aCons (eApp (callN 2 f__law_turned) (aCons (eVar 1) (aCons (eVar 7) aNil))) aNil)) aNil))) 8)
  (sCons (sIf (tOr' (tE (eOp2 cNe (eApp bRepr (aCons (eApp (callN 2 f_mended) (aCons (eVar 1) (aCons (eVar 7) aNil))) aNil)) (eApp bRepr (aCons (eVar 8) aNil)))) (tOr' (tNt (tE (eCh (cInt gLe) (cInt gLe) (eOp1 oNeg (eC (.int 2))) (eVar 8) (eC (.int 2))))) (tE (eOp2 cNe (eApp (callN 2 f_mended) (aCons (eApp (callN 2 f_turned) (aCons (eVar 1) (aCons (eVar 7) aNil))) (aCons (eVar 7) aNil))) (eOp1 oNeg (eVar 8)))))) (sCons (sRet (eC (.bool false)))
  sNil) sNil)
  sNil))) (r12 (some (.ref 0)) (some (ti xs)) (some (.d d)) p3 p4 (some (.d (.int N))) (some (ti (bps xs N))) p7 p8 p9 p10 p11) [.lst ds] = .nx (r12 (some (.ref 0)) (some (ti xs)) (some (.d d)) p3 p4 (some (.d (.int N))) (some (ti (bps xs N))) q7 q8 p9 p10 p11) [.lst es] ∧ Pot (n + 1) es := by
  have hlo := v.lo
  have hhi := v.hi
  obtain ⟨ts, t1, t2, t3, t4⟩ := call_turns (N := N) hlo hhi [.lst ds]
  obtain ⟨d', es, hd, c1, c2⟩ := call_of (k := 0) (S := [.lst ds]) hp (by omega) t3 (by omega) rfl
  obtain ⟨f, l, rfl, h, h1, h2⟩ := t2 d' hd
  have v2 := v.trn h h1 h2
  have g1 := k_lturned (S := [.lst es]) v h h1 h2
  have g2 := k_lbreaks (S := [.lst es]) v2
  have l1 := len_ti (xs := bps xs N) (N := nb xs N) rfl [.lst es]
  have l2 := len_ti (xs := bps (trn xs f l) N) (N := nb (trn xs f l) N) rfl [.lst es]
  have g3 := k_mended (S := [.lst es]) v h h1 h2
  have g4 := k_turned (S := [.lst es]) v h h1 h2
  have g5 := k_mended (S := [.lst es]) v2 h h1 h2
  rw [trn_trn v h h1 h2] at g5
  have near := nb_near v h h1 h2
  generalize nb xs N = A at *
  generalize nb (trn xs f l) N = B at *
  have pr := repr_ok (prOk_int (i := A - B) (by omega)) [.lst es]
  have ng : cNe (.d (.int (B - A))) (.d (.int (-(A - B)))) [.lst es] = .ok (.d (.bool false)) [.lst es] := by
    show Out.ok (IV.d (.bool (!decide (B - A = -(A - B))))) [.lst es] = _
    rw [decide_eq_true (by omega)] <;> rfl
  refine ⟨es, some (.d (pD (f, l))), some (.d (.int (A - B))), ?_, c2⟩
  have near1 : (-2 : Int) ≤ A - B := near.1
  have near2 : A - B ≤ 2 := near.2
  obtain ⟨D, hD⟩ : ∃ D, A - B = D := ⟨_, rfl⟩
  rw [hD] at g3 pr ng near1 near2 ⊢
  simp [hD, t1, c1, g1, g2, l1, l2, g3, g4, g5, pr, ng, near1, near2, cNe_str, -bLen, -bRepr, -cNe]
end
end K42
set_option maxRecDepth 100000
set_option maxHeartbeats 4000000
namespace K42
open PySem L2 MI
section
variable {xs : List Int} {N M f l : Int} {S : Sto}
theorem Pot.mono {n m : Nat} {ds : List PyData} (h : Pot n ds) (hm : n ≤ m) : Pot m ds := by
  obtain ⟨a, b, c, e, h1, h2, h3, h4, h5, h6⟩ := h
  exact ⟨a, b, c, e, h1, h2, h3, h4, h5, by omega⟩
theorem map_tt {α : Type} (l : List α) : (l.map fun _ => PyData.bool true) = (l.map fun _ => true).map .bool := by rw [List.map_map]; rfl
theorem is_right_ok (v : VR xs N) {n : Nat} {ds : List PyData} (hp : Pot n ds) (hn : n ≤ 800000) :
    ∃ es, f__law_is_right [.ref 0, ti xs] [.lst ds] = .ok (.d (.bool true)) [.lst es] ∧ Pot (n + 4) es := by
  have hlo := v.lo
  have hhi := v.hi
  have e1 : sAs (eTup (aCons (eApp bLen (aCons (eVar 1) aNil)) (aCons (eApp (callN 1 f__law_breaks) (aCons (eVar 1) aNil)) aNil))) (gTp 2 (gsCons (gNm 5) (gsCons (gNm 6) gsNil))) (r12 (some (.ref 0)) (some (ti xs)) none none none none none none none none none none) [.lst ds]
      = .nx (r12 (some (.ref 0)) (some (ti xs)) none none none (some (.d (.int N))) (some (ti (bps xs N))) none none none none none) [.lst ds] := by
    have h1 := len_ti v.len [.lst ds]
    have h2 := k_lbreaks (S := [.lst ds]) v
    simp [h1, h2, -bLen]
  obtain ⟨r', S', e, es, q2, q7, q8, z1, z2, z3⟩ := forL_inv (g := gNm 2) (b := (sCons (sSet (eApp (callN 2 f__law_of) (aCons (eVar 0) (aCons (eApp (callN 1 f__law_turns) (aCons (eVar 5) aNil)) aNil))) 7)
  (sCons (sSet (eOp2 (oInt gSub) (eApp bLen (aCons (eVar 6) aNil)) (eApp bLen (aCons (eApp (callN 1 f__law_breaks) (aCons (eApp (callN 2 f__law_turned) (aCons (eVar 1) (aCons (eVar 7) aNil))) aNil)) aNil))) 8)
  (sCons (sIf (tOr' (tE (eOp2 cNe (eApp bRepr (aCons (eApp (callN 2 f_mended) (aCons (eVar 1) (aCons (eVar 7) aNil))) aNil)) (eApp bRepr (aCons (eVar 8) aNil)))) (tOr' (tNt (tE (eCh (cInt gLe) (cInt gLe) (eOp1 oNeg (eC (.int 2))) (eVar 8) (eC (.int 2))))) (tE (eOp2 cNe (eApp (callN 2 f_mended) (aCons (eApp (callN 2 f_turned) (aCons (eVar 1) (aCons (eVar 7) aNil))) (aCons (eVar 7) aNil))) (eOp1 oNeg (eVar 8)))))) (sCons (sRet (eC (.bool false)))
  sNil) sNil)
  sNil)))) (ds := rngD 0 4)
    (fun i r S => ∃ es q2 q7 q8, r = r12 (some (.ref 0)) (some (ti xs)) q2 none none (some (.d (.int N))) (some (ti (bps xs N))) q7 q8 none none none ∧ S = [.lst es] ∧ Pot (n + i) es)
    (fun i r S d hd ⟨es, q2, q7, q8, z1, z2, z3⟩ => by
      have hi : i < 4 := by have := (List.getElem?_eq_some_iff.mp hd).1; exact this
      subst z1 z2
      obtain ⟨fs, q7', q8', e, p⟩ := lap v z3 (by omega) (d := d) (p3 := none) (p4 := none) (p7 := q7) (p8 := q8) (p9 := none) (p10 := none) (p11 := none)
      exact ⟨_, _, e, fs, _, _, _, rfl, rfl, by rw [← Nat.add_assoc]; exact p⟩)
    (r := r12 (some (.ref 0)) (some (ti xs)) none none none (some (.d (.int N))) (some (ti (bps xs N))) none none none none none) (S := [.lst ds]) ⟨ds, none, none, none, rfl, rfl, hp⟩
  subst z1 z2
  have z3 : Pot (n + 4) es := z3
  have hit : iR1 (eC (.int 4)) (r12 (some (.ref 0)) (some (ti xs)) none none none (some (.d (.int N))) (some (ti (bps xs N))) none none none none none) [.lst ds] = .ok (rngD 0 4) [.lst ds] := iR1_ok rfl (by decide)
  -- the bundle
  obtain ⟨M, hM⟩ : ∃ M : Int, M = ((bun xs N).length : Nat) := ⟨_, rfl⟩
  have v' := v.bun hM
  have b1 := k_bundled (S := [.lst es]) v
  have b2 := k_bundled (S := [.lst es]) v'
  rw [bun_bun v hM] at b2
  have b3 := k_strips (S := [.lst es]) v'
  have hin := inner_len v hM
  have i1 : ∀ r : Rho, r[6]? = some (some (ti (bps xs N))) → iSeq (eVar 6) r [.lst es] = .ok ((bps xs N).map .int) [.lst es] := fun r hr =>
    iSeq_ok (v := ti (bps xs N)) (by simp [hr]) rfl (by rw [size_line, List.length_map]; have := bps_len v; omega)
  have c1 := eLc_iF (g := gNm 9) (t := tE (eCh (cInt gLt) (cInt gLt) (eC (.int 0)) (eVar 9) (eVar 5))) (e := eVar 9) (vs := [9]) (r := r12 (some (.ref 0)) (some (ti xs)) q2 (some (ti (bun xs N))) none (some (.d (.int N))) (some (ti (bps xs N))) q7 q8 none none none) (fun p => decide (0 < p) && decide (p < N)) .int (i1 _ rfl) (by have := bps_len v; omega) fun d _ => by
    refine ⟨r12 (some (.ref 0)) (some (ti xs)) q2 (some (ti (bun xs N))) none (some (.d (.int N))) (some (ti (bps xs N))) q7 q8 (some (.d (.int d))) none none, rfl, ?_, fun _ => rfl⟩
    by_cases h : 0 < d <;> simp [h]
  obtain ⟨inn, hinn⟩ : ∃ inn, inn = (bps xs N).filter fun p => decide (0 < p) && decide (p < N) := ⟨_, rfl⟩
  rw [← hinn] at c1 hin
  have l1 := len_ti (xs := bun xs N) hM [.lst es]
  obtain ⟨I, hI⟩ : ∃ I : Int, I = (inn.length : Nat) := ⟨_, rfl⟩
  have l2 := len_li (xs := inn) hI [.lst es]
  have hMI : M = I + 1 := by omega
  have t1 := cEq_tup (bun xs N) (bun xs N) [.lst es]
  rw [decide_eq_true rfl] at t1
  have i2 : ∀ r : Rho, r[3]? = some (some (ti (bun xs N))) → iSeq (eApp (callN 1 f_strips) (aCons (eVar 3) aNil)) r [.lst es] = .ok ((sps (bun xs N) M).map pD) [.lst es] := fun r hr =>
    iSeq_ok (v := .d (.tuple ((sps (bun xs N) M).map pD))) (by simp [hr, b3]) rfl (by rw [size_line, List.length_map]; have := sps_len v'; omega)
  have c2 := eLc_map (g := gTp 2 (gsCons (gNm 10) (gsCons (gNm 11) gsNil))) (e := eOp2 cEq (eVar 10) (eVar 11)) (vs := [10, 11]) (r := r12 (some (.ref 0)) (some (ti xs)) q2 (some (ti (bun xs N))) (some (li inn)) (some (.d (.int N))) (some (ti (bps xs N))) q7 q8 none none none) (fun _ => .bool true) (i2 _ rfl) (by rw [List.length_map]; have := sps_len v'; omega) fun d hd => by
    obtain ⟨⟨a, b⟩, hm, rfl⟩ := List.mem_map.mp hd
    have hab : a = b := bun_sps v hM _ hm
    exact ⟨r12 (some (.ref 0)) (some (ti xs)) q2 (some (ti (bun xs N))) (some (li inn)) (some (.d (.int N))) (some (ti (bps xs N))) q7 q8 none (some (.d (.int a))) (some (.d (.int b))), rfl, by simp [hab]⟩
  rw [map_tt] at c2
  have ha := all_ok (((sps (bun xs N) M).map pD).map fun _ => true) [.lst es]
  rw [show (((sps (bun xs N) M).map pD).map fun _ => true).all id = true by simp] at ha
  refine ⟨es, ?_, z3⟩
  have u : ∀ fs : FS, fnB 12 fs [.ref 0, ti xs] [.lst ds] = (fs (r12 (some (.ref 0)) (some (ti xs)) none none none none none none none none none none) [.lst ds]).fin := fun _ => rfl
  have hfor : ∀ b, sFor (iR1 (eC (.int 4))) (gNm 2) b (r12 (some (.ref 0)) (some (ti xs)) none none none (some (.d (.int N))) (some (ti (bps xs N))) none none none none none) [.lst ds] = forL (gNm 2) b (rngD 0 4) (r12 (some (.ref 0)) (some (ti xs)) none none none (some (.d (.int N))) (some (ti (bps xs N))) none none none none none) [.lst ds] := fun b => by
    unfold sFor
    rw [hit]
    rfl
  rw [f__law_is_right, u]
  unfold sCons at e ⊢
  have nx0 : ∀ r S, sNil r S = SOut.nx r S := fun _ _ => rfl
  rw [e1, seq_nx_, st2 v ds _ _ rfl rfl, nx0, seq_nx_, st3 v, nx0, seq_nx_, hfor, e, seq_nx_]
  have ci : ∀ i : Int, cEq (.d (.int i)) (.d (.int i)) [.lst es] = .ok (.d (.bool true)) [.lst es] := fun i => by simp
  subst hMI
  simp [b1, b2, c1, c2, ci, l1, l2, t1, ha, -bLen, -eLc, -cEq, -bAll, -List.map_map]
end
end K42
set_option maxRecDepth 100000
set_option maxHeartbeats 4000000
namespace K42
open PySem L2 MI
section
variable {xs : List Int} {N M f l : Int} {S : Sto}
/-! ### the rows that are drawn -/
def un : PyData → Int
  | .int i => i
  | _ => 0
theorem un_map : ∀ (ys : List PyData) (l : List Int), ys.Perm (l.map .int) → ys = (ys.map un).map .int ∧ (ys.map un).Perm l := fun ys l p => by
  refine ⟨?_, ?_⟩
  · rw [List.map_map]
    conv => lhs; rw [← List.map_id ys]
    refine List.map_congr_left fun d hd => ?_
    obtain ⟨i, _, rfl⟩ := List.mem_map.mp (p.mem_iff.mp hd)
    rfl
  · have := p.map un
    rw [List.map_map] at this
    rw [show (un ∘ PyData.int) = id from rfl, List.map_id] at this
    exact this
theorem iabs_id {l : List Int} (h : ∀ x, x ∈ l → 0 ≤ x) : l.map iabs = l := by
  conv => rhs; rw [← List.map_id l]
  refine List.map_congr_left fun x hx => ?_
  have := h x hx
  show iabs x = x
  unfold iabs
  rw [if_neg (by omega)]
theorem vr_of {m : Int} (h0 : 1 ≤ m) (h1 : m ≤ 20) (hp : (xs.map iabs).Perm (rgI 1 (m + 1))) : VR xs m := by
  have hl := hp.length_eq
  rw [List.length_map, len_rgI] at hl
  exact ⟨by omega, h0, h1, pw_unique ((isort_perm _).trans hp) (isort_pw _) ((rg_pw _ _).imp fun {a b} h => by omega)⟩
theorem vr_home (h0 : 1 ≤ N) (h1 : N ≤ 20) : VR (rgI 1 (N + 1)) N := by
  refine vr_of h0 h1 ?_
  rw [iabs_id fun x hx => by rw [mem_rgI] at hx; omega]
theorem eLc_of {it : FI} {g : FG} {t : FT} {e : FE} {vs : List Nat} {r : Rho} {S S1 S2 : Sto} {ds all : List PyData} (hi : it r S = .ok ds S1) (hl : ds.length ≤ 1000000) (h : lcL g t e (wipeR r vs) ds S1 = .ok all S2) : eLc it g t e vs r S = .ok (.d (.list all)) S2 := by
  unfold eLc lcR
  rw [hi]
  show ((if ds.length ≤ 1000000 then (lcL g t e (wipeR r vs) ds S1).nox else .bad : Out (List PyData)).bind _) = _
  rw [if_pos hl, h]
  rfl
theorem law_row_ok {hi : Int} (h1 : 1 ≤ hi) (h2 : hi ≤ 20) {n : Nat} {ds : List PyData} (hp : Pot n ds) (hn : n ≤ 900000) :
    ∃ xs N es, VR xs N ∧ f__law_row [.ref 0, .d (.int 1), .d (.int hi)] [.lst ds] = .ok (ti xs) [.lst es] ∧ Pot (n + 50) es := by
  obtain ⟨t, e1, c1, t0, t1, p1⟩ := call_take (u := hi) (k := 0) (S := [.lst ds]) hp (by omega) (by omega) (by omega) rfl
  obtain ⟨m, hm⟩ : ∃ m : Int, m = 1 + t := ⟨_, rfl⟩
  have hxl : (((rgI 1 (m + 1)).map PyData.int)).length = m.toNat := by rw [List.length_map, len_rgI]; omega
  obtain ⟨ys, zs, e2, T, q1, q2, q3, p2⟩ := some_ok (n := n + 1) (xs := (rgI 1 (m + 1)).map .int) (m := m.toNat) (M := m) (by omega) p1 (by omega) (by omega) (by omega)
  have hz : zs = [] := by
    have := q1.length_eq
    rw [List.length_append, hxl] at this
    exact List.length_eq_zero_iff.mp (by omega)
  subst hz
  rw [List.append_nil] at q1
  obtain ⟨u1, u2⟩ := un_map ys _ q1
  obtain ⟨ms, hms⟩ : ∃ ms, ms = ys.map un := ⟨_, rfl⟩
  rw [← hms] at u1 u2
  have c2 := call_potN (n := 0) (S := [.lst e1]) (is := [li (rgI 1 (m + 1)), .d (.int m)]) (k := 1) (fs := ys) rfl rfl q3 rfl
  rw [u1] at c2
  have hml : ms.length = m.toNat := by rw [u2.length_eq, len_rgI]; omega
  have hmr : ∀ x, x ∈ ms → 1 ≤ x ∧ x ≤ m := fun x hx => by have := mem_rgI.mp (u2.mem_iff.mp hx); omega
  -- the signs
  obtain ⟨all, S', hall, zs, es, a1, a2, a3, a4⟩ := lcL_inv (g := gNm 4) (t := tYe) (e := eOp2 (oInt gMul) (eVar 4) (eApp (callN 2 f__law_of) (aCons (eVar 0) (aCons (eLst (aCons (eC (.int 1)) (aCons (eOp1 oNeg (eC (.int 1))) aNil))) aNil)))) (r0 := [some (.ref 0), some (.d (.int 1)), some (.d (.int hi)), some (.d (.int m)), none]) (ds := ms.map .int)
    (fun i acc S => ∃ (zs : List Int) (es : List PyData), acc = zs.map .int ∧ S = [.lst es] ∧ zs.map iabs = ms.take i ∧ Pot (n + 1 + m.toNat + i) es)
    (fun i acc S d hd ⟨zs, es, a1, a2, a3, a4⟩ => by
      rw [List.getElem?_map] at hd
      cases hx : ms[i]? with
      | none => rw [hx] at hd; cases hd
      | some w =>
        rw [hx] at hd
        cases hd
        have hwi := (List.getElem?_eq_some_iff.mp hx).1
        have hw := hmr w (List.mem_of_getElem? hx)
        subst a1 a2
        obtain ⟨d', fs, hd', c3, p3⟩ := call_of (xs := [.int 1, .int (-1)]) (k := 0) (S := [.lst es]) a4 (by omega) (by simp) (by simp) rfl
        obtain ⟨sg, hs, rfl⟩ : ∃ sg : Int, (sg = 1 ∨ sg = -1) ∧ d' = .int sg := by
          rcases List.mem_cons.mp hd' with e | e
          · exact ⟨1, .inl rfl, e⟩
          · exact ⟨-1, .inr rfl, List.mem_singleton.mp e⟩
        have hg : gMul w sg = some (w * sg) := gMul_ok (by omega) (by rcases hs with e | e <;> rw [e] <;> decide)
        refine ⟨[some (.ref 0), some (.d (.int 1)), some (.d (.int hi)), some (.d (.int m)), some (.d (.int w))], [.lst es], true, [.lst es], rfl, rfl, ?_⟩
        rw [if_pos rfl]
        refine ⟨.int (w * sg), [.lst fs], by simp [c3, hg, -gMul], zs ++ [w * sg], fs, by rw [List.map_append]; rfl, rfl, ?_, by rw [← Nat.add_assoc]; exact p3⟩
        rw [List.map_append, a3, List.take_add_one, hx]
        congr 1
        show [iabs (w * sg)] = [w]
        rcases hs with e | e <;> rw [e] <;> (unfold iabs; congr 1; split <;> omega))
    (S := [.lst e2]) ⟨[], e2, rfl, rfl, by simp, p2⟩
  rw [List.length_map, hml] at a3 a4
  rw [List.take_of_length_le (by omega)] at a3
  subst a1 a2
  have it : iSeq (eApp (callN 3 f__law_some) (aCons (eVar 0) (aCons (eRgL (rg2 (eC (.int 1)) (eOp2 oAdd (eVar 3) (eC (.int 1))))) (aCons (eVar 3) aNil)))) [some (.ref 0), some (.d (.int 1)), some (.d (.int hi)), some (.d (.int m)), none] [.lst e1] = .ok (ms.map .int) [.lst e2] := by
    have hg : eRgL (rg2 (eC (.int 1)) (eOp2 oAdd (eVar 3) (eC (.int 1)))) [some (.ref 0), some (.d (.int 1)), some (.d (.int hi)), some (.d (.int m)), none] [.lst e1] = .ok (li (rgI 1 (m + 1))) [.lst e1] := rgL_ok (by simp) (rgOk_s (by omega) (by omega) (by omega) (by omega))
    refine iSeq_ok (v := li ms) ?_ rfl (by rw [size_line, List.length_map]; omega)
    simp [hg, c2, -eRgL]
  have c4 := eLc_of (vs := [4]) it (by rw [List.length_map]; omega) hall
  refine ⟨zs, m, es, vr_of (by omega) (by omega) (by rw [a3]; exact u2), ?_, a4.mono (by omega)⟩
  have u : ∀ fs : FS, fnB 5 fs [.ref 0, .d (.int 1), .d (.int hi)] [.lst ds] = (fs [some (.ref 0), some (.d (.int 1)), some (.d (.int hi)), none, none] [.lst ds]).fin := fun _ => rfl
  rw [f__law_row, u]
  have s1 : sSet (eOp2 oAdd (eVar 1) (eApp (callN 2 f__law_take) (aCons (eVar 0) (aCons (eOp2 oAdd (eOp2 (oInt gSub) (eVar 2) (eVar 1)) (eC (.int 1))) aNil)))) 3 [some (.ref 0), some (.d (.int 1)), some (.d (.int hi)), none, none] [.lst ds] = .nx [some (.ref 0), some (.d (.int 1)), some (.d (.int hi)), some (.d (.int m)), none] [.lst e1] := by
    simp [c1, hm]
  unfold sCons
  rw [s1, seq_nx_]
  simp [c4, -eLc]
end
end K42
set_option maxRecDepth 100000
set_option maxHeartbeats 4000000
namespace K42
open PySem L2 MI
section
variable {xs : List Int} {N M f l : Int} {S : Sto}
theorem near_ok {hi : Int} (h1 : 1 ≤ hi) (h2 : hi ≤ 20) {n : Nat} {ds : List PyData} (hp : Pot n ds) (hn : n ≤ 900000) :
    ∃ xs N es, VR xs N ∧ f__law_near_home [.ref 0, .d (.int 1), .d (.int hi)] [.lst ds] = .ok (ti xs) [.lst es] ∧ Pot (n + 50) es := by
  obtain ⟨t, e1, c1, t0, t1, p1⟩ := call_take (u := hi) (k := 0) (S := [.lst ds]) hp (by omega) (by omega) (by omega) rfl
  obtain ⟨m, hm⟩ : ∃ m : Int, m = 1 + t := ⟨_, rfl⟩
  have hk := k_home (S := [.lst e1]) (N := m) (by omega) (by omega)
  obtain ⟨q, e2, c2, q0, q1, p2⟩ := call_take (u := 4) (k := 0) (S := [.lst e1]) p1 (by omega) (by omega) (by omega) rfl
  have hr : (rngD 0 q).length = q.toNat := by rw [rngD_rg, List.length_map, len_rgI]; omega
  obtain ⟨r', S', e, xs, es, w, z1, z2, z3, z4⟩ := forL_inv (g := gNm 4) (b := sCons (sSet (eApp (callN 2 f__law_turned) (aCons (eVar 3) (aCons (eApp (callN 2 f__law_of) (aCons (eVar 0) (aCons (eApp (callN 1 f__law_turns) (aCons (eApp bLen (aCons (eVar 3) aNil)) aNil)) aNil))) aNil))) 3) sNil) (ds := rngD 0 q)
    (fun i r S => ∃ (xs : List Int) (es : List PyData) (w : Option IV), r = [some (.ref 0), some (.d (.int 1)), some (.d (.int hi)), some (ti xs), w] ∧ S = [.lst es] ∧ VR xs m ∧ Pot (n + 1 + 1 + i) es)
    (fun i r S d hd ⟨xs, es, w, z1, z2, z3, z4⟩ => by
      have hi : i < q.toNat := by have := (List.getElem?_eq_some_iff.mp hd).1; rw [hr] at this; exact this
      subst z1 z2
      have hl := len_ti z3.len [.lst es]
      obtain ⟨ts, t1, t2, t3, t4⟩ := call_turns (N := m) z3.lo z3.hi [.lst es]
      obtain ⟨d', fs, hd', c3, p3⟩ := call_of (k := 0) (S := [.lst es]) z4 (by omega) t3 (by omega) rfl
      obtain ⟨f, l, rfl, h, h1, h2⟩ := t2 d' hd'
      have g := k_lturned (S := [.lst fs]) z3 h h1 h2
      exact ⟨_, [.lst fs], by simp [hl, t1, c3, g, -bLen], trn xs f l, fs, some (.d d), rfl, rfl, z3.trn h h1 h2, by rw [← Nat.add_assoc]; exact p3⟩)
    (r := [some (.ref 0), some (.d (.int 1)), some (.d (.int hi)), some (ti (rgI 1 (m + 1))), none]) (S := [.lst e2]) ⟨rgI 1 (m + 1), e2, none, rfl, rfl, vr_home (by omega) (by omega), p2⟩
  rw [hr] at z4
  subst z1 z2
  refine ⟨xs, m, es, z3, ?_, z4.mono (by omega)⟩
  have it : iR1 (eApp (callN 2 f__law_take) (aCons (eVar 0) (aCons (eC (.int 4)) aNil))) [some (.ref 0), some (.d (.int 1)), some (.d (.int hi)), some (ti (rgI 1 (m + 1))), none] [.lst e1] = .ok (rngD 0 q) [.lst e2] := iR1_ok (j := q) (by simp [c2]) (by omega)
  rw [hm] at hk it e
  simp [f__law_near_home, c1, hk, it, e, -iR1]
/-! ### the pot, the places -/
theorem pot_ok (ns : List Int) {p : Int} (p0 : 0 ≤ p) (p1 : p ≤ 10) (hl : ns.length ≤ 63) : ∃ ds, f__law_pot [.scr ns, .d (.int p)] [] = .ok (.ref 0) [.lst ds] ∧ Pot 0 ds := by
  -- the cell
  obtain ⟨cell, hc⟩ : ∃ cell : Int, eIf (tE (eOp2 (cInt gLt) (eVar 1) (eApp bLen (aCons (eVar 0) aNil)))) (eOp2 oIx (eVar 0) (eVar 1)) (eOp2 oAdd (eOp2 oAdd (eOp2 (oInt MI.gMod) (eApp bSum (aCons (eSl (eVar 0) pNo (pSm (eC (.int 1)))) aNil)) (eC (.int 1000159))) (eOp2 (oInt MI.gMul) (eC (.int 6211)) (eVar 1))) (eC (.int 907))) [some (.scr ns), some (.d (.int p)), none, none, none] [] = .ok (.d (.int cell)) [] := by
    obtain ⟨L, hL⟩ : ∃ L : Int, L = (ns.length : Nat) := ⟨_, rfl⟩
    have hlen : bLen [.scr ns] [] = .ok (.d (.int L)) [] := by subst hL; simp
    by_cases h : p < L
    · have hp : p.toNat < ns.length := by omega
      have ha : atI ns p = some ns[p.toNat] := atI_ok p0 (List.getElem?_eq_getElem hp)
      have hx : oIx (.scr ns) (.d (.int p)) [] = .ok (.d (.int ns[p.toNat])) [] := by
        show (match atI ns p with
          | some k => Out.ok (IV.d (.int k)) []
          | none => Out.bad) = _
        rw [ha]
      exact ⟨ns[p.toNat], by simp [hlen, h, hx, -bLen, -oIx]⟩
    · have hsum : ∃ z : Int, bSum [.d (.list (cutD (ns.map PyData.int) none (some 1)))] [] = .ok (.d (.int z)) [] := by
        refine ⟨(ns.take 1).sum, ?_⟩
        have : cutD (ns.map PyData.int) none (some 1) = (ns.take 1).map .int := by
          unfold cutD
          rw [HT.sIx_none, show (some (1 : Int)) = some ((1 : Nat) : Int) from rfl, HT.sIx_nat, List.map_take, List.drop_zero, Nat.sub_zero]
          cases ns with
          | nil => rfl
          | cons a t => simp
        rw [this]
        simp only [bSum, lintsOf, lstOf, intsOf_map]
      obtain ⟨z, hz⟩ := hsum
      have m1 : MI.gMod z 1000159 = some (z % 1000159) := gMod_ok (by omega)
      have m2 : MI.gMul 6211 p = some (6211 * p) := gMul_ok (by decide) (by omega)
      exact ⟨z % 1000159 + 6211 * p + 907, by simp [hlen, h, hz, m1, m2, -bLen, -bSum, -MI.gMod, -MI.gMul]⟩
  obtain ⟨T, hT⟩ : ∃ T : Int, T = 10 ^ 60 := ⟨_, rfl⟩
  have hq : MI.gPw 10 60 = some T := by rw [hT]; rfl
  obtain ⟨U, hU⟩ : ∃ U : Int, U = 10 ^ 18 := ⟨_, rfl⟩
  have bI : ∀ (i : Int) (S : Sto), bInt [.d (.int i)] S = .ok (.d (.int i)) S := fun _ _ => rfl
  obtain ⟨P, hP⟩ : ∃ P : Int, P = (10 ^ 60) ^ 5 := ⟨_, rfl⟩
  have hP0 : 0 < P := by rw [hP]; decide
  have hP1 : P = 10 ^ 300 := by rw [hP]; decide
  have hq2 : MI.gPw T 5 = some P := by rw [hP, hT]; rfl
  have hq3 : MI.gPw 10 18 = some U := by rw [hU]; rfl
  have b1 : bAbs [.d (.int cell)] [] = .ok (.d (.int (iabs cell))) [] := rfl
  have m1 : MI.gMod (iabs cell) P = some (iabs cell % P) := gMod_ok hP0
  obtain ⟨y, hy⟩ : ∃ y, y = iabs cell % P := ⟨_, rfl⟩
  have y0 : 0 ≤ y := by rw [hy]; exact Int.emod_nonneg _ (by omega)
  have y1 : y < 10 ^ 300 := by rw [hy, ← hP1]; exact Int.emod_lt_of_pos _ hP0
  rw [← hy] at m1
  obtain ⟨k, hk⟩ : ∃ k : Int, k = if decide (U ≤ iabs cell) = true then 1 else 0 := ⟨_, rfl⟩
  have k01 : k = 0 ∨ k = 1 := by rw [hk]; split <;> simp
  have yb : y.natAbs < 2 ^ 2000 := by
    have : y.natAbs < 10 ^ 300 := by omega
    exact Nat.lt_of_lt_of_le this (by decide)
  have m2 : MI.gMul y k = some (y * k) := if_pos ⟨yb, by rcases k01 with e | e <;> rw [e] <;> decide⟩
  have bi : bInt [.d (.bool (decide (U ≤ iabs cell)))] [] = .ok (.d (.int k)) [] := by rw [hk]; rfl
  have m3 : MI.gMod cell 2305843009213693951 = some (cell % 2305843009213693951) := gMod_ok (by omega)
  obtain ⟨s, hs⟩ : ∃ s, s = cell % 2305843009213693951 := ⟨_, rfl⟩
  rw [← hs] at m3
  have s0 : 0 ≤ s ∧ s < 2305843009213693951 := by omega
  have m4 : MI.gMul s 71917 = some (s * 71917) := gMul_ok (by omega) (by decide)
  have m5 : MI.gMul 5309 p = some (5309 * p) := gMul_ok (by decide) (by omega)
  have m6 : MI.gMul (5309 * p) p = some (5309 * p * p) := gMul_ok (by omega) (by omega)
  obtain ⟨z, hz⟩ : ∃ z, z = s * 71917 + 5309 * p * p + 1451 := ⟨_, rfl⟩
  have m7 : MI.gMod z 2305843009213693921 = some (z % 2305843009213693921) := gMod_ok (by omega)
  refine ⟨[.int (y * k), .int (z % 2305843009213693921), .int 0], ?_, ⟨y * k, z % 2305843009213693921, 0, rfl, ?_, ?_, by omega, by omega, by omega, by omega⟩⟩
  · have u : ∀ fs : FS, fnB 5 fs [.scr ns, .d (.int p)] [] = (fs [some (.scr ns), some (.d (.int p)), none, none, none] []).fin := fun _ => rfl
    rw [f__law_pot, u]
    unfold sCons
    have s1 : ∀ f : FE, f [some (.scr ns), some (.d (.int p)), none, none, none] [] = .ok (.d (.int cell)) [] → sSet f 2 [some (.scr ns), some (.d (.int p)), none, none, none] [] = .nx [some (.scr ns), some (.d (.int p)), some (.d (.int cell)), none, none] [] := fun f h => by
      unfold sSet
      rw [h]
      rfl
    rw [s1 _ hc, seq_nx_]
    rw [hz] at m7 ⊢
    simp [hq, hq2, hq3, bI, b1, m1, m2, bi, m3, m4, m5, m6, m7, -bAbs, -bInt, -MI.gMod, -MI.gMul, -MI.gPw]
  · rcases k01 with e | e <;> rw [e] <;> simp <;> omega
  · rcases k01 with e | e <;> rw [e] <;> simp <;> omega
theorem cells_ok (ns : List Int) (hl : ns.length ≤ 63) : ∃ c : Int, 1 ≤ c ∧ c ≤ 3 ∧ f__law_cells [.scr ns, .d (.int 3)] [] = .ok (li (rgI 0 c)) [] := by
  obtain ⟨L, hL⟩ : ∃ L : Int, L = (ns.length : Nat) := ⟨_, rfl⟩
  have hlen : bLen [.scr ns] [] = .ok (.d (.int L)) [] := by subst hL; simp
  obtain ⟨a, ha⟩ : ∃ a : Int, a = if L < 3 then L else 3 := ⟨_, rfl⟩
  obtain ⟨c, hc⟩ : ∃ c : Int, c = if a > 1 then a else 1 := ⟨_, rfl⟩
  have h1 : bMin2 [.d (.int 3), .d (.int L)] [] = .ok (.d (.int a)) [] := by rw [ha]; rfl
  have h2 : bMax2 [.d (.int 1), .d (.int a)] [] = .ok (.d (.int c)) [] := by rw [hc]; rfl
  have c1 : 1 ≤ c := by rw [hc]; split <;> omega
  have c3 : c ≤ 3 := by rw [hc, ha]; split <;> (try split) <;> omega
  refine ⟨c, c1, c3, ?_⟩
  have hg : eRgL (rg1 (eApp bMax2 (aCons (eC (.int 1)) (aCons (eApp bMin2 (aCons (eVar 1) (aCons (eApp bLen (aCons (eVar 0) aNil)) aNil))) aNil)))) [some (.scr ns), some (.d (.int 3))] [] = .ok (li (rgI 0 c)) [] :=
    rgL_ok (by simp [hlen, h1, h2, -bLen, -bMin2, -bMax2]) (rgOk_s (by omega) (by omega) (by omega) (by omega))
  simp [f__law_cells, hg, -eRgL]
end
end K42
set_option maxRecDepth 100000
set_option maxHeartbeats 4000000
namespace K42
open PySem L2 MI
section
variable {xs : List Int} {N M f l : Int} {S : Sto}
theorem put_at {S : Sto} {k : Nat} {o o' : IO} (h : S[k]? = some o) : (S.set k o')[k]? = some o' := List.getElem?_set_self (List.getElem?_eq_some_iff.mp h).1
abbrev rowE : FE := eApp (callN 2 f__law_of) (aCons (eVar 2) (aCons (eLst (aCons (eApp (callN 3 f__law_row) (aCons (eVar 2) (aCons (eC (.int 1)) (aCons (eC (.int 8)) aNil)))) (aCons (eApp (callN 3 f__law_row) (aCons (eVar 2) (aCons (eC (.int 1)) (aCons (eC (.int 20)) aNil)))) (aCons (eApp (callN 3 f__law_near_home) (aCons (eVar 2) (aCons (eC (.int 1)) (aCons (eC (.int 20)) aNil)))) aNil)))) aNil))
abbrev lapB : FS := sCons (sSet rowE 4) (sCons (sIf (tNt (tE (eApp (callN 2 f__law_is_right) (aCons (eVar 2) (aCons (eVar 4) aNil))))) (sCons (sRet (eC (.bool false))) sNil) sNil) sNil)
theorem row_drawn {n k : Nat} {ds : List PyData} {r : Rho} (hr : r[2]? = some (some (.ref k))) (hS : S[k]? = some (.lst ds)) (hp : Pot n ds) (hn : n ≤ 700000) :
    ∃ xs N S' es, rowE r S = .ok (ti xs) S' ∧ VR xs N ∧ S'[k]? = some (.lst es) ∧ S'.length = S.length ∧ Pot (n + 160) es := by
  obtain ⟨x1, N1, e1, v1, c1, p1⟩ := law_row_ok (hi := 8) (by omega) (by omega) hp (by omega)
  have k1 := call_pot (n := k) (S := S) (is := [.d (.int 1), .d (.int 8)]) rfl hS c1 rfl
  obtain ⟨S1, hS1⟩ : ∃ S1, S1 = S.set k (.lst e1) := ⟨_, rfl⟩
  have g1 : S1[k]? = some (.lst e1) := by rw [hS1]; exact put_at hS
  have l1 : S1.length = S.length := by rw [hS1, List.length_set]
  rw [← hS1] at k1
  obtain ⟨x2, N2, e2, v2, c2, p2⟩ := law_row_ok (hi := 20) (by omega) (by omega) p1 (by omega)
  have k2 := call_pot (n := k) (S := S1) (is := [.d (.int 1), .d (.int 20)]) rfl g1 c2 rfl
  obtain ⟨S2, hS2⟩ : ∃ S2, S2 = S1.set k (.lst e2) := ⟨_, rfl⟩
  have g2 : S2[k]? = some (.lst e2) := by rw [hS2]; exact put_at g1
  have l2 : S2.length = S1.length := by rw [hS2, List.length_set]
  rw [← hS2] at k2
  obtain ⟨x3, N3, e3, v3, c3, p3⟩ := near_ok (hi := 20) (by omega) (by omega) p2 (by omega)
  have k3 := call_pot (n := k) (S := S2) (is := [.d (.int 1), .d (.int 20)]) rfl g2 c3 rfl
  obtain ⟨S3, hS3⟩ : ∃ S3, S3 = S2.set k (.lst e3) := ⟨_, rfl⟩
  have g3 : S3[k]? = some (.lst e3) := by rw [hS3]; exact put_at g2
  have l3 : S3.length = S2.length := by rw [hS3, List.length_set]
  rw [← hS3] at k3
  obtain ⟨d, es, hd, c4, p4⟩ := call_of (xs := [.tuple (x1.map .int), .tuple (x2.map .int), .tuple (x3.map .int)]) (k := k) (S := S3) p3 (by omega) (by simp) (by simp) g3
  obtain ⟨xs, N, v, rfl⟩ : ∃ xs N, VR xs N ∧ d = .tuple (xs.map .int) := by
    rcases List.mem_cons.mp hd with e | hd
    · exact ⟨x1, N1, v1, e⟩
    · rcases List.mem_cons.mp hd with e | hd
      · exact ⟨x2, N2, v2, e⟩
      · exact ⟨x3, N3, v3, List.mem_singleton.mp hd⟩
  have m3 : ∀ (a b c : PyData) (S : Sto), mkLst [.d a, .d b, .d c] S = .ok (.d (.list [a, b, c])) S := fun _ _ _ _ => rfl
  refine ⟨xs, N, S3.set k (.lst es), es, ?_, v, put_at g3, by rw [List.length_set]; omega, p4.mono (by omega)⟩
  simp [hr, k1, k2, k3, m3, c4, -mkLst]
theorem lap_ok {n k : Nat} {ds : List PyData} {a b c w : Option IV} (hS : S[k]? = some (.lst ds)) (hp : Pot n ds) (hn : n ≤ 700000) :
    ∃ S' es w', lapB [a, b, some (.ref k), c, w] S = .nx [a, b, some (.ref k), c, w'] S' ∧ S'[k]? = some (.lst es) ∧ S'.length = S.length ∧ Pot (n + 200) es := by
  obtain ⟨xs, N, S1, e1, c1, v, g1, l1, p1⟩ := row_drawn (r := [a, b, some (.ref k), c, w]) rfl hS hp hn
  obtain ⟨e2, c2, p2⟩ := is_right_ok v p1 (by omega)
  have k2 := call_pot (n := k) (S := S1) (is := [ti xs]) rfl g1 c2 rfl
  refine ⟨S1.set k (.lst e2), e2, some (ti xs), ?_, put_at g1, by rw [List.length_set]; exact l1, p2.mono (by omega)⟩
  have s1 : sSet rowE 4 [a, b, some (.ref k), c, w] S = .nx [a, b, some (.ref k), c, some (ti xs)] S1 := by
    unfold sSet
    rw [c1]
    rfl
  unfold lapB sCons
  rw [s1, seq_nx_]
  simp [k2]
theorem place_ok {ns : List Int} (hl : ns.length ≤ 63) {p : Int} (p0 : 0 ≤ p) (p1 : p ≤ 10) {w2 w3 w4 : Option IV} :
    ∃ S' r', (sCons (sSet (eApp (callNM 2 f__law_pot) (aCons (eVar 0) (aCons (eVar 1) aNil))) 2) (sCons (sFor (iR1 (eC (.int 6))) (gNm 3) lapB) sNil)) [some (.scr ns), some (.d (.int p)), w2, w3, w4] S = .nx r' S' ∧
      ∃ w2 w3 w4, r' = [some (.scr ns), some (.d (.int p)), w2, w3, w4] := by
  obtain ⟨ds, c0, hp⟩ := pot_ok ns p0 p1 hl
  have k0 := call_newM (S := S) (is := [.scr ns, .d (.int p)]) rfl c0 rfl
  have hS : (S ++ [IO.lst ds])[S.length]? = some (.lst ds) := by simp
  obtain ⟨r', S', e, S1, es, w3', w4', z1, z2, z3, z4⟩ := forL_inv (g := gNm 3) (b := lapB) (ds := rngD 0 6)
    (fun i r S1 => ∃ (S2 : Sto) (es : List PyData) (w3 w4 : Option IV), r = [some (.scr ns), some (.d (.int p)), some (.ref S.length), w3, w4] ∧ S1 = S2 ∧ S2[S.length]? = some (.lst es) ∧ Pot (i * 200) es)
    (fun i r S1 d hd ⟨S2, es, w3, w4, z1, z2, z3, z4⟩ => by
      have hi : i < 6 := by have := (List.getElem?_eq_some_iff.mp hd).1; exact this
      subst z1 z2
      obtain ⟨S3, fs, w', c, g, _, p⟩ := lap_ok (a := some (.scr ns)) (b := some (.d (.int p))) (c := some (.d d)) (w := w4) z3 z4 (by omega)
      exact ⟨_, _, c, S3, fs, _, _, rfl, rfl, g, p.mono (by omega)⟩)
    (r := [some (.scr ns), some (.d (.int p)), some (.ref S.length), w3, w4]) (S := S ++ [.lst ds]) ⟨S ++ [.lst ds], ds, w3, w4, rfl, rfl, hS, hp⟩
  subst z1
  have it : iR1 (eC (.int 6)) [some (.scr ns), some (.d (.int p)), some (.ref S.length), w3, w4] (S ++ [.lst ds]) = .ok (rngD 0 6) (S ++ [.lst ds]) := iR1_ok rfl (by decide)
  refine ⟨S', [some (.scr ns), some (.d (.int p)), some (.ref S.length), w3', w4'], ?_, some (.ref S.length), w3', w4', rfl⟩
  have s1 : sSet (eApp (callNM 2 f__law_pot) (aCons (eVar 0) (aCons (eVar 1) aNil))) 2 [some (.scr ns), some (.d (.int p)), w2, w3, w4] S = .nx [some (.scr ns), some (.d (.int p)), some (.ref S.length), w3, w4] (S ++ [.lst ds]) := by
    have k0' : callNM 2 f__law_pot [.scr ns, .d (.int p)] S = .ok (.ref S.length) (S ++ [.lst ds]) := by
      unfold callNM
      rw [if_pos (show [IV.scr ns, IV.d (.int p)].length = 2 from rfl)]
      exact k0
    simp [k0', -callNM]
  have hfor : sFor (iR1 (eC (.int 6))) (gNm 3) lapB [some (.scr ns), some (.d (.int p)), some (.ref S.length), w3, w4] (S ++ [.lst ds]) = .nx [some (.scr ns), some (.d (.int p)), some (.ref S.length), w3', w4'] S' := by
    unfold sFor
    rw [it]
    exact e
  have o : ∀ (a b : FS) (r : Rho) (S : Sto), sCons a b r S = (a r S).seq b := fun _ _ _ _ => rfl
  rw [o, s1, seq_nx_, o, hfor, seq_nx_]
  rfl
theorem plain (ns : List Int) (hl : ns.length ≤ 63) : ∃ S, f_law [.scr ns] [] = .ok (.d (.bool true)) S := by
  obtain ⟨c, c0, c1, hc⟩ := cells_ok ns hl
  have kc := call_pure (S := []) (is := [.scr ns, .d (.int 3)]) rfl hc rfl
  have it : iSeq (eApp (callN 2 f__law_cells) (aCons (eVar 0) (aCons (eC (.int 3)) aNil))) [some (.scr ns), none, none, none, none] [] = .ok ((rgI 0 c).map .int) [] :=
    iSeq_ok (v := li (rgI 0 c)) (by simp [kc]) rfl (by rw [size_line, List.length_map, len_rgI]; omega)
  obtain ⟨r', S', e, w1, w2, w3, w4, z1⟩ := forL_inv (g := gNm 1) (b := sCons (sSet (eApp (callNM 2 f__law_pot) (aCons (eVar 0) (aCons (eVar 1) aNil))) 2) (sCons (sFor (iR1 (eC (.int 6))) (gNm 3) lapB) sNil)) (ds := (rgI 0 c).map .int)
    (fun i r S1 => ∃ (w1 w2 w3 w4 : Option IV), r = [some (.scr ns), w1, w2, w3, w4])
    (fun i r S1 d hd ⟨w1, w2, w3, w4, z1⟩ => by
      rw [List.getElem?_map] at hd
      cases hx : (rgI 0 c)[i]? with
      | none => rw [hx] at hd; cases hd
      | some p =>
        rw [hx] at hd
        cases hd
        have hp := mem_rgI.mp (List.mem_of_getElem? hx)
        subst z1
        obtain ⟨S3, r3, c3, w2', w3', w4', e3⟩ := place_ok (S := S1) hl (p := p) (by omega) (by omega) (w2 := w2) (w3 := w3) (w4 := w4)
        exact ⟨r3, S3, c3, _, _, _, _, e3⟩)
    (r := [some (.scr ns), none, none, none, none]) (S := []) ⟨none, none, none, none, rfl⟩
  subst z1
  have v1 : VR [1] 1 := ⟨rfl, by omega, by omega, rfl⟩
  have v3 : VR [1, 2, 3] 3 := ⟨rfl, by omega, by omega, rfl⟩
  have b1 := k_breaks (S := S') v1
  have b3 := k_bundled (S := S') v3
  rw [show bps [1] 1 = [] by decide] at b1
  rw [show bun [1, 2, 3] 3 = [1] by decide] at b3
  refine ⟨S', ?_⟩
  have o : ∀ (a b : FS) (r : Rho) (S : Sto), sCons a b r S = (a r S).seq b := fun _ _ _ _ => rfl
  have u : ∀ fs : FS, fnB 5 fs [.scr ns] [] = (fs [some (.scr ns), none, none, none, none] []).fin := fun _ => rfl
  have hfor : ∀ b, sFor (iSeq (eApp (callN 2 f__law_cells) (aCons (eVar 0) (aCons (eC (.int 3)) aNil)))) (gNm 1) b [some (.scr ns), none, none, none, none] [] = forL (gNm 1) b ((rgI 0 c).map .int) [some (.scr ns), none, none, none, none] [] := fun b => by
    unfold sFor
    rw [it]
    rfl
  have t0 : mkTup [] S' = .ok (.d (.tuple [])) S' := rfl
  have t1 : mkTup [.d (.int 1)] S' = .ok (ti [1]) S' := rfl
  have t3 : mkTup [.d (.int 1), .d (.int 2), .d (.int 3)] S' = .ok (ti [1, 2, 3]) S' := rfl
  have q1 : cEq (ti []) (.d (.tuple [])) S' = .ok (.d (.bool true)) S' := rfl
  have q2 : cEq (ti [1]) (ti [1]) S' = .ok (.d (.bool true)) S' := rfl
  have fin : sRet (eAn (eOp2 cEq (eApp (callN 1 f_breaks) (aCons (eTup (aCons (eC (.int 1)) aNil)) aNil)) (eTup aNil)) (eOp2 cEq (eApp (callN 1 f_bundled) (aCons (eTup (aCons (eC (.int 1)) (aCons (eC (.int 2)) (aCons (eC (.int 3)) aNil)))) aNil)) (eTup (aCons (eC (.int 1)) aNil)))) [some (.scr ns), w1, w2, w3, w4] S' = .ret (.d (.bool true)) S' := by
    simp [t0, t1, t3, b1, b3, q1, q2, -mkTup, -cEq, -List.map_cons, -List.map_nil]
  rw [f_law, u, o, hfor, e, seq_nx_, o, fin]
  rfl
end
end K42
set_option maxRecDepth 100000
set_option maxHeartbeats 0
open PySem PySem.W PySem.Calls PyProof.Rows
theorem PySem.Challenge.cw_endforend_k42_whole_points_and_strips_holds : PySem.Challenge.rw_endforend_k42_whole_points_and_strips.Holds := by
  w_on; o_law
  refine HandSHeadRun.head_any (r := OpenLaw.row PySem.Challenge.rw_endforend_k42_whole_points_and_strips) (q := view (OpenLaw.row PySem.Challenge.rw_endforend_k42_whole_points_and_strips).prog [45]) (H := K42.hk) (ob := K42.ob) (M := 4000) (loose := K42.loose) (d := HandSHeadRun.topDef (OpenLaw.row PySem.Challenge.rw_endforend_k42_whole_points_and_strips).prog 45) (kwd := []) K42.ob_eq
    (by kernel_rfl) (fun s => by kernel_rfl) K42.run (by kernel_rfl) (by kernel_rfl) (by kernel_rfl) (by rfl) (by first | assumption | decide +kernel) (by decide +kernel) ⟨rfl, rfl, rfl, rfl, rfl, by decide +kernel⟩ ?hw ?hc
  case hw => w_witness2
  case hc =>
    refine MI.walk_G (l := PySem.Challenge.rw_endforend_k42_whole_points_and_strips) (n := 63) (k := 8) (x := "script") (g := K42.f_law) rfl (by decide) (by kernel_rfl) ⟨rfl, by decide, by decide⟩ ?F K42.plain
    intro w mg fa h Y G hmg0
    obtain ⟨K, KX, c⟩ := Y
    have hmg : mg ("law" : PySem.Str) = some (.ref fa) := by
      have e : (HandSHeadRun.topDef (OpenLaw.row PySem.Challenge.rw_endforend_k42_whole_points_and_strips).prog 45).name = ("law" : PySem.Str) := by kernel_rfl
      rw [← e]
      exact hmg0
    obtain ⟨fd, hb, hF⟩ := K42.facts (P := (PySem.Challenge.rw_endforend_k42_whole_points_and_strips).prog) (w := w) KX G hmg c
    exact ⟨K, fd, KX, hb, hF⟩
