import PyProof.Rows.All
import Wide.All
import OpenK.AllK
import Wide.FinOn
import HandS.ForMost
import HandS.Deep
import HandS.TupAny
import HandS.Zip
import HandS.Wide
import HandS.Conv
import HandS.DictComp
import HandS.Property
import HandS.Small
import HandS.TryMany
import HandS.ExcOwn
import HandS.ExcInit
import HandS.EndBits
import KE.SortData
import KE.KExcSuper
import KE.GoesMore
import KE.GoesEnum
import KE.KSuper
import HandS.ExcField
import HandS.IsInst
import KE.KIsAll
import HandS.ExcIs
import KE.KExcIs
import HandS.WordsExc
import HandS.Defaults
import PySem.Challenge.RW_mostsalike_k72_case_covers
set_option Elab.async false
set_option linter.all false
set_option maxRecDepth 100000
set_option maxHeartbeats 4000000
/-! A layer over the hand layer in which a def is read over plain data (D) and no heap is in sight. -/
namespace U
open PySem L2

/-- plain data: what a value stands for, once what it reaches is never written again -/
inductive D where
  | non | bl (b : Bool) | int (i : Int) | str (x : Str)
  | tup (xs : List D) | lst (xs : List D)
  | dk (kvs : List (Key × D))
  | obj (C : Addr) (fs : List (Str × D))
  /-- the law's own source of draws -/
  | src
  | ref (v : V)
  /-- a caught own exception: where it stands, its class, its dict, its fields -/
  | exc (a C dd : Addr) (fs : List (Str × D))

/-- the written part and where the source stands (its dict, its cells) -/
structure Wd where
  K : PySem.W.Frag
  src : Option (Addr × Addr)

mutual
def Rep (w : Wd) (F : Hp) : D → V → Prop
  | .non, v => v = .non
  | .bl b, v => v = .bl b
  | .int i, v => v = .int i
  | .str x, v => v = .str x
  | .tup ds, v => ∃ a vs, v = .ref a ∧ SqT w.K F a vs ∧ Reps w F ds vs
  | .lst ds, v => ∃ a vs, v = .ref a ∧ F a = some (.lst vs) ∧ Reps w F ds vs
  | .dk ds, v => ∃ a kvs, v = .ref a ∧ F a = some (.dK kvs) ∧ RepK w F ds kvs
  | .obj C ds, v => ∃ a dx fs, v = .ref a ∧ F a = some (.ins C dx fs) ∧ RepF w F ds fs
  | .src, v => ∃ p c, w.src = some (p, c) ∧ v = .ref p
  | .ref u, v => v = u
  | .exc a _ dd fs, v => v = .ref a ∧ ∃ kvs, F dd = some (.xd kvs) ∧ RepF w F fs kvs
def Reps (w : Wd) (F : Hp) : List D → List V → Prop
  | [], vs => vs = []
  | d :: ds, vs => ∃ v r, vs = v :: r ∧ Rep w F d v ∧ Reps w F ds r
def RepK (w : Wd) (F : Hp) : List (Key × D) → List (Key × V) → Prop
  | [], vs => vs = []
  | (k, d) :: ds, vs => ∃ v r, vs = (k, v) :: r ∧ Rep w F d v ∧ RepK w F ds r
def RepF (w : Wd) (F : Hp) : List (Str × D) → List (Str × V) → Prop
  | [], vs => vs = []
  | (k, d) :: ds, vs => ∃ v r, vs = (k, v) :: r ∧ Rep w F d v ∧ RepF w F ds r
end

abbrev Sub (F F' : Hp) : Prop := ∀ a o, F a = some o → F' a = some o
theorem Sub.refl (F : Hp) : Sub F F := fun _ _ h => h
theorem Sub.trans {F G H : Hp} (a : Sub F G) (b : Sub G H) : Sub F H := fun x o h => b x o (a x o h)

theorem sqT_mono {K : PySem.W.Frag} {F F' : Hp} {a : Addr} {vs : List V} (s : Sub F F') (h : SqT K F a vs) : SqT K F' a vs := by
  rcases h with (h | ⟨o, h⟩) | h
  · exact .inl (.inl (s _ _ h))
  · exact .inl (.inr ⟨o, s _ _ h⟩)
  · exact .inr h

section
variable {w : Wd} {F F' : Hp}
mutual
theorem Rep.mono (s : Sub F F') : ∀ (d : D) (v : V), Rep w F d v → Rep w F' d v
  | .non, _, h => by simpa only [Rep] using h
  | .bl b, _, h => by simpa only [Rep] using h
  | .int i, _, h => by simpa only [Rep] using h
  | .str x, _, h => by simpa only [Rep] using h
  | .tup ds, v, h => by
    simp only [Rep] at h ⊢
    obtain ⟨a, vs, e, h1, h2⟩ := h
    exact ⟨a, vs, e, sqT_mono s h1, Reps.mono s ds vs h2⟩
  | .lst ds, v, h => by
    simp only [Rep] at h ⊢
    obtain ⟨a, vs, e, h1, h2⟩ := h
    exact ⟨a, vs, e, s _ _ h1, Reps.mono s ds vs h2⟩
  | .dk ds, v, h => by
    simp only [Rep] at h ⊢
    obtain ⟨a, vs, e, h1, h2⟩ := h
    exact ⟨a, vs, e, s _ _ h1, RepK.mono s ds vs h2⟩
  | .obj C ds, v, h => by
    simp only [Rep] at h ⊢
    obtain ⟨a, dx, vs, e, h1, h2⟩ := h
    exact ⟨a, dx, vs, e, s _ _ h1, RepF.mono s ds vs h2⟩
  | .src, _, h => by simpa only [Rep] using h
  | .ref u, _, h => by simpa only [Rep] using h
  | .exc a C dd ds, v, h => by
    simp only [Rep] at h ⊢
    obtain ⟨e, vs, h1, h2⟩ := h
    exact ⟨e, vs, s _ _ h1, RepF.mono s ds vs h2⟩
theorem Reps.mono (s : Sub F F') : ∀ (ds : List D) (vs : List V), Reps w F ds vs → Reps w F' ds vs
  | [], _, h => by simpa only [Reps] using h
  | d :: ds, vs, h => by
    simp only [Reps] at h ⊢
    obtain ⟨v, r, e, h1, h2⟩ := h
    exact ⟨v, r, e, Rep.mono s d v h1, Reps.mono s ds r h2⟩
theorem RepK.mono (s : Sub F F') : ∀ (ds : List (Key × D)) (vs : List (Key × V)), RepK w F ds vs → RepK w F' ds vs
  | [], _, h => by simpa only [RepK] using h
  | (k, d) :: ds, vs, h => by
    simp only [RepK] at h ⊢
    obtain ⟨v, r, e, h1, h2⟩ := h
    exact ⟨v, r, e, Rep.mono s d v h1, RepK.mono s ds r h2⟩
theorem RepF.mono (s : Sub F F') : ∀ (ds : List (Str × D)) (vs : List (Str × V)), RepF w F ds vs → RepF w F' ds vs
  | [], _, h => by simpa only [RepF] using h
  | (k, d) :: ds, vs, h => by
    simp only [RepF] at h ⊢
    obtain ⟨v, r, e, h1, h2⟩ := h
    exact ⟨v, r, e, Rep.mono s d v h1, RepF.mono s ds r h2⟩
end

theorem Reps.nil : Reps w F [] [] := by simp only [Reps]
theorem Reps.cons {d : D} {v : V} {ds : List D} {vs : List V} (h : Rep w F d v) (t : Reps w F ds vs) : Reps w F (d :: ds) (v :: vs) := by
  simp only [Reps]
  exact ⟨v, vs, rfl, h, t⟩
theorem Reps.nil' {vs : List V} (h : Reps w F [] vs) : vs = [] := by simpa only [Reps] using h
theorem Reps.inv {d : D} {ds : List D} {vs : List V} (h : Reps w F (d :: ds) vs) : ∃ v r, vs = v :: r ∧ Rep w F d v ∧ Reps w F ds r := by simpa only [Reps] using h
theorem Reps.length : ∀ {ds : List D} {vs : List V}, Reps w F ds vs → vs.length = ds.length
  | [], vs, h => by rw [h.nil']; rfl
  | d :: ds, vs, h => by
    obtain ⟨v, r, rfl, _, t⟩ := h.inv
    simp [Reps.length t]
theorem Reps.get : ∀ {ds : List D} {vs : List V}, Reps w F ds vs → ∀ {i : Nat} {d : D}, ds[i]? = some d → ∃ v, vs[i]? = some v ∧ Rep w F d v
  | [], _, _, i, d, e => by simp at e
  | d0 :: ds, vs, h, 0, d, e => by
    obtain ⟨v, r, rfl, h1, t⟩ := h.inv
    simp at e
    subst e
    exact ⟨v, rfl, h1⟩
  | d0 :: ds, vs, h, i + 1, d, e => by
    obtain ⟨v, r, rfl, h1, t⟩ := h.inv
    obtain ⟨u, e1, e2⟩ := t.get (i := i) (d := d) (by simpa using e)
    exact ⟨u, by simpa using e1, e2⟩
theorem Reps.get' : ∀ {ds : List D} {vs : List V}, Reps w F ds vs → ∀ {i : Nat} {v : V}, vs[i]? = some v → ∃ d, ds[i]? = some d ∧ Rep w F d v := fun {ds vs} h {i v} e => by
  have hl := h.length
  obtain ⟨h1, _⟩ := List.getElem?_eq_some_iff.mp e
  have h2 : ds[i]? = some (ds[i]'(by omega)) := List.getElem?_eq_getElem _
  obtain ⟨u, e1, e2⟩ := h.get h2
  rw [e] at e1
  cases e1
  exact ⟨_, h2, e2⟩
theorem Reps.append : ∀ {ds es : List D} {vs us : List V}, Reps w F ds vs → Reps w F es us → Reps w F (ds ++ es) (vs ++ us)
  | [], es, vs, us, h, t => by rw [h.nil']; exact t
  | d :: ds, es, vs, us, h, t => by
    obtain ⟨v, r, rfl, h1, h2⟩ := h.inv
    exact Reps.cons h1 (Reps.append h2 t)
theorem Reps.one {d : D} {v : V} (h : Rep w F d v) : Reps w F [d] [v] := Reps.cons h Reps.nil
theorem Reps.take : ∀ {ds : List D} {vs : List V} (n : Nat), Reps w F ds vs → Reps w F (ds.take n) (vs.take n)
  | _, _, 0, _ => by simp only [List.take_zero]; exact Reps.nil
  | [], vs, n + 1, h => by rw [h.nil']; exact Reps.nil
  | d :: ds, vs, n + 1, h => by
    obtain ⟨v, r, rfl, h1, h2⟩ := h.inv
    exact Reps.cons h1 (Reps.take n h2)
theorem Reps.drop : ∀ {ds : List D} {vs : List V} (n : Nat), Reps w F ds vs → Reps w F (ds.drop n) (vs.drop n)
  | _, _, 0, h => h
  | [], vs, n + 1, h => by rw [h.nil']; exact Reps.nil
  | d :: ds, vs, n + 1, h => by
    obtain ⟨v, r, rfl, h1, h2⟩ := h.inv
    exact Reps.drop n h2
theorem Reps.set : ∀ {ds : List D} {vs : List V} (n : Nat) {d : D} {v : V}, Rep w F d v → Reps w F ds vs → Reps w F (ds.set n d) (vs.set n v)
  | [], vs, n, d, v, _, h => by rw [h.nil']; exact Reps.nil
  | d0 :: ds, vs, 0, d, v, q, h => by
    obtain ⟨v, r, rfl, h1, h2⟩ := h.inv
    exact Reps.cons q h2
  | d0 :: ds, vs, n + 1, d, v, q, h => by
    obtain ⟨v, r, rfl, h1, h2⟩ := h.inv
    exact Reps.cons h1 (Reps.set n q h2)
theorem Reps.of_get : ∀ {ds : List D} {vs : List V}, vs.length = ds.length → (∀ (i : Nat) (d : D) (v : V), ds[i]? = some d → vs[i]? = some v → Rep w F d v) → Reps w F ds vs
  | [], vs, hl, _ => by
    have : vs = [] := List.length_eq_zero_iff.mp hl
    rw [this]; exact Reps.nil
  | d :: ds, [], hl, _ => by simp at hl
  | d :: ds, v :: vs, hl, h => Reps.cons (h 0 d v rfl rfl) (Reps.of_get (by simpa using hl) fun i e u h1 h2 => h (i + 1) e u (by simpa using h1) (by simpa using h2))
theorem Reps.perm_of : ∀ {ds : List D} {vs : List V}, Reps w F ds vs → ∀ {us : List V}, us.Perm vs → ∃ es, es.Perm ds ∧ Reps w F es us := fun {ds vs} h {us} p => by
  induction p generalizing ds with
  | nil => exact ⟨ds, List.Perm.refl _, h⟩
  | cons x p ih =>
    cases ds with
    | nil => exact absurd h.nil' (by simp)
    | cons d ds =>
      obtain ⟨v, r, e, h1, h2⟩ := h.inv
      cases e
      obtain ⟨es, q1, q2⟩ := ih h2
      exact ⟨d :: es, q1.cons d, Reps.cons h1 q2⟩
  | swap x y l =>
    cases ds with
    | nil => exact absurd h.nil' (by simp)
    | cons d ds =>
      obtain ⟨v, r, e, h1, h2⟩ := h.inv
      cases e
      cases ds with
      | nil => exact absurd h2.nil' (by simp)
      | cons d' ds =>
        obtain ⟨v, r, e, h3, h4⟩ := h2.inv
        cases e
        exact ⟨d' :: d :: ds, List.Perm.swap _ _ _, Reps.cons h3 (Reps.cons h1 h4)⟩
  | trans p1 p2 ih1 ih2 =>
    obtain ⟨es, q1, q2⟩ := ih2 h
    obtain ⟨es', q3, q4⟩ := ih1 q2
    exact ⟨es', q3.trans q1, q4⟩
theorem RepF.lookup : ∀ {ds : List (Str × D)} {fs : List (Str × V)}, RepF w F ds fs → ∀ {x : Str} {d : D}, ds.lookup x = some d → ∃ v, fs.lookup x = some v ∧ Rep w F d v
  | [], _, _, x, d, e => by simp at e
  | (k, d0) :: ds, fs, h, x, d, e => by
    simp only [RepF] at h
    obtain ⟨v, r, rfl, h1, h2⟩ := h
    by_cases hk : x = k
    · subst hk
      simp [List.lookup] at e ⊢
      subst e
      exact h1
    · have hb : (x == k) = false := by simpa using hk
      simp only [List.lookup, hb] at e ⊢
      exact h2.lookup e
theorem RepF.lookup_none : ∀ {ds : List (Str × D)} {fs : List (Str × V)}, RepF w F ds fs → ∀ {x : Str}, ds.lookup x = none → fs.lookup x = none
  | [], _, h, x, e => by
    simp only [RepF] at h
    rw [h]; rfl
  | (k, d0) :: ds, fs, h, x, e => by
    simp only [RepF] at h
    obtain ⟨v, r, rfl, h1, h2⟩ := h
    by_cases hk : x = k
    · subst hk
      simp [List.lookup] at e
    · have hb : (x == k) = false := by simpa using hk
      simp only [List.lookup, hb] at e ⊢
      exact h2.lookup_none e
end

/-! ### the source of draws -/
/-- below two to the 1,100,000th: what a cell of the script may be -/
def Cell (i : Int) : Prop := i.natAbs < 2 ^ 1050000
def srcD (c : Addr) (at_ left mixed seed : Int) : List (Key × V) :=
  [(Sum.inr "cells", .ref c), (Sum.inr "at", .int at_), (Sum.inr "left", .int left), (Sum.inr "mixed", .int mixed), (Sum.inr "seed", .int seed)]
structure SrcAt (H : Hp) (p c : Addr) : Prop where
  ne : p ≠ c
  at_ : ∃ (cells : List Int) (at_ left mixed seed : Int), H c = some (.lst (cells.map V.int)) ∧ H p = some (.dK (srcD c at_ left mixed seed)) ∧ cells.length ≤ 63 ∧ 0 ≤ at_ ∧ at_ ≤ cells.length ∧
    0 ≤ left ∧ Cell left ∧ (∀ x ∈ cells, Cell x) ∧ 0 ≤ mixed ∧ mixed ≤ 24 ∧ 0 ≤ seed ∧ seed < 10 ^ 18

/-- the entry of a def: the world, what was frozen, the heap -/
structure En where
  w : Wd
  F0 : Hp
  H0 : Hp
  /-- the instance that is being made -/
  me : Addr := 0
def En.ads (n : En) (a : Addr) : Prop := ∃ p c, n.w.src = some (p, c) ∧ (a = p ∨ a = c)
def En.inv (n : En) (H : Hp) : Prop := ∀ p c, n.w.src = some (p, c) → SrcAt H p c

structure Ok (n : En) (F H : Hp) : Prop where
  sub : Sub F H
  adF : ∀ a, n.ads a → F a = none
  inv : n.inv H
  ext : Sub n.F0 F
  new : ∀ a o, F a = some o → n.F0 a = some o ∨ n.H0 a = none
  keep : ∀ a o, n.H0 a = some o → ¬ n.ads a → H a = some o
theorem Ok.there {n : En} {F H : Hp} (k : Ok n F H) {a : Addr} (h : n.ads a) : H a ≠ none := by
  obtain ⟨p, c, e, h⟩ := h
  obtain ⟨_, cells, at_, left, mixed, seed, h1, h2, _⟩ := k.inv p c e
  rcases h with rfl | rfl
  · rw [h2]; simp
  · rw [h1]; simp
theorem Ok.fresh {n : En} {F H : Hp} (k : Ok n F H) {a : Addr} (h : H a = none) : n.H0 a = none ∧ ¬ n.ads a ∧ F a = none := by
  have h1 : ¬ n.ads a := fun z => k.there z h
  refine ⟨?_, h1, ?_⟩
  · cases e : n.H0 a with
    | none => rfl
    | some o => rw [k.keep a o e h1] at h; cases h
  · cases e : F a with
    | none => rfl
    | some o => rw [k.sub a o e] at h; cases h

/-- a move: nothing that stood is written but the source -/
structure Mv (n : En) (F H F' H' : Hp) : Prop where
  ok : Ok n F' H'
  ext : Sub F F'
  new : ∀ a o, F' a = some o → F a = some o ∨ H a = none
  keep : ∀ a o, H a = some o → ¬ n.ads a → H' a = some o
theorem Mv.refl {n : En} {F H : Hp} (k : Ok n F H) : Mv n F H F H := ⟨k, Sub.refl _, fun _ _ h => .inl h, fun _ _ h _ => h⟩
theorem Mv.trans {n : En} {F H F1 H1 F2 H2 : Hp} (k : Ok n F H) (a : Mv n F H F1 H1) (b : Mv n F1 H1 F2 H2) : Mv n F H F2 H2 where
  ok := b.ok
  ext := a.ext.trans b.ext
  new := fun x o h => by
    rcases b.new x o h with h1 | h1
    · exact a.new x o h1
    · right
      cases e : H x with
      | none => rfl
      | some u =>
        by_cases hx : n.ads x
        · exact absurd h1 (a.ok.there hx)
        · rw [a.keep x u e hx] at h1; cases h1
  keep := fun x o h hx => b.keep x o (a.keep x o h hx) hx
/-- a new object, not frozen -/
theorem Mv.alloc {n : En} {F H : Hp} (k : Ok n F H) {a : Addr} (h : H a = none) (o : HO) : Mv n F H F (upd H a o) := by
  obtain ⟨h1, h2, h3⟩ := k.fresh h
  have sub : Sub H (upd H a o) := fun b u e => by rw [upd_ne (ne_of_none e h)]; exact e
  refine ⟨⟨k.sub.trans sub, k.adF, fun p c e => ?_, k.ext, k.new, fun b u e q => sub b u (k.keep b u e q)⟩, Sub.refl _, fun _ _ e => .inl e, fun b u e _ => sub b u e⟩
  obtain ⟨ne, cells, at_, left, mixed, seed, e1, e2, r⟩ := k.inv p c e
  exact ⟨ne, cells, at_, left, mixed, seed, sub _ _ e1, sub _ _ e2, r⟩
/-- what stands at a fresh address is frozen -/
theorem Ok.freeze {n : En} {F H : Hp} (k : Ok n F H) {a : Addr} {o : HO} (h : H a = some o) (h0 : n.H0 a = none) (ha : ¬ n.ads a) : Ok n (upd F a o) H := by
  refine ⟨fun b u e => ?_, fun b hb => ?_, k.inv, fun b u e => ?_, fun b u e => ?_, k.keep⟩
  · by_cases hb : b = a
    · subst hb
      rw [upd_same] at e
      cases e
      exact h
    · rw [upd_ne hb] at e
      exact k.sub b u e
  · have hba : b ≠ a := fun z => by subst z; exact ha hb
    rw [upd_ne hba]
    exact k.adF b hb
  · by_cases hb : b = a
    · subst hb
      rw [upd_same]
      have := k.sub b u (k.ext b u e)
      rw [h] at this
      exact this
    · rw [upd_ne hb]
      exact k.ext b u e
  · by_cases hb : b = a
    · subst hb
      exact .inr h0
    · rw [upd_ne hb] at e
      exact k.new b u e
theorem sub_upd {F : Hp} {a : Addr} (h : F a = none) (o : HO) : Sub F (upd F a o) := fun b u e => by rw [upd_ne (ne_of_none e h)]; exact e
/-- a new object, frozen at once -/
theorem Mv.frozen {n : En} {F H : Hp} (k : Ok n F H) {a : Addr} (h : H a = none) (o : HO) : Mv n F H (upd F a o) (upd H a o) := by
  have m := Mv.alloc k h o
  obtain ⟨h1, h2, h3⟩ := k.fresh h
  refine ⟨m.ok.freeze upd_same h1 h2, sub_upd h3 o, fun b u e => ?_, m.keep⟩
  by_cases hb : b = a
  · subst hb; exact .inr h
  · rw [upd_ne hb] at e
    exact .inl e

/-! ### slots -/
/-- what a def is still writing: a list, a dict, an instance that is being made -/
inductive Own where
  | lst (xs : List D) | dk (kvs : List (Key × D)) | ins (C : Addr) (fs : List (Str × D))
inductive Slot where
  | no | va (d : D) | own (c : Own)
def OwnR (w : Wd) (F : Hp) : Own → HO → Prop
  | .lst xs, o => ∃ vs, o = .lst vs ∧ Reps w F xs vs
  | .dk ks, o => ∃ kvs, o = .dK kvs ∧ RepK w F ks kvs
  | .ins C fs, o => ∃ dx gs, o = .ins C dx gs ∧ RepF w F fs gs
/-- what it is, frozen -/
def Own.d : Own → D
  | .lst xs => .lst xs
  | .dk ks => .dk ks
  | .ins C fs => .obj C fs
/-- an instance that is being made stands at its own place -/
def OwnA (n : En) (a : Addr) : Own → Prop
  | .ins _ _ => a = n.me
  | _ => True
def SlotR (n : En) (F H : Hp) : Slot → Option V → Prop
  | .no, _ => True
  | .va d, o => ∃ v, o = some v ∧ Rep n.w F d v
  | .own c, o => ∃ a u, o = some (.ref a) ∧ H a = some u ∧ F a = none ∧ n.H0 a = none ∧ ¬ n.ads a ∧ OwnA n a c ∧ OwnR n.w F c u
structure ER (n : En) (F H : Hp) (ρ : List Slot) (σ : St) : Prop where
  ok : Ok n F H
  len : ρ.length = σ.length
  at_ : ∀ (i : Nat) (s : Slot), ρ[i]? = some s → ∃ o, σ[i]? = some o ∧ SlotR n F H s o
  sep : ∀ (i j : Nat) (c e : Own) (a : Addr), i ≠ j → ρ[i]? = some (.own c) → ρ[j]? = some (.own e) → σ[i]? = some (some (.ref a)) → σ[j]? = some (some (.ref a)) → False
section
variable {n : En} {F H F' H' : Hp} {ρ : List Slot} {σ : St}
theorem OwnR.mono {w : Wd} {c : Own} {u : HO} (s : Sub F F') (h : OwnR w F c u) : OwnR w F' c u := by
  cases c with
  | lst xs => obtain ⟨vs, e, r⟩ := h; exact ⟨vs, e, Reps.mono s xs vs r⟩
  | dk xs => obtain ⟨vs, e, r⟩ := h; exact ⟨vs, e, RepK.mono s xs vs r⟩
  | ins C fs => obtain ⟨dx, vs, e, r⟩ := h; exact ⟨dx, vs, e, RepF.mono s fs vs r⟩
theorem OwnR.rep {w : Wd} {c : Own} {u : HO} {a : Addr} (hF : F a = some u) (h : OwnR w F c u) : Rep w F c.d (.ref a) := by
  cases c with
  | lst xs => obtain ⟨vs, rfl, r⟩ := h; simp only [Own.d, Rep]; exact ⟨a, vs, rfl, hF, r⟩
  | dk xs => obtain ⟨vs, rfl, r⟩ := h; simp only [Own.d, Rep]; exact ⟨a, vs, rfl, hF, r⟩
  | ins C fs => obtain ⟨dx, vs, rfl, r⟩ := h; simp only [Own.d, Rep]; exact ⟨a, dx, vs, rfl, hF, r⟩
theorem SlotR.mv {s : Slot} {o : Option V} (m : Mv n F H F' H') (h : SlotR n F H s o) : SlotR n F' H' s o := by
  cases s with
  | no => trivial
  | va d =>
    obtain ⟨v, e, r⟩ := h
    exact ⟨v, e, Rep.mono m.ext d v r⟩
  | own xs =>
    obtain ⟨a, u, e, h1, h2, h3, h4, h5, r⟩ := h
    refine ⟨a, u, e, m.keep _ _ h1 h4, ?_, h3, h4, h5, r.mono m.ext⟩
    cases q : F' a with
    | none => rfl
    | some u =>
      rcases m.new a u q with z | z
      · rw [h2] at z; cases z
      · rw [h1] at z; cases z
theorem ER.mv (e : ER n F H ρ σ) (m : Mv n F H F' H') : ER n F' H' ρ σ :=
  ⟨m.ok, e.len, fun i s h => let ⟨o, h1, h2⟩ := e.at_ i s h; ⟨o, h1, h2.mv m⟩, e.sep⟩
theorem ER.va (e : ER n F H ρ σ) {i : Nat} {d : D} (h : ρ[i]? = some (.va d)) : ∃ v, σ[i]? = some (some v) ∧ Rep n.w F d v := by
  obtain ⟨o, h1, v, rfl, r⟩ := e.at_ i _ h
  exact ⟨v, h1, r⟩
theorem get_set {α : Type} {l : List α} {i j : Nat} {x y : α} (h : (l.set i x)[j]? = some y) : (j = i ∧ y = x ∧ i < l.length) ∨ (j ≠ i ∧ l[j]? = some y) := by
  by_cases hj : j = i
  · subst hj
    rw [List.getElem?_set] at h
    simp only [if_true] at h
    split at h
    · rename_i hl
      cases h
      exact .inl ⟨rfl, rfl, hl⟩
    · cases h
  · rw [List.getElem?_set_ne (Ne.symm hj)] at h
    exact .inr ⟨hj, h⟩
/-- a slot is set: to a value, to something own at a place of its own -/
theorem ER.put (e : ER n F H ρ σ) (i : Nat) {s : Slot} {o : Option V} (h : SlotR n F H s o)
    (hs : ∀ (c e : Own) (a : Addr) (j : Nat), s = .own c → o = some (.ref a) → j ≠ i → ρ[j]? = some (.own e) → σ[j]? ≠ some (some (.ref a))) : ER n F H (ρ.set i s) (σ.set i o) := by
  refine ⟨e.ok, by simp [e.len], fun j t q => ?_, fun j k c d a hjk q1 q2 q3 q4 => ?_⟩
  · rcases get_set q with ⟨rfl, rfl, hl⟩ | ⟨hj, q⟩
    · exact ⟨o, by rw [List.getElem?_set]; simp [← e.len, hl], h⟩
    · obtain ⟨u, z1, z2⟩ := e.at_ j t q
      exact ⟨u, by rw [List.getElem?_set_ne (Ne.symm hj)]; exact z1, z2⟩
  · rcases get_set q1 with ⟨rfl, z1, hl1⟩ | ⟨hj, p1⟩
    · have hk : k ≠ j := Ne.symm hjk
      rw [List.getElem?_set_ne (Ne.symm hk)] at q2 q4
      rcases get_set q3 with ⟨_, z3, _⟩ | ⟨hj, _⟩
      · exact hs c d a k z1.symm z3.symm hk q2 q4
      · exact hj rfl
    · rw [List.getElem?_set_ne (Ne.symm hj)] at q3
      rcases get_set q2 with ⟨rfl, z2, _⟩ | ⟨hk, p2⟩
      · rcases get_set q4 with ⟨_, z4, _⟩ | ⟨hk, _⟩
        · exact hs d c a j z2.symm z4.symm hj p1 q3
        · exact hk rfl
      · rw [List.getElem?_set_ne (Ne.symm hk)] at q4
        exact e.sep j k c d a hjk p1 p2 q3 q4
theorem ER.set_va (e : ER n F H ρ σ) (i : Nat) {d : D} {v : V} (r : Rep n.w F d v) : ER n F H (ρ.set i (.va d)) (σ.set i (some v)) :=
  e.put i ⟨v, rfl, r⟩ fun _ _ _ _ z => by cases z
theorem ER.set_own (e : ER n F H ρ σ) (i : Nat) {c : Own} {a : Addr} {u : HO} (h1 : H a = some u) (h2 : F a = none) (h3 : n.H0 a = none) (h4 : ¬ n.ads a) (r : OwnR n.w F c u)
    (hs : ∀ (j : Nat) (e : Own), j ≠ i → ρ[j]? = some (.own e) → σ[j]? ≠ some (some (.ref a))) (ho : OwnA n a c := by exact trivial) : ER n F H (ρ.set i (.own c)) (σ.set i (some (.ref a))) :=
  e.put i ⟨a, u, rfl, h1, h2, h3, h4, ho, r⟩ fun c' e' b j z1 z2 hj q => by cases z2; exact hs j e' hj q
theorem ER.forget (e : ER n F H ρ σ) (i : Nat) (o : Option V) : ER n F H (ρ.set i .no) (σ.set i o) := e.put i trivial fun _ _ _ _ z => by cases z
theorem ER.own (e : ER n F H ρ σ) {i : Nat} {c : Own} (h : ρ[i]? = some (.own c)) : ∃ a u, σ[i]? = some (some (.ref a)) ∧ H a = some u ∧ F a = none ∧ n.H0 a = none ∧ ¬ n.ads a ∧ OwnR n.w F c u := by
  obtain ⟨o, h1, a, vs, rfl, q1, q2, q3, q4, _, r⟩ := e.at_ i _ h
  exact ⟨a, vs, h1, q1, q2, q3, q4, r⟩
theorem ER.ownA (e : ER n F H ρ σ) {i : Nat} {c : Own} {a : Addr} (h : ρ[i]? = some (.own c)) (hσ : σ[i]? = some (some (.ref a))) : OwnA n a c := by
  obtain ⟨o, h1, b, vs, rfl, q1, q2, q3, q4, q5, r⟩ := e.at_ i _ h
  rw [hσ] at h1
  cases h1
  exact q5
/-- something own is written -/
theorem ER.write (e : ER n F H ρ σ) {i : Nat} {c c' : Own} {a : Addr} {u : HO} (h : ρ[i]? = some (.own c)) (hσ : σ[i]? = some (some (.ref a))) (r : OwnR n.w F c' u) (ho : OwnA n a c' := by exact trivial) :
    ER n F (upd H a u) (ρ.set i (.own c')) σ := by
  obtain ⟨a', us, e1, h1, h2, h3, h4, _⟩ := e.own h
  rw [hσ] at e1
  cases e1
  have hi : i < ρ.length := (List.getElem?_eq_some_iff.mp h).1
  have sub : ∀ b o, b ≠ a → H b = some o → upd H a u b = some o := fun b o hb q => by rw [upd_ne hb]; exact q
  have hF : ∀ b o, F b = some o → b ≠ a := fun b o q z => by rw [z, h2] at q; cases q
  refine ⟨⟨fun b o q => sub b o (hF b o q) (e.ok.sub b o q), e.ok.adF, fun p c q => ?_, e.ok.ext, e.ok.new, fun b o q hb => ?_⟩, by simp [e.len], fun j s q => ?_, fun j k c1 c2 b hjk q1 q2 q3 q4 => ?_⟩
  · obtain ⟨ne, cells, at_, left, mixed, seed, z1, z2, z⟩ := e.ok.inv p c q
    have hc : c ≠ a := fun z => h4 ⟨p, c, q, .inr z.symm⟩
    have hp : p ≠ a := fun z => h4 ⟨p, c, q, .inl z.symm⟩
    exact ⟨ne, cells, at_, left, mixed, seed, sub _ _ hc z1, sub _ _ hp z2, z⟩
  · have hb' : b ≠ a := fun z => by rw [z, h3] at q; cases q
    exact sub b o hb' (e.ok.keep b o q hb)
  · rcases get_set q with ⟨rfl, rfl, _⟩ | ⟨hj, q⟩
    · exact ⟨_, hσ, a, u, rfl, upd_same, h2, h3, h4, ho, r⟩
    · obtain ⟨o, z1, z2⟩ := e.at_ j s q
      refine ⟨o, z1, ?_⟩
      cases s with
      | no => trivial
      | va d => exact z2
      | own zs =>
        obtain ⟨b, us', rfl, y1, y2, y3, y4, y6, y5⟩ := z2
        have hb : b ≠ a := fun z => by subst z; exact e.sep i j c zs b (Ne.symm hj) h q hσ z1
        exact ⟨b, us', rfl, sub _ _ hb y1, y2, y3, y4, y6, y5⟩
  · rcases get_set q1 with ⟨rfl, _, _⟩ | ⟨hj, p1⟩
    · rw [List.getElem?_set_ne hjk] at q2
      exact e.sep j k c c2 b hjk h q2 q3 q4
    · rcases get_set q2 with ⟨rfl, _, _⟩ | ⟨hk, p2⟩
      · exact e.sep j k c1 c b hjk p1 h q3 q4
      · exact e.sep j k c1 c2 b hjk p1 p2 q3 q4
/-- something own is frozen -/
theorem ER.freeze (e : ER n F H ρ σ) {i : Nat} {c : Own} (h : ρ[i]? = some (.own c)) : ∃ a u, σ[i]? = some (some (.ref a)) ∧ Sub F (upd F a u) ∧ ER n (upd F a u) H (ρ.set i (.va c.d)) σ ∧ Rep n.w (upd F a u) c.d (.ref a) := by
  obtain ⟨a, u, hσ, h1, h2, h3, h4, r⟩ := e.own h
  have hi : i < ρ.length := (List.getElem?_eq_some_iff.mp h).1
  have sb := sub_upd h2 u
  have rr : Rep n.w (upd F a u) c.d (.ref a) := (r.mono sb).rep upd_same
  refine ⟨a, u, hσ, sb, ⟨e.ok.freeze h1 h3 h4, by simp [e.len], fun j s q => ?_, fun j k c1 c2 b hjk q1 q2 q3 q4 => ?_⟩, rr⟩
  · rcases get_set q with ⟨rfl, rfl, _⟩ | ⟨hj, q⟩
    · exact ⟨_, hσ, _, rfl, rr⟩
    · obtain ⟨o, z1, z2⟩ := e.at_ j s q
      refine ⟨o, z1, ?_⟩
      cases s with
      | no => trivial
      | va d =>
        obtain ⟨v, rfl, y⟩ := z2
        exact ⟨v, rfl, Rep.mono sb d v y⟩
      | own zs =>
        obtain ⟨b, us', rfl, y1, y2, y3, y4, y6, y5⟩ := z2
        have hb : b ≠ a := fun z => by subst z; exact e.sep i j c zs b (Ne.symm hj) h q hσ z1
        exact ⟨b, us', rfl, y1, by rw [upd_ne hb]; exact y2, y3, y4, y6, y5.mono sb⟩
  · rcases get_set q1 with ⟨rfl, z, _⟩ | ⟨hj, q1⟩
    · cases z
    · rcases get_set q2 with ⟨rfl, z, _⟩ | ⟨hk, q2⟩
      · cases z
      · exact e.sep j k c1 c2 b hjk q1 q2 q3 q4
end
end U

set_option Elab.async false
set_option linter.all false
set_option maxRecDepth 100000
set_option maxHeartbeats 4000000
namespace U
open PySem L2

theorem PE.imp {X : Cx} {e : Expr} {t t' : TE} (p : PE X e t) (h : ∀ σ H Q, t' σ H Q → t σ H Q) : PE X e t' := ⟨fun pins s σ H Q I q => p.run pins s σ H Q I (h σ H Q q)⟩
theorem PT.imp {X : Cx} {e : Expr} {t t' : TT} (p : PT X e t) (h : ∀ σ H Q, t' σ H Q → t σ H Q) : PT X e t' := ⟨fun pins s σ H Q I q => p.run pins s σ H Q I (h σ H Q q)⟩
theorem PW.imp {X : Cx} {e : Expr} {t t' : TT} (p : PW X e t) (h : ∀ σ H Q, t' σ H Q → t σ H Q) : PW X e t' := ⟨fun wh pins s σ H Q I q => p.run wh pins s σ H Q I (h σ H Q q)⟩
theorem PA.imp {X : Cx} {e : List Expr} {t t' : TA} (p : PA X e t) (h : ∀ σ H Q, t' σ H Q → t σ H Q) : PA X e t' := ⟨fun pos pins s σ H Q I q => p.run pos pins s σ H Q I (h σ H Q q)⟩
theorem PS.imp {X : Cx} {e : Stmt} {t t' : TS} (p : PS X e t) (h : ∀ D σ H, t' D σ H → t D σ H) : PS X e t' := ⟨fun pins s σ H D I q => p.run pins s σ H D I (h D σ H q)⟩
theorem PSs.imp {X : Cx} {e : List Stmt} {t t' : TS} (p : PSs X e t) (h : ∀ D σ H, t' D σ H → t D σ H) : PSs X e t' := ⟨fun pins s σ H D I q => p.run pins s σ H D I (h D σ H q)⟩
theorem PI.imp {X : Cx} {tg e : Expr} {t t' : TI} (p : PI X tg e t) (h : ∀ σ H Q, t' σ H Q → t σ H Q) : PI X tg e t' := ⟨fun pins s σ H Q I q => p.run pins s σ H Q I (h σ H Q q)⟩
theorem PG.imp {X : Cx} {tg : Expr} {t t' : TG} (p : PG X tg t) (h : ∀ v σ H Q, t' v σ H Q → t v σ H Q) : PG X tg t' := ⟨fun pins s σ H v u Q I r q => p.run pins s σ H v u Q I r (h v σ H Q q)⟩
theorem OpR.imp {X : Cx} {f : Value → Value → Sem Value} {r r' : R2} (p : OpR X f r) (h : ∀ x y H Q, r' x y H Q → r x y H Q) : OpR X f r' := fun pins s σ H x y v u Q I rx ry q => p pins s σ H x y v u Q I rx ry (h x y H Q q)
theorem CallR.imp {X : Cx} {f : Value} {r r' : List V → Hp → VK → Prop} (p : CallR X f r) (h : ∀ x H Q, r' x H Q → r x H Q) : CallR X f r' := fun pins s σ H x v Q I rx q => p pins s σ H x v Q I rx (h x H Q q)
theorem IxR.imp {X : Cx} {r r' : R2} (p : IxR X r) (h : ∀ x y H Q, r' x y H Q → r x y H Q) : IxR X r' := fun a b pins s σ H x y v u Q I rx ry q => p a b pins s σ H x y v u Q I rx ry (h x y H Q q)

abbrev TP := List Slot → (D → Prop) → Prop
abbrev TPb := List Slot → (Bool → Prop) → Prop
abbrev TPs := List Slot → (List D → Prop) → Prop

/-! ### the judgements over plain data -/
/-- where one stands: the entry, what is frozen, the slots -/
structure AtK (K : PySem.W.Frag) (n : En) (F H : Hp) (ρ : List Slot) (σ : St) : Prop where
  k : n.w.K = K
  er : ER n F H ρ σ
abbrev At (X : Cx) (n : En) (F H : Hp) (ρ : List Slot) (σ : St) : Prop := AtK X.K n F H ρ σ
def rE (X : Cx) (t : TP) : TE := fun σ H Q => ∃ n F ρ Q0, At X n F H ρ σ ∧ t ρ Q0 ∧ ∀ d v F' H', Q0 d → Mv n F H F' H' → Rep n.w F' d v → Q v H'
def rL (X : Cx) (t : TPs) : TE := fun σ H Q => ∃ n F ρ Q0, At X n F H ρ σ ∧ t ρ Q0 ∧ ∀ xs a vs F' H', Q0 xs → Mv n F H F' H' → H a = none → F' a = none → H' a = some (.lst vs) → Reps n.w F' xs vs → Q (.ref a) H'
def rR (X : Cx) (t : TPs) : TE := fun σ H Q => ∃ n F ρ Q0, At X n F H ρ σ ∧ t ρ Q0 ∧ ∀ xs a vs F' H', Q0 xs → Mv n F H F' H' → ¬ n.ads a → H' a = some (.lst vs) → Reps n.w F' xs vs → Q (.ref a) H'
def rA (X : Cx) (t : TPs) : TA := fun σ H Q => ∃ n F ρ Q0, At X n F H ρ σ ∧ t ρ Q0 ∧ ∀ ds vs F' H', Q0 ds → Mv n F H F' H' → Reps n.w F' ds vs → Q vs H'
def rT (X : Cx) (t : TPb) : TT := fun σ H Q => ∃ n F ρ Q0, At X n F H ρ σ ∧ t ρ Q0 ∧ ∀ b F' H', Q0 b → Mv n F H F' H' → Q b H'
/-- an expression as data -/
structure UE (X : Cx) (e : Expr) (t : TP) : Prop where
  run : PE X e (rE X t)
/-- an expression that makes a list -/
structure UL (X : Cx) (e : Expr) (t : TPs) : Prop where
  run : PE X e (rL X t)
/-- an expression that is a list to be read now -/
structure UR (X : Cx) (e : Expr) (t : TPs) : Prop where
  run : PE X e (rR X t)
structure UA (X : Cx) (e : List Expr) (t : TPs) : Prop where
  run : PA X e (rA X t)
structure UT (X : Cx) (e : Expr) (t : TPb) : Prop where
  run : PT X e (rT X t)
structure UW (X : Cx) (e : Expr) (t : TPb) : Prop where
  run : PW X e (rT X t)

theorem At.mv {X : Cx} {n : En} {F H F' H' : Hp} {ρ : List Slot} {σ : St} (a : At X n F H ρ σ) (m : Mv n F H F' H') : At X n F' H' ρ σ := ⟨a.k, a.er.mv m⟩
section
variable {X : Cx} {e a b c : Expr} {es : List Expr} {t ta tb tc : TP} {pos : Pos}

/-! ### names, constants -/
def uV (i : Nat) : TP := fun ρ Q => ∃ d, ρ[i]? = some (.va d) ∧ Q d
def uK (d : D) : TP := fun _ Q => Q d
theorem UE.of {t' : TE} (p : PE X e t') (h : ∀ n F H ρ σ Q0, At X n F H ρ σ → t ρ Q0 → ∀ Q : VK, (∀ d v F' H', Q0 d → Mv n F H F' H' → Rep n.w F' d v → Q v H') → t' σ H Q) : UE X e t :=
  ⟨PE.imp p fun σ H Q ⟨n, F, ρ, Q0, hA, q, k⟩ => h n F H ρ σ Q0 hA q Q k⟩
theorem u_var {i : Nat} (p : PE X e (tVar i)) : UE X e (uV i) := .of p fun n F H ρ σ Q0 hA ⟨d, h1, h2⟩ Q k => by
  obtain ⟨v, e1, r⟩ := hA.er.va h1
  exact ⟨v, e1, k d v F H h2 (Mv.refl hA.er.ok) r⟩
theorem u_c {d : D} {v : V} (p : PE X e (tC v)) (hr : ∀ w F, Rep w F d v) : UE X e (uK d) := .of p fun n F H ρ σ Q0 hA h Q k => k d v F H h (Mv.refl hA.er.ok) (hr _ _)
theorem u_int {i : Int} {j} : UE X (.Constant (.int i) j pos) (uK (.int i)) := u_c pe_int fun w F => by simp only [Rep]
theorem u_bl {i : Bool} {j} : UE X (.Constant (.bool i) j pos) (uK (.bl i)) := u_c pe_bl fun w F => by simp only [Rep]
theorem u_non {j} : UE X (.Constant .none j pos) (uK .non) := u_c pe_non fun w F => by simp only [Rep]
theorem u_str {x j} : UE X (.Constant (.str x) j pos) (uK (.str x)) := u_c pe_str fun w F => by simp only [Rep]
theorem uv (i : Nat) {x : Str} (hN : X.N[i]? = some x := by rfl) (hv : Vis X.env.scope x := by first | exact Or.inl rfl | exact Or.inr (Or.inl rfl) | exact Or.inr (Or.inr rfl)) (hd : (x == ("__debug__" : Str)) = false := by decide)
    (hcd : (x == ("__classdict__" : Str)) = false := by decide) : UE X (.Name x pos) (uV i) := u_var (pe_var hN hv hd hcd)

/-! ### arguments -/
def uNil : TPs := fun _ Q => Q []
def uCons (t : TP) (u : TPs) : TPs := fun ρ Q => t ρ fun d => u ρ fun ds => Q (d :: ds)
theorem ua_nil : UA X [] uNil := ⟨PA.imp pa_nil fun σ H Q ⟨n, F, ρ, Q0, hA, h, k⟩ => k [] [] F H h (Mv.refl hA.er.ok) Reps.nil⟩
theorem ua_cons {u : TPs} (h : UE X e t) (hs : UA X es u) (hq : starEach (e :: es) X.env = (false, eval e X.env) :: starEach es X.env := by rfl) : UA X (e :: es) (uCons t u) :=
  ⟨PA.imp (pa_cons h.run hs.run hq) fun σ H Q ⟨n, F, ρ, Q0, hA, q, k⟩ => by
    refine ⟨n, F, ρ, _, hA, q, fun d v F1 H1 q1 m1 r1 => ?_⟩
    refine ⟨n, F1, ρ, _, hA.mv m1, q1, fun ds vs F2 H2 q2 m2 r2 => ?_⟩
    exact k (d :: ds) (v :: vs) F2 H2 q2 (m1.trans hA.er.ok m2) (Reps.cons (Rep.mono m2.ext d v r1) r2)⟩

/-! ### tuples and lists made -/
def uTup (t : TPs) : TP := fun ρ Q => t ρ fun ds => ds.length ≤ sizeLine ∧ Q (.tup ds)
theorem Rep.tup {w : Wd} {F : Hp} {a : Addr} {vs : List V} {ds : List D} (h : F a = some (.tup vs)) (r : Reps w F ds vs) : Rep w F (.tup ds) (.ref a) := by
  simp only [Rep]
  exact ⟨a, vs, rfl, SqT.of h, r⟩
theorem Rep.lst {w : Wd} {F : Hp} {a : Addr} {vs : List V} {ds : List D} (h : F a = some (.lst vs)) (r : Reps w F ds vs) : Rep w F (.lst ds) (.ref a) := by
  simp only [Rep]
  exact ⟨a, vs, rfl, h, r⟩
theorem Rep.tup_new {n : En} {F H : Hp} (k : Ok n F H) {a : Addr} (h : H a = none) {vs : List V} {ds : List D} (r : Reps n.w F ds vs) : Rep n.w (upd F a (.tup vs)) (.tup ds) (.ref a) :=
  Rep.tup upd_same (Reps.mono (sub_upd (k.fresh h).2.2 _) ds vs r)
theorem u_tup {x1} {u : TPs} (h : UA X es u) : UE X (.Tuple es x1 pos) (uTup u) := .of (pe_tup h.run) fun n F H ρ σ Q0 hA q Q k => by
  refine ⟨n, F, ρ, _, hA, q, fun ds vs F1 H1 ⟨q1, q2⟩ m1 r1 => ⟨by rw [r1.length]; exact q1, fun p hp => ?_⟩⟩
  exact k _ _ _ _ q2 (m1.trans hA.er.ok (Mv.frozen m1.ok hp (.tup vs))) (Rep.tup_new m1.ok hp r1)
theorem Mv.freeze {n : En} {F H F' H' : Hp} (k : Ok n F H) (m : Mv n F H F' H') {a : Addr} {o : HO} (ha : H a = none) (hF : F' a = none) (h : H' a = some o) : Mv n F H (upd F' a o) H' := by
  obtain ⟨h1, h2, h3⟩ := k.fresh ha
  refine ⟨m.ok.freeze h h1 h2, m.ext.trans (sub_upd hF o), fun b u e => ?_, m.keep⟩
  by_cases hb : b = a
  · subst hb; exact .inr ha
  · rw [upd_ne hb] at e
    exact m.new b u e
/-- a list that was made, as data -/
def uF (t : TPs) : TP := fun ρ Q => t ρ fun xs => Q (.lst xs)
theorem UL.ue {u : TPs} (h : UL X e u) : UE X e (uF u) := .of h.run fun n F H ρ σ Q0 hA q Q k => ⟨n, F, ρ, _, hA, q, fun xs a vs F1 H1 q1 m1 h1 h2 h3 r => k _ _ _ _ q1 (Mv.freeze hA.er.ok m1 h1 h2 h3) (Rep.lst upd_same (Reps.mono (sub_upd h2 _) xs vs r))⟩
theorem UL.ur {u : TPs} (h : UL X e u) : UR X e u := ⟨PE.imp h.run fun σ H Q ⟨n, F, ρ, Q0, hA, q, k⟩ => ⟨n, F, ρ, _, hA, q, fun xs a vs F1 H1 q1 m1 h1 h2 h3 r => k _ _ _ _ _ q1 m1 (hA.er.ok.fresh h1).2.1 h3 r⟩⟩
/-- data that is a list, read -/
def uRd (t : TP) : TPs := fun ρ Q => t ρ fun d => ∃ xs, d = .lst xs ∧ Q xs
theorem UE.ur (h : UE X e t) : UR X e (uRd t) := ⟨PE.imp h.run fun σ H Q ⟨n, F, ρ, Q0, hA, q, k⟩ => ⟨n, F, ρ, _, hA, q, fun d v F1 H1 ⟨xs, e1, q1⟩ m1 r => by
  subst e1
  simp only [Rep] at r
  obtain ⟨a, vs, rfl, h1, h2⟩ := r
  exact k xs a vs F1 H1 q1 m1 (fun z => by rw [m1.ok.adF a z] at h1; cases h1) (m1.ok.sub _ _ h1) h2⟩⟩
def uO (i : Nat) : TPs := fun ρ Q => ∃ xs, ρ[i]? = some (.own (.lst xs)) ∧ Q xs
theorem ur_own {i : Nat} (p : PE X e (tVar i)) : UR X e (uO i) := ⟨PE.imp p fun σ H Q ⟨n, F, ρ, Q0, hA, ⟨xs, h1, h2⟩, k⟩ => by
  obtain ⟨a, u, e1, q1, q2, q3, q4, vs, rfl, r⟩ := hA.er.own h1
  exact ⟨_, e1, k xs a vs F H h2 (Mv.refl hA.er.ok) q4 q1 r⟩⟩
theorem uo (i : Nat) {x : Str} (hN : X.N[i]? = some x := by rfl) (hv : Vis X.env.scope x := by first | exact Or.inl rfl | exact Or.inr (Or.inl rfl) | exact Or.inr (Or.inr rfl)) (hd : (x == ("__debug__" : Str)) = false := by decide)
    (hcd : (x == ("__classdict__" : Str)) = false := by decide) : UR X (.Name x pos) (uO i) := ur_own (pe_var hN hv hd hcd)
theorem ul_lst {u : TPs} (h : UA X es u) : UL X (.List es pos) (fun ρ Q => u ρ fun ds => ds.length ≤ sizeLine ∧ Q ds) := ⟨PE.imp (pe_lst h.run) fun σ H Q ⟨n, F, ρ, Q0, hA, q, k⟩ => by
  refine ⟨n, F, ρ, _, hA, q, fun ds vs F1 H1 ⟨q1, q2⟩ m1 r1 => ⟨by rw [r1.length]; exact q1, fun p hp => ?_⟩⟩
  have h0 : H p = none := by
    cases z : H p with
    | none => rfl
    | some o =>
      by_cases hx : n.ads p
      · exact absurd hp (m1.ok.there hx)
      · rw [m1.keep p o z hx] at hp; cases hp
  exact k _ _ _ _ _ q2 (m1.trans hA.er.ok (Mv.alloc m1.ok hp _)) h0 (m1.ok.fresh hp).2.2 upd_same r1⟩
theorem Mv.back {n : En} {F H F' H' : Hp} (m : Mv n F H F' H') {p : Addr} (hp : H' p = none) : H p = none := by
  cases z : H p with
  | none => rfl
  | some o =>
    by_cases hx : n.ads p
    · exact absurd hp (m.ok.there hx)
    · rw [m.keep p o z hx] at hp; cases hp

/-! ### operators -/
abbrev R2p := D → D → (D → Prop) → Prop
def rOp (X : Cx) (r : R2p) : R2 := fun x y H Q => ∃ n F d e Q0, n.w.K = X.K ∧ Ok n F H ∧ Rep n.w F d x ∧ Rep n.w F e y ∧ r d e Q0 ∧ ∀ z v F' H', Q0 z → Mv n F H F' H' → Rep n.w F' z v → Q v H'
def UOp (X : Cx) (f : Value → Value → Sem Value) (r : R2p) : Prop := OpR X f (rOp X r)
def uB (r : R2p) (ta tb : TP) : TP := fun ρ Q => ta ρ fun x => tb ρ fun y => r x y Q
theorem uB_ok {r : R2p} {σ : St} {H : Hp} {Q : VK} (h : rE X (uB r ta tb) σ H Q) : rE X ta σ H fun x H1 => rE X tb σ H1 fun y H2 => rOp X r x y H2 Q := by
  obtain ⟨n, F, ρ, Q0, hA, q, k⟩ := h
  refine ⟨n, F, ρ, _, hA, q, fun d v F1 H1 q1 m1 r1 => ?_⟩
  refine ⟨n, F1, ρ, _, hA.mv m1, q1, fun e u F2 H2 q2 m2 r2 => ?_⟩
  exact ⟨n, F2, d, e, Q0, hA.k, m2.ok, Rep.mono m2.ext d v r1, r2, q2, fun z w F3 H3 q3 m3 r3 => k z w F3 H3 q3 ((m1.trans hA.er.ok m2).trans hA.er.ok m3) r3⟩
theorem u_op {op : Operator} {r : R2p} (ho : UOp X (binaryOp op) r) (ha : UE X a ta) (hb : UE X b tb) : UE X (.BinOp a op b pos) (uB r ta tb) :=
  ⟨PE.imp (pe_op ho ha.run hb.run) fun σ H Q h => uB_ok h⟩
theorem u_cmp {op : CmpOp} {r : R2p} (ho : UOp X (compareOp op) r) (ha : UE X a ta) (hb : UE X b tb) (hm : behindInMarks op b = false) : UE X (.Compare a [op] [b] pos) (uB r ta tb) :=
  ⟨PE.imp (pe_cmpR ho ha.run hb.run hm) fun σ H Q h => uB_ok h⟩
def uBt (r : R2p) (ta tb : TP) : TPb := fun ρ Q => ta ρ fun x => tb ρ fun y => r x y fun z => ∃ k, z = .bl k ∧ Q k
theorem Rep.bl' {w : Wd} {F : Hp} {b : Bool} {v : V} (h : Rep w F (.bl b) v) : v = .bl b := by simpa only [Rep] using h
theorem Rep.int' {w : Wd} {F : Hp} {b : Int} {v : V} (h : Rep w F (.int b) v) : v = .int b := by simpa only [Rep] using h
theorem Rep.str' {w : Wd} {F : Hp} {b : Str} {v : V} (h : Rep w F (.str b) v) : v = .str b := by simpa only [Rep] using h
theorem Rep.non' {w : Wd} {F : Hp} {v : V} (h : Rep w F .non v) : v = .non := by simpa only [Rep] using h
theorem Rep.tup' {w : Wd} {F : Hp} {ds : List D} {v : V} (h : Rep w F (.tup ds) v) : ∃ a vs, v = .ref a ∧ SqT w.K F a vs ∧ Reps w F ds vs := by simpa only [Rep] using h
theorem Rep.lst' {w : Wd} {F : Hp} {ds : List D} {v : V} (h : Rep w F (.lst ds) v) : ∃ a vs, v = .ref a ∧ F a = some (.lst vs) ∧ Reps w F ds vs := by simpa only [Rep] using h
theorem Rep.dk' {w : Wd} {F : Hp} {ds : List (Key × D)} {v : V} (h : Rep w F (.dk ds) v) : ∃ a vs, v = .ref a ∧ F a = some (.dK vs) ∧ RepK w F ds vs := by simpa only [Rep] using h
theorem Rep.obj' {w : Wd} {F : Hp} {C : Addr} {ds : List (Str × D)} {v : V} (h : Rep w F (.obj C ds) v) : ∃ a dx vs, v = .ref a ∧ F a = some (.ins C dx vs) ∧ RepF w F ds vs := by simpa only [Rep] using h
theorem Rep.src' {w : Wd} {F : Hp} {v : V} (h : Rep w F .src v) : ∃ p c, w.src = some (p, c) ∧ v = .ref p := by simpa only [Rep] using h
theorem Rep.ref' {w : Wd} {F : Hp} {u v : V} (h : Rep w F (.ref u) v) : v = u := by simpa only [Rep] using h
theorem rInt (w : Wd) (F : Hp) (i : Int) : Rep w F (.int i) (.int i) := by simp only [Rep]
theorem rBl (w : Wd) (F : Hp) (i : Bool) : Rep w F (.bl i) (.bl i) := by simp only [Rep]
theorem rStr (w : Wd) (F : Hp) (i : Str) : Rep w F (.str i) (.str i) := by simp only [Rep]
theorem rNon (w : Wd) (F : Hp) : Rep w F .non .non := by simp only [Rep]
theorem ut_cmp {op : CmpOp} {r : R2p} (ho : UOp X (compareOp op) r) (ha : UE X a ta) (hb : UE X b tb) (hm : behindInMarks op b = false) : UT X (.Compare a [op] [b] pos) (uBt r ta tb) :=
  ⟨PT.imp (pt_cmpR ho ha.run hb.run hm) fun σ H Q ⟨n, F, ρ, Q0, hA, q, k⟩ => uB_ok (r := r) (Q := fun x H' => ∃ k, x = .bl k ∧ Q k H') ⟨n, F, ρ, _, hA, q, fun d v F1 H1 ⟨b, e1, q1⟩ m1 r1 => by
    subst e1
    exact ⟨b, r1.bl', k b F1 H1 q1 m1⟩⟩⟩
/-- operators of two ints -/
def pI (C : Int → Int → Prop) (g : Int → Int → D) : R2p := fun x y Q => ∃ i j, x = .int i ∧ y = .int j ∧ C i j ∧ Q (g i j)
theorem uop_int {f : Value → Value → Sem Value} {C : Int → Int → Prop} {g : Int → Int → Int} (h : OpR X f (rI C fun i j => .int (g i j))) : UOp X f (pI C fun i j => .int (g i j)) := OpR.imp h fun x y H Q ⟨n, F, d, e, Q0, hK, ok, r1, r2, ⟨i, j, e1, e2, c, q⟩, k⟩ => by
  subst e1; subst e2
  rw [r1.int', r2.int']
  exact ⟨i, j, rfl, rfl, c, k _ _ F H q (Mv.refl ok) (rInt ..)⟩
theorem uop_int0 {f : Value → Value → Sem Value} {g : Int → Int → Int} (h : OpR X f (rI0 fun i j => .int (g i j))) : UOp X f (pI (fun _ _ => True) fun i j => .int (g i j)) := OpR.imp h fun x y H Q ⟨n, F, d, e, Q0, hK, ok, r1, r2, ⟨i, j, e1, e2, c, q⟩, k⟩ => by
  subst e1; subst e2
  rw [r1.int', r2.int']
  exact ⟨i, j, rfl, rfl, k _ _ F H q (Mv.refl ok) (rInt ..)⟩
theorem uop_bool0 {f : Value → Value → Sem Value} {g : Int → Int → Bool} (h : OpR X f (rI0 fun i j => .bl (g i j))) : UOp X f (pI (fun _ _ => True) fun i j => .bl (g i j)) := OpR.imp h fun x y H Q ⟨n, F, d, e, Q0, hK, ok, r1, r2, ⟨i, j, e1, e2, c, q⟩, k⟩ => by
  subst e1; subst e2
  rw [r1.int', r2.int']
  exact ⟨i, j, rfl, rfl, k _ _ F H q (Mv.refl ok) (rBl ..)⟩
theorem uadd : UOp X (binaryOp .Add) (pI (fun _ _ => True) fun i j => .int (i + j)) := uop_int0 op_add
theorem usub : UOp X (binaryOp .Sub) (pI (fun _ _ => True) fun i j => .int (i - j)) := uop_int0 op_sub
theorem umul : UOp X (binaryOp .Mult) (pI CMul fun i j => .int (i * j)) := uop_int op_mul
theorem umod : UOp X (binaryOp .Mod) (pI (fun _ j => 0 < j) fun i j => .int (i % j)) := uop_int op_mod
theorem ufdiv : UOp X (binaryOp .FloorDiv) (pI CDivW fun i j => .int (i / j)) := uop_int op_fdivW
theorem upow : UOp X (binaryOp .Pow) (pI CPow fun i j => .int (i ^ j.toNat)) := uop_int op_pow
theorem ult : UOp X (compareOp .Lt) (pI (fun _ _ => True) fun i j => .bl (decide (i < j))) := uop_bool0 op_lt
theorem ule : UOp X (compareOp .LtE) (pI (fun _ _ => True) fun i j => .bl (decide (i ≤ j))) := uop_bool0 op_le
theorem ugt : UOp X (compareOp .Gt) (pI (fun _ _ => True) fun i j => .bl (decide (j < i))) := uop_bool0 op_gt
theorem uge : UOp X (compareOp .GtE) (pI (fun _ _ => True) fun i j => .bl (decide (j ≤ i))) := uop_bool0 op_ge
/-- is None, is not None -/
def _root_.U.D.isN : D → Option Bool
  | .non => some true
  | .ref _ => none
  | _ => some false
theorem Rep.exc' {w : Wd} {F : Hp} {a C dd : Addr} {fs : List (Str × D)} {v : V} (h : Rep w F (.exc a C dd fs) v) : v = .ref a ∧ ∃ kvs, F dd = some (.xd kvs) ∧ RepF w F fs kvs := by simpa only [Rep] using h
theorem isN_of {w : Wd} {F : Hp} : ∀ {d : D} {v : V} {b : Bool}, Rep w F d v → d.isN = some b → decide (v = .non) = b
  | .non, v, b, r, h => by rw [r.non']; simpa [D.isN] using h
  | .bl _, v, b, r, h => by rw [r.bl']; simpa [D.isN] using h
  | .int _, v, b, r, h => by rw [r.int']; simpa [D.isN] using h
  | .str _, v, b, r, h => by rw [r.str']; simpa [D.isN] using h
  | .tup _, v, b, r, h => by obtain ⟨_, _, rfl, _⟩ := r.tup'; simpa [D.isN] using h
  | .lst _, v, b, r, h => by obtain ⟨_, _, rfl, _⟩ := r.lst'; simpa [D.isN] using h
  | .dk _, v, b, r, h => by obtain ⟨_, _, rfl, _⟩ := r.dk'; simpa [D.isN] using h
  | .obj _ _, v, b, r, h => by obtain ⟨_, _, _, rfl, _⟩ := r.obj'; simpa [D.isN] using h
  | .src, v, b, r, h => by obtain ⟨_, _, _, rfl⟩ := r.src'; simpa [D.isN] using h
  | .ref _, v, b, r, h => by simp [D.isN] at h
  | .exc _ _ _ _, v, b, r, h => by obtain ⟨rfl, _⟩ := r.exc'; simpa [D.isN] using h
theorem uisN : UOp X (compareOp .Is) (fun x y Q => y = .non ∧ ∃ b, x.isN = some b ∧ Q (.bl b)) := OpR.imp op_isN fun x y H Q ⟨n, F, d, e, Q0, hK, ok, r1, r2, ⟨e1, b, hb, q⟩, k⟩ => by
  subst e1
  refine ⟨r2.non', ?_⟩
  rw [isN_of r1 hb]
  exact k _ _ F H q (Mv.refl ok) (rBl ..)
theorem unotN : UOp X (compareOp .IsNot) (fun x y Q => y = .non ∧ ∃ b, x.isN = some b ∧ Q (.bl (!b))) := OpR.imp op_notN fun x y H Q ⟨n, F, d, e, Q0, hK, ok, r1, r2, ⟨e1, b, hb, q⟩, k⟩ => by
  subst e1
  refine ⟨r2.non', ?_⟩
  rw [isN_of r1 hb]
  exact k _ _ F H q (Mv.refl ok) (rBl ..)
end

/-! ### equality of data -/
mutual
def _root_.U.D.py : D → PyData
  | .non => .none
  | .bl b => .bool b
  | .int i => .int i
  | .str x => .str x
  | .tup ds => .tuple (pys ds)
  | .lst ds => .list (pys ds)
  | .dk _ => .dict []
  | .obj _ _ => .dict []
  | .src => .dict []
  | .ref _ => .dict []
  | .exc _ _ _ _ => .dict []
def pys : List D → List PyData
  | [] => []
  | d :: ds => d.py :: pys ds
end
mutual
/-- data of None, truth values, numbers, texts, tuples, lists; n: how deep -/
def plain : Nat → D → Bool
  | _, .non => true
  | _, .bl _ => true
  | _, .int _ => true
  | _, .str x => PyData.strOk x
  | n + 1, .tup ds => plains n ds
  | n + 1, .lst ds => plains n ds
  | _, _ => false
def plains : Nat → List D → Bool
  | _, [] => true
  | n, d :: ds => plain n d && plains n ds
end
section
variable {w : Wd} {F H : Hp}
mutual
theorem Rep.dp (s : Sub F H) : ∀ (n : Nat) (d : D) (v : V), plain n d = true → Rep w F d v → Dp w.K H v d.py
  | _, .non, _, _, h => by rw [h.non']; simp only [D.py]; exact .non
  | _, .bl b, _, _, h => by rw [h.bl']; simp only [D.py]; exact .bl b
  | _, .int b, _, _, h => by rw [h.int']; simp only [D.py]; exact .int b
  | _, .str b, _, _, h => by rw [h.str']; simp only [D.py]; exact .str b
  | n + 1, .tup ds, _, p, h => by
    obtain ⟨a, vs, rfl, h1, h2⟩ := h.tup'
    simp only [D.py]
    exact .tup (sqT_mono s h1) (Reps.dp s n ds vs (by simpa [plain] using p) h2)
  | n + 1, .lst ds, _, p, h => by
    obtain ⟨a, vs, rfl, h1, h2⟩ := h.lst'
    simp only [D.py]
    exact .lst (SqL.of (s _ _ h1)) (Reps.dp s n ds vs (by simpa [plain] using p) h2)
  | 0, .tup _, _, p, _ => by simp [plain] at p
  | 0, .lst _, _, p, _ => by simp [plain] at p
  | n, .dk _, _, p, _ => by cases n <;> simp [plain] at p
  | n, .obj _ _, _, p, _ => by cases n <;> simp [plain] at p
  | n, .src, _, p, _ => by cases n <;> simp [plain] at p
  | n, .ref _, _, p, _ => by cases n <;> simp [plain] at p
  | n, .exc _ _ _ _, _, p, _ => by cases n <;> simp [plain] at p
theorem Reps.dp (s : Sub F H) : ∀ (n : Nat) (ds : List D) (vs : List V), plains n ds = true → Reps w F ds vs → DpAll w.K H vs (pys ds)
  | _, [], _, _, h => by rw [h.nil']; simp only [pys]; exact .nil
  | n, d :: ds, vs, p, h => by
    obtain ⟨v, r, rfl, h1, h2⟩ := h.inv
    simp only [plains, Bool.and_eq_true] at p
    simp only [pys]
    exact .cons (Rep.dp s n d v p.1 h1) (Reps.dp s n ds r p.2 h2)
end
mutual
theorem plain_lay : ∀ (n : Nat) (d : D), plain n d = true → d.py.canLay0 = true ∧ d.py.depth ≤ n
  | _, .non, _ => by simp [D.py, PyData.canLay0, PyData.depth]
  | _, .bl b, _ => by simp [D.py, PyData.canLay0, PyData.depth]
  | _, .int b, _ => by simp [D.py, PyData.canLay0, PyData.depth]
  | n, .str b, h => by cases n <;> simpa [D.py, PyData.canLay0, PyData.depth, plain] using h
  | n + 1, .tup ds, p => by
    have := plains_lay n ds (by simpa [plain] using p)
    simp only [D.py, PyData.canLay0, PyData.depth]
    exact ⟨this.1, by omega⟩
  | n + 1, .lst ds, p => by
    have := plains_lay n ds (by simpa [plain] using p)
    simp only [D.py, PyData.canLay0, PyData.depth]
    exact ⟨this.1, by omega⟩
  | 0, .tup _, p => by simp [plain] at p
  | 0, .lst _, p => by simp [plain] at p
  | n, .dk _, p => by cases n <;> simp [plain] at p
  | n, .obj _ _, p => by cases n <;> simp [plain] at p
  | n, .src, p => by cases n <;> simp [plain] at p
  | n, .ref _, p => by cases n <;> simp [plain] at p
  | n, .exc _ _ _ _, p => by cases n <;> simp [plain] at p
theorem plains_lay : ∀ (n : Nat) (ds : List D), plains n ds = true → PyData.canLayAll0 (pys ds) = true ∧ PyData.depthAll (pys ds) ≤ n
  | _, [], _ => by simp [pys, PyData.canLayAll0, PyData.depthAll]
  | n, d :: ds, p => by
    simp only [plains, Bool.and_eq_true] at p
    have h1 := plain_lay n d p.1
    have h2 := plains_lay n ds p.2
    simp only [pys, PyData.canLayAll0, PyData.depthAll, Bool.and_eq_true]
    exact ⟨⟨h1.1, h2.1⟩, by omega⟩
end
theorem plain_shaped {n : Nat} {d : D} (hn : n ≤ 60) (h : plain n d = true) : SeqAt.shaped d.py = true := by
  have := plain_lay n d h
  unfold SeqAt.shaped
  rw [Bool.and_eq_true]
  exact ⟨this.1, decide_eq_true (by omega)⟩
end
section
variable {X : Cx}
/-- Python's == of plain data -/
def deq (d e : D) : Bool := PyData.eqv d.py e.py
theorem ueq (hu : X.A.units + 64 < cLine) : UOp X (compareOp .Eq) (fun x y Q => plain 8 x = true ∧ plain 8 y = true ∧ Q (.bl (deq x y))) := OpR.imp (op_eqD hu) fun x y H Q ⟨n, F, d, e, Q0, hK, ok, r1, r2, ⟨p1, p2, q⟩, k⟩ =>
  ⟨d.py, e.py, hK ▸ Rep.dp ok.sub 8 d x p1 r1, hK ▸ Rep.dp ok.sub 8 e y p2 r2, plain_shaped (by decide) p1, plain_shaped (by decide) p2, k _ _ F H q (Mv.refl ok) (rBl ..)⟩
theorem une (hu : X.A.units + 64 < cLine) : UOp X (compareOp .NotEq) (fun x y Q => plain 8 x = true ∧ plain 8 y = true ∧ Q (.bl (!deq x y))) := OpR.imp (op_neD hu) fun x y H Q ⟨n, F, d, e, Q0, hK, ok, r1, r2, ⟨p1, p2, q⟩, k⟩ =>
  ⟨d.py, e.py, hK ▸ Rep.dp ok.sub 8 d x p1 r1, hK ▸ Rep.dp ok.sub 8 e y p2 r2, plain_shaped (by decide) p1, plain_shaped (by decide) p2, k _ _ F H q (Mv.refl ok) (rBl ..)⟩
end
end U

set_option Elab.async false
set_option linter.all false
set_option maxRecDepth 100000
set_option maxHeartbeats 4000000
namespace U
open PySem L2

theorem hu64 {A : Around} {k : Nat} (hr : Room k A) : A.units + 64 < cLine := by have := hr.un; omega
theorem hu65 {A : Around} {k : Nat} (hr : Room k A) : A.units + 65 < cLine := by have := hr.un; omega
theorem hu1 {A : Around} {k : Nat} (hr : Room k A) : A.units + 1 < cLine := by have := hr.un; omega

/-! ### tests -/
/-- a value's truth -/
def D.tru : D → Option Bool
  | .non => some false
  | .bl b => some b
  | .int i => some (i != 0)
  | .tup xs => some (!xs.isEmpty)
  | .lst xs => some (!xs.isEmpty)
  | .dk xs => some (!xs.isEmpty)
  | _ => none
theorem RepK.length {w : Wd} {F : Hp} : ∀ {ds : List (Key × D)} {vs : List (Key × V)}, RepK w F ds vs → vs.length = ds.length
  | [], vs, h => by
    simp only [RepK] at h
    rw [h]; rfl
  | (k, d) :: ds, vs, h => by
    simp only [RepK] at h
    obtain ⟨v, r, rfl, _, t⟩ := h
    simp [RepK.length t]
theorem empty_of {α β : Type} {a : List α} {b : List β} (h : a.length = b.length) : a.isEmpty = b.isEmpty := by
  cases a <;> cases b <;> simp_all
theorem tru_of {K : PySem.W.Frag} {w : Wd} {F H : Hp} (hK : w.K = K) (s : Sub F H) : ∀ {d : D} {v : V} {b : Bool}, Rep w F d v → d.tru = some b → TruV K v H b
  | .non, v, b, r, h => by rw [r.non']; simp [D.tru] at h; simp [TruV, h]
  | .bl _, v, b, r, h => by rw [r.bl']; simp [D.tru] at h; simp [TruV, h]
  | .int _, v, b, r, h => by rw [r.int']; simp [D.tru] at h; simp [TruV, h]
  | .tup _, v, b, r, h => by
    obtain ⟨a, vs, rfl, h1, h2⟩ := r.tup'
    simp [D.tru] at h
    refine .inr (.inl ⟨vs, sqT_mono s (hK ▸ h1), ?_⟩)
    rw [empty_of h2.length, h]; simp
  | .lst _, v, b, r, h => by
    obtain ⟨a, vs, rfl, h1, h2⟩ := r.lst'
    simp [D.tru] at h
    refine .inl ⟨vs, SqL.of (s _ _ h1), ?_⟩
    rw [empty_of h2.length, h]; simp
  | .dk _, v, b, r, h => by
    obtain ⟨a, vs, rfl, h1, h2⟩ := r.dk'
    simp [D.tru] at h
    refine .inr (.inr ⟨vs, s _ _ h1, ?_⟩)
    rw [empty_of h2.length, h]; simp
  | .str _, v, b, r, h => by simp [D.tru] at h
  | .obj _ _, v, b, r, h => by simp [D.tru] at h
  | .src, v, b, r, h => by simp [D.tru] at h
  | .ref _, v, b, r, h => by simp [D.tru] at h
  | .exc _ _ _ _, v, b, r, h => by simp [D.tru] at h
section
variable {X : Cx} {e a b c : Expr} {es : List Expr} {t ta tb tc : TP} {tA tB : TPb} {pos : Pos}
theorem UT.of {t : TPb} {t' : TT} (p : PT X e t') (h : ∀ n F H ρ σ Q0, At X n F H ρ σ → t ρ Q0 → ∀ Q : Bool → Hp → Prop, (∀ b F' H', Q0 b → Mv n F H F' H' → Q b H') → t' σ H Q) : UT X e t :=
  ⟨PT.imp p fun σ H Q ⟨n, F, ρ, Q0, hA, q, k⟩ => h n F H ρ σ Q0 hA q Q k⟩
theorem UW.of {t : TPb} {t' : TT} (p : PW X e t') (h : ∀ n F H ρ σ Q0, At X n F H ρ σ → t ρ Q0 → ∀ Q : Bool → Hp → Prop, (∀ b F' H', Q0 b → Mv n F H F' H' → Q b H') → t' σ H Q) : UW X e t :=
  ⟨PW.imp p fun σ H Q ⟨n, F, ρ, Q0, hA, q, k⟩ => h n F H ρ σ Q0 hA q Q k⟩
theorem UW.ut {t : TPb} (h : UW X e t) : UT X e t := ⟨h.run.pt⟩
def uTru (t : TP) : TPb := fun ρ Q => t ρ fun d => ∃ b, d.tru = some b ∧ Q b
theorem ut_tru (h : UE X a t) (he : ∀ whole, isTrue a X.env whole = (do let v ← whole; standAt a.pos; holding [v] (truthy v)) := by intro _; rfl) : UT X a (uTru t) :=
  .of (pt_truth h.run he) fun n F H ρ σ Q0 hA q Q k => ⟨n, F, ρ, _, hA, q, fun d v F1 H1 ⟨b, e1, q1⟩ m1 r1 => ⟨b, tru_of hA.k m1.ok.sub r1 e1, k b F1 H1 q1 m1⟩⟩
/-- a list read now, as a test -/
theorem ut_truR {t : TPs} (h : UR X a t) (he : ∀ whole, isTrue a X.env whole = (do let v ← whole; standAt a.pos; holding [v] (truthy v)) := by intro _; rfl) : UT X a (fun ρ Q => t ρ fun xs => Q (!xs.isEmpty)) :=
  .of (pt_truth h.run he) fun n F H ρ σ Q0 hA q Q k => ⟨n, F, ρ, _, hA, q, fun xs a vs F1 H1 q1 m1 h1 h2 r => ⟨!xs.isEmpty, .inl ⟨vs, SqL.of h2, by rw [empty_of r.length]⟩, k _ F1 H1 q1 m1⟩⟩
def uNot (t : TPb) : TPb := fun ρ Q => t ρ fun b => Q (!b)
theorem ut_not (h : UT X a tA) : UT X (.UnaryOp .Not a pos) (uNot tA) := .of (pt_not h.run) fun n F H ρ σ Q0 hA q Q k => ⟨n, F, ρ, _, hA, q, fun b F1 H1 q1 m1 => k _ F1 H1 q1 m1⟩
def uAnd (t u : TPb) : TPb := fun ρ Q => t ρ fun b => if b = true then u ρ Q else Q false
def uOr (t u : TPb) : TPb := fun ρ Q => t ρ fun b => if b = true then Q true else u ρ Q
variable {rest : List Expr}
theorem uw_and1 (h : UT X a tA) : UW X (.BoolOp .And [a] pos) tA := ⟨pw_and1 h.run⟩
theorem uw_or1 (h : UT X a tA) : UW X (.BoolOp .Or [a] pos) tA := ⟨pw_or1 h.run⟩
theorem uw_and (ha : UT X a tA) (hb : UW X (.BoolOp .And (b :: rest) pos) tB) : UW X (.BoolOp .And (a :: b :: rest) pos) (uAnd tA tB) := .of (pw_and ha.run hb.run) fun n F H ρ σ Q0 hA q Q k => by
  refine ⟨n, F, ρ, _, hA, q, fun c F1 H1 q1 m1 => ?_⟩
  cases c with
  | true =>
    refine iteT ?_
    exact ⟨n, F1, ρ, Q0, hA.mv m1, q1, fun b F2 H2 q2 m2 => k b F2 H2 q2 (m1.trans hA.er.ok m2)⟩
  | false =>
    refine iteF ?_
    exact k false F1 H1 q1 m1
theorem uw_or (ha : UT X a tA) (hb : UW X (.BoolOp .Or (b :: rest) pos) tB) : UW X (.BoolOp .Or (a :: b :: rest) pos) (uOr tA tB) := .of (pw_or ha.run hb.run) fun n F H ρ σ Q0 hA q Q k => by
  refine ⟨n, F, ρ, _, hA, q, fun c F1 H1 q1 m1 => ?_⟩
  cases c with
  | true =>
    refine iteT ?_
    exact k true F1 H1 q1 m1
  | false =>
    refine iteF ?_
    exact ⟨n, F1, ρ, Q0, hA.mv m1, q1, fun b F2 H2 q2 m2 => k b F2 H2 q2 (m1.trans hA.er.ok m2)⟩
def uIf (t : TPb) (ta tb : TP) : TP := fun ρ Q => t ρ fun b => if b = true then ta ρ Q else tb ρ Q
theorem u_ifExp (hc : UT X c tA) (ha : UE X a ta) (hb : UE X b tb) : UE X (.IfExp c a b pos) (uIf tA ta tb) := .of (pe_ifExp hc.run ha.run hb.run) fun n F H ρ σ Q0 hA q Q k => by
  refine ⟨n, F, ρ, _, hA, q, fun c F1 H1 q1 m1 => ?_⟩
  cases c with
  | true =>
    refine iteT ?_
    exact ⟨n, F1, ρ, Q0, hA.mv m1, q1, fun d v F2 H2 q2 m2 => k d v F2 H2 q2 (m1.trans hA.er.ok m2)⟩
  | false =>
    refine iteF ?_
    exact ⟨n, F1, ρ, Q0, hA.mv m1, q1, fun d v F2 H2 q2 m2 => k d v F2 H2 q2 (m1.trans hA.er.ok m2)⟩
/-- and, or of truth values as values -/
theorem u_one {op} (h : UE X a t) : UE X (.BoolOp op [a] pos) t := ⟨pe_one h.run⟩
theorem u_and (ha : UE X a ta) (hb : UE X (.BoolOp .And (b :: rest) pos) tb) : UE X (.BoolOp .And (a :: b :: rest) pos) (fun ρ Q => ta ρ fun d => ∃ c, d = .bl c ∧ if c = true then tb ρ Q else Q (.bl false)) := .of (pe_and ha.run hb.run) fun n F H ρ σ Q0 hA q Q k => by
  refine ⟨n, F, ρ, _, hA, q, fun d v F1 H1 ⟨c, e1, q1⟩ m1 r1 => ?_⟩
  subst e1
  refine ⟨c, r1.bl', ?_⟩
  cases c with
  | true =>
    refine iteT ?_
    exact ⟨n, F1, ρ, Q0, hA.mv m1, q1, fun d v F2 H2 q2 m2 => k d v F2 H2 q2 (m1.trans hA.er.ok m2)⟩
  | false =>
    refine iteF ?_
    exact k _ _ F1 H1 q1 m1 (rBl ..)

/-! ### calls of what is built in -/
def rCl (X : Cx) (r : List D → (D → Prop) → Prop) : List V → Hp → VK → Prop := fun xs H Q => ∃ n F ds Q0, n.w.K = X.K ∧ Ok n F H ∧ Reps n.w F ds xs ∧ r ds Q0 ∧ ∀ z v F' H', Q0 z → Mv n F H F' H' → Rep n.w F' z v → Q v H'
def UCl (X : Cx) (f : Value) (r : List D → (D → Prop) → Prop) : Prop := CallR X f (rCl X r)
def uCl (r : List D → (D → Prop) → Prop) (t : TPs) : TP := fun ρ Q => t ρ fun ds => r ds Q
theorem uCl_ok {r : List D → (D → Prop) → Prop} {t : TPs} {σ : St} {H : Hp} {Q : VK} (h : rE X (uCl r t) σ H Q) : rA X t σ H fun vs H1 => rCl X r vs H1 Q := by
  obtain ⟨n, F, ρ, Q0, hA, q, k⟩ := h
  exact ⟨n, F, ρ, _, hA, q, fun ds vs F1 H1 q1 m1 r1 => ⟨n, F1, ds, Q0, hA.k, m1.ok, r1, q1, fun z v F2 H2 q2 m2 r2 => k z v F2 H2 q2 (m1.trans hA.er.ok m2) r2⟩⟩
variable {x : Str} {p : Pos} {id T : String} {r : List D → (D → Prop) → Prop} {ts : TPs}
theorem u_callB (hc : UCl X (.builtin id) r) (hg : Gl X x) (hm : X.mg x = none) (hv : bootBuiltins x = some (.builtin id)) (ha : UA X (e :: es) ts) (hn : x ≠ "__name__" := by decide) (hdb : (x == ("__debug__" : Str)) = false := by decide)
    (he : starEach (e :: es) X.env = (false, eval e X.env) :: starEach es X.env := by rfl) (hpl : (backTo pos (starEach es X.env)).any (·.1) = false := by rfl) : UE X (.Call (.Name x p) (e :: es) [] pos) (uCl r ts) :=
  ⟨PE.imp (pe_callB hc hg hm hv ha.run hn hdb he hpl) fun σ H Q h => uCl_ok h⟩
theorem u_callTy (hc : UCl X (.type T) r) (hg : Gl X x) (hm : X.mg x = none) (hv : bootBuiltins x = some (.type T)) (ha : UA X (e :: es) ts) (hn : x ≠ "__name__" := by decide) (hdb : (x == ("__debug__" : Str)) = false := by decide)
    (he : starEach (e :: es) X.env = (false, eval e X.env) :: starEach es X.env := by rfl) (hpl : (backTo pos (starEach es X.env)).any (·.1) = false := by rfl) : UE X (.Call (.Name x p) (e :: es) [] pos) (uCl r ts) :=
  ⟨PE.imp (pe_callTy hc hg hm hv ha.run hn hdb he hpl) fun σ H Q h => uCl_ok h⟩
theorem Reps.single {w : Wd} {F : Hp} {d : D} {vs : List V} (h : Reps w F [d] vs) : ∃ v, vs = [v] ∧ Rep w F d v := by
  obtain ⟨v, r, rfl, h1, h2⟩ := h.inv
  exact ⟨v, by rw [h2.nil'], h1⟩
theorem ucl_len : UCl X (.builtin "len") (fun ds Q => ∃ xs, (ds = [.tup xs] ∨ ds = [.lst xs]) ∧ Q (.int xs.length)) := CallR.imp call_len_seq fun xs H Q ⟨n, F, ds, Q0, hK, ok, r, ⟨ys, h, q⟩, k⟩ => by
  rcases h with rfl | rfl
  · obtain ⟨v, rfl, r1⟩ := r.single
    obtain ⟨a, vs, rfl, h1, h2⟩ := r1.tup'
    exact ⟨a, vs, rfl, .inr (sqT_mono ok.sub (hK ▸ h1)), k _ _ F H q (Mv.refl ok) (by rw [h2.length]; exact rInt ..)⟩
  · obtain ⟨v, rfl, r1⟩ := r.single
    obtain ⟨a, vs, rfl, h1, h2⟩ := r1.lst'
    exact ⟨a, vs, rfl, .inl (SqL.of (ok.sub _ _ h1)), k _ _ F H q (Mv.refl ok) (by rw [h2.length]; exact rInt ..)⟩
theorem ucl_int : UCl X (.type "int") (fun ds Q => ∃ i, ds = [.int i] ∧ Q (.int i)) := CallR.imp call_int1 fun xs H Q ⟨n, F, ds, Q0, hK, ok, r, ⟨i, e, q⟩, k⟩ => by
  subst e
  obtain ⟨v, rfl, r1⟩ := r.single
  rw [r1.int']
  exact .inl ⟨i, rfl, k _ _ F H q (Mv.refl ok) (rInt ..)⟩
theorem ucl_str : UCl X (.type "str") (fun ds Q => ∃ i, ds = [.int i] ∧ i.natAbs.log2 < 1920 ∧ Q (.str (toString i))) := CallR.imp call_str_int fun xs H Q ⟨n, F, ds, Q0, hK, ok, r, ⟨i, e, hb, q⟩, k⟩ => by
  subst e
  obtain ⟨v, rfl, r1⟩ := r.single
  rw [r1.int']
  exact ⟨i, rfl, hb, k _ _ F H q (Mv.refl ok) (rStr ..)⟩
theorem ucl_tuple : UCl X (.type "tuple") (fun ds Q => ∃ xs, (ds = [.tup xs] ∨ ds = [.lst xs]) ∧ Q (.tup xs)) := CallR.imp call_tuple_of fun xs H Q ⟨n, F, ds, Q0, hK, ok, r, ⟨ys, h, q⟩, k⟩ => by
  rcases h with rfl | rfl
  · obtain ⟨v, rfl, r1⟩ := r.single
    obtain ⟨a, vs, rfl, h1, h2⟩ := id r1.tup'
    exact ⟨a, vs, rfl, .inr ⟨sqT_mono ok.sub (hK ▸ h1), k _ _ F H q (Mv.refl ok) r1⟩⟩
  · obtain ⟨v, rfl, r1⟩ := r.single
    obtain ⟨a, vs, rfl, h1, h2⟩ := r1.lst'
    exact ⟨a, vs, rfl, .inl ⟨SqL.of (ok.sub _ _ h1), fun l hl => k _ _ _ _ q (Mv.frozen ok hl _) (Rep.tup_new ok hl h2)⟩⟩
/-- the arguments: one list, read now -/
theorem rR_A {t : TPs} (h : UR X e t) (hs : starEach [e] X.env = (false, eval e X.env) :: starEach [] X.env := by rfl) : PA X [e] (fun σ H Q => rR X t σ H fun v H1 => Q [v] H1) :=
  PA.imp (pa_cons h.run pa_nil hs) fun σ H Q h => h
def rC1 (X : Cx) (r : List D → (D → Prop) → Prop) : List V → Hp → VK → Prop := fun xs H Q => ∃ n F zs a vs Q0, n.w.K = X.K ∧ Ok n F H ∧ xs = [.ref a] ∧ H a = some (.lst vs) ∧ Reps n.w F zs vs ∧ r zs Q0 ∧ ∀ z v F' H', Q0 z → Mv n F H F' H' → Rep n.w F' z v → Q v H'
/-- a function of one list that is read now -/
def UC1 (X : Cx) (f : Value) (r : List D → (D → Prop) → Prop) : Prop := CallR X f (rC1 X r)
theorem uC1_ok {t : TPs} {σ : St} {H : Hp} {Q : VK} (h : rE X (fun ρ Q => t ρ fun xs => r xs Q) σ H Q) : rR X t σ H fun v H1 => rC1 X r [v] H1 Q := by
  obtain ⟨n, F, ρ, Q0, hA, q, k⟩ := h
  exact ⟨n, F, ρ, _, hA, q, fun zs a vs F1 H1 q1 m1 h1 h2 r1 => ⟨n, F1, zs, a, vs, Q0, hA.k, m1.ok, rfl, h2, r1, q1, fun z v F2 H2 q2 m2 r2 => k z v F2 H2 q2 (m1.trans hA.er.ok m2) r2⟩⟩
theorem u_callB1 {t : TPs} (hc : UC1 X (.builtin id) r) (hg : Gl X x) (hm : X.mg x = none) (hv : bootBuiltins x = some (.builtin id)) (ha : UR X e t) (hn : x ≠ "__name__" := by decide) (hdb : (x == ("__debug__" : Str)) = false := by decide)
    (he : starEach [e] X.env = (false, eval e X.env) :: starEach [] X.env := by rfl) (hpl : (backTo pos (starEach [] X.env)).any (·.1) = false := by rfl) : UE X (.Call (.Name x p) [e] [] pos) (fun ρ Q => t ρ fun xs => r xs Q) :=
  ⟨PE.imp (pe_callB hc hg hm hv (rR_A ha he) hn hdb he hpl) fun σ H Q h => uC1_ok h⟩
theorem u_callTy1 {t : TPs} (hc : UC1 X (.type T) r) (hg : Gl X x) (hm : X.mg x = none) (hv : bootBuiltins x = some (.type T)) (ha : UR X e t) (hn : x ≠ "__name__" := by decide) (hdb : (x == ("__debug__" : Str)) = false := by decide)
    (he : starEach [e] X.env = (false, eval e X.env) :: starEach [] X.env := by rfl) (hpl : (backTo pos (starEach [] X.env)).any (·.1) = false := by rfl) : UE X (.Call (.Name x p) [e] [] pos) (fun ρ Q => t ρ fun xs => r xs Q) :=
  ⟨PE.imp (pe_callTy hc hg hm hv (rR_A ha he) hn hdb he hpl) fun σ H Q h => uC1_ok h⟩
theorem uc1_len : UC1 X (.builtin "len") (fun xs Q => Q (.int xs.length)) := CallR.imp call_len_seq fun xs H Q ⟨n, F, zs, a, vs, Q0, hK, ok, e, h, r, q, k⟩ => by
  subst e
  exact ⟨a, vs, rfl, .inl (SqL.of h), k _ _ F H q (Mv.refl ok) (by rw [r.length]; exact rInt ..)⟩
theorem uc1_tuple : UC1 X (.type "tuple") (fun xs Q => Q (.tup xs)) := CallR.imp call_tuple_of fun xs H Q ⟨n, F, zs, a, vs, Q0, hK, ok, e, h, r, q, k⟩ => by
  subst e
  exact ⟨a, vs, rfl, .inl ⟨SqL.of h, fun l hl => k _ _ _ _ q (Mv.frozen ok hl _) (Rep.tup_new ok hl r)⟩⟩
theorem reps_bls {w : Wd} {F : Hp} : ∀ {bs : List Bool} {vs : List V}, Reps w F (bs.map D.bl) vs → vs = bs.map V.bl
  | [], vs, r => by simpa using r.nil'
  | b :: bs, vs, r => by
    obtain ⟨v, r', rfl, h1, h2⟩ := r.inv
    rw [List.map_cons, h1.bl', reps_bls h2]
theorem reps_ints {w : Wd} {F : Hp} : ∀ {bs : List Int} {vs : List V}, Reps w F (bs.map D.int) vs → vs = bs.map V.int
  | [], vs, r => by simpa using r.nil'
  | b :: bs, vs, r => by
    obtain ⟨v, r', rfl, h1, h2⟩ := r.inv
    rw [List.map_cons, h1.int', reps_ints h2]
theorem uc1_all (hc : X.calm = true) : UC1 X (.builtin "all") (fun xs Q => ∃ bs : List Bool, xs = bs.map D.bl ∧ Q (.bl (bs.all _root_.id))) := CallR.imp (cr_all hc) fun xs H Q ⟨n, F, zs, a, vs, Q0, hK, ok, e, h, r, ⟨bs, e2, q⟩, k⟩ => by
  subst e; subst e2
  have := reps_bls r
  subst this
  exact ⟨a, bs, rfl, SqL.of h, k _ _ F H q (Mv.refl ok) (rBl ..)⟩
/-- list(x): a new list -/
theorem ul_list {t : TP} (hg : Gl X "list") (hm : X.mg "list" = none) (h : UE X e t) (he : starEach [e] X.env = (false, eval e X.env) :: starEach [] X.env := by rfl) (hpl : (backTo pos (starEach [] X.env)).any (·.1) = false := by rfl) :
    UL X (.Call (.Name "list" p) [e] [] pos) (fun ρ Q => t ρ fun d => ∃ xs, (d = .tup xs ∨ d = .lst xs) ∧ Q xs) :=
  ⟨PE.imp (pe_callTy call_list_of hg hm PyProof.Rows.boot_list (pa_cons h.run pa_nil he) (by decide) (by decide) he hpl) fun σ H Q ⟨n, F, ρ, Q0, hA, q, k⟩ => by
    refine ⟨n, F, ρ, _, hA, q, fun d v F1 H1 ⟨xs, hd, q1⟩ m1 r1 => ?_⟩
    rcases hd with rfl | rfl
    · obtain ⟨a, vs, rfl, h1, h2⟩ := r1.tup'
      refine ⟨a, vs, rfl, .inr (sqT_mono m1.ok.sub (hA.k ▸ h1)), fun l hl => ?_⟩
      exact k xs l vs _ _ q1 (m1.trans hA.er.ok (Mv.alloc m1.ok hl _)) (m1.back hl) (m1.ok.fresh hl).2.2 upd_same h2
    · obtain ⟨a, vs, rfl, h1, h2⟩ := r1.lst'
      refine ⟨a, vs, rfl, .inl (SqL.of (m1.ok.sub _ _ h1)), fun l hl => ?_⟩
      exact k xs l vs _ _ q1 (m1.trans hA.er.ok (Mv.alloc m1.ok hl _)) (m1.back hl) (m1.ok.fresh hl).2.2 upd_same h2⟩
theorem ul_listR {t : TPs} (hg : Gl X "list") (hm : X.mg "list" = none) (h : UR X e t) (he : starEach [e] X.env = (false, eval e X.env) :: starEach [] X.env := by rfl) (hpl : (backTo pos (starEach [] X.env)).any (·.1) = false := by rfl) :
    UL X (.Call (.Name "list" p) [e] [] pos) t :=
  ⟨PE.imp (pe_callTy call_list_of hg hm PyProof.Rows.boot_list (rR_A h he) (by decide) (by decide) he hpl) fun σ H Q ⟨n, F, ρ, Q0, hA, q, k⟩ => by
    refine ⟨n, F, ρ, _, hA, q, fun xs a vs F1 H1 q1 m1 h1 h2 r1 => ?_⟩
    refine ⟨a, vs, rfl, .inl (SqL.of h2), fun l hl => ?_⟩
    exact k xs l vs _ _ q1 (m1.trans hA.er.ok (Mv.alloc m1.ok hl _)) (m1.back hl) (m1.ok.fresh hl).2.2 upd_same r1⟩

/-! ### items, slices -/
theorem atI_get {xs : List D} {vs : List V} {w : Wd} {F : Hp} (r : Reps w F xs vs) {i : Int} {d : D} (h : atI xs i = some d) : ∃ v, atI vs i = some v ∧ Rep w F d v := by
  unfold atI at h ⊢
  rw [r.length]
  cases e : ixN xs.length i with
  | none => rw [e] at h; cases h
  | some j =>
    rw [e] at h
    simp only [Option.bind_some] at h ⊢
    exact r.get h
theorem u_ix (ha : UE X a ta) (hb : UE X b tb) (hs : PlainIx b) : UE X (.Subscript a b pos) (fun ρ Q => ta ρ fun x => tb ρ fun y => ∃ i, y = .int i ∧ ((∃ xs d, (x = .tup xs ∨ x = .lst xs) ∧ atI xs i = some d ∧ Q d) ∨ ∃ z c, x = .str z ∧ z.length ≤ sizeLine ∧ atI z.cps.toList i = some c ∧ Q (.str ⟨#[c]⟩))) :=
  .of (pe_ix ix_seq ha.run hb.run hs) fun n F H ρ σ Q0 hA q Q k => by
    refine ⟨n, F, ρ, _, hA, q, fun d v F1 H1 q1 m1 r1 => ?_⟩
    refine ⟨n, F1, ρ, _, hA.mv m1, q1, fun y u F2 H2 ⟨i, e, q2⟩ m2 r2 => ?_⟩
    subst e
    rw [r2.int']
    have m := m1.trans hA.er.ok m2
    rcases q2 with ⟨xs, z, hd, hz, q2⟩ | ⟨z, c, hd, hz, hc, q2⟩
    · rcases hd with rfl | rfl
      · obtain ⟨a, vs, rfl, h1, h2⟩ := (Rep.mono m2.ext _ _ r1).tup'
        obtain ⟨w, hw, rw'⟩ := atI_get h2 hz
        exact .inr (.inl ⟨a, vs, i, w, rfl, rfl, sqT_mono m2.ok.sub (hA.k ▸ h1), hw, k _ _ _ _ q2 m rw'⟩)
      · obtain ⟨a, vs, rfl, h1, h2⟩ := (Rep.mono m2.ext _ _ r1).lst'
        obtain ⟨w, hw, rw'⟩ := atI_get h2 hz
        exact .inl ⟨a, vs, i, w, rfl, rfl, SqL.of (m2.ok.sub _ _ h1), hw, k _ _ _ _ q2 m rw'⟩
    · subst hd
      rw [r1.str']
      exact .inr (.inr ⟨z, i, c, rfl, rfl, hz, hc, k _ _ _ _ q2 m (rStr ..)⟩)
/-- an item of a list that is read now -/
theorem u_ixR {t : TPs} (ha : UR X a t) (hb : UE X b tb) (hs : PlainIx b) : UE X (.Subscript a b pos) (fun ρ Q => t ρ fun xs => tb ρ fun y => ∃ i d, y = .int i ∧ atI xs i = some d ∧ Q d) :=
  .of (pe_ix ix_list ha.run hb.run hs) fun n F H ρ σ Q0 hA q Q k => by
    refine ⟨n, F, ρ, _, hA, q, fun xs a vs F1 H1 q1 m1 h1 h2 r1 => ?_⟩
    refine ⟨n, F1, ρ, _, hA.mv m1, q1, fun y u F2 H2 ⟨i, d, e, hd, q2⟩ m2 r2 => ?_⟩
    subst e
    rw [r2.int']
    obtain ⟨w, hw, rw'⟩ := atI_get (Reps.mono m2.ext _ _ r1) hd
    exact ⟨a, vs, i, w, rfl, rfl, SqL.of (m2.keep _ _ h2 h1), hw, k _ _ _ _ q2 (m1.trans hA.er.ok m2) rw'⟩
def cutD (xs : List D) (lo hi : Option Int) : List D := (xs.drop (HT.sIx xs.length 0 lo)).take (HT.sIx xs.length xs.length hi - HT.sIx xs.length 0 lo)
theorem Reps.cut {w : Wd} {F : Hp} {xs : List D} {vs : List V} (r : Reps w F xs vs) (lo hi : Option Int) : Reps w F (cutD xs lo hi) (cutV vs lo hi) := by
  unfold cutD cutV
  rw [r.length]
  exact (r.drop _).take _
theorem cutD_all {xs : List D} {lo hi : Option Int} (h : HT.sIx xs.length 0 lo = 0 ∧ HT.sIx xs.length xs.length hi = xs.length) : cutD xs lo hi = xs := by
  unfold cutD
  rw [h.1, h.2]
  simp
abbrev TPo := List Slot → (Option Int → Prop) → Prop
structure UO (X : Cx) (e : Option Expr) (t : TPo) : Prop where
  run : PO X e (fun σ H Q => ∃ n F ρ Q0, At X n F H ρ σ ∧ t ρ Q0 ∧ ∀ o F' H', Q0 o → Mv n F H F' H' → Q o H')
theorem uo_none : UO X none (fun _ Q => Q none) := ⟨⟨fun pins s σ H Q I ⟨n, F, ρ, Q0, hA, q, k⟩ => po_none.run pins s σ H Q I (k none F H q (Mv.refl hA.er.ok))⟩⟩
theorem uo_some (h : UE X e t) : UO X (some e) (fun ρ Q => t ρ fun d => ∃ i, d = .int i ∧ Q (some i)) := ⟨⟨fun pins s σ H Q I ⟨n, F, ρ, Q0, hA, q, k⟩ => (po_some h.run).run pins s σ H Q I
  ⟨n, F, ρ, _, hA, q, fun d v F1 H1 ⟨i, e1, q1⟩ m1 r1 => by subst e1; rw [r1.int']; exact ⟨i, rfl, k _ F1 H1 q1 m1⟩⟩⟩⟩
variable {lo hi : Option Expr} {tl th : TPo} {p2 : Pos}
/-- a tuple's slice -/
theorem u_slT (h : UE X e t) (hl : UO X lo tl) (hh : UO X hi th) : UE X (.Subscript e (.Slice lo hi none p2) pos) (fun ρ Q => t ρ fun d => tl ρ fun l => th ρ fun u => ∃ xs, d = .tup xs ∧ Q (.tup (cutD xs l u))) :=
  .of (pe_slice sl_tupA h.run hl.run hh.run) fun n F H ρ σ Q0 hA q Q k => by
    refine ⟨n, F, ρ, _, hA, q, fun d v F1 H1 q1 m1 r1 => ?_⟩
    refine ⟨n, F1, ρ, _, hA.mv m1, q1, fun l F2 H2 q2 m2 => ?_⟩
    refine ⟨n, F2, ρ, _, (hA.mv m1).mv m2, q2, fun u F3 H3 ⟨xs, e1, q3⟩ m3 => ?_⟩
    subst e1
    have m23 := m2.trans m1.ok m3
    have m := m1.trans hA.er.ok m23
    have r3 := Rep.mono m23.ext _ _ r1
    obtain ⟨a, vs, rfl, h1, h2⟩ := id r3.tup'
    refine ⟨a, vs, rfl, sqT_mono m3.ok.sub (hA.k ▸ h1), fun hz => ?_, fun hz p hp => ?_⟩
    · rw [h2.length] at hz
      rw [cutD_all hz] at q3
      exact k _ _ _ _ q3 m r3
    · exact k _ _ _ _ q3 (m.trans hA.er.ok (Mv.frozen m3.ok hp _)) (Rep.tup_new m3.ok hp (h2.cut l u))
/-- a list's slice -/
theorem ul_slL {t : TPs} (h : UR X e t) (hl : UO X lo tl) (hh : UO X hi th) : UL X (.Subscript e (.Slice lo hi none p2) pos) (fun ρ Q => t ρ fun xs => tl ρ fun l => th ρ fun u => Q (cutD xs l u)) :=
  ⟨PE.imp (pe_slice sl_list h.run hl.run hh.run) fun σ H Q ⟨n, F, ρ, Q0, hA, q, k⟩ => by
    refine ⟨n, F, ρ, _, hA, q, fun xs a vs F1 H1 q1 m1 h1 h2 r1 => ?_⟩
    refine ⟨n, F1, ρ, _, hA.mv m1, q1, fun l F2 H2 q2 m2 => ?_⟩
    refine ⟨n, F2, ρ, _, (hA.mv m1).mv m2, q2, fun u F3 H3 q3 m3 => ?_⟩
    have m23 := m2.trans m1.ok m3
    have m := m1.trans hA.er.ok m23
    refine ⟨a, vs, rfl, SqL.of (m23.keep _ _ h2 h1), fun p hp => ?_⟩
    exact k _ _ _ _ _ q3 (m.trans hA.er.ok (Mv.alloc m3.ok hp _)) (m.back hp) (m3.ok.fresh hp).2.2 upd_same ((Reps.mono m23.ext _ _ r1).cut l u)⟩
/-- two lists put together -/
theorem ul_cat {ta tb : TPs} (ha : UL X a ta) (hb : UL X b tb) : UL X (.BinOp a .Add b pos) (fun ρ Q => ta ρ fun xs => tb ρ fun ys => xs.length + ys.length ≤ sizeLine ∧ Q (xs ++ ys)) :=
  ⟨PE.imp (pe_op op_cat ha.run hb.run) fun σ H Q ⟨n, F, ρ, Q0, hA, q, k⟩ => by
    refine ⟨n, F, ρ, _, hA, q, fun xs a vs F1 H1 q1 m1 h1 h1' h2 r1 => ?_⟩
    refine ⟨n, F1, ρ, _, hA.mv m1, q1, fun ys b us F2 H2 ⟨q2, q3⟩ m2 g1 g1' g2 r2 => ?_⟩
    have m := m1.trans hA.er.ok m2
    have ha : ¬ n.ads a := (hA.er.ok.fresh h1).2.1
    refine ⟨a, b, vs, us, rfl, rfl, m2.keep _ _ h2 ha, g2, by rw [r1.length, r2.length]; exact q2, fun p hp => ?_⟩
    exact k _ _ _ _ _ q3 (m.trans hA.er.ok (Mv.alloc m2.ok hp _)) (m.back hp) (m2.ok.fresh hp).2.2 upd_same ((Reps.mono m2.ext _ _ r1).append r2)⟩
/-- two tuples put together -/
theorem ucat : UOp X (binaryOp .Add) (fun x y Q => ∃ xs ys, x = .tup xs ∧ y = .tup ys ∧ xs.length + ys.length ≤ sizeLine ∧ Q (.tup (xs ++ ys))) := OpR.imp op_catA fun x y H Q ⟨n, F, d, e, Q0, hK, ok, r1, r2, ⟨xs, ys, e1, e2, hl, q⟩, k⟩ => by
  subst e1; subst e2
  obtain ⟨a, vs, rfl, h1, h2⟩ := id r1.tup'
  obtain ⟨b, us, rfl, g1, g2⟩ := id r2.tup'
  refine ⟨a, b, vs, us, rfl, rfl, sqT_mono ok.sub (hK ▸ h1), sqT_mono ok.sub (hK ▸ g1), by rw [h2.length, g2.length]; exact hl, fun z => ?_, fun _ z => ?_, fun _ _ p hp => ?_⟩
  · subst z
    have : xs = [] := List.length_eq_zero_iff.mp h2.length.symm
    subst this
    exact k _ _ F H q (Mv.refl ok) r2
  · subst z
    have : ys = [] := List.length_eq_zero_iff.mp g2.length.symm
    subst this
    rw [List.append_nil] at q
    exact k _ _ F H q (Mv.refl ok) r1
  · exact k _ _ _ _ q (Mv.frozen ok hp _) (Rep.tup_new ok hp (h2.append g2))
theorem ucats : UOp X (binaryOp .Add) (fun x y Q => ∃ u v, x = .str u ∧ y = .str v ∧ u.length + v.length ≤ sizeLine ∧ Q (.str (u ++ v))) := OpR.imp op_add_str fun x y H Q ⟨n, F, d, e, Q0, hK, ok, r1, r2, ⟨xs, ys, e1, e2, hl, q⟩, k⟩ => by
  subst e1; subst e2
  rw [r1.str', r2.str']
  exact ⟨xs, ys, rfl, rfl, hl, k _ _ F H q (Mv.refl ok) (rStr ..)⟩
end
end U

set_option Elab.async false
set_option linter.all false
set_option maxRecDepth 100000
set_option maxHeartbeats 4000000
namespace U
open PySem PySem.Spec PyProof.Rows L2

/-! ### x in a list, in a tuple -/
section
variable {X : Cx}
def rInA (K : PySem.W.Frag) (neg : Bool) : R2 := fun x y H Q => ∃ d ds, Dp K H x d ∧ (Dp K H y (.list ds) ∨ Dp K H y (.tuple ds)) ∧ SeqAt.shaped d = true ∧ SeqAt.shaped (.list ds) = true ∧ Q (.bl (if neg then !(ds.any fun z => PyData.eqv z d) else ds.any fun z => PyData.eqv z d)) H
theorem op_inA (hu : X.A.units + 65 < cLine) : OpR X (compareOp .In) (rInA X.K false) := by
  intro pins s σ H x y v u Q I rx ry h
  obtain ⟨d, ds, hd, he, sd, se, q⟩ := h
  obtain ⟨as, r1⟩ := Dp.reads I d x v hd rx
  rcases he with he | he
  · obtain ⟨bs, r2⟩ := Dp.reads I (.list ds) y u he ry
    exact SeqAt.in_list_reads r2 r1 (SeqAt.canLay_of_shaped se) (SeqAt.canLay_of_shaped sd) (room_in_shaped sd hu) ⟨.bl _, H, I, rfl, q⟩
  · obtain ⟨bs, r2⟩ := Dp.reads I (.tuple ds) y u he ry
    exact SeqAt.in_tuple_reads r2 r1 (SeqAt.canLay_of_shaped se) (SeqAt.canLay_of_shaped sd) (room_in_shaped sd hu) ⟨.bl _, H, I, rfl, q⟩
theorem op_notInA (hu : X.A.units + 65 < cLine) : OpR X (compareOp .NotIn) (rInA X.K true) := by
  intro pins s σ H x y v u Q I rx ry h
  obtain ⟨d, ds, hd, he, sd, se, q⟩ := h
  obtain ⟨as, r1⟩ := Dp.reads I d x v hd rx
  rcases he with he | he
  · obtain ⟨bs, r2⟩ := Dp.reads I (.list ds) y u he ry
    exact SeqAt.notIn_list_reads r2 r1 (SeqAt.canLay_of_shaped se) (SeqAt.canLay_of_shaped sd) (room_in_shaped sd hu) ⟨.bl _, H, I, rfl, q⟩
  · obtain ⟨bs, r2⟩ := Dp.reads I (.tuple ds) y u he ry
    exact SeqAt.notIn_tuple_reads r2 r1 (SeqAt.canLay_of_shaped se) (SeqAt.canLay_of_shaped sd) (room_in_shaped sd hu) ⟨.bl _, H, I, rfl, q⟩
theorem pys_eq : ∀ xs : List D, pys xs = xs.map D.py
  | [] => rfl
  | x :: xs => by rw [pys, pys_eq xs]; rfl
theorem plains_shaped {n : Nat} {ds : List D} (hn : n ≤ 60) (h : plains n ds = true) : SeqAt.shaped (.list (pys ds)) = true := by
  have := plains_lay n ds h
  unfold SeqAt.shaped
  rw [Bool.and_eq_true]
  exact ⟨this.1, decide_eq_true (by simp only [PyData.depth]; omega)⟩
def inD (d : D) (xs : List D) : Bool := xs.any fun z => deq z d
theorem inD_py (d : D) (xs : List D) : ((pys xs).any fun z => PyData.eqv z d.py) = inD d xs := by
  rw [pys_eq, List.any_map]; rfl
def pIn (f : Bool → Bool) : R2p := fun x y Q => ∃ xs, (y = .lst xs ∨ y = .tup xs) ∧ plain 8 x = true ∧ plains 8 xs = true ∧ Q (.bl (f (inD x xs)))
theorem uin_core {n : En} {F H : Hp} {d : D} {xs : List D} {x y : V} (ok : Ok n F H) (r1 : Rep n.w F d x) (hy : ∃ a vs, y = .ref a ∧ (SqL n.w.K H a vs ∨ SqT n.w.K H a vs) ∧ Reps n.w F xs vs) (p1 : plain 8 d = true) (p2 : plains 8 xs = true) :
    Dp n.w.K H x d.py ∧ (Dp n.w.K H y (.list (pys xs)) ∨ Dp n.w.K H y (.tuple (pys xs))) ∧ SeqAt.shaped d.py = true ∧ SeqAt.shaped (.list (pys xs)) = true := by
  obtain ⟨a, vs, rfl, h, r⟩ := hy
  have hd := Reps.dp ok.sub 8 xs vs p2 r
  refine ⟨Rep.dp ok.sub 8 d x p1 r1, ?_, plain_shaped (by decide) p1, plains_shaped (by decide) p2⟩
  rcases h with h | h
  · exact .inl (.lst h hd)
  · exact .inr (.tup h hd)
theorem uin (hu : X.A.units + 65 < cLine) : UOp X (compareOp .In) (pIn fun b => b) := OpR.imp (op_inA hu) fun x y H Q ⟨n, F, d, e, Q0, hK, ok, r1, r2, ⟨xs, he, p1, p2, q⟩, k⟩ => by
  have hy : ∃ a vs, y = .ref a ∧ (SqL n.w.K H a vs ∨ SqT n.w.K H a vs) ∧ Reps n.w F xs vs := by
    rcases he with rfl | rfl
    · obtain ⟨a, vs, rfl, h1, h2⟩ := r2.lst'
      exact ⟨a, vs, rfl, .inl (SqL.of (ok.sub _ _ h1)), h2⟩
    · obtain ⟨a, vs, rfl, h1, h2⟩ := r2.tup'
      exact ⟨a, vs, rfl, .inr (sqT_mono ok.sub h1), h2⟩
  obtain ⟨a1, a2, a3, a4⟩ := uin_core ok r1 hy p1 p2
  refine ⟨_, _, hK ▸ a1, hK ▸ a2, a3, a4, ?_⟩
  rw [if_neg (by simp), inD_py]
  exact k _ _ F H q (Mv.refl ok) (rBl ..)
theorem unotin (hu : X.A.units + 65 < cLine) : UOp X (compareOp .NotIn) (pIn fun b => !b) := OpR.imp (op_notInA hu) fun x y H Q ⟨n, F, d, e, Q0, hK, ok, r1, r2, ⟨xs, he, p1, p2, q⟩, k⟩ => by
  have hy : ∃ a vs, y = .ref a ∧ (SqL n.w.K H a vs ∨ SqT n.w.K H a vs) ∧ Reps n.w F xs vs := by
    rcases he with rfl | rfl
    · obtain ⟨a, vs, rfl, h1, h2⟩ := r2.lst'
      exact ⟨a, vs, rfl, .inl (SqL.of (ok.sub _ _ h1)), h2⟩
    · obtain ⟨a, vs, rfl, h1, h2⟩ := r2.tup'
      exact ⟨a, vs, rfl, .inr (sqT_mono ok.sub h1), h2⟩
  obtain ⟨a1, a2, a3, a4⟩ := uin_core ok r1 hy p1 p2
  refine ⟨_, _, hK ▸ a1, hK ▸ a2, a3, a4, ?_⟩
  rw [if_pos rfl, inD_py]
  exact k _ _ F H q (Mv.refl ok) (rBl ..)
variable {a b : Expr} {ta tb : TP} {tr : TPs} {pos : Pos}
/-- x in a list that is read now, as a test -/
theorem ut_inR (hu : X.A.units + 65 < cLine) (ha : UE X a ta) (hb : UR X b tr) (hm : behindInMarks .In b = false := by rfl) : UT X (.Compare a [.In] [b] pos) (fun ρ Q => ta ρ fun d => tr ρ fun xs => plain 8 d = true ∧ plains 8 xs = true ∧ Q (inD d xs)) :=
  .of (pt_cmpR (op_inA hu) ha.run hb.run hm) fun n F H ρ σ Q0 hA q Q k => by
    refine ⟨n, F, ρ, _, hA, q, fun d v F1 H1 q1 m1 r1 => ?_⟩
    refine ⟨n, F1, ρ, _, hA.mv m1, q1, fun xs a vs F2 H2 ⟨p1, p2, q2⟩ m2 h1 h2 r2 => ?_⟩
    obtain ⟨a1, a2, a3, a4⟩ := uin_core m2.ok (Rep.mono m2.ext _ _ r1) ⟨a, vs, rfl, .inl (SqL.of h2), r2⟩ p1 p2
    refine ⟨_, _, hA.k ▸ a1, hA.k ▸ a2, a3, a4, inD d xs, ?_, k _ _ _ q2 (m1.trans hA.er.ok m2)⟩
    rw [if_neg (by simp), inD_py]
end

/-! ### sorted -/
theorem each_imp {α β : Type} {R S : α → β → Prop} {as : List α} {bs : List β} (h : PySem.W.EachIs R as bs) (f : ∀ a b, R a b → S a b) : PySem.W.EachIs S as bs := by
  induction h with
  | nil => exact .nil
  | cons h _ ih => exact .cons (f _ _ h) ih
theorem reps_pairs {w : Wd} {F : Hp} {vs : List V} {xs : List D} (r : Reps w F xs vs) : ∀ (ps : List (V × D)), (∀ q ∈ ps, ∃ i : Nat, vs[i]? = some q.1 ∧ xs[i]? = some q.2) → Reps w F (ps.map (·.2)) (ps.map (·.1))
  | [], _ => Reps.nil
  | z :: ps, h => by
    obtain ⟨i, z1, z2⟩ := h z (List.mem_cons_self ..)
    obtain ⟨v, z3, z4⟩ := r.get z2
    rw [z1] at z3
    cases z3
    exact Reps.cons z4 (reps_pairs r ps fun q hq => h q (List.mem_cons_of_mem _ hq))
theorem depth_mem : ∀ {xs : List D} {b : D}, b ∈ xs → b.py.depth ≤ PyData.depthAll (pys xs)
  | [], b, hb => by cases hb
  | x :: xs, b, hb => by
    simp only [pys, PyData.depthAll]
    rcases List.mem_cons.mp hb with rfl | hb
    · omega
    · have := depth_mem hb
      omega
section
variable {X : Cx} {e : Expr} {p pos : Pos}
open PySem.W in
theorem cr_sortedD {K : PySem.W.Frag} (hK : K = X.K) : CallR X (.builtin "sorted") (fun vs H Q => ∃ (a : Addr) (xs : List V) (bs : List D), vs = [V.ref a] ∧ SqL X.K H a xs ∧ DpAll X.K H xs (bs.map D.py) ∧ AllAlike (bs.map D.py) ∧ Sortable (bs.map D.py) ∧
      (∀ b ∈ bs, b.py.depth ≤ 60) ∧ X.A.units + 65 < cLine ∧ ∀ (ys : List V) (p : Addr), ys.length = bs.length → (∃ ps : List (V × D), ps.map (·.1) = ys ∧ ps.map (·.2) = bs.mergeSort (dataLe false D.py) ∧ ∀ q ∈ ps, ∃ i : Nat, xs[i]? = some q.1 ∧ bs[i]? = some q.2) → H p = none → Q (.ref p) (upd H p (.lst ys))) := by
  intro pins s σ H vs us Q I r h
  obtain ⟨a, xs, bs, rfl, hs, hd, hal, hk, hdp, hu, q⟩ := h
  obtain ⟨its, rv, hl, hz⟩ := I.list hs
  rw [Vals.ref1 r]
  have len1 := rv.length
  have len2 : its.length = bs.length := by
    obtain ⟨as, hr⟩ := Dp.readsAll I _ _ its hd rv
    have := SeqAt.ReadsAll.length _ _ _ hr
    simpa using this
  -- each value with its datum
  have each : EachIs (fun (u : Value) (d : D) => ∃ (i : Nat) (v : V), xs[i]? = some v ∧ bs[i]? = some d ∧ RelV v u) its bs := by
    have gen : ∀ (its : List Value) (xs : List V) (bs : List D), Vals xs its → its.length = bs.length → EachIs (fun (u : Value) (d : D) => ∃ (i : Nat) (v : V), xs[i]? = some v ∧ bs[i]? = some d ∧ RelV v u) its bs := by
      intro its
      induction its with
      | nil =>
        intro xs bs rv hl
        have : bs = [] := List.length_eq_zero_iff.mp hl.symm
        subst this
        exact .nil
      | cons u us ih =>
        intro xs bs rv hl
        cases bs with
        | nil => simp at hl
        | cons b bs =>
          cases rv with
          | cons r1 r2 =>
            rename_i v vs
            refine .cons ⟨0, v, rfl, rfl, r1⟩ ?_
            exact each_imp (ih vs bs r2 (by simpa using hl)) fun u d ⟨i, w, e1, e2, e3⟩ => ⟨i + 1, w, by simpa using e1, by simpa using e2, e3⟩
    exact gen its xs bs rv len2
  have each2 : EachIs (fun (u : Value) (d : D) => ∃ as, Reads s.heap u d.py as) its bs := by
    have gen : ∀ (its : List Value) (xs : List V) (bs : List D), Vals xs its → DpAll X.K H xs (bs.map D.py) → EachIs (fun (u : Value) (d : D) => ∃ as, Reads s.heap u d.py as) its bs := by
      intro its
      induction its with
      | nil =>
        intro xs bs rv hd
        cases rv
        cases bs with
        | nil => exact .nil
        | cons b bs => cases hd
      | cons u us ih =>
        intro xs bs rv hd
        cases rv with
        | cons r1 r2 =>
          cases bs with
          | nil => cases hd
          | cons b bs =>
            cases hd with
            | cons d1 d2 =>
              exact .cons (Dp.reads I _ _ _ d1 r1) (ih _ _ r2 d2)
    exact gen its xs bs rv hd
  refine sorted_data (vs := its) (bs := bs) (enc := D.py) hl.isList each each2 hal hk (by omega) (fun b hb => by have := hdp b hb; omega) fun out hlen hout => ?_
  obtain ⟨ep, he'⟩ := PyProof.Rows.sortedAll_at s.heap its out.toArray
  have back : ∃ ps : List (V × D), Vals (ps.map (·.1)) out ∧ ps.map (·.2) = bs.mergeSort (dataLe false D.py) ∧ ∀ q ∈ ps, ∃ i : Nat, xs[i]? = some q.1 ∧ bs[i]? = some q.2 := by
    generalize bs.mergeSort (dataLe false D.py) = cs at hout
    clear hlen he' q
    induction hout with
    | nil => exact ⟨[], .nil, rfl, fun q hq => by cases hq⟩
    | cons h _ ih =>
      obtain ⟨i, v, e1, e2, e3⟩ := h
      obtain ⟨ps, h1, h2, h3⟩ := ih
      refine ⟨(v, _) :: ps, .cons e3 h1, by rw [List.map_cons, h2], fun q hq => ?_⟩
      rcases List.mem_cons.mp hq with rfl | hq
      · exact ⟨i, e1, e2⟩
      · exact h3 q hq
  obtain ⟨ps, v1, v2, v3⟩ := back
  have hl2 : (ps.map (·.1)).length = bs.length := by
    have := congrArg List.length v2
    simpa using this
  exact ⟨.ref _, upd H (s.heap.objs.size + 1) (.lst (ps.map (·.1))), I.laid (t' := s.toks) (fun _ _ => PyProof.Rows.sortedAll_old) (Nat.le_succ _) ⟨by omega, out, ep, v1, he'⟩, rfl, q _ _ hl2 ⟨ps, rfl, v2, v3⟩ (I.hok.fresh (Nat.le_succ _))⟩
/-- data in the order of Python's < -/
def srt (xs : List D) : List D := xs.mergeSort (PySem.W.dataLe false D.py)
theorem ul_sorted {t : TPs} (hu : X.A.units + 65 < cLine) (hg : Gl X "sorted") (hm : X.mg "sorted" = none) (h : UR X e t) (he : starEach [e] X.env = (false, eval e X.env) :: starEach [] X.env := by rfl) (hpl : (backTo pos (starEach [] X.env)).any (·.1) = false := by rfl) :
    UL X (.Call (.Name "sorted" p) [e] [] pos) (fun ρ Q => t ρ fun xs => plains 8 xs = true ∧ PySem.W.AllAlike (xs.map D.py) ∧ PySem.W.Sortable (xs.map D.py) ∧ Q (srt xs)) :=
  ⟨PE.imp (pe_callB (cr_sortedD rfl) hg hm PyProof.Rows.boot_sorted (rR_A h he) (by decide) (by decide) he hpl) fun σ H Q ⟨n, F, ρ, Q0, hA, q, k⟩ => by
    refine ⟨n, F, ρ, _, hA, q, fun xs a vs F1 H1 ⟨p1, p2, p3, q1⟩ m1 h1 h2 r1 => ?_⟩
    have hd := Reps.dp m1.ok.sub 8 xs vs p1 r1
    rw [pys_eq] at hd
    refine ⟨a, vs, xs, rfl, SqL.of h2, hA.k ▸ hd, p2, p3, fun b hb => ?_, hu, fun ys pp hl ⟨ps, e1, e2, e3⟩ hp => ?_⟩
    · have h3 := (plains_lay 8 xs p1).2
      have := depth_mem hb
      omega
    · have rr : Reps n.w F1 (srt xs) ys := by
        subst e1
        unfold srt
        rw [← e2]
        exact reps_pairs r1 ps e3
      exact k _ _ _ _ _ q1 (m1.trans hA.er.ok (Mv.alloc m1.ok hp _)) (m1.back hp) (m1.ok.fresh hp).2.2 upd_same rr⟩
end

/-! ### dicts -/
section
variable {X : Cx} {e f o i : Expr} {t td ty tx : TP} {pos apos cpos : Pos}
def valD (kvs : List (Key × D)) (k : Key) : Option D := (kvs.find? fun kv => decide (kv.1 = k)).map (·.2)
def putD (kvs : List (Key × D)) (k : Key) (d : D) : List (Key × D) :=
  if (kvs.any fun kv => decide (kv.1 = k)) = true then kvs.map (fun kv => if kv.1 = k then (kv.1, d) else kv) else kvs ++ [(k, d)]
def kD : Key → D
  | .inl i => .int i
  | .inr x => .str x
theorem RepK.val {w : Wd} {F : Hp} : ∀ {ds : List (Key × D)} {kvs : List (Key × V)} (k : Key), RepK w F ds kvs → (∀ d, valD ds k = some d → ∃ v, valV kvs k = some v ∧ Rep w F d v) ∧ (valD ds k = none → valV kvs k = none)
  | [], kvs, k, h => by
    simp only [RepK] at h
    subst h
    exact ⟨fun d z => by simp [valD] at z, fun _ => rfl⟩
  | (k0, d0) :: ds, kvs, k, h => by
    simp only [RepK] at h
    obtain ⟨v, r, rfl, h1, h2⟩ := h
    have ih := RepK.val k h2
    by_cases hk : k0 = k
    · subst hk
      refine ⟨fun d z => ⟨v, by simp [valV], ?_⟩, fun z => by simp [valD] at z⟩
      have : d0 = d := by simpa [valD] using z
      subst this
      exact h1
    · have e1 : valD ((k0, d0) :: ds) k = valD ds k := by simp [valD, hk]
      have e2 : valV ((k0, v) :: r) k = valV r k := by simp [valV, hk]
      rw [e1, e2]
      exact ih
theorem Rep.kD {w : Wd} {F : Hp} {k : Key} {v : V} (h : Rep w F (kD k) v) : v = kV k := by
  cases k with
  | inl i => exact h.int'
  | inr x => exact h.str'
/-- d[k], there -/
theorem u_dget (hu : X.A.units + 1 < cLine) (ho : UE X o td) (hi : UE X i ty) (hs : NoSl i) : UE X (.Subscript o i pos) (fun ρ Q => td ρ fun x => ty ρ fun y => ∃ ds k d, x = .dk ds ∧ y = kD k ∧ valD ds k = some d ∧ Q d) :=
  .of (pe_dget hu ho.run hi.run hs) fun n F H ρ σ Q0 hA q Q k => by
    refine ⟨n, F, ρ, _, hA, q, fun d v F1 H1 q1 m1 r1 => ?_⟩
    refine ⟨n, F1, ρ, _, hA.mv m1, q1, fun y u F2 H2 ⟨ds, kk, z, e1, e2, hz, q2⟩ m2 r2 => ?_⟩
    subst e1; subst e2
    obtain ⟨a, kvs, rfl, h1, h2⟩ := (Rep.mono m2.ext _ _ r1).dk'
    obtain ⟨w, hw, rw'⟩ := (h2.val kk).1 z hz
    refine ⟨a, w, rfl, ?_, k _ _ _ _ q2 (m1.trans hA.er.ok m2) rw'⟩
    rw [r2.kD, ← hw]
    exact DGet.k (m2.ok.sub _ _ h1)
/-- d.get(k, x) -/
theorem u_dget2 (hu : X.A.units + 1 < cLine) (ho : UE X o td) (he : UE X e ty) (hf : UE X f tx) (m : M2 X o "get" apos e f cpos) : UE X (.Call (.Attribute o "get" apos) [e, f] [] cpos) (fun ρ Q => td ρ fun x => ∃ ds, x = .dk ds ∧ ty ρ fun y => tx ρ fun z => ∃ k, y = kD k ∧ Q ((valD ds k).getD z)) :=
  .of (pe_dget2 hu ho.run he.run hf.run m) fun n F H ρ σ Q0 hA q Q k => by
    refine ⟨n, F, ρ, _, hA, q, fun d v F1 H1 ⟨ds, e1, q1⟩ m1 r1 => ?_⟩
    subst e1
    obtain ⟨a, kvs, rfl, h1, h2⟩ := r1.dk'
    refine ⟨a, rfl, .inl ⟨kvs, .inl (m1.ok.sub _ _ h1)⟩, ?_⟩
    refine ⟨n, F1, ρ, _, hA.mv m1, q1, fun y u F2 H2 q2 m2 r2 => ?_⟩
    refine ⟨n, F2, ρ, _, (hA.mv m1).mv m2, q2, fun z w F3 H3 ⟨kk, e2, q3⟩ m3 r3 => ?_⟩
    subst e2
    have m23 := m2.trans m1.ok m3
    have mm := m1.trans hA.er.ok m23
    obtain ⟨v1, v2⟩ := (h2.val kk)
    refine ⟨valV kvs kk, ?_, ?_⟩
    · rw [r2.kD]
      exact DGet.k (m23.ok.sub _ _ (m23.ext _ _ h1))
    · cases hz : valD ds kk with
      | none =>
        rw [v2 hz]
        rw [hz] at q3
        exact k _ _ _ _ q3 mm r3
      | some d =>
        obtain ⟨w', hw, rw'⟩ := v1 d hz
        rw [hw]
        rw [hz] at q3
        exact k _ _ _ _ q3 mm (Rep.mono m23.ext _ _ rw')
end
end U

set_option Elab.async false
set_option linter.all false
set_option maxRecDepth 100000
set_option maxHeartbeats 4000000
namespace U
open PySem PySem.Spec PyProof.Rows L2

/-! ### fields, calls -/
section
variable {X : Cx} {e f o i : Expr} {es : List Expr} {t td ty tx : TP} {ts : TPs} {pos apos cpos p : Pos} {C g : Addr} {x m nm : Str}
/-- an attribute of an instance -/
theorem u_fld (c : Cls X.K C) (hn : NoAttr X.K C nm) (he : UE X e t) (hb : attributeBase e nm X.env (eval e X.env) = eval e X.env := by rfl) : UE X (.Attribute e nm pos) (fun ρ Q => t ρ fun d => ∃ fs z, d = .obj C fs ∧ fs.lookup nm = some z ∧ Q z) :=
  .of (pe_fld he.run hb) fun n F H ρ σ Q0 hA q Q k => by
    refine ⟨n, F, ρ, _, hA, q, fun d v F1 H1 ⟨fs, z, e1, e2, q1⟩ m1 r1 => ?_⟩
    subst e1
    obtain ⟨a, dx, gs, rfl, h1, h2⟩ := r1.obj'
    obtain ⟨w, hw, rw'⟩ := h2.lookup e2
    exact ⟨a, C, dx, gs, w, rfl, m1.ok.sub _ _ h1, c, hn, hw, k _ _ _ _ q1 m1 rw'⟩
/-- an attribute of the instance that is being made -/
theorem u_fldO {i : Nat} (c : Cls X.K C) (hn : NoAttr X.K C nm) (he : PE X e (tVar i)) (hb : attributeBase e nm X.env (eval e X.env) = eval e X.env := by rfl) : UE X (.Attribute e nm pos) (fun ρ Q => ∃ fs z, ρ[i]? = some (.own (.ins C fs)) ∧ fs.lookup nm = some z ∧ Q z) :=
  .of (pe_fld he hb) fun n F H ρ σ Q0 hA ⟨fs, z, e1, e2, q⟩ Q k => by
    obtain ⟨a, u, h1, h2, h3, h4, h5, dx, gs, rfl, h6⟩ := hA.er.own e1
    obtain ⟨w, hw, rw'⟩ := h6.lookup e2
    exact ⟨_, h1, a, C, dx, gs, w, rfl, h2, c, hn, hw, k _ _ _ _ q (Mv.refl hA.er.ok) rw'⟩

/-- what a def promises, over data -/
abbrev PSp := List D → (D → Prop) → Prop
def spU (K : PySem.W.Frag) (np : Nat) (S : PSp) : Sp := fun vs H Q _ => ∃ n ds Q0, n.w.K = K ∧ Ok n n.F0 n.H0 ∧ n.H0 = H ∧ Reps n.w n.F0 ds vs ∧ ds.length = np ∧ S ds Q0 ∧ ∀ d v F' H', Q0 d → Mv n n.F0 n.H0 F' H' → Rep n.w F' d v → Q v H'
def En.at (n : En) (F H : Hp) : En := ⟨n.w, F, H, n.me⟩
theorem Ok.enter {n : En} {F H : Hp} (k : Ok n F H) : Ok (n.at F H) F H := ⟨k.sub, k.adF, k.inv, Sub.refl _, fun _ _ h => .inl h, fun _ _ h _ => h⟩
theorem Mv.leave {n : En} {F H F' H' : Hp} (k : Ok n F H) (m : Mv (n.at F H) F H F' H') : Mv n F H F' H' where
  ok := ⟨m.ok.sub, m.ok.adF, m.ok.inv, k.ext.trans m.ext, fun a o h => by
      rcases m.new a o h with h1 | h1
      · exact k.new a o h1
      · exact .inr (k.fresh h1).1, fun a o h ha => m.keep a o (k.keep a o h ha) ha⟩
  ext := m.ext
  new := m.new
  keep := m.keep
variable {k np : Nat} {fd : FuncData} {ps : List Str} {S : PSp}
theorem spU_call {n : En} {F H : Hp} (hK : n.w.K = X.K) (ok : Ok n F H) {ds : List D} {vs : List V} {Q0 : D → Prop} {Q : VK} {E : XK} (r : Reps n.w F ds vs) (hl : ds.length = np) (h : S ds Q0)
    (kq : ∀ d v F' H', Q0 d → Mv n F H F' H' → Rep n.w F' d v → Q v H') : spU X.K np S (vs ++ []) H Q E := by
  rw [List.append_nil]
  exact ⟨n.at F H, ds, Q0, hK, ok.enter, rfl, r, hl, h, fun d v F' H' q m rr => kq d v F' H' q (m.leave ok) rr⟩
theorem u_call (G : FnOk X.prog X.w X.K X.mg X.base CX0 k g fd ps (spU X.K np S)) (hr : Room k X.A) (hg : Gl X x) (hm : X.mg x = some (.ref g)) (hk : PySem.W.keepIn X.K (.ref g) = true) (hb : Binds X.K fd ps []) (ha : UA X (e :: es) ts)
    (hdb : (x == ("__debug__" : Str)) = false := by decide) (he : starEach (e :: es) X.env = (false, eval e X.env) :: starEach es X.env := by rfl) (hpl : (backTo pos (starEach es X.env)).any (·.1) = false := by rfl) :
    UE X (.Call (.Name x p) (e :: es) [] pos) (fun ρ Q => ts ρ fun ds => ds.length = np ∧ S ds Q) :=
  .of (pe_call G hr hg hm hk hb .nil pass0 ha.run hdb he hpl) fun n F H ρ σ Q0 hA q Q k => ⟨n, F, ρ, _, hA, q, fun ds vs F1 H1 ⟨hl, q1⟩ m1 r1 => spU_call hA.k m1.ok r1 hl q1 fun d v F2 H2 q2 m2 r2 => k d v F2 H2 q2 (m1.trans hA.er.ok m2) r2⟩
theorem u_meth {pl : Sem Bool} (c : Cls X.K C) (hm : Meth X.K C m g) (G : FnOk X.prog X.w X.K X.mg X.base CX0 k g fd ps (spU X.K np S)) (hr : Room k X.A) (hb : Binds X.K fd ps []) (ho : UE X o t) (ha : UA X (e :: es) ts)
    (hst : starEach (e :: es) X.env = (false, eval e X.env) :: starEach es X.env := by rfl) (hpl : (backTo pos (starEach es X.env)).any (·.1) = false := by rfl)
    (ht : eval (.Call (.Attribute o m apos) (e :: es) [] pos) X.env = (do
      let ov ← eval o X.env
      standAt apos.atName
      let (f, first) ← holding [ov] (getMethod ov m pl)
      callWith pos f first (backTo pos (starEach (e :: es) X.env)) (backToKw pos (keywordEach [] X.env))) := by rfl) :
    UE X (.Call (.Attribute o m apos) (e :: es) [] pos) (fun ρ Q => t ρ fun d => ∃ fs, d = .obj C fs ∧ fs.lookup m = none ∧ ts ρ fun ds => ds.length + 1 = np ∧ S (d :: ds) Q) :=
  .of (pe_meth ho.run c hm G hr hb .nil pass0 ha.run hst hpl ht) fun n F H ρ σ Q0 hA q Q k => by
    refine ⟨n, F, ρ, _, hA, q, fun d v F1 H1 ⟨fs, e1, hl, q1⟩ m1 r1 => ?_⟩
    subst e1
    obtain ⟨a, dx, gs, rfl, h1, h2⟩ := id r1.obj'
    refine ⟨a, dx, gs, rfl, m1.ok.sub _ _ h1, h2.lookup_none hl, ?_⟩
    refine ⟨n, F1, ρ, _, hA.mv m1, q1, fun ds vs F2 H2 ⟨hl2, q2⟩ m2 r2 => ?_⟩
    have := spU_call (E := E0) (Q := Q) hA.k m2.ok (Reps.cons (Rep.mono m2.ext _ _ r1) r2) (by simpa using hl2) q2 fun d v F3 H3 q3 m3 r3 => k d v F3 H3 q3 ((m1.trans hA.er.ok m2).trans hA.er.ok m3) r3
    simpa using this
theorem u_meth0 (c : Cls X.K C) (hm : Meth X.K C m g) (G : FnOk X.prog X.w X.K X.mg X.base CX0 k g fd ps (spU X.K np S)) (hr : Room k X.A) (hb : Binds X.K fd ps []) (ho : UE X o t)
    (p0 : PE X (.Call (.Attribute o m apos) [] [] pos) (tMeth C m (spU X.K np S) [] E0 (rE X t) tNil)) :
    UE X (.Call (.Attribute o m apos) [] [] pos) (fun ρ Q => t ρ fun d => ∃ fs, d = .obj C fs ∧ fs.lookup m = none ∧ np = 1 ∧ S [d] Q) :=
  .of p0 fun n F H ρ σ Q0 hA q Q k => by
    refine ⟨n, F, ρ, _, hA, q, fun d v F1 H1 ⟨fs, e1, hl, hl2, q1⟩ m1 r1 => ?_⟩
    subst e1
    obtain ⟨a, dx, gs, rfl, h1, h2⟩ := id r1.obj'
    refine ⟨a, dx, gs, rfl, m1.ok.sub _ _ h1, h2.lookup_none hl, ?_⟩
    exact spU_call (E := E0) (Q := Q) hA.k m1.ok (Reps.one r1) (by simpa using hl2.symm) q1 fun d v F3 H3 q3 m3 r3 => k d v F3 H3 q3 (m1.trans hA.er.ok m3) r3
/-- what an __init__ promises: the attributes that it stores -/
abbrev PSi := List D → (List (Str × D) → Prop) → Prop
def spI (K : PySem.W.Frag) (C : Addr) (np : Nat) (S : PSi) : Sp := fun vs H Q _ => ∃ n x dx ds vs' Q0, n.w.K = K ∧ Ok n n.F0 n.H0 ∧ n.H0 x = none ∧ n.H0 dx = none ∧ dx ≠ x ∧ H = upd (upd n.H0 dx (.own x)) x (.ins C dx []) ∧ vs = .ref x :: vs' ∧ Reps n.w n.F0 ds vs' ∧
  ds.length = np ∧ S ds Q0 ∧ ∀ fs F' H', Q0 fs → Mv n n.F0 n.H0 F' H' → Rep n.w F' (.obj C fs) (.ref x) → Q .non H'
variable {Si : PSi} {fI : Addr}
theorem u_make (M : Mk X.K C fI) (G : FnOk X.prog X.w X.K X.mg X.base CX0 k fI fd ps (spI X.K C np Si)) (hr : Room (k + 1) X.A) (hg : Gl X x) (hm : X.mg x = some (.ref C)) (hb : Binds X.K fd ps []) (ha : UA X (e :: es) ts)
    (hdb : (x == ("__debug__" : Str)) = false := by decide) (he : starEach (e :: es) X.env = (false, eval e X.env) :: starEach es X.env := by rfl) (hpl : (backTo pos (starEach es X.env)).any (·.1) = false := by rfl) :
    UE X (.Call (.Name x p) (e :: es) [] pos) (fun ρ Q => ts ρ fun ds => ds.length = np ∧ Si ds fun fs => Q (.obj C fs)) :=
  .of (pe_make M G hr hg hm hb .nil pass0 ha.run hdb he hpl) fun n F H ρ σ Q0 hA q Q k => by
    refine ⟨n, F, ρ, _, hA, q, fun ds vs F1 H1 ⟨hl, q1⟩ m1 r1 x dx hx hdx ne => ?_⟩
    rw [List.append_nil]
    exact ⟨n.at F1 H1, x, dx, ds, vs, _, hA.k, m1.ok.enter, hx, hdx, ne, rfl, rfl, r1, hl, q1, fun fs F2 H2 q2 m2 r2 => ⟨rfl, k _ _ _ _ q2 (m1.trans hA.er.ok (m2.leave m1.ok)) r2⟩⟩
end

/-! ### statements -/
/-- what is wanted behind a statement -/
structure PEnds where
  nx : List Slot → Prop
  rt : D → Prop
  bk : List Slot → Prop := fun _ => False
  ct : List Slot → Prop := fun _ => False
  /-- what is wanted of an exception, in the heap's words and in data -/
  W : WX := fun _ _ _ _ => False
  xt : List Slot → Addr → List (Str × D) → Prop := fun _ _ _ => False
abbrev TSp := PEnds → List Slot → Prop
structure Fits (n : En) (F : Hp) (P : PEnds) (E : Ends) : Prop where
  nx : ∀ ρ F' σ' H', ER n F' H' ρ σ' → Sub F F' → P.nx ρ → E.nx σ' H'
  rt : ∀ d v F' H', Ok n F' H' → Sub F F' → Rep n.w F' d v → P.rt d → E.rt v H'
  bk : ∀ ρ F' σ' H', ER n F' H' ρ σ' → Sub F F' → P.bk ρ → E.bk σ' H'
  ct : ∀ ρ F' σ' H', ER n F' H' ρ σ' → Sub F F' → P.ct ρ → E.ct σ' H'
  xt : ∀ ρ C fs dd kvs F' σ' H', ER n F' H' ρ σ' → Sub F F' → F' dd = some (.xd kvs) → RepF n.w F' fs kvs → P.xt ρ C fs → P.W (.ref C) (some dd) σ' H'
theorem Fits.mono {n : En} {F F1 : Hp} {P : PEnds} {E : Ends} (f : Fits n F P E) (s : Sub F F1) : Fits n F1 P E :=
  ⟨fun ρ F' σ' H' a b c => f.nx ρ F' σ' H' a (s.trans b) c, fun d v F' H' a b c e => f.rt d v F' H' a (s.trans b) c e, fun ρ F' σ' H' a b c => f.bk ρ F' σ' H' a (s.trans b) c, fun ρ F' σ' H' a b c => f.ct ρ F' σ' H' a (s.trans b) c, fun ρ C fs dd kvs F' σ' H' a b => f.xt ρ C fs dd kvs F' σ' H' a (s.trans b)⟩
def rS (X : Cx) (t : TSp) : TS := fun E σ H => ∃ n F ρ P, At X n F H ρ σ ∧ t P ρ ∧ Fits n F P E
structure US (X : Cx) (st : Stmt) (t : TSp) : Prop where
  run : PS X st (rS X t)
structure USs (X : Cx) (st : List Stmt) (t : TSp) : Prop where
  run : PSs X st (rS X t)
theorem US.of {X : Cx} {st : Stmt} {t : TSp} {t' : TS} (p : PS X st t') (h : ∀ n F H ρ σ P E, At X n F H ρ σ → t P ρ → Fits n F P E → t' E σ H) : US X st t :=
  ⟨PS.imp p fun E σ H ⟨n, F, ρ, P, hA, q, f⟩ => h n F H ρ σ P E hA q f⟩
theorem USs.of {X : Cx} {st : List Stmt} {t : TSp} {t' : TS} (p : PSs X st t') (h : ∀ n F H ρ σ P E, At X n F H ρ σ → t P ρ → Fits n F P E → t' E σ H) : USs X st t :=
  ⟨PSs.imp p fun E σ H ⟨n, F, ρ, P, hA, q, f⟩ => h n F H ρ σ P E hA q f⟩
section
variable {X : Cx} {st : Stmt} {rest : List Stmt} {t u : TSp} {e o a c : Expr} {te ta : TP} {tr : TPs} {pos pos' p : Pos} {x nm : Str} {i : Nat} {C : Addr}
def pNext : TSp := fun P ρ => P.nx ρ
def pSeq (t u : TSp) : TSp := fun P ρ => t { P with nx := u P } ρ
theorem uss_nil : USs X [] pNext := .of pss_nil fun n F H ρ σ P E hA q f => f.nx ρ F σ H hA.er (Sub.refl _) q
theorem Fits.seq {n : En} {F : Hp} {P : PEnds} {E : Ends} (hK : n.w.K = X.K) (f : Fits n F P E) : Fits n F { P with nx := u P } { E with nx := rS X u E } :=
  ⟨fun ρ F' σ' H' a b c => ⟨n, F', ρ, P, ⟨hK, a⟩, c, f.mono b⟩, f.rt, f.bk, f.ct, f.xt⟩
theorem uss_cons (h1 : US X st t) (h2 : USs X rest u) : USs X (st :: rest) (pSeq t u) := .of (pss_cons h1.run h2.run) fun n F H ρ σ P E hA q f => ⟨n, F, ρ, _, hA, q, f.seq hA.k⟩
theorem uss_one (h1 : US X st t) : USs X [st] t := ⟨pss_one h1.run⟩
theorem us_pass : US X (.Pass pos) pNext := .of ps_pass fun n F H ρ σ P E hA q f => f.nx ρ F σ H hA.er (Sub.refl _) q
def pBreak : TSp := fun P ρ => P.bk ρ
def pCont : TSp := fun P ρ => P.ct ρ
theorem us_break : US X (.Break pos) pBreak := .of ps_break fun n F H ρ σ P E hA q f => f.bk ρ F σ H hA.er (Sub.refl _) q
theorem us_cont : US X (.Continue pos) pCont := .of ps_continue fun n F H ρ σ P E hA q f => f.ct ρ F σ H hA.er (Sub.refl _) q
def pIf (c : TPb) (t u : TSp) : TSp := fun P ρ => c ρ fun b => if b = true then t P ρ else u P ρ
theorem us_if {tc : TPb} {sa sb : List Stmt} (hc : UT X c tc) (ha : USs X sa t) (hb : USs X sb u) : US X (.If c sa sb pos) (pIf tc t u) := .of (ps_if hc.run ha.run hb.run) fun n F H ρ σ P E hA q f => by
  refine ⟨n, F, ρ, _, hA, q, fun b F1 H1 q1 m1 => ?_⟩
  cases b with
  | true => exact iteT ⟨n, F1, ρ, P, hA.mv m1, q1, f.mono m1.ext⟩
  | false => exact iteF ⟨n, F1, ρ, P, hA.mv m1, q1, f.mono m1.ext⟩
def pRet (t : TP) : TSp := fun P ρ => t ρ P.rt
theorem us_ret (h : UE X e te) : US X (.Return (some e) pos) (pRet te) := .of (ps_ret h.run) fun n F H ρ σ P E hA q f => ⟨n, F, ρ, _, hA, q, fun d v F1 H1 q1 m1 r1 => f.rt d v F1 H1 m1.ok m1.ext r1 q1⟩
theorem us_retN : US X (.Return none pos) (fun P _ => P.rt .non) := .of ps_retN fun n F H ρ σ P E hA q f => f.rt .non .non F H hA.er.ok (Sub.refl _) (rNon ..) q
/-- return of what is own -/
theorem us_retO (h : PE X e (tVar i)) : US X (.Return (some e) pos) (fun P ρ => ∃ c, ρ[i]? = some (.own c) ∧ P.rt c.d) := .of (ps_ret h) fun n F H ρ σ P E hA ⟨c, e1, q⟩ f => by
  obtain ⟨a, u, h1, h2, h3, h4⟩ := hA.er.freeze e1
  exact ⟨_, h1, f.rt _ _ _ _ h3.ok h2 h4 q⟩
/-- a slot is frozen ahead of a block -/
theorem uss_freeze (i : Nat) (h : USs X rest u) : USs X rest (fun P ρ => ∃ c, ρ[i]? = some (.own c) ∧ u P (ρ.set i (.va c.d))) := .of h.run fun n F H ρ σ P E hA ⟨c, e1, q⟩ f => by
  obtain ⟨a, w, h1, h2, h3, h4⟩ := hA.er.freeze e1
  exact ⟨n, _, _, P, ⟨hA.k, h3⟩, q, f.mono h2⟩
def pDrop (t : TP) : TSp := fun P ρ => t ρ fun _ => P.nx ρ
theorem us_expr (h : UE X e te) (hs : swapsWith e none pos.line X.env = pure false := by rfl) : US X (.Expr e pos) (pDrop te) := .of (ps_expr h.run hs) fun n F H ρ σ P E hA q f => ⟨n, F, ρ, _, hA, q, fun d v F1 H1 q1 m1 r1 => f.nx ρ F1 σ H1 (hA.er.mv m1) m1.ext q1⟩
/-- name = value -/
def pSet (i : Nat) (t : TP) : TSp := fun P ρ => t ρ fun d => P.nx (ρ.set i (.va d))
theorem us_set (p0 : PS X st (tAsg (rE X te) (gName i))) : US X st (pSet i te) := .of p0 fun n F H ρ σ P E hA q f => ⟨n, F, ρ, _, hA, q, fun d v F1 H1 q1 m1 r1 => f.nx _ F1 _ H1 ((hA.er.mv m1).set_va i r1) m1.ext q1⟩
def pOwn (i : Nat) (t : TPs) : TSp := fun P ρ => t ρ fun xs => P.nx (ρ.set i (.own (.lst xs)))
theorem own_fresh {n : En} {F H : Hp} {ρ : List Slot} {σ : L2.St} (h : ER n F H ρ σ) {a : Addr} (ha : H a = none) (j : Nat) (c : Own) (hj : ρ[j]? = some (.own c)) : σ[j]? ≠ some (some (.ref a)) := fun z => by
  obtain ⟨b, u, h1, h2, _⟩ := h.own hj
  rw [z] at h1
  cases h1
  rw [ha] at h2
  cases h2
theorem us_own (p0 : PS X st (tAsg (rL X tr) (gName i))) : US X st (pOwn i tr) := .of p0 fun n F H ρ σ P E hA q f => ⟨n, F, ρ, _, hA, q, fun xs a vs F1 H1 q1 m1 h1 h2 h3 r1 =>
  f.nx _ F1 _ H1 ((hA.er.mv m1).set_own i h3 h2 (hA.er.ok.fresh h1).1 (hA.er.ok.fresh h1).2.1 (show OwnR _ _ (.lst xs) _ from ⟨vs, rfl, r1⟩) fun j c hj hc => own_fresh hA.er h1 j c hc) m1.ext q1⟩
/-- name = {} -/
theorem us_ownD (p0 : PS X st (tAsg tDNewK (gName i))) : US X st (fun P ρ => P.nx (ρ.set i (.own (.dk [])))) := .of p0 fun n F H ρ σ P E hA q f p hp => by
  have m := Mv.alloc hA.er.ok hp (.dK [])
  have h1 := hA.er.ok.fresh hp
  exact f.nx _ F _ _ ((hA.er.mv m).set_own i upd_same h1.2.2 h1.1 h1.2.1 (show OwnR _ _ (.dk []) _ from ⟨[], rfl, by simp only [RepK]⟩) fun j c hj hc => own_fresh hA.er hp j c hc) m.ext q
theorem ER.own_at {n : En} {F H : Hp} {ρ : List Slot} {σ : L2.St} (h : ER n F H ρ σ) {i : Nat} {c : Own} {a : Addr} (e : ρ[i]? = some (.own c)) (hs : σ[i]? = some (some (.ref a))) : ∃ u, H a = some u ∧ ¬ n.ads a ∧ OwnR n.w F c u := by
  obtain ⟨b, u, h1, h2, h3, h4, h5, h6⟩ := h.own e
  rw [hs] at h1
  cases h1
  exact ⟨u, h2, h5, h6⟩
/-- own.append(e) -/
theorem us_append {cpos apos : Pos} (p0 : PE X (.Call (.Attribute o nm apos) [e] [] cpos) (tBM X.K "list" rAppend (tVar i) (tCons (rE X te) tNil))) (hs : swapsWith (.Call (.Attribute o nm apos) [e] [] cpos) none pos.line X.env = pure false := by rfl) :
    US X (.Expr (.Call (.Attribute o nm apos) [e] [] cpos) pos) (fun P ρ => ∃ xs, ρ[i]? = some (.own (.lst xs)) ∧ te ρ fun d => xs.length < sizeLine ∧ P.nx (ρ.set i (.own (.lst (xs ++ [d]))))) :=
  .of (ps_expr p0 hs) fun n F H ρ σ P E hA ⟨xs, e1, q⟩ f => by
    obtain ⟨a, u, h1, h2, h3, h4, h5, vs, rfl, r⟩ := hA.er.own e1
    refine ⟨_, h1, .inl ⟨rfl, vs, SqL.of h2⟩, n, F, ρ, _, hA, q, fun d v F1 H1 ⟨hl, q1⟩ m1 r1 => ?_⟩
    refine ⟨a, vs, v, rfl, rfl, m1.keep _ _ h2 h5, by rw [r.length]; exact hl, ?_⟩
    refine f.nx _ F1 σ _ ((hA.er.mv m1).write e1 h1 (c' := .lst (xs ++ [d])) ?_) m1.ext q1
    exact ⟨_, rfl, (Reps.mono m1.ext _ _ r).append (Reps.one r1)⟩
/-- own[k] = e -/
theorem us_put {tk : TP} (p0 : PS X st (tAsg (rE X te) (gSub (tVar i) (rE X tk) rSetL))) :
    US X st (fun P ρ => te ρ fun d => ∃ xs, ρ[i]? = some (.own (.lst xs)) ∧ tk ρ fun k => ∃ z j, k = .int z ∧ ixN xs.length z = some j ∧ P.nx (ρ.set i (.own (.lst (xs.set j d))))) :=
  .of p0 fun n F H ρ σ P E hA q f => by
    refine ⟨n, F, ρ, _, hA, q, fun d v F1 H1 ⟨xs, e1, q1⟩ m1 r1 => ?_⟩
    obtain ⟨a, u, h1, h2, h3, h4, h5, vs, rfl, r⟩ := (hA.er.mv m1).own e1
    refine ⟨_, h1, n, F1, ρ, _, hA.mv m1, q1, fun k w F2 H2 ⟨z, j, e2, hj, q2⟩ m2 r2 => ?_⟩
    subst e2
    refine ⟨a, vs, z, j, rfl, r2.int', m2.keep _ _ h2 h5, by rw [r.length]; exact hj, ?_⟩
    refine f.nx _ F2 σ _ (((hA.er.mv m1).mv m2).write e1 h1 (c' := .lst (xs.set j d)) ?_) (m1.ext.trans m2.ext) q2
    exact ⟨_, rfl, Reps.set j (Rep.mono m2.ext _ _ r1) (Reps.mono m2.ext _ _ r)⟩
def putFD : Str → D → List (Str × D) → List (Str × D)
  | f, y, [] => [(f, y)]
  | f, y, (g, z) :: r => if g = f then (g, y) :: r else (g, z) :: putFD f y r
theorem RepF.put {w : Wd} {F : Hp} {f : Str} {d : D} {v : V} (h : Rep w F d v) : ∀ {ds : List (Str × D)} {fs : List (Str × V)}, RepF w F ds fs → RepF w F (putFD f d ds) (putF f v fs)
  | [], fs, r => by
    simp only [RepF] at r
    subst r
    show RepF w F [(f, d)] [(f, v)]
    simp only [RepF]
    exact ⟨v, [], rfl, h, rfl⟩
  | (g, z) :: ds, fs, r => by
    simp only [RepF] at r
    obtain ⟨u, r', rfl, h1, h2⟩ := r
    show RepF w F (if g = f then (g, d) :: ds else (g, z) :: putFD f d ds) (if g = f then (g, v) :: r' else (g, u) :: putF f v r')
    by_cases hg : g = f
    · rw [if_pos hg, if_pos hg]
      simp only [RepF]
      exact ⟨v, r', rfl, h, h2⟩
    · rw [if_neg hg, if_neg hg]
      simp only [RepF]
      exact ⟨u, _, rfl, h1, RepF.put h h2⟩
theorem RepF.length {w : Wd} {F : Hp} : ∀ {ds : List (Str × D)} {vs : List (Str × V)}, RepF w F ds vs → vs.length = ds.length
  | [], vs, h => by
    simp only [RepF] at h
    rw [h]; rfl
  | (k, d) :: ds, vs, h => by
    simp only [RepF] at h
    obtain ⟨v, r, rfl, _, t⟩ := h
    simp [RepF.length t]
/-- self.f = e, self being made -/
theorem us_fld (c : Cls X.K C) (hn : NoAttr X.K C nm) (p0 : PS X st (sFld X.K (tVar i) (rE X te) nm)) :
    US X st (fun P ρ => te ρ fun d => ∃ fs, ρ[i]? = some (.own (.ins C fs)) ∧ fs.length < 1000 ∧ P.nx (ρ.set i (.own (.ins C (putFD nm d fs))))) :=
  .of p0 fun n F H ρ σ P E hA q f => by
    refine ⟨n, F, ρ, _, hA, q, fun d v F1 H1 ⟨fs, e1, hl, q1⟩ m1 r1 => ?_⟩
    obtain ⟨a, u, h1, h2, h3, h4, h5, dx, gs, rfl, r⟩ := (hA.er.mv m1).own e1
    refine ⟨_, h1, a, C, dx, gs, rfl, h2, c, hn, by rw [r.length]; exact hl, ?_⟩
    refine f.nx _ F1 σ _ ((hA.er.mv m1).write e1 h1 (c' := .ins C (putFD nm d fs)) ?_ (show OwnA n a (.ins C (putFD nm d fs)) from hA.er.ownA (c := .ins C fs) e1 h1)) m1.ext q1
    exact ⟨dx, _, rfl, RepF.put r1 r⟩
theorem RepK.any {w : Wd} {F : Hp} (k : Key) : ∀ {ds : List (Key × D)} {fs : List (Key × V)}, RepK w F ds fs → (fs.any fun kv => decide (kv.1 = k)) = (ds.any fun kv => decide (kv.1 = k))
  | [], fs, r => by
    simp only [RepK] at r
    subst r
    rfl
  | (g, z) :: ds, fs, r => by
    simp only [RepK] at r
    obtain ⟨u, r', rfl, h1, h2⟩ := r
    simp only [List.any_cons, RepK.any k h2]
theorem RepK.map {w : Wd} {F : Hp} {k : Key} {d : D} {v : V} (h : Rep w F d v) : ∀ {ds : List (Key × D)} {fs : List (Key × V)}, RepK w F ds fs → RepK w F (ds.map fun kv => if kv.1 = k then (kv.1, d) else kv) (fs.map fun kv => if kv.1 = k then (kv.1, v) else kv)
  | [], fs, r => by
    simp only [RepK] at r
    subst r
    simp only [List.map_nil, RepK]
  | (g, z) :: ds, fs, r => by
    simp only [RepK] at r
    obtain ⟨u, r', rfl, h1, h2⟩ := r
    simp only [List.map_cons]
    by_cases hg : g = k
    · rw [if_pos hg, if_pos hg]
      simp only [RepK]
      exact ⟨v, _, rfl, h, RepK.map h h2⟩
    · rw [if_neg hg, if_neg hg]
      simp only [RepK]
      exact ⟨u, _, rfl, h1, RepK.map h h2⟩
theorem RepK.snoc {w : Wd} {F : Hp} {k : Key} {d : D} {v : V} (h : Rep w F d v) : ∀ {ds : List (Key × D)} {fs : List (Key × V)}, RepK w F ds fs → RepK w F (ds ++ [(k, d)]) (fs ++ [(k, v)])
  | [], fs, r => by
    simp only [RepK] at r
    subst r
    simp only [List.nil_append, RepK]
    exact ⟨v, [], rfl, h, rfl⟩
  | (g, z) :: ds, fs, r => by
    simp only [RepK] at r
    obtain ⟨u, r', rfl, h1, h2⟩ := r
    simp only [List.cons_append, RepK]
    exact ⟨u, _, rfl, h1, RepK.snoc h h2⟩
theorem RepK.put {w : Wd} {F : Hp} {k : Key} {d : D} {v : V} (h : Rep w F d v) {ds : List (Key × D)} {fs : List (Key × V)} (r : RepK w F ds fs) : RepK w F (putD ds k d) (putK fs k v) := by
  unfold putD putK
  rw [r.any k]
  split
  · exact RepK.map h r
  · exact RepK.snoc h r
/-- own[key] = e, a dict -/
theorem us_dput {tk : TP} (p0 : PS X st (sDPut (tVar i) (rE X tk) (rE X te))) :
    US X st (fun P ρ => te ρ fun d => ∃ ks, ρ[i]? = some (.own (.dk ks)) ∧ tk ρ fun y => ∃ k, y = kD k ∧ ks.length < sizeLine ∧ P.nx (ρ.set i (.own (.dk (putD ks k d))))) :=
  .of p0 fun n F H ρ σ P E hA q f => by
    refine ⟨n, F, ρ, _, hA, q, fun d v F1 H1 ⟨ks, e1, q1⟩ m1 r1 => ?_⟩
    obtain ⟨a, u, h1, h2, h3, h4, h5, vs, rfl, r⟩ := (hA.er.mv m1).own e1
    refine ⟨_, h1, n, F1, ρ, _, hA.mv m1, q1, fun y w F2 H2 ⟨k, e2, hl, q2⟩ m2 r2 => ?_⟩
    subst e2
    refine ⟨a, upd H2 a (.dK (putK vs k v)), rfl, ?_, ?_⟩
    · rw [r2.kD]
      exact DPut.k (m2.keep _ _ h2 h5) (by rw [r.length]; exact hl)
    · refine f.nx _ F2 σ _ (((hA.er.mv m1).mv m2).write e1 h1 (c' := .dk (putD ks k d)) ?_) (m1.ext.trans m2.ext) q2
      exact ⟨_, rfl, RepK.put (Rep.mono m2.ext _ _ r1) (RepK.mono m2.ext _ _ r)⟩
end
end U

set_option Elab.async false
set_option linter.all false
set_option maxRecDepth 100000
set_option maxHeartbeats 4000000
namespace U
open PySem PySem.Spec PyProof.Rows L2

/-! ### targets -/
section
variable {X : Cx}
abbrev TGp := D → List Slot → (List Slot → Prop) → Prop
def rG (X : Cx) (vs : List Nat) (g : TGp) : TG := fun v σ H Q => ∃ n F ρ d Q0, At X n F H ρ σ ∧ Rep n.w F d v ∧ g d ρ Q0 ∧ ∀ ρ' σ', Q0 ρ' → ER n F H ρ' σ' → wipe σ' vs = wipe σ vs → Q σ' H
structure UG (X : Cx) (tg : Expr) (vs : List Nat) (g : TGp) : Prop where
  run : PG X tg (rG X vs g)
abbrev TGps := List D → List Slot → (List Slot → Prop) → Prop
def rGs (X : Cx) (vs : List Nat) (g : TGps) : TGs := fun us σ H Q => ∃ n F ρ ds Q0, At X n F H ρ σ ∧ Reps n.w F ds us ∧ g ds ρ Q0 ∧ ∀ ρ' σ', Q0 ρ' → ER n F H ρ' σ' → wipe σ' vs = wipe σ vs → Q σ' H
structure UGs (X : Cx) (ts : List Expr) (vs : List Nat) (g : TGps) : Prop where
  run : PGs X ts (rGs X vs g)
theorem PGs.imp {tg : List Expr} {t t' : TGs} (p : PGs X tg t) (h : ∀ v σ H Q, t' v σ H Q → t v σ H Q) : PGs X tg t' := ⟨fun pins s σ H v u Q I r q => p.run pins s σ H v u Q I r (h v σ H Q q)⟩
theorem set_comm' {α : Type} (l : List α) (i j : Nat) (a b : α) (h : i ≠ j) : (l.set i a).set j b = (l.set j b).set i a := by
  exact List.set_comm a b h
theorem wipe_set {σ : L2.St} {i : Nat} {v : Option V} : ∀ {vs : List Nat}, i ∈ vs → wipe (σ.set i v) vs = wipe σ vs
  | [], h => by cases h
  | j :: vs, h => by
    show (wipe (σ.set i v) vs).set j none = (wipe σ vs).set j none
    by_cases hi : i ∈ vs
    · rw [wipe_set hi]
    · have hj : i = j := by
        rcases List.mem_cons.mp h with z | z
        · exact z
        · exact absurd z hi
      subst hj
      have gen : ∀ (vs : List Nat), i ∉ vs → wipe (σ.set i v) vs = (wipe σ vs).set i v := by
        intro vs
        induction vs with
        | nil => intro _; rfl
        | cons k vs ih =>
          intro hk
          have h1 : i ≠ k := fun z => hk (z ▸ List.mem_cons_self ..)
          have h2 : i ∉ vs := fun z => hk (List.mem_cons_of_mem _ z)
          show (wipe (σ.set i v) vs).set k none = ((wipe σ vs).set k none).set i v
          rw [ih h2, set_comm' _ _ _ _ _ h1]
      rw [gen vs hi, List.set_set]
def gN (i : Nat) : TGp := fun d ρ Q => Q (ρ.set i (.va d))
theorem ug_name {i : Nat} {vs : List Nat} {x : Str} {pos : Pos} (hN : X.N.Nodup) (hi : X.N[i]? = some x) (hx : Loc X.env.scope x) (hv : i ∈ vs) (hf : X.fn x = true ∨ X.env.scope.names.lookup x = some .local := by first | exact .inl rfl | exact .inr rfl | assumption) : UG X (.Name x pos) vs (gN i) :=
  ⟨PG.imp (pg_name hN hi hx hf) fun v σ H Q ⟨n, F, ρ, d, Q0, hA, r, q, k⟩ => k _ _ q (hA.er.set_va i r) (wipe_set hv)⟩
theorem ugs_nil {vs : List Nat} : UGs X [] vs (fun ds ρ Q => ds = [] ∧ Q ρ) := ⟨PGs.imp pgs_nil fun us σ H Q ⟨n, F, ρ, ds, Q0, hA, r, ⟨e, q⟩, k⟩ => by
  subst e
  exact ⟨r.nil', k _ _ q hA.er rfl⟩⟩
theorem ugs_cons {e : Expr} {es : List Expr} {vs : List Nat} {g : TGp} {gs : TGps} (h1 : UG X e vs g) (h2 : UGs X es vs gs) (hs : (assignEach (e :: es) X.env).map (·.2) = assign e X.env :: (assignEach es X.env).map (·.2) := by rfl) :
    UGs X (e :: es) vs (fun ds ρ Q => ∃ d r, ds = d :: r ∧ g d ρ fun ρ' => gs r ρ' Q) := ⟨PGs.imp (pgs_cons h1.run h2.run hs) fun us σ H Q ⟨n, F, ρ, ds, Q0, hA, r, ⟨d, rd, e, q⟩, k⟩ => by
  subst e
  obtain ⟨v, rv, rfl, r1, r2⟩ := r.inv
  exact ⟨v, rv, rfl, n, F, ρ, d, _, hA, r1, q, fun ρ1 σ1 q1 e1 w1 => ⟨n, F, ρ1, rd, Q0, ⟨hA.k, e1⟩, r2, q1, fun ρ2 σ2 q2 e2 w2 => k ρ2 σ2 q2 e2 (w2.trans w1)⟩⟩⟩
theorem ug_tup {es : List Expr} {k : Nat} {vs : List Nat} {gs : TGps} {m : Nat} {pos : Pos} (hc : X.calm = true) (h : UGs X es vs gs) (hn : (assignEach es X.env).length = m := by rfl) (hst : (assignEach es X.env).findIdx? (·.1) = none := by rfl) :
    UG X (.Tuple es k pos) vs (fun d ρ Q => ∃ ds, d = .tup ds ∧ ds.length = m ∧ gs ds ρ Q) := ⟨PG.imp (pg_tup hc h.run hn hst) fun v σ H Q ⟨n, F, ρ, d, Q0, hA, r, ⟨ds, e, hl, q⟩, kk⟩ => by
  subst e
  obtain ⟨a, us, rfl, h1, h2⟩ := r.tup'
  exact ⟨a, us, rfl, sqT_mono hA.er.ok.sub (hA.k ▸ h1), by rw [h2.length]; exact hl, n, F, ρ, ds, Q0, hA, h2, q, kk⟩⟩
end

/-! ### what is walked -/
structure ItOk (n : En) (J : It) (xs : List D) (F1 : Hp) : Prop where
  go : ∀ i F2 H2, i < xs.length → Ok n F2 H2 → Sub F1 F2 → J.go i H2
  yld : ∀ i F2 H2 x H', i < xs.length → Ok n F2 H2 → Sub F1 F2 → J.yld i H2 x H' → ∃ d F', xs[i]? = some d ∧ Mv n F2 H2 F' H' ∧ Rep n.w F' d x
  stop : ∀ F2 H2, Ok n F2 H2 → Sub F1 F2 → J.stop xs.length H2
def rI' (X : Cx) (w : TPs) : TI := fun σ H R => ∃ n F ρ Q0, At X n F H ρ σ ∧ w ρ Q0 ∧ ∀ xs J F' H', Q0 xs → Mv n F H F' H' → ItOk n J xs F' → R J H'
structure UI (X : Cx) (tg iter : Expr) (w : TPs) : Prop where
  run : PI X tg iter (rI' X w)
section
variable {X : Cx} {tg e : Expr} {t : TP} {ts : TPs} {pos p : Pos}
theorem itok_list {n : En} {K : PySem.W.Frag} {F1 : Hp} {a : Addr} {vs : List V} {xs : List D} (h : F1 a = some (.lst vs)) (r : Reps n.w F1 xs vs) : ItOk n (Itl K a) xs F1 where
  go := fun i F2 H2 hi ok s => by
    have hv : vs[i]? = some (vs[i]'(by rw [r.length]; exact hi)) := List.getElem?_eq_getElem _
    exact ⟨vs, _, SqL.of (ok.sub _ _ (s _ _ h)), hv⟩
  yld := fun i F2 H2 x H' hi ok s ⟨e, hx⟩ => by
    subst e
    have hx := hx vs (SqL.of (ok.sub _ _ (s _ _ h)))
    obtain ⟨d, hd, rd⟩ := r.get' hx
    exact ⟨d, F2, hd, Mv.refl ok, Rep.mono s d x rd⟩
  stop := fun F2 H2 ok s => ⟨vs, SqL.of (ok.sub _ _ (s _ _ h)), by rw [r.length]; exact Nat.le_refl _⟩
theorem itok_tup {n : En} {F1 : Hp} {a : Addr} {vs : List V} {xs : List D} (h : SqT n.w.K F1 a vs) (r : Reps n.w F1 xs vs) : ItOk n (Itt n.w.K a) xs F1 where
  go := fun i F2 H2 hi ok s => by
    have hv : vs[i]? = some (vs[i]'(by rw [r.length]; exact hi)) := List.getElem?_eq_getElem _
    exact ⟨vs, _, sqT_mono (s.trans ok.sub) h, hv⟩
  yld := fun i F2 H2 x H' hi ok s ⟨e, hx⟩ => by
    subst e
    have hx := hx vs (sqT_mono (s.trans ok.sub) h)
    obtain ⟨d, hd, rd⟩ := r.get' hx
    exact ⟨d, F2, hd, Mv.refl ok, Rep.mono s d x rd⟩
  stop := fun F2 H2 ok s => ⟨vs, sqT_mono (s.trans ok.sub) h, by rw [r.length]; exact Nat.le_refl _⟩
/-- a list or a tuple walked -/
theorem pi_seq {l : Expr} {tl : TE} (hl : PE X l tl) : PI X tg l (fun σ H R => tl σ H fun x H1 => ∃ a, x = .ref a ∧ (((∃ xs, SqL X.K H1 a xs) ∧ R (Itl X.K a) H1) ∨ ((∃ xs, SqT X.K H1 a xs) ∧ R (Itt X.K a) H1))) := by
  refine ⟨fun pins s σ H R I h => ?_⟩
  refine thn (hl.run pins s σ H _ I h) fun v s1 ⟨x, H1, I1, r1, q1⟩ => ?_
  obtain ⟨a, e, q1⟩ := q1
  subst e
  cases r1
  have fr : ∀ b ∈ [s1.heap.objs.size], FpOk X pins H1 b := fun b hb => by
    have e : b = s1.heap.objs.size := by simpa using hb
    subst e
    exact I1.fpOk (Nat.le_refl _) (I1.hok.fresh (Nat.le_refl _))
  rcases q1 with ⟨⟨xs, hq⟩, q⟩ | ⟨⟨xs, hq⟩, q⟩
  · obtain ⟨its, rv, p, hz⟩ := I1.list hq
    refine wpAny_pyIter_list p.isList ?_
    exact ⟨s1.heap.objs.size, [s1.heap.objs.size], _, _, H1, rfl, I1.kept (t' := s1.toks) fun b o e => Heap.get?_push_of_some _ e, turn_list a _, ⟨_, Heap.get?_push_size _ rfl, rfl, rfl⟩, fr, q⟩
  · obtain ⟨its, rv, p, hz⟩ := I1.tuple hq
    refine wpAny_pyIter_tuple (show s1.heap.IsTuple a its.toArray from p) ?_
    exact ⟨s1.heap.objs.size, [s1.heap.objs.size], _, _, H1, rfl, I1.kept (t' := s1.toks) fun b o e => Heap.get?_push_of_some _ e, turn_tuple a _, ⟨_, Heap.get?_push_size _ rfl, rfl, rfl⟩, fr, q⟩
def uSeq (t : TP) : TPs := fun ρ Q => t ρ fun d => ∃ xs, (d = .lst xs ∨ d = .tup xs) ∧ Q xs
theorem ui_seq (h : UE X e t) : UI X tg e (uSeq t) := ⟨PI.imp (pi_seq h.run) fun σ H R ⟨n, F, ρ, Q0, hA, q, k⟩ => by
  refine ⟨n, F, ρ, _, hA, q, fun d v F1 H1 ⟨xs, hd, q1⟩ m1 r1 => ?_⟩
  rcases hd with rfl | rfl
  · obtain ⟨a, vs, rfl, h1, h2⟩ := r1.lst'
    exact ⟨a, rfl, .inl ⟨⟨vs, SqL.of (m1.ok.sub _ _ h1)⟩, k xs _ F1 H1 q1 m1 (itok_list h1 h2)⟩⟩
  · obtain ⟨a, vs, rfl, h1, h2⟩ := r1.tup'
    refine ⟨a, rfl, .inr ⟨⟨vs, sqT_mono m1.ok.sub (hA.k ▸ h1)⟩, ?_⟩⟩
    rw [← hA.k]
    exact k xs _ F1 H1 q1 m1 (itok_tup h1 h2)⟩
theorem itok_range {n : En} {F1 : Hp} {lo : Int} {m : Nat} : ItOk n (Itr lo m) ((List.range m).map fun i => .int (lo + (i : Nat))) F1 where
  go := fun i F2 H2 hi ok s => by show i < m; simpa using hi
  yld := fun i F2 H2 x H' hi ok s ⟨e, hx⟩ => by
    subst e; subst hx
    have hi' : i < m := by simpa using hi
    exact ⟨.int (lo + i), F2, by simp [hi'], Mv.refl ok, rInt ..⟩
  stop := fun F2 H2 ok s => by show m ≤ _; simp
theorem ui_range1 {a : Expr} (hg : Gl X "range") (hm : X.mg "range" = none) (ha : UE X a t) (hs : starEach [a] X.env = [(false, eval a X.env)] := by rfl) :
    UI X tg (.Call (.Name "range" p) [a] [] pos) (fun ρ Q => t ρ fun d => ∃ j : Int, d = .int j ∧ -(2 ^ 62) ≤ j ∧ j < 2 ^ 62 ∧ Q ((List.range j.toNat).map fun i => .int ((i : Nat) : Int))) :=
  ⟨PI.imp (pi_range1 hg hm (pa_cons ha.run pa_nil (by rw [hs]; rfl)) hs) fun σ H R ⟨n, F, ρ, Q0, hA, q, k⟩ => by
    refine ⟨n, F, ρ, _, hA, q, fun d v F1 H1 ⟨j, e, h1, h2, q1⟩ m1 r1 => ?_⟩
    subst e
    rw [r1.int']
    refine ⟨j, rfl, h1, h2, k _ _ F1 H1 q1 m1 ?_⟩
    have := itok_range (n := n) (F1 := F1) (lo := 0) (m := j.toNat)
    simpa using this⟩
theorem ui_range2 {a b : Expr} (p0 : PI X tg (.Call (.Name "range" p) [a, b] [] pos) (iRng2 (rA X ts))) :
    UI X tg (.Call (.Name "range" p) [a, b] [] pos) (fun ρ Q => ts ρ fun ds => ∃ i j : Int, ds = [.int i, .int j] ∧ -(2 ^ 62) ≤ i ∧ i < 2 ^ 62 ∧ -(2 ^ 62) ≤ j ∧ j < 2 ^ 62 ∧ Q ((List.range (j - i).toNat).map fun m => .int (i + (m : Nat)))) :=
  ⟨PI.imp p0 fun σ H R ⟨n, F, ρ, Q0, hA, q, k⟩ => by
    refine ⟨n, F, ρ, _, hA, q, fun ds vs F1 H1 ⟨i, j, e, h1, h2, h3, h4, q1⟩ m1 r1 => ?_⟩
    subst e
    obtain ⟨v, r, rfl, a1, a2⟩ := r1.inv
    obtain ⟨u, rfl, a3⟩ := a2.single
    rw [a1.int', a3.int']
    exact ⟨i, j, rfl, ⟨h1, h2, h3, h4⟩, k _ _ F1 H1 q1 m1 itok_range⟩⟩
end

/-! ### for -/
section
variable {X : Cx} {tg iter : Expr} {w : TPs} {g : TGp} {tb : TSp} {vs : List Nat} {body : List Stmt} {pos : Pos}
def pFor (w : TPs) (g : TGp) (tb : TSp) : TSp := fun P ρ => w ρ fun xs => ∃ I : Nat → List Slot → Prop, I 0 ρ ∧
  (∀ i ρ' d, xs[i]? = some d → I i ρ' → g d ρ' fun ρ2 => tb { P with nx := I (i + 1), ct := I (i + 1), bk := P.nx } ρ2) ∧ ∀ ρ', I xs.length ρ' → P.nx ρ'
theorem us_for (hp : PassesOwn (model X.prog X.w) X.A X.env X.xe) (hc : X.calm = true) (hi : UI X tg iter w) (hg : UG X tg vs g) (hb : USs X body tb) (hs : ∀ x, foldedSetIterable iter X.env x = pure x := by intro _; rfl) :
    US X (.For tg iter body [] pos) (pFor w g tb) := .of (ps_for hp hc hi.run hg.run hb.run hs) fun n F H ρ σ P E hA q f => by
  refine ⟨n, F, ρ, _, hA, q, fun xs J F1 H1 ⟨I, i0, step, fin⟩ m1 it => ?_⟩
  refine ⟨fun i m σ2 H2 => m = xs.length - i ∧ i ≤ xs.length ∧ ∃ ρ2 F2, ER n F2 H2 ρ2 σ2 ∧ Sub F1 F2 ∧ I i ρ2, ⟨xs.length, by simp, Nat.zero_le _, ρ, F1, hA.er.mv m1, Sub.refl _, i0⟩, ?_⟩
  rintro i m σ2 H2 ⟨rfl, hi, ρ2, F2, er, s12, inv⟩
  by_cases hlt : i < xs.length
  · refine .inr ⟨it.go i F2 H2 hlt er.ok s12, fun σ' H' => ∃ ρ3 F3, ER n F3 H' ρ3 σ' ∧ Sub F1 F3 ∧ I (i + 1) ρ3, fun σ' H' ⟨ρ3, F3, a, b, c⟩ => ⟨xs.length - (i + 1), by omega, rfl, hlt, ρ3, F3, a, b, c⟩, fun x H' y => ?_⟩
    obtain ⟨d, F3, hd, m3, rd⟩ := it.yld i F2 H2 x H' hlt er.ok s12 y
    refine ⟨n, F3, ρ2, d, _, ⟨hA.k, er.mv m3⟩, rd, step i ρ2 d hd inv, fun ρ4 σ4 q4 e4 _ => ?_⟩
    have s13 : Sub F1 F3 := s12.trans m3.ext
    exact ⟨n, F3, ρ4, _, ⟨hA.k, e4⟩, q4, ⟨fun ρ5 F5 σ5 H5 a b c => ⟨ρ5, F5, a, s13.trans b, c⟩, fun d v F5 H5 a b c e => f.rt d v F5 H5 a (m1.ext.trans (s13.trans b)) c e,
      fun ρ5 F5 σ5 H5 a b c => f.nx ρ5 F5 σ5 H5 a (m1.ext.trans (s13.trans b)) c, fun ρ5 F5 σ5 H5 a b c => ⟨ρ5, F5, a, s13.trans b, c⟩, fun ρ5 C fs dd kvs F5 σ5 H5 a b => f.xt ρ5 C fs dd kvs F5 σ5 H5 a (m1.ext.trans (s13.trans b))⟩⟩
  · have e : i = xs.length := by omega
    subst e
    exact .inl ⟨it.stop F2 H2 er.ok s12, f.nx ρ2 F2 σ2 H2 er (m1.ext.trans s12) (fin ρ2 inv)⟩
end

/-! ### [e for x in xs if t] -/
section
variable {X : Cx} {tg iter elt : Expr} {ifs : List Expr} {scope : Scope} {own : List (Str × Nat)} {w : TPs} {g : TGp} {tt : TPb} {te : TP} {pos : Pos}
def pwipe (ρ : List Slot) : List Nat → List Slot
  | [] => ρ
  | v :: vs => (pwipe ρ vs).set v .no
theorem ER.wipe {n : En} {F H : Hp} {ρ : List Slot} {σ : L2.St} (h : ER n F H ρ σ) : ∀ vs : List Nat, ER n F H (pwipe ρ vs) (L2.wipe σ vs)
  | [] => h
  | v :: vs => (ER.wipe h vs).forget v none
structure UTs (X : Cx) (ifs : List Expr) (t : TPb) : Prop where
  run : PTs X ifs (rT X t)
def pLc (w : TPs) (g : TGp) (tt : TPb) (te : TP) (vs : List Nat) : TPs := fun ρ Q => w ρ fun xs => ∃ I : Nat → List D → Prop, I 0 [] ∧
  (∀ i d acc, xs[i]? = some d → I i acc → acc.length < sizeLine ∧ g d (pwipe ρ vs) fun ρ2 => tt ρ2 fun b => if b = true then te ρ2 fun y => I (i + 1) (acc ++ [y]) else I (i + 1) acc) ∧ ∀ acc, I xs.length acc → Q acc
theorem lc_read {σ : L2.St} {H : Hp} {Q : VK} (vs : List Nat)
    {gR : TG} {ttR : TT} {teR : TE}
    (hg : ∀ v σ H Q, rG X vs g v σ H Q → gR v σ H Q) (ht : ∀ σ H Q, rT X tt σ H Q → ttR σ H Q) (he : ∀ σ H Q, rE X te σ H Q → teR σ H Q)
    (h : rL X (pLc w g tt te vs) σ H Q) : tLc (rI' X w) gR ttR teR vs σ H Q := by
  obtain ⟨n, F, ρ, Q0, hA, q, k⟩ := h
  refine ⟨n, F, ρ, _, hA, q, fun xs J F1 H1 ⟨I, i0, step, fin⟩ m1 it D hD => ?_⟩
  have hD0 : H D = none := m1.back hD
  have hDn := hA.er.ok.fresh hD0
  have a1 := Mv.alloc m1.ok hD (.lst [])
  refine ⟨fun i m H2 => m = xs.length - i ∧ i ≤ xs.length ∧ ∃ F2 us acc, Ok n F2 H2 ∧ Mv n F H F2 H2 ∧ Sub F1 F2 ∧ F2 D = none ∧ H2 D = some (.lst us) ∧ Reps n.w F2 acc us ∧ I i acc,
    ⟨xs.length, by simp, Nat.zero_le _, F1, [], [], a1.ok, m1.trans hA.er.ok a1, Sub.refl _, (m1.ok.fresh hD).2.2, upd_same, Reps.nil, i0⟩, ?_⟩
  rintro i m H2 ⟨rfl, hi, F2, us, acc, ok2, mv2, s12, hFD, hHD, r2, inv⟩
  by_cases hlt : i < xs.length
  · refine .inr ⟨it.go i F2 H2 hlt ok2 s12, fun H' => ∃ F3 us' acc', Ok n F3 H' ∧ Mv n F H F3 H' ∧ Sub F1 F3 ∧ F3 D = none ∧ H' D = some (.lst us') ∧ Reps n.w F3 acc' us' ∧ I (i + 1) acc', fun H' ⟨F3, us', acc', z⟩ => ⟨xs.length - (i + 1), by omega, rfl, hlt, F3, us', acc', z⟩, fun x H' y => ?_⟩
    obtain ⟨d, F3, hd, m3, rd⟩ := it.yld i F2 H2 x H' hlt ok2 s12 y
    obtain ⟨hz, st⟩ := step i d acc hd inv
    have mv3 := mv2.trans hA.er.ok m3
    have keepD : ∀ {F4 H4 : Hp}, Mv n F2 H2 F4 H4 → F4 D = none ∧ H4 D = some (.lst us) := fun {F4 H4} m4 => by
      refine ⟨?_, m4.keep _ _ hHD hDn.2.1⟩
      cases z : F4 D with
      | none => rfl
      | some o =>
        rcases m4.new D o z with z' | z'
        · rw [hFD] at z'; cases z'
        · rw [hHD] at z'; cases z'
    refine hg _ _ _ _ ⟨n, F3, pwipe ρ vs, d, _, ⟨hA.k, (hA.er.mv mv3).wipe vs⟩, rd, st, fun ρ4 σ4 q4 e4 w4 => ⟨?_, ?_⟩⟩
    · rw [w4]
      have : ∀ (vs us : List Nat) (σ : L2.St), (∀ j ∈ us, j ∈ vs) → wipe (wipe σ vs) us = wipe σ vs := by
        intro vs us σ hs
        induction us with
        | nil => rfl
        | cons j us ih =>
          show (wipe (wipe σ vs) us).set j none = wipe σ vs
          rw [ih fun k hk => hs k (List.mem_cons_of_mem _ hk)]
          have hj := hs j (List.mem_cons_self ..)
          clear ih hs
          induction vs with
          | nil => cases hj
          | cons k vs ih2 =>
            show ((wipe σ vs).set k none).set j none = (wipe σ vs).set k none
            by_cases hjk : j = k
            · subst hjk; rw [List.set_set]
            · have hj' : j ∈ vs := by
                rcases List.mem_cons.mp hj with z | z
                · exact absurd z hjk
                · exact z
              rw [set_comm' _ _ _ _ _ (Ne.symm hjk), ih2 hj']
      exact this vs vs σ fun _ h => h
    · refine ht _ _ _ ⟨n, F3, ρ4, _, ⟨hA.k, e4⟩, q4, fun b F5 H5 q5 m5 => ?_⟩
      have m25 := m3.trans ok2 m5
      obtain ⟨z1, z2⟩ := keepD m25
      cases b with
      | true =>
        refine iteT (he _ _ _ ⟨n, F5, ρ4, _, ⟨hA.k, e4.mv m5⟩, q5, fun y v F6 H6 q6 m6 r6 => ?_⟩)
        have m26 := m25.trans ok2 m6
        obtain ⟨z3, z4⟩ := keepD m26
        refine ⟨us, z4, by rw [r2.length]; exact hz, ?_⟩
        have s26 := m26.ext
        -- the list grows
        have subD : ∀ b o, b ≠ D → H6 b = some o → upd H6 D (.lst (us ++ [v])) b = some o := fun b o hb q => by rw [upd_ne hb]; exact q
        have ok7 : Ok n F6 (upd H6 D (.lst (us ++ [v]))) := by
          refine ⟨fun b o q => subD b o (fun z => by rw [z, z3] at q; cases q) (m26.ok.sub b o q), m26.ok.adF, fun p c q => ?_, m26.ok.ext, m26.ok.new, fun b o q hb => subD b o (fun z => by rw [z, hDn.1] at q; cases q) (m26.ok.keep b o q hb)⟩
          obtain ⟨ne, cells, at_, left, mixed, seed, y1, y2, y3⟩ := m26.ok.inv p c q
          have hc : c ≠ D := fun z => hDn.2.1 ⟨p, c, q, .inr z.symm⟩
          have hp : p ≠ D := fun z => hDn.2.1 ⟨p, c, q, .inl z.symm⟩
          exact ⟨ne, cells, at_, left, mixed, seed, subD _ _ hc y1, subD _ _ hp y2, y3⟩
        have mm := mv2.trans hA.er.ok m26
        refine ⟨F6, us ++ [v], acc ++ [y], ok7, ⟨ok7, mm.ext, mm.new, fun b o q hb => subD b o (fun z => by rw [z, hD0] at q; cases q) (mm.keep b o q hb)⟩, s12.trans s26, z3, upd_same, (Reps.mono s26 _ _ r2).append (Reps.one r6), q6⟩
      | false =>
        refine iteF ?_
        have mm := mv2.trans hA.er.ok m25
        exact ⟨F5, us, acc, m25.ok, mm, s12.trans m25.ext, z1, z2, Reps.mono m25.ext _ _ r2, q5⟩
  · have e : i = xs.length := by omega
    subst e
    refine .inl ⟨it.stop F2 H2 ok2 s12, k acc D us F2 H2 (fin acc inv) mv2 hD0 hFD hHD r2⟩
variable {K : PySem.W.Frag}
/-- a comprehension -/
theorem ul_lc (hc : X.calm = true) (hN : X.N.Nodup) (hi : UI X tg iter w) (ok : BlkOk X.N X.env.scope scope own)
    (hg : ∀ (s : Shared) (H : Hp) (C : Addr) (cl : List (Str × Addr)) (fp : List Addr), UG (X.blk s H scope (compEnvC scope cl C X.env) fp) tg (own.map (·.2)) g)
    (ht : ∀ (s : Shared) (H : Hp) (C : Addr) (cl : List (Str × Addr)) (fp : List Addr), UTs (X.blk s H scope (compEnvC scope cl C X.env) fp) ifs tt)
    (he : ∀ (s : Shared) (H : Hp) (C : Addr) (cl : List (Str × Addr)) (fp : List Addr), UE (X.blk s H scope (compEnvC scope cl C X.env) fp) elt te) (hs : ∀ x, foldedSetIterable iter X.env x = pure x := by intro _; rfl) :
    UL X (.ListComp elt [⟨tg, iter, ifs, 0⟩] scope pos) (pLc w g tt te (own.map (·.2))) :=
  ⟨PE.imp (pe_lc (g := rG X (List.map (fun (x : Str × Nat) => x.2) own) g) (tt := rT X tt) (te := rE X te) hc hN hi.run ok (fun s H C cl fp => (hg s H C cl fp).run) (fun s H C cl fp => (ht s H C cl fp).run) (fun s H C cl fp => (he s H C cl fp).run) hs) fun σ H Q h =>
    lc_read (List.map (fun (x : Str × Nat) => x.2) own) (fun _ _ _ _ h => h) (fun _ _ _ h => h) (fun _ _ _ h => h) h⟩
/-- name = [..] on one line -/
theorem us_lc {i : Nat} {y : Str} {py spos : Pos} (hc : X.calm = true) (hN : X.N.Nodup) (hy : X.N[i]? = some y) (hyl : X.env.scope.names.lookup y = some .local)
    (hsw : swapsWith (.ListComp elt [⟨tg, iter, ifs, 0⟩] scope pos) (some (.Name y py)) spos.line X.env = pure true) (hi : UI X tg iter w) (ok : BlkOk X.N X.env.scope scope own)
    (hg : ∀ (s : Shared) (H : Hp) (C : Addr) (cl : List (Str × Addr)) (fp : List Addr), UG (X.blk s H scope (compEnvC scope cl C X.env) fp) tg (own.map (·.2)) g)
    (ht : ∀ (s : Shared) (H : Hp) (C : Addr) (cl : List (Str × Addr)) (fp : List Addr), UTs (X.blk s H scope (compEnvC scope cl C X.env) fp) ifs tt)
    (he : ∀ (s : Shared) (H : Hp) (C : Addr) (cl : List (Str × Addr)) (fp : List Addr), UE (X.blk s H scope (compEnvC scope cl C X.env) fp) elt te) (hs : ∀ x, foldedSetIterable iter X.env x = pure x := by intro _; rfl) :
    PS X (.Assign [.Name y py] (.ListComp elt [⟨tg, iter, ifs, 0⟩] scope pos) spos) (tAsg (rL X (pLc w g tt te (own.map (·.2)))) (gName i)) :=
  PS.imp (ps_setLc (g := rG X (List.map (fun (x : Str × Nat) => x.2) own) g) (tt := rT X tt) (te := rE X te) hc hN hy hyl hsw hi.run ok (fun s H C cl fp => (hg s H C cl fp).run) (fun s H C cl fp => (ht s H C cl fp).run) (fun s H C cl fp => (he s H C cl fp).run) hs) fun D σ H h =>
    lc_read (X := X) (w := w) (g := g) (tt := tt) (te := te) (σ := σ) (H := H) (Q := fun x H1 => gName i x σ H1 D.nx) (List.map (fun (x : Str × Nat) => x.2) own) (fun _ _ _ _ h => h) (fun _ _ _ h => h) (fun _ _ _ h => h) h
theorem us_own_of {i : Nat} {st : Stmt} {tr : TPs} (p0 : PS X st (tAsg (rL X tr) (gName i))) : US X st (pOwn i tr) := us_own p0
/-- .. as data -/
theorem us_setL {i : Nat} {st : Stmt} {tr : TPs} (p0 : PS X st (tAsg (rL X tr) (gName i))) : US X st (pSet i (uF tr)) := .of p0 fun n F H ρ σ P E hA q f => ⟨n, F, ρ, _, hA, q, fun xs a vs F1 H1 q1 m1 h1 h2 h3 r1 => by
  have m2 := Mv.freeze hA.er.ok m1 h1 h2 h3
  exact f.nx _ _ _ H1 ((hA.er.mv m2).set_va i (Rep.lst upd_same (Reps.mono (sub_upd h2 _) xs vs r1))) m2.ext q1⟩
theorem uts_nil : UTs X [] (fun _ Q => Q true) := ⟨⟨fun pins s σ H Q I ⟨n, F, ρ, Q0, hA, q, k⟩ => pts_nil.run pins s σ H Q I (k true F H q (Mv.refl hA.er.ok))⟩⟩
theorem uts_one {c : Expr} {t : TPb} (h : UT X c t) : UTs X [c] t := ⟨pts_one h.run⟩
end
end U

set_option Elab.async false
set_option linter.all false
set_option maxRecDepth 100000
set_option maxHeartbeats 4000000

namespace PySem
open Sem (wp)
theorem meets_enumerate_newT (l : Addr) (items : Array Value) :
    Meets (Builtin.«enumerate.__new__» ⟨[.type "enumerate", .ref l], []⟩) (fun _ R s => s.heap.IsTuple l items ∧
      R (.ok (.ret (.ref (s.heap.push { cls := .type "tuple_iterator", data := .fields #[.ref l, .int 0 0] }).objs.size)))
        { s with heap := (s.heap.push { cls := .type "tuple_iterator", data := .fields #[.ref l, .int 0 0] }).push { cls := .type "enumerate", data := .fields #[.none, .bool false, .ref s.heap.objs.size, rawInt 0, .none, .none] } }) :=
  .of_wp fun prog w A R s h => by
    obtain ⟨hp, g, d, tk, os⟩ := s; obtain ⟨h1, h⟩ := h
    have hsub := sub_enumerate
    have q1 : ∀ {A' : Around} {E : Value → Shared → Prop} {Q : Value → Shared → Prop}, Q (.ref hp.objs.size) ⟨hp.push { cls := .type "tuple_iterator", data := .fields #[.ref l, .int 0 0] }, g, d, tk, os⟩ → wpAny (model prog w) A' (pyIter (.ref l)) Q E ⟨hp, g, d, tk, os⟩ :=
      fun q => (begins_tuple l items).iter prog w _ _ ⟨hp, g, d, tk, os⟩ _ h1 q
    wp_walk using q1
    refine wpAny_stack_any fun st => wpAny_pure ?_
    split
    · rename_i c _ _ _ _ _
      cases (c == Value.type "enumerate")
      · wp_walk using q1
        exact ⟨_, rfl, h⟩
      · wp_walk using q1
        exact ⟨_, rfl, h⟩
    · wp_walk using q1
      exact ⟨_, rfl, h⟩
section
variable {prog : Program} {w : World} {A : Around} {E : Value → Shared → Prop} {s : Shared}
theorem call_enumerate_tuple {l : Addr} {items : Array Value} {Q : Value → Shared → Prop} (hL : s.heap.IsTuple l items)
    (h : ∀ h', IsEnum h' (s.heap.objs.size + 1) s.heap.objs.size 0 .none → h'.IsTupleIter s.heap.objs.size l 0 → h'.objs.size = s.heap.objs.size + 2 →
      (∀ b o, s.heap.get? b = some o → h'.get? b = some o) → Q (.ref (s.heap.objs.size + 1)) { s with heap := h' }) :
    wpAny (model prog w) A (call (.type "enumerate") [.ref l]) Q E s := by
  refine callType_new F.called_enumerate (by decide) (F.typeCall_enumerate_1 _) (F.newCall_enumerate_1 _) (fun obj => F.args_object_init_2 obj _) F.entry_enumerate_new
    (meets_enumerate_newT l items) ⟨hL, ?_⟩
  have hz : (s.heap.push { cls := .type "tuple_iterator", data := .fields #[.ref l, .int 0 0] }).objs.size = s.heap.objs.size + 1 := Heap.size_push ..
  show _ ∧ _
  rw [hz]
  have he : IsEnum ((s.heap.push { cls := .type "tuple_iterator", data := .fields #[.ref l, .int 0 0] }).push
      { cls := .type "enumerate", data := .fields #[.none, .bool false, .ref s.heap.objs.size, rawInt 0, .none, .none] }) (s.heap.objs.size + 1) s.heap.objs.size 0 .none := by
    have := Heap.get?_push_size (s.heap.push { cls := .type "tuple_iterator", data := .fields #[.ref l, .int 0 0] })
      (o := { cls := .type "enumerate", data := .fields #[.none, .bool false, .ref s.heap.objs.size, rawInt 0, .none, .none] }) rfl
    rw [hz] at this; exact this
  refine ⟨⟨_, he, rfl⟩, h _ he ⟨_, Heap.get?_push_of_some _ (Heap.get?_push_size _ rfl), rfl, rfl⟩ (by rw [Heap.size_push, hz]) fun b o x => Heap.get?_push_of_some _ (Heap.get?_push_of_some _ x)⟩
theorem pyNext_enum_endT {e it l : Addr} {i : Nat} {items : Array Value} {old : Value} {Q : Option Value → Shared → Prop} (hh : A.handled = none)
    (he : IsEnum s.heap e it i old) (hit : s.heap.IsTupleIter it l i) (hl : s.heap.IsTuple l items) (hx : items[i]? = none)
    (hQ : ∀ h', Heap.ExtBut it s.heap h' → Q none { s with heap := h' }) : wpAny (model prog w) A (pyNext (.ref e)) Q E s := by
  have hT : s.TypeIs (.ref e) "enumerate" := ⟨_, he, rfl⟩
  unfold pyNext
  refine wpAny_bind (wpAny_attempt (wpAny_callSpecial?_slot (name := Str.ofString "__next__") hT F.slot_enumerate_next
    (wpAny_call_entry F.slot_enumerate_next hT F.entry_enumerate_next ?_ (F.args_enumerate_next_1 _))))
  show wpAny _ _ (field (.ref e) 2 >>= _) _ _ _
  refine wpAny_bind (wpAny_field he rfl (x := .ref it) rfl ?_)
  refine wpAny_bind (wpAny_nextOf_tuple_end hh hit hl hx fun h' x he' hx' => ?_)
  obtain ⟨o, ho, hc⟩ := hx'
  refine wpAny_bind (wpAny_isInstance (T := "StopIteration") (b := true) ⟨o, ho, hc⟩ isSubtype_stop ?_)
  exact wpAny_pure (hQ _ he')
end
end PySem

namespace U
open PySem PySem.Spec PyProof.Rows L2
/-- enumerate of a tuple -/
def IteT (K : PySem.W.Frag) (a : Addr) : It :=
  ⟨fun i H => ∃ (xs : List V) (x : V), SqT K H a xs ∧ xs[i]? = some x, fun i H v H' => ∃ T x, v = .ref T ∧ H T = none ∧ H' = upd H T (.tup [.int (i : Nat), x]) ∧ ∀ xs, SqT K H a xs → xs[i]? = some x, fun i H => ∃ xs : List V, SqT K H a xs ∧ xs.length ≤ i⟩
theorem turn_enumT {P : Program} {w : World} {K : PySem.W.Frag} {elts : List Expr} {kk : Nat} {tpos : Pos} (a e it : Addr) :
    Turn P w K (.Tuple elts kk tpos) (IteT K a) [e, it] e (fun i h => (∃ old, IsEnum h e it ((i : Nat) : Int) old) ∧ h.IsTupleIter it a i ∧ e ≠ it ∧ a ≠ it) where
  mem := by simp
  obj := fun i h st b hb => by
    obtain ⟨⟨old, he⟩, ⟨o, ho, hc, hd⟩, _⟩ := st
    have e' : b = e ∨ b = it := by simpa using hb
    rcases e' with z | z
    · rw [z]; exact ⟨_, he, fun v q => nomatch q⟩
    · rw [z]; exact ⟨o, ho, fun v q => by rw [hd] at q; cases q⟩
  keep := fun i h h' st k => let ⟨⟨old, he⟩, hi, hne⟩ := st; ⟨⟨old, k e (by simp) _ he⟩, hi.at fun o q => k it (by simp) o q, hne⟩
  item := by
    intro X hP hw hK hc i pins s σ H E I hf st hg
    subst hP hw hK
    obtain ⟨⟨old, he⟩, hit, hne, hai⟩ := st
    obtain ⟨xs, x, hq, hx⟩ := hg
    obtain ⟨its, rv, p, hz⟩ := I.tuple hq
    obtain ⟨u, hu, ru⟩ := rv.get hx
    have hel : e < s.heap.objs.size := Heap.lt_size he
    have hil : it < s.heap.objs.size := by obtain ⟨_, q, _⟩ := hit; exact Heap.lt_size q
    have hlt : i < its.toArray.size := by
      have := (List.getElem?_eq_some_iff.mp hu).1
      simpa using this
    have hea : e ≠ a := fun z => by
      obtain ⟨o, ho, hcl, _⟩ := p
      rw [← z] at ho
      have := he
      unfold IsEnum at this
      rw [ho] at this
      have h2 := Option.some.inj this
      rw [h2] at hcl
      exact absurd (show Value.type "enumerate" = Value.type "tuple" from hcl) (by decide)
    refine wpAny_pyNext_enum_itemD (Draws.tuple (A := X.A.in1) (show X.A.in1.handled = none from I.ok.hd hc) it a hai its.toArray) he ⟨hit, show s.heap.IsTuple a its.toArray from p⟩ hlt hne (by simp [hne, hea]) fun x' h' tk hx' ho hst hT hsz hk => ?_
    have ex : x' = u := by
      have h1 : its.toArray[i]? = some u := by simpa using hu
      rw [h1] at hx'
      exact (Option.some.inj hx').symm
    subst ex
    refine ⟨_, rfl, wpAny_letOwnedTupleGo_enum (s := { s with heap := h', toks := tk + 1 }) ho fun h'' he' sb => ?_⟩
    have hT2 : h''.get? s.heap.objs.size = some { cls := .type "tuple", data := .seq #[.int i tk, x'] } := (sb.2 _ (Nat.ne_of_gt hel)).trans hT
    have new : ObjOk X.prog X.w (upd H s.heap.objs.size (.tup [.int (i : Nat), x])) h'' s.heap.objs.size (.tup [.int (i : Nat), x]) :=
      ⟨by show 2 ≤ sizeLine; decide, [.int i tk, x'], .cons ⟨_, rfl⟩ (.cons ru .nil), ⟨_, hT2, rfl, _, rfl⟩⟩
    have I1 : Inv X pins σ (upd H s.heap.objs.size (.tup [.int (i : Nat), x])) { s with heap := h'', toks := tk + 1 } :=
      I.turnedNew (ch := [e, it]) (fun b ob hb q => (sb.2 b (fun z => hb (by simp [z]))).trans (hk b ob (fun z => hb (by simp [z])) (fun z => hb (by simp [z])) q)) hf (Nat.le_refl _) new
    refine ⟨.ref s.heap.objs.size, _, I1, rfl, ⟨_, x, rfl, I.hok.fresh (Nat.le_refl _), rfl, fun ys hy => by rw [I.tuple_inj hy hq]; exact hx⟩, ⟨⟨x', ?_⟩, hst.1.at fun o q => (sb.2 it (Ne.symm hne)).trans q, hne, hai⟩, fun b hb => ?_⟩
    · have e1 : ((i + 1 : Nat) : Int) = (i : Int) + 1 := by omega
      rw [e1]; exact he'
    · have hb' : b < s.heap.objs.size := by
        have e' : b = e ∨ b = it := by simpa using hb
        rcases e' with z | z
        · rw [z]; exact hel
        · rw [z]; exact hil
      rw [upd_ne (Nat.ne_of_lt hb')]
      exact (hf b hb).1
  done := by
    intro X hP hw hK hc i pins s σ H E I hf st hg
    subst hP hw hK
    obtain ⟨⟨old, he⟩, hit, hne, hai⟩ := st
    obtain ⟨xs, hq, hx⟩ := hg
    obtain ⟨its, rv, p, hz⟩ := I.tuple hq
    obtain ⟨f0, f1, f2, f3, f4, f5⟩ := hf it (by simp)
    have hl := rv.length
    exact pyNext_enum_endT (I.ok.hd hc) he hit (show s.heap.IsTuple a its.toArray from p) (by simp; omega) fun h' eb => ⟨rfl, I.turned (t' := s.toks) (fun b o hb q => eb b o hb q) f0 f1 f3 f4 f5⟩
  self := fun A i s Q E st h => let ⟨⟨_, he⟩, _⟩ := st; wpAny_pyIter_enum he h
/-- what enumerate gives -/
def enumD (xs : List D) : List D := (List.range xs.length).map fun i => .tup [.int (i : Nat), xs.getD i .non]
theorem enumD_len (xs : List D) : (enumD xs).length = xs.length := by simp [enumD]
theorem enumD_get {xs : List D} {i : Nat} {x : D} (h : xs[i]? = some x) : (enumD xs)[i]? = some (.tup [.int (i : Nat), x]) := by
  obtain ⟨hi, hx⟩ := List.getElem?_eq_some_iff.mp h
  simp [enumD, hi, List.getD, hx]
theorem itok_enumL {n : En} {K : PySem.W.Frag} {F1 : Hp} {a : Addr} {vs : List V} {xs : List D} (h : F1 a = some (.lst vs)) (r : Reps n.w F1 xs vs) : ItOk n (Ite K a) (enumD xs) F1 where
  go := fun i F2 H2 hi ok s => by
    rw [enumD_len] at hi
    exact ⟨vs, _, SqL.of (ok.sub _ _ (s _ _ h)), List.getElem?_eq_getElem (by rw [r.length]; exact hi)⟩
  yld := fun i F2 H2 x H' hi ok s ⟨T, y, e1, hT, e2, hy⟩ => by
    subst e1; subst e2
    obtain ⟨d, hd, rd⟩ := r.get' (hy vs (SqL.of (ok.sub _ _ (s _ _ h))))
    exact ⟨_, _, enumD_get hd, Mv.frozen ok hT _, Rep.tup_new ok hT (Reps.cons (rInt ..) (Reps.one (Rep.mono s d y rd)))⟩
  stop := fun F2 H2 ok s => ⟨vs, SqL.of (ok.sub _ _ (s _ _ h)), by rw [enumD_len, r.length]; exact Nat.le_refl _⟩
theorem itok_enumT {n : En} {F1 : Hp} {a : Addr} {vs : List V} {xs : List D} (h : SqT n.w.K F1 a vs) (r : Reps n.w F1 xs vs) : ItOk n (IteT n.w.K a) (enumD xs) F1 where
  go := fun i F2 H2 hi ok s => by
    rw [enumD_len] at hi
    exact ⟨vs, _, sqT_mono (s.trans ok.sub) h, List.getElem?_eq_getElem (by rw [r.length]; exact hi)⟩
  yld := fun i F2 H2 x H' hi ok s ⟨T, y, e1, hT, e2, hy⟩ => by
    subst e1; subst e2
    obtain ⟨d, hd, rd⟩ := r.get' (hy vs (sqT_mono (s.trans ok.sub) h))
    exact ⟨_, _, enumD_get hd, Mv.frozen ok hT _, Rep.tup_new ok hT (Reps.cons (rInt ..) (Reps.one (Rep.mono s d y rd)))⟩
  stop := fun F2 H2 ok s => ⟨vs, sqT_mono (s.trans ok.sub) h, by rw [enumD_len, r.length]; exact Nat.le_refl _⟩
section
variable {X : Cx} {e a b : Expr} {t ta tb : TP} {p pos tpos : Pos} {elts : List Expr} {kk : Nat}
theorem pi_enumA {ta : TA} (hg : Gl X "enumerate") (hm : X.mg "enumerate" = none) (ha : PA X [e] ta) (hs : starEach [e] X.env = [(false, eval e X.env)] := by rfl) :
    PI X (.Tuple elts kk tpos) (.Call (.Name "enumerate" p) [e] [] pos) (fun σ H R => ta σ H fun vs H1 => ∃ a xs, vs = [.ref a] ∧ ((SqL X.K H1 a xs ∧ R (Ite X.K a) H1) ∨ (SqT X.K H1 a xs ∧ R (IteT X.K a) H1))) := by
  refine ⟨fun pins s σ H R I h => ?_⟩
  refine Call_ (ld_blt I hg hm boot_enumerate (PyProof.Rows.callWith_type1 (thn (ha.run pos pins s σ H _ I h) fun us s1 ⟨vs, H1, I1, r1, q1⟩ => ?_) hs rfl))
  obtain ⟨a, xs, ex, q1⟩ := q1
  subst ex
  cases r1 with
  | cons r rr =>
    cases rr
    cases r
    have fr : ∀ b ∈ [s1.heap.objs.size + 1, s1.heap.objs.size], FpOk X pins H1 b := fun b hb => by
      have e' : b = s1.heap.objs.size + 1 ∨ b = s1.heap.objs.size := by simpa using hb
      have hle : s1.heap.objs.size ≤ b := by
        rcases e' with z | z
        · rw [z]; exact Nat.le_add_right _ _
        · rw [z]; exact Nat.le_refl _
      exact I1.fpOk hle (I1.hok.fresh hle)
    rcases q1 with ⟨hq, q⟩ | ⟨hq, q⟩
    · obtain ⟨its, rv, p', hz⟩ := I1.list hq
      refine call_enumerate_list p'.isList fun h' he hit hsz hk => wpAny_pyIter_enum he ?_
      exact ⟨s1.heap.objs.size + 1, [s1.heap.objs.size + 1, s1.heap.objs.size], _, _, H1, rfl, I1.kept (t' := s1.toks) hk, turn_enum a (s1.heap.objs.size + 1) s1.heap.objs.size, ⟨⟨.none, he⟩, hit, Nat.succ_ne_self _⟩, fr, q⟩
    · obtain ⟨its, rv, p', hz⟩ := I1.tuple hq
      have hlt : a < s1.heap.objs.size := by obtain ⟨o, ho, _⟩ := id p'; exact Heap.lt_size ho
      refine call_enumerate_tuple (show s1.heap.IsTuple a its.toArray from p') fun h' he hit hsz hk => wpAny_pyIter_enum he ?_
      exact ⟨s1.heap.objs.size + 1, [s1.heap.objs.size + 1, s1.heap.objs.size], _, _, H1, rfl, I1.kept (t' := s1.toks) hk, turn_enumT a (s1.heap.objs.size + 1) s1.heap.objs.size, ⟨⟨.none, he⟩, hit, Nat.succ_ne_self _, Nat.ne_of_lt hlt⟩, fr, q⟩
theorem ui_enum (hg : Gl X "enumerate") (hm : X.mg "enumerate" = none) (ha : UE X e t) (hs : starEach [e] X.env = [(false, eval e X.env)] := by rfl) :
    UI X (.Tuple elts kk tpos) (.Call (.Name "enumerate" p) [e] [] pos) (fun ρ Q => t ρ fun d => ∃ xs, (d = .lst xs ∨ d = .tup xs) ∧ Q (enumD xs)) :=
  ⟨PI.imp (pi_enumA hg hm (pa_cons ha.run pa_nil (by rw [hs]; rfl)) hs) fun σ H R ⟨n, F, ρ, Q0, hA, q, k⟩ => by
    refine ⟨n, F, ρ, _, hA, q, fun d v F1 H1 ⟨xs, hd, q1⟩ m1 r1 => ?_⟩
    rcases hd with rfl | rfl
    · obtain ⟨a, vs, rfl, h1, h2⟩ := r1.lst'
      exact ⟨a, vs, rfl, .inl ⟨SqL.of (m1.ok.sub _ _ h1), k _ _ F1 H1 q1 m1 (itok_enumL h1 h2)⟩⟩
    · obtain ⟨a, vs, rfl, h1, h2⟩ := r1.tup'
      refine ⟨a, vs, rfl, .inr ⟨sqT_mono m1.ok.sub (hA.k ▸ h1), ?_⟩⟩
      rw [← hA.k]
      exact k _ _ F1 H1 q1 m1 (itok_enumT h1 h2)⟩
/-- what zip gives -/
def zipD (xs ys : List D) : List D := (xs.zip ys).map fun p => .tup [p.1, p.2]
theorem zipD_get {xs ys : List D} {i : Nat} {x y : D} (h : xs[i]? = some x) (h' : ys[i]? = some y) : (zipD xs ys)[i]? = some (.tup [x, y]) := by
  have hi := (List.getElem?_eq_some_iff.mp h)
  have hj := (List.getElem?_eq_some_iff.mp h')
  obtain ⟨h1, h2⟩ := hi
  obtain ⟨h3, h4⟩ := hj
  simp [zipD, List.getElem?_zip_eq_some, h, h']
theorem zipD_len (xs ys : List D) : (zipD xs ys).length = min xs.length ys.length := by simp [zipD]
open RZ in
theorem itok_zipT {n : En} {F1 : Hp} {a b : Addr} {vs us : List V} {xs ys : List D} (h : SqT n.w.K F1 a vs) (r : Reps n.w F1 xs vs) (h' : SqT n.w.K F1 b us) (r' : Reps n.w F1 ys us) : ItOk n (ItzT n.w.K a b) (zipD xs ys) F1 where
  go := fun i F2 H2 hi ok s => by
    rw [zipD_len] at hi
    exact ⟨vs, us, _, _, sqT_mono (s.trans ok.sub) h, sqT_mono (s.trans ok.sub) h', List.getElem?_eq_getElem (by rw [r.length]; omega), List.getElem?_eq_getElem (by rw [r'.length]; omega)⟩
  yld := fun i F2 H2 x H' hi ok s ⟨T, y, z, e1, hT, e2, hy, hz⟩ => by
    subst e1; subst e2
    obtain ⟨d, hd, rd⟩ := r.get' (hy vs (sqT_mono (s.trans ok.sub) h))
    obtain ⟨e, he, re⟩ := r'.get' (hz us (sqT_mono (s.trans ok.sub) h'))
    exact ⟨_, _, zipD_get hd he, Mv.frozen ok hT _, Rep.tup_new ok hT (Reps.cons (Rep.mono s d y rd) (Reps.one (Rep.mono s e z re)))⟩
  stop := fun F2 H2 ok s => ⟨vs, us, sqT_mono (s.trans ok.sub) h, sqT_mono (s.trans ok.sub) h', by rw [zipD_len, r.length, r'.length]; omega⟩
theorem itok_zipL {n : En} {K : PySem.W.Frag} {F1 : Hp} {a b : Addr} {vs us : List V} {xs ys : List D} (h : F1 a = some (.lst vs)) (r : Reps n.w F1 xs vs) (h' : F1 b = some (.lst us)) (r' : Reps n.w F1 ys us) : ItOk n (Itz K a b) (zipD xs ys) F1 where
  go := fun i F2 H2 hi ok s => by
    rw [zipD_len] at hi
    exact ⟨vs, us, _, _, SqL.of (ok.sub _ _ (s _ _ h)), SqL.of (ok.sub _ _ (s _ _ h')), List.getElem?_eq_getElem (by rw [r.length]; omega), List.getElem?_eq_getElem (by rw [r'.length]; omega)⟩
  yld := fun i F2 H2 x H' hi ok s ⟨T, y, z, e1, hT, e2, hy, hz⟩ => by
    subst e1; subst e2
    obtain ⟨d, hd, rd⟩ := r.get' (hy vs (SqL.of (ok.sub _ _ (s _ _ h))))
    obtain ⟨e, he, re⟩ := r'.get' (hz us (SqL.of (ok.sub _ _ (s _ _ h'))))
    exact ⟨_, _, zipD_get hd he, Mv.frozen ok hT _, Rep.tup_new ok hT (Reps.cons (Rep.mono s d y rd) (Reps.one (Rep.mono s e z re)))⟩
  stop := fun F2 H2 ok s => ⟨vs, us, SqL.of (ok.sub _ _ (s _ _ h)), SqL.of (ok.sub _ _ (s _ _ h')), by rw [zipD_len, r.length, r'.length]; omega⟩
open RZ in
/-- zip of two tuples, of two lists -/
theorem ui_zip {ts : TPs} (p0 : PI X (.Tuple elts kk tpos) (.Call (.Name "zip" p) [a, b] [] pos) (iZipA X.K (rA X ts))) :
    UI X (.Tuple elts kk tpos) (.Call (.Name "zip" p) [a, b] [] pos) (fun ρ Q => ts ρ fun ds => ∃ xs ys, (ds = [.tup xs, .tup ys] ∨ ds = [.lst xs, .lst ys]) ∧ Q (zipD xs ys)) :=
  ⟨PI.imp p0 fun σ H R ⟨n, F, ρ, Q0, hA, q, k⟩ => by
    refine ⟨n, F, ρ, _, hA, q, fun ds vs F1 H1 ⟨xs, ys, hd, q1⟩ m1 r1 => ?_⟩
    rcases hd with rfl | rfl
    · obtain ⟨v, r, rfl, a1, a2⟩ := r1.inv
      obtain ⟨u, rfl, a3⟩ := a2.single
      obtain ⟨a, us, rfl, h1, h2⟩ := a1.tup'
      obtain ⟨b, ws, rfl, h3, h4⟩ := a3.tup'
      refine ⟨a, b, us, ws, rfl, .inr ⟨sqT_mono m1.ok.sub (hA.k ▸ h1), sqT_mono m1.ok.sub (hA.k ▸ h3), ?_⟩⟩
      rw [← hA.k]
      exact k _ _ F1 H1 q1 m1 (itok_zipT h1 h2 h3 h4)
    · obtain ⟨v, r, rfl, a1, a2⟩ := r1.inv
      obtain ⟨u, rfl, a3⟩ := a2.single
      obtain ⟨a, us, rfl, h1, h2⟩ := a1.lst'
      obtain ⟨b, ws, rfl, h3, h4⟩ := a3.lst'
      exact ⟨a, b, us, ws, rfl, .inl ⟨SqL.of (m1.ok.sub _ _ h1), SqL.of (m1.ok.sub _ _ h3), k _ _ F1 H1 q1 m1 (itok_zipL h1 h2 h3 h4)⟩⟩⟩
/-- list(d) of a dict -/
theorem ul_listD (hc : X.calm = true) (hg : Gl X "list") (hm : X.mg "list" = none) (h : UE X e t) (he : starEach [e] X.env = (false, eval e X.env) :: starEach [] X.env := by rfl) (hpl : (backTo pos (starEach [] X.env)).any (·.1) = false := by rfl) :
    UL X (.Call (.Name "list" p) [e] [] pos) (fun ρ Q => t ρ fun d => ∃ ks, d = .dk ks ∧ Q (ks.map fun kv => kD kv.1)) :=
  ⟨PE.imp (pe_callTy (call_listD hc) hg hm PyProof.Rows.boot_list (pa_cons h.run pa_nil he) (by decide) (by decide) he hpl) fun σ H Q ⟨n, F, ρ, Q0, hA, q, k⟩ => by
    refine ⟨n, F, ρ, _, hA, q, fun d v F1 H1 ⟨ks, hd, q1⟩ m1 r1 => ?_⟩
    subst hd
    obtain ⟨a, kvs, rfl, h1, h2⟩ := r1.dk'
    refine ⟨a, kvs, rfl, .inl (m1.ok.sub _ _ h1), fun l hl => ?_⟩
    refine k _ l _ _ _ q1 (m1.trans hA.er.ok (Mv.alloc m1.ok hl _)) (m1.back hl) (m1.ok.fresh hl).2.2 upd_same ?_
    have gen : ∀ {ks : List (Key × D)} {kvs : List (Key × V)}, RepK n.w F1 ks kvs → Reps n.w F1 (ks.map fun kv => kD kv.1) (kvs.map fun kv => kV kv.1) := by
      intro ks
      induction ks with
      | nil =>
        intro kvs h
        simp only [RepK] at h
        subst h
        exact Reps.nil
      | cons kd ks ih =>
        intro kvs h
        obtain ⟨kk, dd⟩ := kd
        simp only [RepK] at h
        obtain ⟨v, r, rfl, _, h2⟩ := h
        refine Reps.cons ?_ (ih h2)
        cases kk with
        | inl i => exact rInt ..
        | inr x => exact rStr ..
    exact gen h2⟩
end
end U

set_option Elab.async false
set_option linter.all false
set_option maxRecDepth 100000
set_option maxHeartbeats 4000000
namespace U
open PySem PySem.Spec PyProof.Rows L2

/-! ### {k: v for x in xs if t} -/
section
variable {X : Cx} {tg iter kx vx : Expr} {ifs : List Expr} {scope : Scope} {own : List (Str × Nat)} {w : TPs} {g : TGp} {tt : TPb} {tk tv : TP} {pos : Pos}
abbrev TPk := List Slot → (List (Key × D) → Prop) → Prop
def rDk (X : Cx) (t : TPk) : TE := fun σ H Q => ∃ n F ρ Q0, At X n F H ρ σ ∧ t ρ Q0 ∧ ∀ ks a vs F' H', Q0 ks → Mv n F H F' H' → H a = none → F' a = none → H' a = some (.dK vs) → RepK n.w F' ks vs → Q (.ref a) H'
def pDc (w : TPs) (g : TGp) (tt : TPb) (tk tv : TP) (vs : List Nat) : TPk := fun ρ Q => w ρ fun xs => ∃ I : Nat → List (Key × D) → Prop, I 0 [] ∧
  (∀ i d acc, xs[i]? = some d → I i acc → acc.length < sizeLine ∧ g d (pwipe ρ vs) fun ρ2 => tt ρ2 fun b => if b = true then tk ρ2 fun y => tv ρ2 fun z => ∃ k, y = kD k ∧ I (i + 1) (putD acc k z) else I (i + 1) acc) ∧ ∀ acc, I xs.length acc → Q acc
theorem wipe_wipe : ∀ (vs us : List Nat) (σ : L2.St), (∀ j ∈ us, j ∈ vs) → wipe (wipe σ vs) us = wipe σ vs := by
  intro vs us σ hs
  induction us with
  | nil => rfl
  | cons j us ih =>
    show (wipe (wipe σ vs) us).set j none = wipe σ vs
    rw [ih fun k hk => hs k (List.mem_cons_of_mem _ hk)]
    have hj := hs j (List.mem_cons_self ..)
    clear ih hs
    induction vs with
    | nil => cases hj
    | cons k vs ih2 =>
      show ((wipe σ vs).set k none).set j none = (wipe σ vs).set k none
      by_cases hjk : j = k
      · subst hjk; rw [List.set_set]
      · have hj' : j ∈ vs := by
          rcases List.mem_cons.mp hj with z | z
          · exact absurd z hjk
          · exact z
        rw [set_comm' _ _ _ _ _ (Ne.symm hjk), ih2 hj']
/-- what is new is written -/
theorem Ok.wr {n : En} {F H : Hp} (k : Ok n F H) {a : Addr} (u : HO) (h0 : n.H0 a = none) (hF : F a = none) (ha : ¬ n.ads a) : Ok n F (upd H a u) := by
  have sub : ∀ b o, b ≠ a → H b = some o → upd H a u b = some o := fun b o hb q => by rw [upd_ne hb]; exact q
  refine ⟨fun b o q => sub b o (fun z => by rw [z, hF] at q; cases q) (k.sub b o q), k.adF, fun p c q => ?_, k.ext, k.new, fun b o q hb => sub b o (fun z => by rw [z, h0] at q; cases q) (k.keep b o q hb)⟩
  obtain ⟨ne, cells, at_, left, mixed, seed, y1, y2, y3⟩ := k.inv p c q
  have hc : c ≠ a := fun z => ha ⟨p, c, q, .inr z.symm⟩
  have hp : p ≠ a := fun z => ha ⟨p, c, q, .inl z.symm⟩
  exact ⟨ne, cells, at_, left, mixed, seed, sub _ _ hc y1, sub _ _ hp y2, y3⟩
theorem Mv.wr {n : En} {F H F' H' : Hp} (k : Ok n F H) (m : Mv n F H F' H') {a : Addr} (u : HO) (h0 : H a = none) (hF : F' a = none) : Mv n F H F' (upd H' a u) := by
  have hf := k.fresh h0
  exact ⟨m.ok.wr u hf.1 hF hf.2.1, m.ext, m.new, fun b o q hb => by
    have : b ≠ a := fun z => by rw [z, h0] at q; cases q
    rw [upd_ne this]
    exact m.keep b o q hb⟩
theorem putD_len (ks : List (Key × D)) (k : Key) (d : D) : (putD ks k d).length ≤ ks.length + 1 := by
  unfold putD
  split <;> simp
theorem dc_read {σ : L2.St} {H : Hp} {Q : VK} (vs : List Nat)
    (h : rDk X (pDc w g tt tk tv vs) σ H Q) : tDc (rI' X w) (rG X vs g) (rT X tt) (rE X tk) (rE X tv) vs σ H Q := by
  obtain ⟨n, F, ρ, Q0, hA, q, k⟩ := h
  refine ⟨n, F, ρ, _, hA, q, fun xs J F1 H1 ⟨I, i0, step, fin⟩ m1 it D hD => ?_⟩
  have hD0 : H D = none := m1.back hD
  have hDn := hA.er.ok.fresh hD0
  have a1 := Mv.alloc m1.ok hD (.dK [])
  refine ⟨fun i m H2 => m = xs.length - i ∧ i ≤ xs.length ∧ ∃ F2 us acc, Ok n F2 H2 ∧ Mv n F H F2 H2 ∧ Sub F1 F2 ∧ F2 D = none ∧ H2 D = some (.dK us) ∧ RepK n.w F2 acc us ∧ I i acc,
    ⟨xs.length, by simp, Nat.zero_le _, F1, [], [], a1.ok, m1.trans hA.er.ok a1, Sub.refl _, (m1.ok.fresh hD).2.2, upd_same, by simp only [RepK], i0⟩, ?_⟩
  rintro i m H2 ⟨rfl, hi, F2, us, acc, ok2, mv2, s12, hFD, hHD, r2, inv⟩
  by_cases hlt : i < xs.length
  · refine .inr ⟨it.go i F2 H2 hlt ok2 s12, fun H' => ∃ F3 us' acc', Ok n F3 H' ∧ Mv n F H F3 H' ∧ Sub F1 F3 ∧ F3 D = none ∧ H' D = some (.dK us') ∧ RepK n.w F3 acc' us' ∧ I (i + 1) acc', fun H' ⟨F3, us', acc', z⟩ => ⟨xs.length - (i + 1), by omega, rfl, hlt, F3, us', acc', z⟩, fun x H' y => ?_⟩
    obtain ⟨d, F3, hd, m3, rd⟩ := it.yld i F2 H2 x H' hlt ok2 s12 y
    obtain ⟨hz, st⟩ := step i d acc hd inv
    have mv3 := mv2.trans hA.er.ok m3
    have keepD : ∀ {F4 H4 : Hp}, Mv n F2 H2 F4 H4 → F4 D = none ∧ H4 D = some (.dK us) := fun {F4 H4} m4 => by
      refine ⟨?_, m4.keep _ _ hHD hDn.2.1⟩
      cases z : F4 D with
      | none => rfl
      | some o =>
        rcases m4.new D o z with z' | z'
        · rw [hFD] at z'; cases z'
        · rw [hHD] at z'; cases z'
    refine ⟨n, F3, pwipe ρ vs, d, _, ⟨hA.k, (hA.er.mv mv3).wipe vs⟩, rd, st, fun ρ4 σ4 q4 e4 w4 => ⟨?_, ?_⟩⟩
    · rw [w4]
      exact wipe_wipe vs vs σ fun _ h => h
    · refine ⟨n, F3, ρ4, _, ⟨hA.k, e4⟩, q4, fun b F5 H5 q5 m5 => ?_⟩
      have m25 := m3.trans ok2 m5
      obtain ⟨z1, z2⟩ := keepD m25
      cases b with
      | true =>
        refine iteT ⟨n, F5, ρ4, _, ⟨hA.k, e4.mv m5⟩, q5, fun y v F6 H6 q6 m6 r6 => ?_⟩
        have e6 := (e4.mv m5).mv m6
        refine ⟨n, F6, ρ4, _, ⟨hA.k, e6⟩, q6, fun zz u F7 H7 ⟨kk, ek, q7⟩ m7 r7 => ?_⟩
        subst ek
        have m26 := (m25.trans ok2 m6).trans ok2 m7
        obtain ⟨z3, z4⟩ := keepD m26
        refine ⟨us, kk, (Rep.kD r6), z4, by rw [r2.length]; exact hz, ?_⟩
        have mm := mv2.trans hA.er.ok m26
        have mw := Mv.wr hA.er.ok mm (.dK (putK us kk u)) hD0 z3
        exact ⟨F7, _, putD acc kk zz, mw.ok, mw, s12.trans m26.ext, z3, upd_same, RepK.put r7 (RepK.mono m26.ext _ _ r2), q7⟩
      | false =>
        refine iteF ?_
        have mm := mv2.trans hA.er.ok m25
        exact ⟨F5, us, acc, m25.ok, mm, s12.trans m25.ext, z1, z2, RepK.mono m25.ext _ _ r2, q5⟩
  · have e : i = xs.length := by omega
    subst e
    refine .inl ⟨it.stop F2 H2 ok2 s12, k acc D us F2 H2 (fin acc inv) mv2 hD0 hFD hHD r2⟩
theorem swd_true {elt kx : Expr} {gs : List Comprehension} {scope : Scope} {pos py : Pos} {y : Str} {l : Nat} {env : Env} (hk : env.scope.kind = .function) (hy : env.scope.names.lookup y = some .local) (hl : (py.line == pos.line) = true)
    (ha : (scope.names.any fun (n, k) => n == y && (k == .local || k == .cell)) = false) : swapsWith (.DictComp kx elt gs scope pos) (some (.Name y py)) l env = pure true := by
  have ky : env.kindOf y = some .local := hy
  have hb : env.blockKind = .function := by unfold Env.blockKind; rw [hk]; rfl
  unfold swapsWith
  simp only [hb, ky, ha, Expr.pos, hl]
  rfl
/-- name = {..} on one line, the name a local -/
theorem ps_setDc {i : Nat} {y : Str} {py : Pos} {spos : Pos} {wi : TI} {g : TG} {tt : TT} {tk tv : TE} (hc : X.calm = true) (hN : X.N.Nodup) (hy : X.N[i]? = some y) (hyl : X.env.scope.names.lookup y = some .local)
    (hsw : swapsWith (.DictComp kx vx [⟨tg, iter, ifs, 0⟩] scope pos) (some (.Name y py)) spos.line X.env = pure true) (hi : PI X tg iter wi) (ok : BlkOk X.N X.env.scope scope own)
    (hg : ∀ (s : Shared) (H : Hp) (C : Addr) (cl : List (Str × Addr)) (fp : List Addr), PG (X.blk s H scope (compEnvC scope cl C X.env) fp) tg g) (ht : ∀ (s : Shared) (H : Hp) (C : Addr) (cl : List (Str × Addr)) (fp : List Addr), PTs (X.blk s H scope (compEnvC scope cl C X.env) fp) ifs tt)
    (hk : ∀ (s : Shared) (H : Hp) (C : Addr) (cl : List (Str × Addr)) (fp : List Addr), PE (X.blk s H scope (compEnvC scope cl C X.env) fp) kx tk)
    (he : ∀ (s : Shared) (H : Hp) (C : Addr) (cl : List (Str × Addr)) (fp : List Addr), PE (X.blk s H scope (compEnvC scope cl C X.env) fp) vx tv) (hs : ∀ x, foldedSetIterable iter X.env x = pure x := by intro _; rfl) :
    PS X (.Assign [.Name y py] (.DictComp kx vx [⟨tg, iter, ifs, 0⟩] scope pos) spos) (tAsg (tDc wi g tt tk tv (own.map (·.2))) (gName i)) := by
  refine ⟨fun pins s σ H D I h => ?_⟩
  rw [exec_Assign_Name_used _ _ _ _ hsw]
  refine wpAny_bind (wpAny_standAt (wpAny_bind ?_))
  show wpAny _ X.A (do let _ ← comprehension (.DictComp kx vx [⟨tg, iter, ifs, 0⟩] scope pos) scope X.env (firstIterPos [⟨tg, iter, ifs, 0⟩] pos) newDict false (eval iter X.env) (some (assign (.Name y py) X.env))) _ _ s
  have h : tDc wi g tt tk tv (own.map (·.2)) σ H (fun x H1 => gName i x σ H1 D.nx) := h
  refine wpAny_bind (thn (dc_core (Qf := fun _ s' => SP X pins D .next s') hc hN I hi ok hg ht hk he hs h fun L C s' m H' I' q hn f => ?_) fun _ s' hq => wpAny_pure (wpAny_pure hq))
  show wpAny _ _ (assign (.Name y py) X.env (.ref L)) _ _ _
  refine wpAny_assign_Name (store_ok2 (v := V.ref L) I' hN hy (.inl hyl) rfl (fun s2 I2 ⟨a, sb, ha⟩ => ?_) (.inr hyl))
  obtain ⟨f0, f1, f2, f3, f4, f5⟩ := f
  have haC : C ≠ a := by
    rcases ha with z | z
    · rw [z]; exact f1
    · exact fun e => f4 y a z e.symm
  refine ⟨m, hn.sameBut sb haC, fun h3 sb3 => ?_⟩
  exact ⟨_, H', I2.turned (t' := s2.toks) (fun b o hb e => (sb3.2 b hb).trans e) f0 f1 f3 f4 f5, q⟩
/-- name = {..} on one line, over data -/
theorem us_dc {i : Nat} {y : Str} {py spos : Pos} (hc : X.calm = true) (hN : X.N.Nodup) (hy : X.N[i]? = some y) (hyl : X.env.scope.names.lookup y = some .local)
    (hsw : swapsWith (.DictComp kx vx [⟨tg, iter, ifs, 0⟩] scope pos) (some (.Name y py)) spos.line X.env = pure true) (hi : UI X tg iter w) (ok : BlkOk X.N X.env.scope scope own)
    (hg : ∀ (s : Shared) (H : Hp) (C : Addr) (cl : List (Str × Addr)) (fp : List Addr), UG (X.blk s H scope (compEnvC scope cl C X.env) fp) tg (own.map (·.2)) g)
    (ht : ∀ (s : Shared) (H : Hp) (C : Addr) (cl : List (Str × Addr)) (fp : List Addr), UTs (X.blk s H scope (compEnvC scope cl C X.env) fp) ifs tt)
    (hk : ∀ (s : Shared) (H : Hp) (C : Addr) (cl : List (Str × Addr)) (fp : List Addr), UE (X.blk s H scope (compEnvC scope cl C X.env) fp) kx tk)
    (he : ∀ (s : Shared) (H : Hp) (C : Addr) (cl : List (Str × Addr)) (fp : List Addr), UE (X.blk s H scope (compEnvC scope cl C X.env) fp) vx tv) (hs : ∀ x, foldedSetIterable iter X.env x = pure x := by intro _; rfl) :
    US X (.Assign [.Name y py] (.DictComp kx vx [⟨tg, iter, ifs, 0⟩] scope pos) spos) (fun P ρ => pDc w g tt tk tv (own.map (·.2)) ρ fun ks => P.nx (ρ.set i (.va (.dk ks)))) :=
  .of (t' := tAsg (rDk X (pDc w g tt tk tv (List.map (fun (x : Str × Nat) => x.2) own))) (gName i)) (PS.imp (ps_setDc (g := rG X (List.map (fun (x : Str × Nat) => x.2) own) g) (tt := rT X tt) (tk := rE X tk) (tv := rE X tv) hc hN hy hyl hsw hi.run ok (fun s H C cl fp => (hg s H C cl fp).run) (fun s H C cl fp => (ht s H C cl fp).run) (fun s H C cl fp => (hk s H C cl fp).run) (fun s H C cl fp => (he s H C cl fp).run) hs) fun D σ H h =>
    dc_read (X := X) (w := w) (g := g) (tt := tt) (tk := tk) (tv := tv) (σ := σ) (H := H) (Q := fun x H1 => gName i x σ H1 D.nx) (List.map (fun (x : Str × Nat) => x.2) own) h) fun n F H ρ σ P E hA q f => ⟨n, F, ρ, _, hA, q, fun ks a vs F1 H1 q1 m1 h1 h2 h3 r1 => by
  have m2 := Mv.freeze hA.er.ok m1 h1 h2 h3
  have rr : Rep n.w (upd F1 a (.dK vs)) (.dk ks) (.ref a) := by
    simp only [Rep]
    exact ⟨a, vs, rfl, upd_same, RepK.mono (sub_upd h2 _) _ _ r1⟩
  exact f.nx _ _ _ H1 ((hA.er.mv m2).set_va i rr) m2.ext q1⟩
end
end U

set_option Elab.async false
set_option linter.all false
set_option maxRecDepth 100000
set_option maxHeartbeats 4000000
namespace U
open PySem PySem.Spec PyProof.Rows L2 PySem.Calls

/-! ### an own exception whose __init__ says super().__init__('..') and keeps one argument -/
section
variable {prog : Program} {w : World} {A : Around} {E : Value → Shared → Prop}
/-- the bound built-in __init__ called -/
theorem call_mw {B newId i : String} {bmB : List Value} {h : Heap} {g : Array GenState} {d : Drawn} {t : Nat} {os : OsState} {u a C t0 : Addr} {rest : List Value} {nm q : Str} {N : Addr} {bs bm : List Value} {hdct : Bool} {sn : List Str} {sub : List Value} {ab : Bool} {col : Option Bool} {dd : Option Addr} {k0 k1 k2 k3 k5 : Option Value} {Q : Value → Shared → Prop}
    (FB : ExcBaseFacts B newId i bmB) (hC : h.get? C = some (excClassObj nm q C N bs bm hdct sn sub ab col dd k0 k1 k2 k3 k5 newId)) (hu : h.get? u = some (PySem.W.kxs_mw i a)) (ha : h.get? a = some (PySem.HandSPX.excO C t0)) (hz : rest.length ≤ sizeLine)
    (hq : ∀ h' t1, (∀ b o, b ≠ a → h.get? b = some o → h'.get? b = some o) → h'.get? a = some (PySem.HandSPX.excO C t1) → Q .none ⟨h', g, d, t, os⟩) :
    wpAny (model prog w) A (call (.ref u) rest) Q E ⟨h, g, d, t, os⟩ := by
  refine wpAny_call (codeAny_of_tree ?_)
  show wpAny _ A.in1 (callAny (.ref u) ⟨rest, []⟩) _ _ _
  simp only [callAny]
  refine wpAny_bind (wpAny_load hu ?_)
  simp only [PySem.W.kxs_mw, show (Value.type "method-wrapper" == Value.type "method" || Value.type "method-wrapper" == Value.type "builtin_function_or_method" || Value.type "method-wrapper" == Value.type "method-wrapper") = true by decide, if_true]
  refine PySem.W.KFB.if_so (by decide) ?_
  refine wpAny_bind (PySem.W.check_bound_init FB.toExcCallFacts hC ha rfl ?_)
  refine wpAny_bind (wpAny_pure (wpAny_pure ?_))
  refine ⟨plainId_quiet FB.init.plain _, codeAny_builtin FB.initEntry ?_⟩
  exact PySem.W.exc_init_tree (cls := .ref C) (t0 := t0) (dv := none) (c2 := .none) (c3 := .none) (b4 := .bool false) ha hz fun h' k e _ => hq h' h.objs.size k e
end

/-- what the written part says of such an __init__ -/
structure SupI (P : Program) (K : PySem.W.Frag) (mg : Str → Option Value) (C f cc cda : Addr) (scope : Scope) : Prop where
  cls : (PySem.W.clsIn K C).isSome = true
  cell : ∃ cl cld csl, K.lookup cc = some ⟨cl, cld, .cell (some (.ref C)), csl⟩
  code : ∃ ccl cdd vs ccs file tf, K.lookup cda = some ⟨ccl, cdd, .fields vs, ccs⟩ ∧ vs[2]? = some (.str file tf) ∧ ((P.main.file : Str) == file) = true
  mro : PySem.W.mroIn K C (.ref C) = some true
  sup : mg "super" = none
  opq : PySem.W.nsIn K cStatics "thirdparty.any" = some none
  ini : PySem.W.ks_superIn K C C "__init__" = some (some (.builtin "ValueError.__init__"))
  sub : PySem.W.subIn K (.ref C) (.type "ValueError") = some true
  top : (P.main.scope.names.lookup ("super" : Str)).isSome = false
  ks : scope.names.lookup ("super" : Str) = some .globalImplicit
  kc : scope.names.lookup ("__class__" : Str) = some .free
  kself : scope.names.lookup ("self" : Str) = some .local
  kind : scope.kind = .function
  co : scope.isCoroutine = false
  gen : scope.isGenerator = false
  nocell : ∀ x ∈ scope.names, x.2 ≠ .cell

section
variable {P : Program} {w : World} {K : PySem.W.Frag} {mg : Str → Option Value} {base : Heap} {A : Around} {E : Value → Shared → Prop} {C f cc cda : Addr} {scope : Scope} {X : Cx} {pins : List (Addr × Obj)} {σ : L2.St} {H : Hp} {s : Shared}
/-- the first statement -/
theorem sup_run {q : Str} {L : Addr} {body : List Stmt} {m : Str → Option Value} {a : Addr} {fd : FuncData} {oc : Value} {od : Option Addr} {osl : Array (Option Value)} {ar : Arg} {txt : Str} {j : Nat} {p0 p1 p2 p3 p4 p5 : Pos} {pl : Sem Bool} {Q : Flow → Shared → Prop}
    (T : SupI X.prog X.K X.mg C f cc cda scope) (O : OexC X.K C) (I : Inv X pins σ H s) (lk : X.K.lookup f = some ⟨oc, od, .func fd, osl⟩) (hp : (fd.params.posonlyargs ++ fd.params.args).head? = some ar) (har : ar.arg = "self")
    (he : eval (.Call (.Attribute (.Call (.Name "super" p0) [] [] p1) "__init__" p2) [.Constant (.str txt) j p3] [] p4) (PySem.W.ksEnv q scope L f (.ref cda) cc) = (do
      let ov ← attributeBase (.Call (.Name "super" p0) [] [] p1) "__init__" (PySem.W.ksEnv q scope L f (.ref cda) cc) (eval (.Call (.Name "super" p0) [] [] p1) (PySem.W.ksEnv q scope L f (.ref cda) cc))
      standAt p2.atName
      let (fv, first) ← holding [ov] (getMethod ov "__init__" pl)
      callWith p4 fv first (backTo p4 (starEach [.Constant (.str txt) j p3] (PySem.W.ksEnv q scope L f (.ref cda) cc))) []))
    (hi : interactive (PySem.W.ksEnv q scope L f (.ref cda) cc) = false) (hsw : swapsWith (.Call (.Attribute (.Call (.Name "super" p0) [] [] p1) "__init__" p2) [.Constant (.str txt) j p3] [] p4) none p5.line (PySem.W.ksEnv q scope L f (.ref cda) cc) = pure false)
    (hst : starEach [.Constant (.str txt) j p3] (PySem.W.ksEnv q scope L f (.ref cda) cc) = (false, eval (.Constant (.str txt) j p3) (PySem.W.ksEnv q scope L f (.ref cda) cc)) :: starEach [] (PySem.W.ksEnv q scope L f (.ref cda) cc))
    (hn : s.heap.Ns L m) (hL : H L = none) (hself : m "self" = some (.ref a)) (e : H a = some (exo a C none))
    (h : ∀ s', Inv X pins σ H s' → (∀ b o, b ≠ a → s.heap.get? b = some o → s'.heap.get? b = some o) → Q .next s') :
    _root_.PySem.wpAt (model X.prog X.w) A (.func body (PySem.W.ksEnv q scope L f (.ref cda) cc)) (exec (.Expr (.Call (.Attribute (.Call (.Name "super" p0) [] [] p1) "__init__" p2) [.Constant (.str txt) j p3] [] p4) p5) (PySem.W.ksEnv q scope L f (.ref cda) cc)) Q E s := by
  have KX : X.K.In s.heap := I.kIn
  obtain ⟨ccl, cdd, vs, ccs, file, tf, hcode, hvs, hfile⟩ := T.code
  obtain ⟨cl, cld, csl, hcell⟩ := T.cell
  obtain ⟨cdD, hcls⟩ := Option.isSome_iff_exists.mp T.cls
  obtain ⟨nm, qn, N, bs, bm, sn, sub, ab, col, dd, k0, k1, k2, k3, k5, hC, hbm⟩ := O.cls
  obtain ⟨t1, ho⟩ := exo_at I.hok e
  have hCn : H C = none := (I.bs C _ (I.ok.mod.kin _ _ hC)).2
  have haC : a ≠ C := fun z => by rw [z, hCn] at e; cases e
  have haL : a ≠ L := fun z => by rw [z, hL] at e; cases e
  obtain ⟨oD, hD1, hD2⟩ : ∃ oD, s.heap.get? C = some oD ∧ oD.data = .cls cdD := by
    unfold PySem.W.clsIn at hcls
    split at hcls
    · rename_i c d cd' sl hoo
      cases hcls
      exact ⟨_, KX _ _ hoo, rfl⟩
    · cases hcls
  have hal : PySem.W.alongIn X.K "__init__" ((cdD.mro.dropWhile (· != .ref C)).drop 1) = some (some (.builtin "ValueError.__init__")) := by
    have := T.ini
    unfold PySem.W.ks_superIn at this
    rw [hcls] at this
    exact this
  obtain ⟨mb, hb1, hb2⟩ := I.mod.blt
  refine PySem.ks_wpAt_Expr_any (PySem.ks_wpAt_MethodCall ?_ he) hi hsw
  obtain ⟨hh, g, d, t, os⟩ := s
  refine PySem.ks_wpAt_super_base (env := PySem.W.ksEnv q scope L f (.ref cda) cc) T.ks T.kc (by decide) rfl (KX _ _ lk) rfl hp rfl (KX _ _ hcode) rfl hvs hfile T.top ?_
  refine PySem.W.ks_loadName_global T.kind T.ks (loadGlobal_builtin (env := PySem.W.ksEnv q scope L f (.ref cda) cc) (I.mod.glob.keeps I.bk) T.sup (hb1.keeps I.bk) ((hb2 _ (by decide)).trans (by decide +kernel)) ⟨rfl, ?_⟩)
  refine wpAny_loadName_free T.kind T.kc rfl ⟨_, KX _ _ hcell, rfl⟩ ?_
  rw [har]
  refine wpAny_loadName_local T.kind T.kself hn hself ?_
  refine PySem.ks_wpAny_isType_cls hD1 hD2 ⟨rfl, ?_⟩
  refine PySem.ks_wpAny_call_super hD1 hD2 ho rfl (fun c z => by cases z) (PySem.W.looks_mroIn KX T.mro) (fun h' e' k => ?_)
  -- the super object
  have I1 : Inv X pins σ H ⟨h', g, d, t, os⟩ := I.kept (t' := t) k
  have K1 : X.K.In h' := I1.kIn
  have ho1 := k _ _ ho
  have LI : PySem.W.Looks (model X.prog X.w) h' (isInstance (.ref a) (.type "ValueError")) true :=
    (show PySem.W.Looks (model X.prog X.w) h' (typeOf (.ref a)) (.ref C) from fun A Q E s kk qq => wpAny_typeOf_ref (kk _ _ ho1) qq).andThen (PySem.W.looks_subIn K1 T.sub)
  refine PySem.W.kxs_getMethod PySem.W.kxs_ValueError e' (PySem.W.looks_opaque K1 T.opq) (l₀ := cdD.mro) (fun A Q E s kk qq => wpAny_bind ((PySem.W.looks_clsIn K1 hcls) A _ E s kk (wpAny_pure qq))) rfl K1 hal LI haC (by decide) ?_
  -- the bound __init__
  have k2 : ∀ b o, h'.get? b = some o → (h'.push (PySem.W.kxs_mw "ValueError.__init__" a)).get? b = some o := fun b o z => Heap.get?_push_of_some _ z
  have hu : (h'.push (PySem.W.kxs_mw "ValueError.__init__" a)).get? h'.objs.size = some (PySem.W.kxs_mw "ValueError.__init__" a) := Heap.get?_push_at rfl rfl
  have I2 : Inv X pins σ H ⟨h'.push (PySem.W.kxs_mw "ValueError.__init__" a), g, d, t + 1, os⟩ := I1.kept (t' := t + 1) k2
  rw [hst]
  refine PySem.W.kxs_callWith (i := "ValueError.__init__") (x := a) rfl (evalArgs_plain (spliced_cons (wpAny_Constant_str (k := j) (pos := p3) (spliced_nil ⟨hu, ?_⟩))))
  refine call_mw (i := "ValueError.__init__") F.excBase_ValueError ((k2 _ _ (k _ _ (KX _ _ hC)))) hu (k2 _ _ ho1) (show 1 ≤ sizeLine by decide) fun h3 t3 k3 e3 => ?_
  have J := I2.write (t' := t + 1) (x := a) (e := a) (o := exo a C none) (by rw [e]; exact True.intro) (.inl rfl) k3 ⟨_, e3⟩ (exo_ok e3)
  have eu : upd H a (exo a C none) = H := by
    funext b
    by_cases hb : b = a
    · rw [hb, upd_same, e]
    · rw [upd_ne hb]
  rw [eu] at J
  exact h _ (J.kept (t' := t + 1 + 1) fun _ _ z => z) fun b o hb z => k3 b o hb (k2 _ _ (k _ _ z))

/-- the promise of such an __init__: the class, the attribute -/
def spX (K : PySem.W.Frag) (C : Addr) (fld : Str) : Sp := fun vs H Q _ => ∃ a y, vs = [.ref a, y] ∧ H a = some (exo a C none) ∧ ∀ dx, H dx = none → dx ≠ a → Q .non (upd (upd H dx (exd dx [(fld, y)])) a (exo a C (some dx)))
def scFake : Scope := { kind := .function, names := [], isGenerator := false, isCoroutine := false, more := [] }
def cxFake (P : Program) (w : World) (K : PySem.W.Frag) (mg : Str → Option Value) (base : Heap) (L f : Addr) (cd : Value) (A : Around) (outer : List Env) (s : Shared) (H : Hp) : Cx where
  prog := P
  w := w
  K := K
  mg := mg
  base := base
  A := A.deeper (envOfC "x" scFake L f cd)
  N := []
  s_0 := s
  H_0 := H
  env := envOfC "x" scFake L f cd
  outer := outer
  stack := envOfC "x" scFake L f cd :: outer
  ex := []
  calm := true
  fn := fun _ => true
  pn := []
  xe := fun _ _ => True
theorem inv_fake {outer : List Env} {s0 : Shared} {cd : Value} {hh : Heap} {m : Str → Option Value} {tk : Nat} (hd : A.handled = none) (e0 : Env0 P w K mg base A outer s0 H) (hn : hh.Ns s0.heap.objs.size m) (k : ∀ b o, s0.heap.get? b = some o → hh.get? b = some o) :
    Inv (cxFake P w K mg base s0.heap.objs.size f cd A outer s0 H) [] [] H { s0 with heap := hh, toks := tk } := by
  have noA : ∀ b : Addr, b ∉ (cxFake P w K mg base s0.heap.objs.size f cd A outer s0 H).ex := fun b z => absurd (show b ∈ ([] : List Addr) from z) (by simp)
  have nl : ∀ (x : Str) (c : Addr), (cxFake P w K mg base s0.heap.objs.size f cd A outer s0 H).env.cells.lookup x = some c → False := fun x c z => by
    have : ([] : List (Str × Addr)).lookup x = some c := z
    cases this
  refine ⟨⟨e0.mod, rfl, rfl, rfl, Nat.le_refl _, fun y z c h1 h2 => (nl _ _ h1).elim, fun y hy => ?_, fun y c _ h => (nl _ _ h).elim, fun _ => hd, Around.frames_deeper e0.frames, .inr ⟨rfl, rfl⟩, fun b z => absurd z (noA b), e0.bs, e0.bsz, fun b _ _ => noA b, fun b z => absurd z (noA b), e0.funs, e0.frf⟩,
    rfl, e0.bare, Un.kept k, ⟨m, hn, fun i y v h1 h2 h3 => ?_⟩, fun y c h => (nl _ _ h).elim, e0.hok.fresh (Nat.le_refl _), fun y c h => (nl _ _ h).elim, fun p hp => absurd (show p ∈ ([] : List (Addr × Obj)) from hp) (by simp), e0.hok.kept k, rfl⟩
  · have hy : ([] : List (Str × NameKind)).lookup y = some .cell ∨ ([] : List (Str × NameKind)).lookup y = some .free := hy
    rcases hy with hy | hy <;> cases hy
  · have : ([] : List Str)[i]? = some y := h1
    simp at this
/-- THE RULE: such an __init__ keeps its promise -/
theorem lk_self {a : Addr} {u1 : Value} {arg : Str} (hne : ("self" : Str) ≠ arg) : ([(("self" : Str), Value.ref a), (arg, u1)] : List (Str × Value)).reverse.lookup ("self" : Str) = some (Value.ref a) := by
  have hb : (("self" : Str) == arg) = false := by simpa using hne
  simp [List.lookup, hb]
theorem lk_arg {a : Addr} {u1 : Value} {arg : Str} : ([(("self" : Str), Value.ref a), (arg, u1)] : List (Str × Value)).reverse.lookup arg = some u1 := by
  simp [List.lookup]
theorem fn_sup {CX : CXT} {k : Nat} {name q : Str} {params : Arguments} {dV kV doc pm ct oc : Value} {an od : Option Addr} {osl : Array (Option Value)} {ar : Arg} {txt fld arg : Str} {j : Nat} {p0 p1 p2 p3 p4 p5 q1 q2 q3 q4 : Pos} {pl : Addr → Sem Bool}
    (T : SupI P K mg C f cc cda scope) (O : OexC K C) (hno : PySem.W.findIn K (.ref C) fld = some none)
    (lk : K.lookup f = some ⟨oc, od, .func (PySem.W.fnX name q params [.Expr (.Call (.Attribute (.Call (.Name "super" p0) [] [] p1) "__init__" p2) [.Constant (.str txt) j p3] [] p4) p5, .Assign [.Attribute (.Name "self" q1) fld q2] (.Name arg q3) q4] scope [("__class__", cc)] dV kV doc pm an (.ref cda) ct), osl⟩)
    (hcd : PySem.W.codeIn K (.ref cda) q = true) (hp : (params.posonlyargs ++ params.args).head? = some ar) (har : ar.arg = "self") (hne : ("self" : Str) ≠ arg) (karg : scope.names.lookup arg = some .local)
    (hdb : (arg == ("__debug__" : Str)) = false)
    (he : ∀ L, eval (.Call (.Attribute (.Call (.Name "super" p0) [] [] p1) "__init__" p2) [.Constant (.str txt) j p3] [] p4) (PySem.W.ksEnv q scope L f (.ref cda) cc) = (do
      let ov ← attributeBase (.Call (.Name "super" p0) [] [] p1) "__init__" (PySem.W.ksEnv q scope L f (.ref cda) cc) (eval (.Call (.Name "super" p0) [] [] p1) (PySem.W.ksEnv q scope L f (.ref cda) cc))
      standAt p2.atName
      let (fv, first) ← holding [ov] (getMethod ov "__init__" (pl L))
      callWith p4 fv first (backTo p4 (starEach [.Constant (.str txt) j p3] (PySem.W.ksEnv q scope L f (.ref cda) cc))) []))
    (hi : ∀ L, interactive (PySem.W.ksEnv q scope L f (.ref cda) cc) = false) (hsw : ∀ L, swapsWith (.Call (.Attribute (.Call (.Name "super" p0) [] [] p1) "__init__" p2) [.Constant (.str txt) j p3] [] p4) none p5.line (PySem.W.ksEnv q scope L f (.ref cda) cc) = pure false)
    (hsw2 : ∀ L, swapsWith (.Name arg q3) (some (.Attribute (.Name "self" q1) fld q2)) q4.line (PySem.W.ksEnv q scope L f (.ref cda) cc) = pure false)
    (hst : ∀ L, starEach [.Constant (.str txt) j p3] (PySem.W.ksEnv q scope L f (.ref cda) cc) = (false, eval (.Constant (.str txt) j p3) (PySem.W.ksEnv q scope L f (.ref cda) cc)) :: starEach [] (PySem.W.ksEnv q scope L f (.ref cda) cc)) :
    FnOk P w K mg base CX k f (PySem.W.fnX name q params [.Expr (.Call (.Attribute (.Call (.Name "super" p0) [] [] p1) "__init__" p2) [.Constant (.str txt) j p3] [] p4) p5, .Assign [.Attribute (.Name "self" q1) fld q2] (.Name arg q3) q4] scope [("__class__", cc)] dV kV doc pm an (.ref cda) ct) ["self", arg] (spX K C fld) := by
  refine ⟨fun vs H Q E ⟨a, y, e, _⟩ => by rw [e]; rfl, fun A outer s H args us vs Q E hr e0 hb r hsp => ?_⟩
  obtain ⟨a, y, rfl, ha, kq⟩ := hsp
  cases r with
  | @cons _ u0 _ ur ra rw' =>
  cases rw' with
  | @cons _ u1 _ ur2 ry rn =>
  cases rn
  obtain rfl : u0 = Value.ref a := ra
  have KX : K.In s.heap := e0.mod.kin.keeps fun b o e => (e0.bs b o e).1
  have lim : s.heap.NoLimit := e0.mod.nolimit.keeps fun b o e => (e0.bs b o e).1
  refine PySem.ks_codeAny_call_defAt hr.depth (KX _ _ lk) rfl lim (PySem.W.codeRec_of KX hcd) rfl hb T.nocell (fun x hx => ?_) (fun h0 hns k0 => ?_) T.co T.gen T.kind
  · have : x = (("self" : Str), Value.ref a) ∨ x = (arg, u1) := by simpa using hx
    rcases this with rfl | rfl
    · exact T.kself
    · exact karg
  · have I := inv_fake (f := f) (cd := .ref cda) (m := fun x => ([(("self" : Str), Value.ref a), (arg, u1)] : List (Str × Value)).reverse.lookup x) (tk := s.toks + 2) hr.hd e0 hns k0
    have nL : H s.heap.objs.size = none := e0.hok.fresh (Nat.le_refl _)
    have laL : a ≠ s.heap.objs.size := fun z => by rw [z, nL] at ha; cases ha
    refine PySem.ks_wpAt_execs_cons ?_
    refine sup_run (X := cxFake P w K mg base s.heap.objs.size f (.ref cda) A outer s H) (ar := ar) T O I lk hp har (he _) (hi _) (hsw _) (hst _) hns nL (lk_self hne) ha fun s1 I1 k1 => ?_
    have hns1 : s1.heap.Ns s.heap.objs.size (fun x => ([(("self" : Str), Value.ref a), (arg, u1)] : List (Str × Value)).reverse.lookup x) := hns.at fun o z => k1 _ _ (Ne.symm laL) z
    refine PySem.ks_wpAt_execs_cons (_root_.PySem.wpAt_of_wpAny (plainObj_wpAny_Assign_Attribute (wpAny_Name (wpAny_loadName_local T.kind karg hns1 lk_arg (wpAny_Name (wpAny_loadName_local T.kind T.kself hns1 (lk_self hne) ?_) (by decide))) hdb) (hsw2 _)))
    refine ost_new (X := cxFake P w K mg base s.heap.objs.size f (.ref cda) A outer s H) O I1 ha hno ry fun dx s2 n1 n2 I2 => ?_
    show _root_.PySem.wpAt _ _ _ (execs [] _) _ _ s2
    refine _root_.PySem.wpAt_of_wpAny (wpAny_execs_nil ?_)
    exact ⟨.non, _, I2.os, I2.bare, I2.base, I2.hok, rfl, kq dx n1 n2⟩
end
end U

set_option Elab.async false
set_option linter.all false
set_option maxRecDepth 100000
set_option maxHeartbeats 4000000
namespace U
open PySem PySem.Spec PyProof.Rows L2 PySem.Calls

/-! ### try: several clauses, each with a name -/
abbrev HTs := Addr → Value → Option Addr → TS
/-- what the clauses wish of an exception of the body, one after the other -/
def wManyAs (K : PySem.W.Frag) (Wout : WX) (D : Ends) : List (Value × Nat × HTs) → WX
  | [] => Wout
  | (c, i, ts) :: r => fun cls d σ H => ∃ b, PySem.W.exmOne K cls c = some b ∧
    (b = true → ∀ a, H a = none → ts a cls d { nx := fun σ' H' => D.nx (σ'.set i none) H', rt := D.rt, bk := fun σ' H' => D.bk (σ'.set i none) H', ct := fun σ' H' => D.ct (σ'.set i none) H' } (σ.set i (some (.ref a))) H) ∧ (b = false → wManyAs K Wout D r cls d σ H)
inductive HdsAs (X : Cx) : List ExceptHandler → List (Value × Nat × HTs) → Prop
  | nil : HdsAs X [] []
  | cons {x n : Str} {c : Value} {i : Nat} {ts : HTs} {b₀ : Stmt} {suite : List Stmt} {np pos' : Pos} {hds : List ExceptHandler} {l : List (Value × Nat × HTs)} (hi : X.N[i]? = some n) (hln : X.env.kindOf n = some .local) (hc : Names X x c)
      (hsu : ∀ (a : Addr) (oe : Obj) (cls : Value) (d : Option Addr) (pn : List (Addr × Obj)), Zc cls d oe → (∃ vs, oe.data = .fields vs) → PSs (X.suite a ((a, oe) :: pn)) (b₀ :: suite) (ts a cls d)) (r : HdsAs X hds l) :
      HdsAs X (.ExceptHandler (some (.Name x np)) (some n) (b₀ :: suite) pos' :: hds) ((c, i, ts) :: l)
section
variable {X : Cx} {body : List Stmt} {h₀ : ExceptHandler} {hds : List ExceptHandler} {l : List (Value × Nat × HTs)} {pos : Pos} {tb : WX → TS} {Wout : WX}
theorem ps_try_manyAs (hs : X.stack = X.env :: X.outer) (hf : X.env.frame = some X.env.locals) (hN : X.N.Nodup) (tk : Takes X Wout)
    (hb : ∀ (W : WX) (pn : List (Addr × Obj)) (xe : Value → Shared → Prop), Takes (X.tr pn xe) W → PassesOwn (model X.prog X.w) X.A X.env xe → PSs (X.tr pn xe) body (tb W))
    (hh : HdsAs X (h₀ :: hds) l) : PS X (.Try body (h₀ :: hds) [] [] pos) (fun D σ H => tb (wManyAs X.K Wout D l) D σ H) := by
  refine ⟨fun pins s σ H D I h => ?_⟩
  have ok := I.ok
  have hfr : X.A.frames = some (X.env :: X.outer) := by rw [ok.frames, hs]
  refine wpAny_Try_except ?_
  refine wpAny_mono ((hb (wManyAs X.K Wout D l) (X.pn ++ pins) (fun e s₁ => wpAny (model X.prog X.w) X.A (noteFrame e X.env) (fun _ s₂ => wpAny (model X.prog X.w) X.A (setFlight e none) (fun _ s₃ =>
    wpAny (model X.prog X.w) X.A (handleBy e X.env (h₀ :: hds)) (SP X pins D) X.xe s₃) X.xe s₂) X.xe s₁) (fun u s' xx => ?_) PassesOwn.looking).run [] s σ H D (I.toTry _) h) (fun f s1 hsp => ?_) (fun e s1 he => he)
  · obtain ⟨a, B, sI, pins', σ', H', cls, d, rfl, J', nb, up, sky, na, os, ag, w⟩ := xx
    have J : Inv X pins σ' H' sI := J'.ofTry ok
    have sky' : Sky B (X.env :: X.outer) a (Zc cls d) X.env.locals s'.heap := by rw [← hs]; exact sky
    show wpAny (model X.prog X.w) X.A (noteFrame (.ref a) X.env) _ _ _
    refine Sky.land Zc.steady hfr hf sky' fun h3 fl3 up3 => ?_
    have J3 : Inv X pins σ' H' { s' with heap := h3 } := J.landed nb fl3.1 (up.trans up3) os ag
    obtain ⟨oe3, vs3, he3, hz3, hd3⟩ := fl3.there
    have notFr : ∀ {h : Heap} {o : Obj} {vs : Array Value}, h.FunFrames B (X.env :: X.outer) → h.get? a = some o → o.data = .fields vs → a ∉ frs (X.env :: X.outer) := fun {h o vs} ff e dd hm => by
      obtain ⟨_, o', e', hnf⟩ := ff.mem hm
      rw [e] at e'; cases e'
      exact hnf _ dd
    have nfr := notFr fl3.2.2.1 he3 hd3
    have nL : a ≠ X.env.locals := fun z => nfr (List.mem_filterMap.mpr ⟨X.env, List.mem_cons_self, by rw [hf, z]⟩)
    have nF : a ∉ X.fs := fun hm => by
      obtain ⟨e, he, q⟩ := List.mem_filterMap.mp hm
      exact nfr (List.mem_filterMap.mpr ⟨e, List.mem_cons_of_mem _ he, q⟩)
    have S3 := J3.suite he3 hd3 na nL nF
    have go : ∀ {hds' : List ExceptHandler} {l' : List (Value × Nat × HTs)}, HdsAs X hds' l' → wManyAs X.K Wout D l' cls d σ' H' →
        wpAny (model X.prog X.w) X.A (handleBy (.ref a) X.env hds') (SP X pins D) X.xe { s' with heap := h3 } := by
      intro hds' l' hk
      induction hk with
      | nil =>
        intro w
        refine wpAny_handleBy_nil ?_
        obtain ⟨k1, k2, k3, oe, vs, T, oT, ts', he, hz, hd, h1, hr⟩ := id fl3
        unfold PySem.passOn
        refine wpAny_bind (wpAny_field he hd h1 ?_)
        rw [if_neg (show ¬ ((Value.ref T == Value.none) = true) from by simp)]
        have fin : wpAny (model X.prog X.w) X.A (setFlight (.ref a) X.env.frame) (fun _ s4 => wpAny (model X.prog X.w) X.A (throw (.ref a) : Sem Flow) (SP X pins D) X.xe s4) X.xe { s' with heap := h3 } := by
          rw [hf]
          refine HandSPX.setFlight_upZ fl3 fun h4 hh4 up4 => wpAny_throw (tk _ _ ?_)
          exact ⟨a, B, sI, pins, σ', H', cls, d, rfl, J, nb, (up.trans up3).trans up4, .inr (.inr (by rw [hs]; exact hh4)), na, os, ag, w⟩
        first
          | exact wpAny_bind (wpAny_pure (wpAny_bind fin))
          | exact wpAny_bind fin
      | @cons x n c i ts b₀ suite np pos' hds2 l2 hi hln hc hsu r ih =>
        intro w
        obtain ⟨b, hb1, hyes, hno⟩ := w
        have hloc : Loc X.env.scope n := .inl hln
        refine wpAny_handleBy_cons (codeAny_handlers_test ?_) (by intro q; cases q)
        have LT : PySem.W.Looks (model X.prog X.w) h3 (typeOf (.ref a)) cls := fun A Q E s k q => wpAny_typeOf_ref (k _ _ he3) (by rw [hz3.1]; exact q)
        have LM := PySem.W.exm_one (M := model X.prog X.w) (J3.kIn) LT hb1
        have test : ∀ {Q : Value → Shared → Prop} {E : Value → Shared → Prop}, Q c { s' with heap := h3 } → wpAny (model X.prog X.w) (X.A.mark (some (.ref a))) (eval (.Name x np) X.env) Q E { s' with heap := h3 } := fun {Q E} q => by
          obtain ⟨hg, hdbg, hm | ⟨hm, hv, hnn⟩⟩ := hc
          · exact ld_glob (X := X.suite a ((a, oe3) :: (X.pn ++ pins))) S3 hg hm q hdbg
          · exact ld_blt (X := X.suite a ((a, oe3) :: (X.pn ++ pins))) S3 hg hm hv q hnn hdbg
        refine test (LM.here ?_)
        cases b with
        | true =>
          refine codeAny_handlers_suite_as ?_
          refine HandSPX.lands_againZ fl3 fun h4 fl4 up4 => ?_
          have J4 : Inv X pins σ' H' { s' with heap := h4 } := J.landed nb fl4.1 ((up.trans up3).trans up4) os ag
          obtain ⟨oe4, vs4, he4, hz4, hd4⟩ := fl4.there
          have S4 := J4.suite he4 hd4 na nL nF
          refine store_ok (X := X.suite a ((a, oe4) :: (X.pn ++ pins))) (v := .ref a) S4 hN hi hloc rfl (fun s5 S5 => ?_) (.inr hln)
          refine wpAny_mono ((hsu a oe4 cls d (X.pn ++ pins) hz4 ⟨_, hd4⟩).run [] s5 _ H' _ S5 (hyes rfl a na)) (fun f s6 hsp => ?_) (fun _ _ z => False.elim z)
          have end_ : ∀ {σ6 : L2.St} {H6 : Hp} {Q : Shared → Prop}, Inv (X.suite a ((a, oe4) :: (X.pn ++ pins))) [] σ6 H6 s6 → (∀ s7, Inv X pins (σ6.set i none) H6 s7 → Q s7) →
              wpAny (model X.prog X.w) X.A (do bindName X.env n .none; unbindBehindTheSuite X.env n pos') (fun _ s7 => Q s7) X.xe s6 := fun {σ6 H6 Q} S6 hq => gone_ok (S6.unsuite ok) hN hi hln hq
          cases f with
          | next =>
            obtain ⟨σ6, H6, S6, q6⟩ := hsp
            exact end_ S6 fun s7 J7 => ⟨_, _, J7, q6⟩
          | brk =>
            obtain ⟨σ6, H6, S6, q6⟩ := hsp
            exact end_ S6 fun s7 J7 => ⟨_, _, J7, q6⟩
          | cont =>
            obtain ⟨σ6, H6, S6, q6⟩ := hsp
            exact end_ S6 fun s7 J7 => ⟨_, _, J7, q6⟩
          | ret u =>
            obtain ⟨v6, σ6, H6, S6, r6, q6⟩ := hsp
            exact end_ S6 fun s7 J7 => ⟨_, _, _, J7, r6, q6⟩
        | false =>
          show wpAny _ X.A (handleBy (.ref a) X.env hds2) _ _ _
          exact ih (hno rfl)
    exact go hh w
  · cases f with
    | next =>
      obtain ⟨σ', H', J', q⟩ := hsp
      exact wpAny_execs_nil ⟨σ', H', J'.ofTry ok, q⟩
    | brk =>
      obtain ⟨σ', H', J', q⟩ := hsp
      exact ⟨σ', H', J'.ofTry ok, q⟩
    | cont =>
      obtain ⟨σ', H', J', q⟩ := hsp
      exact ⟨σ', H', J'.ofTry ok, q⟩
    | ret u =>
      obtain ⟨v, σ', H', J', r, q⟩ := hsp
      exact ⟨v, σ', H', J'.ofTry ok, r, q⟩
end

/-! ### over data -/
abbrev PSx := List D → (D → Prop) → (Addr → List (Str × D) → Prop) → Prop
/-- the promise of a def that may raise an own exception with fields -/
def spE (K : PySem.W.Frag) (np : Nat) (S : PSx) : Sp := fun vs H Q E => ∃ n ds Q0 E0, n.w.K = K ∧ Ok n n.F0 n.H0 ∧ n.H0 = H ∧ Reps n.w n.F0 ds vs ∧ ds.length = np ∧ S ds Q0 E0 ∧ (∀ d v F' H', Q0 d → Mv n n.F0 n.H0 F' H' → Rep n.w F' d v → Q v H') ∧
  ∀ C fs dd kvs F' H', E0 C fs → Mv n n.F0 n.H0 F' H' → F' dd = some (.xd kvs) → RepF n.w F' fs kvs → E (.ref C) (some dd) H'
theorem Ok.mv0 {n : En} {F H : Hp} (k : Ok n F H) : Mv n n.F0 n.H0 F H := ⟨k, k.ext, k.new, k.keep⟩
section
variable {X : Cx} {e : Expr} {es : List Expr} {ts : TPs} {te : TP} {x fld : Str} {C g fI : Addr} {k np i : Nat} {fd : FuncData} {ps : List Str} {S : PSx} {W : WX} {p pos pos' : Pos}
/-- raise C(e), C's own __init__ keeping its promise -/
theorem us_raise {CX : CXT} (hc : X.calm = true) (tk : Takes X W) (O : OexC X.K C) (iC : PySem.W.findIn X.K (.ref C) "__init__" = some (some (.ref fI))) (tI : PySem.W.typeIn X.K (.ref fI) = some (.type "function")) (F1 : FnOk X.prog X.w X.K X.mg X.base CX k fI fd ps (spX X.K C fld)) (hr : Room (k + 1) X.A) (hb : Binds X.K fd ps []) (hx : Passes CX X (fun _ _ _ => False))
    (hg : Gl X x) (hm : X.mg x = some (.ref C)) (ha : UE X e te) (hdb : (x == ("__debug__" : Str)) = false := by decide) (he : starEach [e] X.env = (false, eval e X.env) :: starEach [] X.env := by rfl) (hpl : (backTo pos (starEach [] X.env)).any (·.1) = false := by rfl) :
    US X (.Raise (some (.Call (.Name x p) [e] [] pos)) none pos') (fun P ρ => P.W = W ∧ te ρ fun d => P.xt ρ C [(fld, d)]) :=
  .of (ps_raise hc tk (pmk_oex O iC tI F1 hr hb .nil hx hg hm (pa_cons ha.run pa_nil (by rw [he])) hdb he hpl)) fun n F H ρ σ P E hA ⟨eW, q⟩ f => by
    refine ⟨n, F, ρ, _, hA, q, fun d v F1 H1 q1 m1 r1 => ⟨by simp, fun a ha => ?_⟩⟩
    refine ⟨a, v, rfl, upd_same, fun dx hdx ndx => ⟨rfl, dx, _, upd_same, by rw [upd_ne ndx, upd_same], ?_, ?_⟩⟩
    · rw [upd_ne ndx] at hdx
      exact hdx
    · have hdx' : H1 dx = none := by rw [upd_ne ndx] at hdx; exact hdx
      have eH : upd (del (upd (upd (upd H1 a (exo a C none)) dx (exd dx [(fld, v)])) a (exo a C (some dx))) a) dx (.xd [(fld, v)]) = upd H1 dx (.xd [(fld, v)]) := by
        funext b
        by_cases hb : b = dx
        · rw [hb, upd_same, upd_same]
        · rw [upd_ne hb, upd_ne hb]
          by_cases hba : b = a
          · rw [hba, del_same, ha]
          · rw [del_ne hba, upd_ne hba, upd_ne hb, upd_ne hba]
      rw [eH, ← eW]
      have m2 := Mv.frozen m1.ok hdx' (.xd [(fld, v)])
      refine f.xt ρ C [(fld, d)] dx [(fld, v)] _ σ _ ((hA.er.mv m1).mv m2) (m1.ext.trans m2.ext) upd_same ?_ q1
      simp only [RepF]
      exact ⟨v, [], rfl, Rep.mono m2.ext _ _ r1, rfl⟩
/-- name = f(..), f may raise -/
theorem us_setX {st : Stmt} (p0 : PS X st (tAsg (tCallS (spE X.K np S) (WE W) (rA X ts)) (gName i))) :
    US X st (fun P ρ => P.W = W ∧ ts ρ fun ds => ds.length = np ∧ S ds (fun d => P.nx (ρ.set i (.va d))) (fun C fs => P.xt ρ C fs)) :=
  .of p0 fun n F H ρ σ P E hA ⟨eW, q⟩ f => by
    refine ⟨n, F, ρ, _, hA, q, fun ds vs F1 H1 ⟨hl, q1⟩ m1 r1 => ?_⟩
    refine ⟨n.at F1 H1, ds, _, _, hA.k, m1.ok.enter, rfl, r1, hl, q1, fun d v F2 H2 q2 m2 r2 => ?_, fun C fs dd kvs F2 H2 q2 m2 e2 r2 => ?_⟩
    · have m := m1.trans hA.er.ok (m2.leave m1.ok)
      exact f.nx _ F2 _ H2 ((hA.er.mv m).set_va i r2) m.ext q2
    · have m := m1.trans hA.er.ok (m2.leave m1.ok)
      have := f.xt ρ C fs dd kvs F2 σ H2 (hA.er.mv m) m.ext e2 r2 q2
      rw [eW] at this
      exact this
/-- one clause: the class it names, the slot of its name, what its suite says of the exception: its place, its class, its dict -/
structure UH where
  c : Addr
  i : Nat
  t : Addr → Addr → Addr → TSp
def UH.raw (X : Cx) (h : UH) : Value × Nat × HTs := (.ref h.c, h.i, fun a cls d E σ H => ∃ C dd, cls = .ref C ∧ d = some dd ∧ rS X (h.t a C dd) E σ H)
/-- what the clauses say of an exception -/
def pHds (K : PySem.W.Frag) : List UH → PEnds → List Slot → Addr → List (Str × D) → Prop
  | [], P, ρ, C, fs => P.xt ρ C fs
  | h :: r, P, ρ, C, fs => h.i < ρ.length ∧ ∃ b, PySem.W.exmOne K (.ref C) (.ref h.c) = some b ∧
    (b = true → ∀ a dd, h.t a C dd { P with nx := fun ρ' => P.nx (ρ'.set h.i .no), bk := fun ρ' => P.bk (ρ'.set h.i .no), ct := fun ρ' => P.ct (ρ'.set h.i .no), W := fun _ _ _ _ => False, xt := fun _ _ _ => False } (ρ.set h.i (.va (.exc a C dd fs)))) ∧ (b = false → pHds K r P ρ C fs)
theorem hds_cons {h : UH} {n : Str} {b₀ : Stmt} {suite : List Stmt} {np pos' : Pos} {hds : List ExceptHandler} {l : List UH} (hi : X.N[h.i]? = some n) (hln : X.env.kindOf n = some .local) (hc : Names X x (.ref h.c))
    (hsu : ∀ (a : Addr) (oe : Obj) (C dd : Addr) (pn : List (Addr × Obj)), Zc (.ref C) (some dd) oe → (∃ vs, oe.data = .fields vs) → USs (X.suite a ((a, oe) :: pn)) (b₀ :: suite) (h.t a C dd)) (r : HdsAs X hds (l.map (UH.raw X))) :
    HdsAs X (.ExceptHandler (some (.Name x np)) (some n) (b₀ :: suite) pos' :: hds) ((h :: l).map (UH.raw X)) :=
  .cons hi hln hc (fun a oe cls d pn hz hf => ⟨fun pins s σ H D I ⟨C, dd, e1, e2, q⟩ => by
    subst e1; subst e2
    exact (hsu a oe C dd pn hz hf).run.run pins s σ H D I q⟩) r
theorem us_try {body : List Stmt} {h₀ : ExceptHandler} {hds : List ExceptHandler} {hs : List UH} {tb : WX → TSp} (hst : X.stack = X.env :: X.outer) (hf : X.env.frame = some X.env.locals) (hN : X.N.Nodup) (tk : Takes X W)
    (hb : ∀ (W : WX) (pn : List (Addr × Obj)) (xe : Value → Shared → Prop), Takes (X.tr pn xe) W → PassesOwn (model X.prog X.w) X.A X.env xe → USs (X.tr pn xe) body (tb W))
    (hh : HdsAs X (h₀ :: hds) (hs.map (UH.raw X))) :
    US X (.Try body (h₀ :: hds) [] [] pos) (fun P ρ => P.W = W ∧ ∀ W', tb W' { P with W := W', xt := pHds X.K hs P } ρ) :=
  .of (ps_try_manyAs hst hf hN tk (tb := fun W => rS X (tb W)) (fun W pn xe h1 h2 => (hb W pn xe h1 h2).run) hh) fun n F H ρ σ P E hA ⟨eW, q⟩ f => by
    have gen : ∀ (l : List UH) (ρ' : List Slot) (C : Addr) (fs : List (Str × D)) (dd : Addr) (kvs : List (Str × V)) (F' : Hp) (σ' : L2.St) (H' : Hp), ER n F' H' ρ' σ' → Sub F F' → F' dd = some (.xd kvs) → RepF n.w F' fs kvs → pHds X.K l P ρ' C fs → wManyAs X.K W E (l.map (UH.raw X)) (.ref C) (some dd) σ' H' := by
      intro l ρ' C fs dd kvs F' σ' H' er s e r x
      induction l with
      | nil =>
        have := f.xt ρ' C fs dd kvs F' σ' H' er s e r x
        rw [eW] at this
        exact this
      | cons h hs ih =>
        obtain ⟨hi, b, hb1, hy, hno⟩ := x
        refine ⟨b, hb1, fun hb2 a ha => ?_, fun hb2 => ih (hno hb2)⟩
        have rr : Rep n.w F' (.exc a C dd fs) (.ref a) := by
          simp only [Rep]
          exact ⟨True.intro, kvs, e, r⟩
        refine ⟨C, dd, rfl, rfl, n, F', ρ'.set h.i (.va (.exc a C dd fs)), _, ⟨hA.k, er.set_va h.i rr⟩, hy hb2 a dd, ⟨fun ρ5 F5 σ5 H5 a b c => ?_, fun d v F5 H5 a b c e => f.rt d v F5 H5 a (s.trans b) c e, fun ρ5 F5 σ5 H5 a b c => ?_, fun ρ5 F5 σ5 H5 a b c => ?_, fun _ _ _ _ _ _ _ _ _ _ _ _ z => z.elim⟩⟩
        · exact f.nx _ F5 _ H5 (a.forget h.i none) (s.trans b) c
        · exact f.bk _ F5 _ H5 (a.forget h.i none) (s.trans b) c
        · exact f.ct _ F5 _ H5 (a.forget h.i none) (s.trans b) c
    exact ⟨n, F, ρ, _, hA, q _, ⟨f.nx, f.rt, f.bk, f.ct, fun ρ' C fs dd kvs F' σ' H' er s e r x => gen hs ρ' C fs dd kvs F' σ' H' er s e r x⟩⟩
end
/-! ### in an except suite -/
section
variable {X : Cx} {a C dd : Addr} {oe : Obj} {pn : List (Addr × Obj)} {e : Expr} {te : TP} {pos : Pos} {nm : Str}
/-- e.f -/
theorem u_xf (hz : Zc (.ref C) (some dd) oe) (hf : ∃ vs, oe.data = .fields vs) (he : UE (X.suite a ((a, oe) :: pn)) e te) (hb : attributeBase e nm X.env (eval e X.env) = eval e X.env := by rfl) :
    UE (X.suite a ((a, oe) :: pn)) (.Attribute e nm pos) (fun ρ Q => XfC X.K C ∧ PySem.W.findIn X.K (.ref C) nm = some none ∧ te ρ fun d => ∃ fs y, d = .exc a C dd fs ∧ fs.lookup nm = some y ∧ Q y) :=
  ⟨⟨fun pins s σ H Q I ⟨n, F, ρ, Q0, hA, ⟨T, hno, q⟩, k⟩ => (pe_xf T hno hz hf he.run hb).run pins s σ H Q I ⟨n, F, ρ, _, hA, q, fun d v F1 H1 ⟨fs, y, e1, e2, q1⟩ m1 r1 => by
    subst e1
    obtain ⟨rfl, kvs, h1, h2⟩ := r1.exc'
    obtain ⟨w, hw, rw'⟩ := h2.lookup e2
    exact ⟨rfl, rfl, dd, kvs, w, rfl, m1.ok.sub _ _ h1, hw, k _ _ _ _ q1 m1 rw'⟩⟩⟩⟩
theorem u_cls {X : Cx} {x : Str} {C : Addr} (hg : Gl X x) (hm : X.mg x = some (.ref C)) (hd : (x == ("__debug__" : Str)) = false := by decide) : UE X (.Name x pos) (uK (.ref (.ref C))) := u_c (pe_glob hg hm (show RelV (.ref C) (.ref C) from rfl) hd) fun w F => by simp only [Rep]
theorem u_bcls {X : Cx} {x : Str} {T : String} (hg : Gl X x) (hm : X.mg x = none) (hv : bootBuiltins x = some (.type T)) (hn : x ≠ "__name__" := by decide) (hd : (x == ("__debug__" : Str)) = false := by decide) : UE X (.Name x pos) (uK (.ref (.ty T))) := u_c (pe_bltn hg hm hv (show RelV (.ty T) (.type T) from rfl) hn hd) fun w F => by simp only [Rep]
/-- a class as a value -/
inductive ClsD : V → Value → Prop
  | ref {C : Addr} : ClsD (.ref C) (.ref C)
  | ty {T : String} : ClsD (.ty T) (.type T)
theorem call_isEx (hz : Zc (.ref C) (some dd) oe) (hf : ∃ vs, oe.data = .fields vs) : UCl (X.suite a ((a, oe) :: pn)) (.builtin "isinstance") (fun ds Q => ExcC X.K C ∧ ∃ fs c cv b, ds = [.exc a C dd fs, .ref c] ∧ ClsD c cv ∧ PySem.W.kitOne X.K (.ref C) cv = some b ∧ Q (.bl b)) := by
  intro pins s σ H xs us Q I r ⟨n, F, ds, Q0, hK, ok, rs, ⟨T, fs, c, cv, b, e, hc, hk, q⟩, k⟩
  subst e
  obtain ⟨v, r', rfl, r1, r2⟩ := rs.inv
  obtain ⟨c', rfl, r3⟩ := r2.single
  obtain ⟨rfl, kvs, h1, h2⟩ := r1.exc'
  have e3 := r3.ref'
  subst e3
  cases r with
  | cons rx rr =>
    cases rr with
    | cons rt rr =>
      cases rr
      cases rx
      obtain ⟨hget, _⟩ := I.pin (a, oe) (List.mem_append.mpr (.inl List.mem_cons_self))
      obtain ⟨vs, hv⟩ := hf
      have hx : ObjOk X.prog X.w H s.heap dd (.xd kvs) := I.hok dd _ (ok.sub _ _ h1)
      obtain ⟨mA, hns, hr⟩ := hx
      obtain ⟨od, ho, hl⟩ := lookIn_ns hns
      have J : PySem.W.InstAt s.heap a oe C (some od) := ⟨hget, hz.1, by unfold PySem.W.notCls; rw [hv] <;> rfl, by rw [hz.2]; exact ho⟩
      have hcl : (PySem.W.clsIn X.K C).isSome = true := by
        obtain ⟨cd, hcd, _⟩ := PySem.W.any_some T.hd
        rw [hcd] <;> rfl
      cases hc with
      | ref =>
        cases rt
        exact PySem.W.kia_one (PySem.W.kitx_exc hcl T.hg T.hk T.hs T.ha T.hn T.ht T.hm) I.kIn J hk (fun z => nomatch z) fun tk => ⟨.bl b, H, I.kept (t' := tk) fun _ _ z => z, rfl, k _ _ F H q (Mv.refl ok) (rBl ..)⟩
      | ty =>
        cases rt
        exact PySem.W.kia_one (PySem.W.kitx_exc hcl T.hg T.hk T.hs T.ha T.hn T.ht T.hm) I.kIn J hk (fun z => nomatch z) fun tk => ⟨.bl b, H, I.kept (t' := tk) fun _ _ z => z, rfl, k _ _ F H q (Mv.refl ok) (rBl ..)⟩
/-- the type of a value -/
def D.ty : D → Option String
  | .non => some "NoneType"
  | .bl _ => some "bool"
  | .int _ => some "int"
  | .str _ => some "str"
  | .lst _ => some "list"
  | .dk _ => some "dict"
  | _ => none
theorem ty_of {K : PySem.W.Frag} {w : Wd} {F H : Hp} {d : D} {v : V} {T : String} (s : Sub F H) (r : Rep w F d v) (h : d.ty = some T) : TyX K H v (.type T) := by
  cases d with
  | non => cases h; rw [r.non']; exact .base .non
  | bl b => cases h; rw [r.bl']; exact .base (.bl _)
  | int i => cases h; rw [r.int']; exact .base (.int _)
  | str x => cases h; rw [r.str']; exact .base (.str _)
  | lst xs => cases h; obtain ⟨a, vs, rfl, h1, h2⟩ := r.lst'; exact .base (.lst (s _ _ h1))
  | dk xs => cases h; obtain ⟨a, vs, rfl, h1, h2⟩ := r.dk'; exact .base (.dK (s _ _ h1))
  | _ => cases h
/-- isinstance of a plain value -/
theorem call_isPl {X : Cx} : UCl X (.builtin "isinstance") (fun ds Q => ∃ d T t b, ds = [d, .ref (.ty T)] ∧ d.ty = some t ∧ PySem.W.kitOne X.K (.type t) (.type T) = some b ∧ Q (.bl b)) := CallR.imp call_isi fun xs H Q ⟨n, F, ds, Q0, hK, ok, r, ⟨d, T, t, b, e, ht, hk, q⟩, k⟩ => by
  subst e
  obtain ⟨v, r', rfl, r1, r2⟩ := r.inv
  obtain ⟨c, rfl, r3⟩ := r2.single
  rw [r3.ref']
  exact ⟨v, _, _, _, b, rfl, .ty T, ty_of ok.sub r1 ht, hk, k _ _ F H q (Mv.refl ok) (rBl ..)⟩
end
end U

set_option Elab.async false
set_option linter.all false
set_option maxRecDepth 100000
set_option maxHeartbeats 4000000
namespace U
open PySem PySem.Spec PyProof.Rows L2

/-! ### short forms for what a program prints -/
section
variable {X : Cx} {e : Expr} {es : List Expr} {te t : TP} {tr ts : TPs} {i : Nat} {x : Str} {pos pos' p : Pos} {g : Addr} {k np : Nat} {fd : FuncData} {ps : List Str} {S : PSp}
theorem u_neg (ha : UE X e t) : UE X (.UnaryOp .USub e pos) (fun ρ Q => t ρ fun d => ∃ i, d = .int i ∧ Q (.int (-i))) := .of (pe_un un_neg ha.run) fun n F H ρ σ Q0 hA q Q k => ⟨n, F, ρ, _, hA, q, fun d v F1 H1 ⟨i, e1, q1⟩ m1 r1 => by
  subst e1
  exact ⟨i, r1.int', k _ _ F1 H1 q1 m1 (rInt ..)⟩⟩
theorem us_setE (hN : X.N.Nodup) (he : UE X e te) (hi : X.N[i]? = some x := by rfl) (hx : Loc X.env.scope x := by first | exact Or.inl rfl | exact Or.inr rfl) (hs : swapsWith e (some (.Name x pos')) pos.line X.env = pure false := by rfl) (hf : X.fn x = true ∨ X.env.scope.names.lookup x = some .local := by first | exact .inl rfl | exact .inr rfl) :
    US X (.Assign [.Name x pos'] e pos) (pSet i te) := us_set (ps_set hN hi hx he.run hs hf)
theorem us_ownE (hN : X.N.Nodup) (he : UL X e tr) (hi : X.N[i]? = some x := by rfl) (hx : Loc X.env.scope x := by first | exact Or.inl rfl | exact Or.inr rfl) (hs : swapsWith e (some (.Name x pos')) pos.line X.env = pure false := by rfl) (hf : X.fn x = true ∨ X.env.scope.names.lookup x = some .local := by first | exact .inl rfl | exact .inr rfl) :
    US X (.Assign [.Name x pos'] e pos) (pOwn i tr) := us_own (ps_set hN hi hx he.run hs hf)
theorem us_setF (hN : X.N.Nodup) (he : UL X e tr) (hi : X.N[i]? = some x := by rfl) (hx : Loc X.env.scope x := by first | exact Or.inl rfl | exact Or.inr rfl) (hs : swapsWith e (some (.Name x pos')) pos.line X.env = pure false := by rfl) (hf : X.fn x = true ∨ X.env.scope.names.lookup x = some .local := by first | exact .inl rfl | exact .inr rfl) :
    US X (.Assign [.Name x pos'] e pos) (pSet i (uF tr)) := us_setL (ps_set hN hi hx he.run hs hf)
theorem us_newD (hN : X.N.Nodup) (hi : X.N[i]? = some x := by rfl) (hx : Loc X.env.scope x := by first | exact Or.inl rfl | exact Or.inr rfl) (hs : swapsWith (.Dict [] [] p) (some (.Name x pos')) pos.line X.env = pure false := by rfl) (hf : X.fn x = true ∨ X.env.scope.names.lookup x = some .local := by first | exact .inl rfl | exact .inr rfl) :
    US X (.Assign [.Name x pos'] (.Dict [] [] p) pos) (fun P ρ => P.nx (ρ.set i (.own (.dk [])))) := us_ownD (ps_set hN hi hx pe_dnewK hs hf)
/-- the slot of a name, raw -/
theorem pv' (i : Nat) {x : Str} (hN : X.N[i]? = some x := by rfl) (hv : Vis X.env.scope x := by first | exact Or.inl rfl | exact Or.inr (Or.inl rfl) | exact Or.inr (Or.inr rfl)) (hd : (x == ("__debug__" : Str)) = false := by decide)
    (hcd : (x == ("__classdict__" : Str)) = false := by decide) : PE X (.Name x pos) (tVar i) := pe_var hN hv hd hcd
/-- where a def stands -/
structure Def (K : PySem.W.Frag) (mg : Str → Option Value) (x : Str) (f : Addr) (fd : FuncData) (ps : List Str) : Prop where
  mg : mg x = some (.ref f)
  kp : PySem.W.keepIn K (.ref f) = true
  b : Binds K fd ps []
theorem u_callD {k' : Nat} (d : Def X.K X.mg x g fd ps) (G : FnOk X.prog X.w X.K X.mg X.base CX0 k g fd ps (spU X.K np S)) (hr : Room k' X.A) (ha : UA X (e :: es) ts) (hk : k ≤ k' := by decide) (hg : Gl X x := by rfl)
    (hdb : (x == ("__debug__" : Str)) = false := by decide) (he : starEach (e :: es) X.env = (false, eval e X.env) :: starEach es X.env := by rfl) (hpl : (backTo pos (starEach es X.env)).any (·.1) = false := by rfl) :
    UE X (.Call (.Name x p) (e :: es) [] pos) (fun ρ Q => ts ρ fun ds => ds.length = np ∧ S ds Q) := u_call G (hr.mono hk) hg d.mg d.kp d.b ha hdb he hpl
theorem ug {vs : List Nat} (hN : X.N.Nodup) (i : Nat) {x : Str} (hi : X.N[i]? = some x := by rfl) (hx : Loc X.env.scope x := by first | exact Or.inl rfl | exact Or.inr rfl) (hv : i ∈ vs := by decide) (hf : X.fn x = true ∨ X.env.scope.names.lookup x = some .local := by first | exact .inl rfl | exact .inr rfl) : UG X (.Name x pos) vs (gN i) :=
  ug_name hN hi hx hv hf
end
/-- the slots at a def's entry -/
theorem er_start {n : En} {ds : List D} {vs : List V} {N : List Str} (ok : Ok n n.F0 n.H0) (r : Reps n.w n.F0 ds vs) : ER n n.F0 n.H0 (ds.map .va ++ List.replicate (N.length - ds.length) .no) (L2.start N vs) := by
  refine ⟨ok, by simp [L2.start, r.length], fun i sl h => ?_, fun i j c e a hij h1 h2 => ?_⟩
  · by_cases hi : i < ds.length
    · rw [List.getElem?_append_left (by simpa using hi), List.getElem?_map] at h
      cases hd : ds[i]? with
      | none => rw [hd] at h; cases h
      | some d =>
        rw [hd] at h
        cases h
        obtain ⟨v, hv, rv⟩ := r.get hd
        refine ⟨some v, ?_, v, rfl, rv⟩
        unfold L2.start
        rw [List.getElem?_append_left (by simpa [r.length] using hi), List.getElem?_map, hv]
        rfl
    · rw [List.getElem?_append_right (by simpa using hi), List.getElem?_replicate] at h
      split at h
      · cases h
        rename_i h2
        refine ⟨none, ?_, trivial⟩
        unfold L2.start
        rw [List.getElem?_append_right (by simp [r.length]; omega), List.getElem?_replicate]
        simp only [List.length_map] at h2 ⊢
        rw [if_pos (by rw [r.length]; exact h2)]
      · cases h
  · exfalso
    by_cases hi : i < ds.length
    · rw [List.getElem?_append_left (by simpa using hi), List.getElem?_map] at h1
      cases hd : ds[i]? with
      | none => rw [hd] at h1; cases h1
      | some d => rw [hd] at h1; cases h1
    · rw [List.getElem?_append_right (by simpa using hi), List.getElem?_replicate] at h1
      split at h1 <;> cases h1
/-- a def's body over data -/
theorem okU {P : Program} {w : World} {K : PySem.W.Frag} {mg : Str → Option Value} {base : Heap} {x qual : Str} {st : Stmt} {f : Addr} {fd : FuncData} {N ps : List Str} {k np : Nat} {S : PSp} (F : L2.Fun K x qual st f fd) (Sc : FnScope N ps (defScope st)) (hnp : ps.length = np)
    (hbody : ∀ (cdv : Value) (A : Around) (outer : List Env) (s : Shared) (H : Hp) (E : XK), Room k (A.deeper (envOfC qual (defScope st) s.heap.objs.size f cdv)) →
      ∃ t : TSp, USs (cxOf CX0 P w K mg base N qual (defScope st) f cdv A outer s H E).nox (defBody st) t ∧ ∀ ds Q, ds.length = np → S ds Q → t { nx := fun _ => Q .non, rt := Q } (ds.map .va ++ List.replicate (N.length - ds.length) .no)) : FnOk P w K mg base CX0 (k + 1) f fd ps (spU K np S) := by
  refine F.ok Sc (fun vs H Q E ⟨n, ds, Q0, hK, ok, hH, r, hl, hS, kk⟩ => by rw [r.length, hl, hnp]) fun cdv A outer s H vs Q E hr ⟨n, ds, Q0, hK, ok, hH, r, hl, hS, kk⟩ => ?_
  obtain ⟨t, ht, hq⟩ := hbody cdv A outer s H E hr
  subst hH
  exact ⟨_, ht.run, n, n.F0, _, _, ⟨hK, er_start ok r⟩, hq ds Q0 hl hS, ⟨fun ρ F' σ' H' a b c => kk .non .non F' H' c a.ok.mv0 (rNon ..), fun d v F' H' a b c e => kk d v F' H' e a.mv0 c, fun _ _ _ _ _ _ z => z.elim, fun _ _ _ _ _ _ z => z.elim, fun _ _ _ _ _ _ _ _ _ _ _ _ z => z.elim⟩⟩
/-- .. of a def that may raise -/
theorem okUX {P : Program} {w : World} {K : PySem.W.Frag} {mg : Str → Option Value} {base : Heap} {x qual : Str} {st : Stmt} {f : Addr} {fd : FuncData} {N ps : List Str} {k np : Nat} {S : PSx} (F : L2.Fun K x qual st f fd) (Sc : FnScope N ps (defScope st)) (hnp : ps.length = np)
    (hbody : ∀ (cdv : Value) (A : Around) (outer : List Env) (s : Shared) (H : Hp) (E : XK), Room k (A.deeper (envOfC qual (defScope st) s.heap.objs.size f cdv)) → Takes (cxOf (L2.CX P w) P w K mg base N qual (defScope st) f cdv A outer s H E) (fun cls d _ H => E cls d H) →
      ∃ t : TSp, USs (cxOf (L2.CX P w) P w K mg base N qual (defScope st) f cdv A outer s H E) (defBody st) t ∧ ∀ ds Q0 E0, ds.length = np → S ds Q0 E0 → t { nx := fun _ => Q0 .non, rt := Q0, W := fun cls d _ H => E cls d H, xt := fun _ => E0 } (ds.map .va ++ List.replicate (N.length - ds.length) .no)) : FnOk P w K mg base (L2.CX P w) (k + 1) f fd ps (spE K np S) := by
  refine F.okX Sc (fun vs H Q E ⟨n, ds, Q0, E0, hK, ok, hH, r, hl, hS, kk, kx⟩ => by rw [r.length, hl, hnp]) fun cdv A outer s H vs Q E hr ⟨n, ds, Q0, E0, hK, ok, hH, r, hl, hS, kk, kx⟩ => ?_
  obtain ⟨t, ht, hq⟩ := hbody cdv A outer s H E hr (takes_of (E := E) rfl rfl rfl rfl)
  subst hH
  exact ⟨_, ht.run, n, n.F0, _, _, ⟨hK, er_start ok r⟩, hq ds Q0 E0 hl hS, ⟨fun ρ F' σ' H' a b c => kk .non .non F' H' c a.ok.mv0 (rNon ..), fun d v F' H' a b c e => kk d v F' H' e a.mv0 c, fun _ _ _ _ _ _ z => z.elim, fun _ _ _ _ _ _ z => z.elim, fun ρ C fs dd kvs F' σ' H' a b c d e => kx C fs dd kvs F' H' e a.ok.mv0 c d⟩⟩
/-- an __init__ -/
theorem okUI {P : Program} {w : World} {K : PySem.W.Frag} {mg : Str → Option Value} {base : Heap} {x qual : Str} {st : Stmt} {f C : Addr} {fd : FuncData} {N ps : List Str} {k np : Nat} {S : PSi} (hbodyF : ∀ {sp : Sp}, (∀ vs H Q E, sp vs H Q E → vs.length = ps.length) →
      (∀ (cdv : Value) (A : Around) (outer : List Env) (s : Shared) (H : Hp) (vs : List V) (Q : VK) (E : XK), Room k (A.deeper (envOfC qual (defScope st) s.heap.objs.size f cdv)) → sp vs H Q E →
        ∃ t, PSs (cxOf CX0 P w K mg base N qual (defScope st) f cdv A outer s H E).nox (defBody st) t ∧ t { nx := fun _ H' => Q .non H', rt := Q } (L2.start N vs) H) → FnOk P w K mg base CX0 (k + 1) f fd ps sp) (hnp : ps.length = np + 1) (hN : np + 1 ≤ N.length)
    (hbody : ∀ (cdv : Value) (A : Around) (outer : List Env) (s : Shared) (H : Hp) (E : XK), Room k (A.deeper (envOfC qual (defScope st) s.heap.objs.size f cdv)) →
      ∃ t : TSp, USs (cxOf CX0 P w K mg base N qual (defScope st) f cdv A outer s H E).nox (defBody st) t ∧ ∀ ds (Q : List (Str × D) → Prop), ds.length = np → S ds Q → t { nx := fun ρ => ∃ fs, ρ[0]? = some (.own (.ins C fs)) ∧ Q fs, rt := fun _ => False } (.own (.ins C []) :: (ds.map .va ++ List.replicate (N.length - (ds.length + 1)) .no))) : FnOk P w K mg base CX0 (k + 1) f fd ps (spI K C np S) := by
  refine hbodyF (fun vs H Q E ⟨n, x, dx, ds, vs', Q0, hK, ok, h1, h2, h3, h4, h5, r, hl, hS, kk⟩ => by rw [h5]; simp [r.length, hl, hnp]) fun cdv A outer s H vs Q E hr ⟨n, x, dx, ds, vs', Q0, hK, ok, h1, h2, h3, h4, h5, r, hl, hS, kk⟩ => ?_
  obtain ⟨t, ht, hq⟩ := hbody cdv A outer s H E hr
  subst h5
  obtain ⟨w0, F0, H0, me0⟩ := n
  have ok' : Ok (⟨w0, F0, H0, x⟩ : En) F0 H0 := ⟨ok.sub, ok.adF, ok.inv, ok.ext, ok.new, ok.keep⟩
  have m1 := Mv.alloc ok' h2 (.own x)
  have hx1 : (upd H0 dx (.own x)) x = none := by rw [upd_ne (Ne.symm h3)]; exact h1
  have m2 := m1.trans ok' (Mv.alloc m1.ok hx1 (.ins C dx []))
  have fx := ok'.fresh h1
  have fdx := ok'.fresh h2
  subst h4
  have er0 : ER (⟨w0, F0, H0, x⟩ : En) F0 H0 (ds.map .va ++ List.replicate (N.length - ds.length) .no) (L2.start N vs') := er_start (n := ⟨w0, F0, H0, x⟩) ok' r
  have er : ER (⟨w0, F0, H0, x⟩ : En) F0 (upd (upd H0 dx (.own x)) x (.ins C dx [])) (.own (.ins C []) :: (ds.map .va ++ List.replicate (N.length - (ds.length + 1)) .no)) (L2.start N (.ref x :: vs')) := by
    have e1 := er0.mv m2
    refine ⟨e1.ok, by simp [L2.start, r.length], fun i s hs => ?_, fun i j c e a hij q1 q2 => ?_⟩
    · cases i with
      | zero =>
        cases hs
        exact ⟨_, rfl, x, _, rfl, upd_same, fx.2.2, fx.1, fx.2.1, rfl, dx, [], rfl, by simp only [RepF]⟩
      | succ i =>
        have hs' : (ds.map Slot.va ++ List.replicate (N.length - (ds.length + 1)) .no)[i]? = some s := hs
        have hs2 : (ds.map Slot.va ++ List.replicate (N.length - ds.length) .no)[i]? = some s := by
          by_cases hi : i < ds.length
          · rw [List.getElem?_append_left (by simpa using hi)] at hs' ⊢
            exact hs'
          · rw [List.getElem?_append_right (by simpa using hi), List.getElem?_replicate] at hs' ⊢
            split at hs'
            · rename_i hlt
              rw [if_pos (by omega)]
              exact hs'
            · cases hs'
        obtain ⟨o, ho, hr⟩ := e1.at_ i s hs2
        refine ⟨o, ?_, hr⟩
        show (List.map some vs' ++ List.replicate (N.length - (vs'.length + 1)) none)[i]? = some o
        have ho : (List.map some vs' ++ List.replicate (N.length - vs'.length) none)[i]? = some o := ho
        have hil : i < N.length - 1 := by
          have := (List.getElem?_eq_some_iff.mp hs').1
          simp at this
          omega
        by_cases hi : i < vs'.length
        · rw [List.getElem?_append_left (by simpa using hi)] at ho ⊢
          exact ho
        · rw [List.getElem?_append_right (by simpa using hi), List.getElem?_replicate] at ho ⊢
          simp only [List.length_map] at ho ⊢
          rw [if_pos (by omega)]
          split at ho
          · exact ho
          · cases ho
    · have noown : ∀ (m k : Nat) (e : Own), (ds.map Slot.va ++ List.replicate m Slot.no)[k]? ≠ some (.own e) := fun m k e z => by
        by_cases hi : k < ds.length
        · rw [List.getElem?_append_left (by simpa using hi), List.getElem?_map] at z
          cases hd : ds[k]? with
          | none => rw [hd] at z; cases z
          | some d => rw [hd] at z; cases z
        · rw [List.getElem?_append_right (by simpa using hi), List.getElem?_replicate] at z
          split at z <;> cases z
      cases j with
      | zero =>
        cases i with
        | zero => exact absurd rfl hij
        | succ i => exact absurd q1 (noown _ _ _)
      | succ j => exact absurd q2 (noown _ _ _)
  refine ⟨_, ht.run, (⟨w0, F0, H0, x⟩ : En), F0, _, _, ⟨hK, er⟩, hq ds Q0 hl hS, ⟨fun ρ F' σ' H' a b ⟨fs, c1, c2⟩ => ?_, fun _ _ _ _ _ _ _ z => z.elim, fun _ _ _ _ _ _ z => z.elim, fun _ _ _ _ _ _ z => z.elim, fun _ _ _ _ _ _ _ _ _ _ _ _ z => z.elim⟩⟩
  obtain ⟨b', u, e1, e2, e3, e4⟩ := a.freeze c1
  have hme : b' = x := a.ownA c1 e1
  subst hme
  have mv := e3.ok.mv0
  exact kk fs _ H' c2 ⟨⟨mv.ok.sub, mv.ok.adF, mv.ok.inv, mv.ok.ext, mv.ok.new, mv.ok.keep⟩, mv.ext, mv.new, mv.keep⟩ e4
end U

set_option Elab.async false
set_option linter.all false
set_option maxRecDepth 100000
set_option maxHeartbeats 4000000
namespace U
open PySem PySem.Spec L2

mutual
/-- None, ints, texts, tuples, lists: data that is equal only to itself -/
def std : D → Bool
  | .non => true
  | .int _ => true
  | .str _ => true
  | .tup ds => stds ds
  | .lst ds => stds ds
  | _ => false
def stds : List D → Bool
  | [] => true
  | d :: ds => std d && stds ds
end
mutual
theorem eqv_std : ∀ (d e : D), std d = true → std e = true → (PyData.eqv d.py e.py = true ↔ d = e)
  | .non, e, _, h => by cases e <;> simp_all [std, D.py, PyData.eqv]
  | .int i, e, _, h => by cases e <;> simp_all [std, D.py, PyData.eqv]
  | .str x, e, _, h => by cases e <;> simp_all [std, D.py, PyData.eqv]
  | .tup ds, e, h1, h => by
    have h1' : stds ds = true := by simpa [std] using h1
    cases e with
    | tup es =>
      have h' : stds es = true := by simpa [std] using h
      have := eqv_stds ds es h1' h'
      simp only [D.py, PyData.eqv, D.tup.injEq]
      exact this
    | _ => simp_all [std, D.py, PyData.eqv]
  | .lst ds, e, h1, h => by
    have h1' : stds ds = true := by simpa [std] using h1
    cases e with
    | lst es =>
      have h' : stds es = true := by simpa [std] using h
      have := eqv_stds ds es h1' h'
      simp only [D.py, PyData.eqv, D.lst.injEq]
      exact this
    | _ => simp_all [std, D.py, PyData.eqv]
  | .bl _, _, h, _ => by simp [std] at h
  | .dk _, _, h, _ => by simp [std] at h
  | .obj _ _, _, h, _ => by simp [std] at h
  | .src, _, h, _ => by simp [std] at h
  | .ref _, _, h, _ => by simp [std] at h
  | .exc _ _ _ _, _, h, _ => by simp [std] at h
theorem eqv_stds : ∀ (ds es : List D), stds ds = true → stds es = true → (PyData.eqvAll (pys ds) (pys es) = true ↔ ds = es)
  | [], [], _, _ => by simp [pys, PyData.eqvAll]
  | [], e :: es, _, _ => by simp [pys, PyData.eqvAll]
  | d :: ds, [], _, _ => by simp [pys, PyData.eqvAll]
  | d :: ds, e :: es, h1, h2 => by
    simp only [stds, Bool.and_eq_true] at h1 h2
    have a := eqv_std d e h1.1 h2.1
    have b := eqv_stds ds es h1.2 h2.2
    simp only [pys, PyData.eqvAll, Bool.and_eq_true, List.cons.injEq, a, b]
end
theorem deq_iff {d e : D} (h1 : std d = true) (h2 : std e = true) : deq d e = true ↔ d = e := eqv_std d e h1 h2
theorem stds_iff : ∀ {ds : List D}, stds ds = true ↔ ∀ d ∈ ds, std d = true
  | [] => by simp [stds]
  | d :: ds => by simp [stds, stds_iff (ds := ds)]
theorem plains_iff {n : Nat} : ∀ {ds : List D}, plains n ds = true ↔ ∀ d ∈ ds, plain n d = true
  | [] => by simp [plains]
  | d :: ds => by simp [plains, plains_iff (ds := ds)]
theorem inD_iff {d : D} {xs : List D} (h1 : std d = true) (h2 : stds xs = true) : inD d xs = true ↔ d ∈ xs := by
  unfold inD
  rw [List.any_eq_true]
  constructor
  · rintro ⟨x, hx, e⟩
    rw [deq_iff (stds_iff.mp h2 x hx) h1] at e
    rwa [← e]
  · intro h
    exact ⟨d, h, (deq_iff h1 h1).mpr rfl⟩
theorem deq_bl (a b : Bool) : deq (.bl a) (.bl b) = (a == b) := by simp [deq, D.py, PyData.eqv]
theorem deq_tup2 (xs ys : List D) : deq (.tup xs) (.tup ys) = PyData.eqvAll (pys xs) (pys ys) := by simp [deq, D.py, PyData.eqv]
theorem eqvAll_cons (x y : D) (xs ys : List D) : PyData.eqvAll (pys (x :: xs)) (pys (y :: ys)) = (deq x y && PyData.eqvAll (pys xs) (pys ys)) := by simp [pys, PyData.eqvAll, deq]
theorem eqvAll_nil : PyData.eqvAll (pys []) (pys []) = true := by simp [pys, PyData.eqvAll]
theorem pl_non (n : Nat) : plain n .non = true := by cases n <;> rfl
theorem pl_bl (n : Nat) (b : Bool) : plain n (.bl b) = true := by cases n <;> rfl
theorem pl_int (n : Nat) (i : Int) : plain n (.int i) = true := by cases n <;> rfl
theorem pl_str (n : Nat) (x : Str) (h : PyData.strOk x = true) : plain n (.str x) = true := by cases n <;> simpa [plain] using h
theorem pl_tup {n : Nat} {ds : List D} (h : ∀ d ∈ ds, plain n d = true) : plain (n + 1) (.tup ds) = true := by simp only [plain]; exact plains_iff.mpr h
theorem pl_lst {n : Nat} {ds : List D} (h : ∀ d ∈ ds, plain n d = true) : plain (n + 1) (.lst ds) = true := by simp only [plain]; exact plains_iff.mpr h
theorem std_str (x : Str) : std (.str x) = true := by simp [std]
theorem std_int (x : Int) : std (.int x) = true := by simp [std]
theorem std_non : std .non = true := by simp [std]
theorem std_tup {ds : List D} (h : ∀ d ∈ ds, std d = true) : std (.tup ds) = true := by simp only [std]; exact stds_iff.mpr h
theorem std_lst {ds : List D} (h : ∀ d ∈ ds, std d = true) : std (.lst ds) = true := by simp only [std]; exact stds_iff.mpr h
theorem deq_str (a b : Str) : deq (.str a) (.str b) = (a == b) := by simp [deq, D.py, PyData.eqv]
theorem deq_int (a b : Int) : deq (.int a) (.int b) = (a == b) := by simp [deq, D.py, PyData.eqv]
theorem plain_mono {n : Nat} : ∀ {d : D}, plain n d = true → ∀ {m : Nat}, n ≤ m → plain m d = true := by
  have key : ∀ (k : Nat), (∀ d : D, plain k d = true → plain (k + 1) d = true) := by
    intro k
    induction k with
    | zero =>
      intro d h
      cases d <;> simp_all [plain]
    | succ k ih =>
      intro d h
      cases d with
      | tup ds =>
        simp only [plain] at h ⊢
        rw [plains_iff] at h ⊢
        exact fun d hd => ih d (h d hd)
      | lst ds =>
        simp only [plain] at h ⊢
        rw [plains_iff] at h ⊢
        exact fun d hd => ih d (h d hd)
      | _ => simp_all [plain]
  intro d h m hm
  induction hm with
  | refl => exact h
  | step _ ih => exact key _ d ih
/-! ### positions -/
theorem atI_nat {α : Type} {xs : List α} {i : Nat} (h : i < xs.length) : atI xs (i : Int) = some xs[i] := by
  unfold atI
  have : ixN xs.length (i : Int) = some i := by
    unfold ixN
    simp [h]
  rw [this]
  simp [h]
theorem srt_perm (xs : List D) : (srt xs).Perm xs := List.mergeSort_perm _ _
theorem srt_srt (xs : List D) : srt (srt xs) = srt xs := by
  unfold srt
  have t := PySem.W.sortLe_total (PyProof.Rows.listOrd PyProof.Rows.itemOrd) false (fun b : D => PySem.W.keyToks b.py)
  exact List.mergeSort_of_pairwise (PySem.W.sort_pairwise t xs)
/-! ### slices -/
theorem cut_take (xs : List D) (k : Nat) : cutD xs none (some (k : Int)) = xs.take k := by
  unfold cutD
  rw [HT.sIx_none, HT.sIx_nat, List.drop_zero, Nat.sub_zero]
  by_cases h : k ≤ xs.length
  · rw [Nat.min_eq_left h]
  · rw [Nat.min_eq_right (by omega), List.take_length, List.take_of_length_le (by omega)]
theorem cut_drop (xs : List D) (k : Nat) : cutD xs (some (k : Int)) none = xs.drop k := by
  unfold cutD
  rw [HT.sIx_none, HT.sIx_nat]
  by_cases h : k ≤ xs.length
  · rw [Nat.min_eq_left h, List.take_of_length_le (by simp)]
  · rw [Nat.min_eq_right (by omega), List.drop_length, List.drop_eq_nil_of_le (by omega)]; simp
theorem cut_init (xs : List D) : cutD xs none (some (-1)) = xs.take (xs.length - 1) := by
  unfold cutD
  rw [HT.sIx_none, List.drop_zero, Nat.sub_zero]
  have : HT.sIx xs.length xs.length (some (-1)) = xs.length - 1 := by
    show (if (-1 : Int) < 0 then ((-1 : Int) + (xs.length : Int)).toNat else min (-1 : Int).toNat xs.length) = xs.length - 1
    rw [if_pos (by decide)]
    omega
  rw [this]
/-! ### comprehensions: each item for itself -/
theorem take_snoc {α : Type} {l : List α} {i : Nat} {a : α} (e : l[i]? = some a) : l.take (i + 1) = l.take i ++ [a] := by
  rw [List.take_succ, e]
  rfl
theorem lc_map {α β : Type} {Body : Nat → D → List D → (Nat → List D → Prop) → Prop} {Fin : List D → Prop} {l : List α} {enc : α → D} (dec : β → D) (f : α → Option β) (hz : l.length < sizeLine)
    (step : ∀ (i : Nat) (a : α) (I : Nat → List D → Prop) (acc : List D), l[i]? = some a → acc.length < sizeLine → (Option.elim ((f a).map dec) (I (i + 1) acc) fun y => I (i + 1) (acc ++ [y])) → Body i (enc a) acc I) (fin : Fin ((l.filterMap f).map dec)) :
    ∃ I : Nat → List D → Prop, I 0 [] ∧ (∀ i d acc, (l.map enc)[i]? = some d → I i acc → Body i d acc I) ∧ ∀ acc, I (l.map enc).length acc → Fin acc := by
  refine ⟨fun i acc => acc = ((l.take i).filterMap f).map dec, by simp, fun i d acc hd ha => ?_, fun acc ha => ?_⟩
  · rw [List.getElem?_map] at hd
    cases e : l[i]? with
    | none => rw [e] at hd; cases hd
    | some a =>
      rw [e] at hd
      cases hd
      have hi := (List.getElem?_eq_some_iff.mp e).1
      refine step i a _ acc e ?_ ?_
      · subst ha
        rw [List.length_map]
        have h1 := List.length_filterMap_le f (l.take i)
        rw [List.length_take] at h1
        omega
      · subst ha
        cases ef : f a with
        | none =>
          show _ = _
          rw [take_snoc e, List.filterMap_append]
          simp [ef]
        | some b =>
          show _ = _
          rw [take_snoc e, List.filterMap_append]
          simp [ef]
  · rw [List.length_map, List.take_length] at ha
    rw [ha]
    exact fin
/-- by an invariant of what was made so far -/
theorem lc_inv {α β : Type} {Body : Nat → D → List D → (Nat → List D → Prop) → Prop} {Fin : List D → Prop} {l : List α} {enc : α → D} (dec : β → D) (J : Nat → List β → Prop) (h0 : J 0 []) (hz : ∀ i bs, i < l.length → J i bs → bs.length < sizeLine)
    (step : ∀ (i : Nat) (a : α) (I : Nat → List D → Prop) (bs : List β), l[i]? = some a → J i bs → (bs.map dec).length < sizeLine → (∀ cs, J (i + 1) cs → I (i + 1) (cs.map dec)) → Body i (enc a) (bs.map dec) I) (fin : ∀ bs, J l.length bs → Fin (bs.map dec)) :
    ∃ I : Nat → List D → Prop, I 0 [] ∧ (∀ i d acc, (l.map enc)[i]? = some d → I i acc → Body i d acc I) ∧ ∀ acc, I (l.map enc).length acc → Fin acc := by
  refine ⟨fun i acc => ∃ bs, acc = bs.map dec ∧ J i bs, ⟨[], rfl, h0⟩, fun i d acc hd ⟨bs, e, hj⟩ => ?_, fun acc ⟨bs, e, hj⟩ => ?_⟩
  · rw [List.getElem?_map] at hd
    cases el : l[i]? with
    | none => rw [el] at hd; cases hd
    | some a =>
      rw [el] at hd
      cases hd
      have hi := (List.getElem?_eq_some_iff.mp el).1
      subst e
      exact step i a _ bs el hj (by rw [List.length_map]; exact hz i bs hi hj) fun cs hc => ⟨cs, rfl, hc⟩
  · rw [List.length_map] at hj
    rw [e]
    exact fin bs hj
theorem fm_some {α β : Type} (f : α → β) (l : List α) : l.filterMap (fun p => some (f p)) = l.map f := by
  induction l with
  | nil => rfl
  | cons a l ih => simp [ih]
theorem fm_if {α β : Type} (p : α → Bool) (f : α → β) (l : List α) : l.filterMap (fun a => if p a = true then some (f a) else none) = (l.filter p).map f := by
  induction l with
  | nil => rfl
  | cons a l ih =>
    cases h : p a
    · simp [h, ih]
    · simp [h, ih]
/-! ### loops -/
theorem for_inv {α Z : Type} {Body : Nat → List Slot → D → (Nat → List Slot → Prop) → Prop} {Fin : List Slot → Prop} {ρ0 : List Slot} {l : List α} {enc : α → D} (mk : Z → List Slot) (J : Nat → Z → Prop) (z0 : Z) (e0 : ρ0 = mk z0) (h0 : J 0 z0)
    (step : ∀ (i : Nat) (a : α) (I : Nat → List Slot → Prop) (z : Z), l[i]? = some a → J i z → (∀ z', J (i + 1) z' → I (i + 1) (mk z')) → Body i (mk z) (enc a) I) (fin : ∀ z, J l.length z → Fin (mk z)) :
    ∃ I : Nat → List Slot → Prop, I 0 ρ0 ∧ (∀ i ρ' d, (l.map enc)[i]? = some d → I i ρ' → Body i ρ' d I) ∧ ∀ ρ', I (l.map enc).length ρ' → Fin ρ' := by
  refine ⟨fun i ρ => ∃ z, ρ = mk z ∧ J i z, ⟨z0, e0, h0⟩, fun i ρ d hd ⟨z, e, hj⟩ => ?_, fun ρ ⟨z, e, hj⟩ => ?_⟩
  · rw [List.getElem?_map] at hd
    cases el : l[i]? with
    | none => rw [el] at hd; cases hd
    | some a =>
      rw [el] at hd
      cases hd
      subst e
      exact step i a _ z el hj fun z' hz => ⟨z', rfl, hz⟩
  · rw [List.length_map] at hj
    rw [e]
    exact fin z hj
theorem for_range {Z : Type} {Body : Nat → List Slot → D → (Nat → List Slot → Prop) → Prop} {Fin : List Slot → Prop} {ρ0 : List Slot} {n : Nat} {enc : Nat → D} (mk : Z → List Slot) (J : Nat → Z → Prop) (z0 : Z) (e0 : ρ0 = mk z0) (h0 : J 0 z0)
    (step : ∀ (i : Nat) (I : Nat → List Slot → Prop) (z : Z), i < n → J i z → (∀ z', J (i + 1) z' → I (i + 1) (mk z')) → Body i (mk z) (enc i) I) (fin : ∀ z, J n z → Fin (mk z)) :
    ∃ I : Nat → List Slot → Prop, I 0 ρ0 ∧ (∀ i ρ' d, ((List.range n).map enc)[i]? = some d → I i ρ' → Body i ρ' d I) ∧ ∀ ρ', I ((List.range n).map enc).length ρ' → Fin ρ' :=
  for_inv mk J z0 e0 h0 (fun i a I z e hj hI => by
    obtain ⟨h1, h2⟩ := List.getElem?_eq_some_iff.mp e
    rw [List.getElem_range] at h2
    subst h2
    exact step i I z (by simpa using h1) hj hI) (fun z hz => fin z (by rwa [List.length_range] at hz))
theorem drop_cons {α : Type} {l : List α} {i : Nat} {a : α} (h : l[i]? = some a) : l.drop i = a :: l.drop (i + 1) := by
  obtain ⟨h1, rfl⟩ := List.getElem?_eq_some_iff.mp h
  exact List.drop_eq_getElem_cons h1
theorem iteT' {b : Bool} {p q : Prop} (h : b = true) (x : p) : if b = true then p else q := by rw [if_pos h]; exact x
theorem iteF' {b : Bool} {p q : Prop} (h : b = false) (x : q) : if b = true then p else q := by rw [if_neg (by rw [h]; decide)]; exact x
theorem ite_by {b : Bool} {p q : Prop} (h1 : b = true → p) (h2 : b = false → q) : if b = true then p else q := by
  cases b with
  | true => exact iteT' rfl (h1 rfl)
  | false => exact iteF' rfl (h2 rfl)
theorem szL {n : Nat} (h : n ≤ 1000) : n ≤ sizeLine := Nat.le_trans h (by decide)
theorem szT {n : Nat} (h : n ≤ 1000000) : n < sizeLine := Nat.lt_of_le_of_lt h (by decide)
/-! ### dicts -/
theorem valD_cons (k0 : Key) (d0 : D) (tb : List (Key × D)) (k : Key) : valD ((k0, d0) :: tb) k = if k0 = k then some d0 else valD tb k := by
  unfold valD
  by_cases h : k0 = k <;> simp [h]
theorem valD_snoc (tb : List (Key × D)) (k : Key) (d : D) (k' : Key) : valD (tb ++ [(k, d)]) k' = (valD tb k').or (if k = k' then some d else none) := by
  induction tb with
  | nil => simp [valD_cons, valD]
  | cons p tb ih =>
    obtain ⟨k0, d0⟩ := p
    rw [List.cons_append, valD_cons, valD_cons, ih]
    by_cases h : k0 = k' <;> simp [h]
theorem valD_map (tb : List (Key × D)) (k : Key) (d : D) (k' : Key) : valD (tb.map fun kv => if kv.1 = k then (kv.1, d) else kv) k' = if k = k' then (valD tb k').map fun _ => d else valD tb k' := by
  induction tb with
  | nil => simp [valD]
  | cons p tb ih =>
    obtain ⟨k0, d0⟩ := p
    rw [List.map_cons]
    by_cases h : k0 = k
    · subst h
      rw [if_pos rfl, valD_cons, valD_cons, ih]
      by_cases h2 : k0 = k' <;> simp [h2]
    · rw [if_neg h, valD_cons, valD_cons, ih]
      by_cases h2 : k0 = k'
      · subst h2
        have : ¬ k = k0 := fun z => h z.symm
        simp [this]
      · simp [h2]
theorem valD_any (tb : List (Key × D)) (k : Key) : (tb.any fun kv => decide (kv.1 = k)) = (valD tb k).isSome := by
  induction tb with
  | nil => simp [valD]
  | cons p tb ih =>
    obtain ⟨k0, d0⟩ := p
    rw [List.any_cons, ih, valD_cons]
    by_cases h : k0 = k <;> simp [h]
theorem valD_put (tb : List (Key × D)) (k : Key) (d : D) (k' : Key) : valD (putD tb k d) k' = if k = k' then some d else valD tb k' := by
  unfold putD
  rw [valD_any]
  split
  · rename_i h
    rw [valD_map]
    by_cases h2 : k = k'
    · subst h2
      rw [if_pos rfl, if_pos rfl]
      cases e : valD tb k with
      | none => rw [e] at h; cases h
      | some x => rfl
    · rw [if_neg h2, if_neg h2]
  · rename_i h
    rw [valD_snoc]
    by_cases h2 : k = k'
    · subst h2
      rw [if_pos rfl, if_pos rfl]
      cases e : valD tb k with
      | none => rfl
      | some x => rw [e] at h; exact absurd rfl h
    · rw [if_neg h2, if_neg h2]
      cases valD tb k' <;> rfl
end U

set_option Elab.async false
set_option linter.all false
set_option maxRecDepth 100000
set_option maxHeartbeats 4000000
namespace U
open PySem PySem.Spec PyProof.Rows L2

/-! ### the source's dict -/
section
variable {c : Addr} {a l m s : Int} {H : Hp} {p : Addr}
theorem valV_cons' (k0 : Key) (d0 : V) (tb : List (Key × V)) (k : Key) : valV ((k0, d0) :: tb) k = if k0 = k then some d0 else valV tb k := by
  unfold valV
  by_cases h : k0 = k <;> simp [h]
theorem sg_cells (h : H p = some (.dK (srcD c a l m s))) : DGet H p (.str "cells") (some (.ref c)) := by
  have e : valV (srcD c a l m s) (Sum.inr "cells") = some (.ref c) := by
    unfold srcD
    rw [valV_cons', if_pos rfl]
  exact e ▸ DGet.k (k := Sum.inr "cells") h
theorem sg_at (h : H p = some (.dK (srcD c a l m s))) : DGet H p (.str "at") (some (.int a)) := by
  have e : valV (srcD c a l m s) (Sum.inr "at") = some (.int a) := by
    unfold srcD
    rw [valV_cons', if_neg (by decide +kernel), valV_cons', if_pos rfl]
  exact e ▸ DGet.k (k := Sum.inr "at") h
theorem sg_left (h : H p = some (.dK (srcD c a l m s))) : DGet H p (.str "left") (some (.int l)) := by
  have e : valV (srcD c a l m s) (Sum.inr "left") = some (.int l) := by
    unfold srcD
    rw [valV_cons', if_neg (by decide +kernel), valV_cons', if_neg (by decide +kernel), valV_cons', if_pos rfl]
  exact e ▸ DGet.k (k := Sum.inr "left") h
theorem sg_mixed (h : H p = some (.dK (srcD c a l m s))) : DGet H p (.str "mixed") (some (.int m)) := by
  have e : valV (srcD c a l m s) (Sum.inr "mixed") = some (.int m) := by
    unfold srcD
    rw [valV_cons', if_neg (by decide +kernel), valV_cons', if_neg (by decide +kernel), valV_cons', if_neg (by decide +kernel), valV_cons', if_pos rfl]
  exact e ▸ DGet.k (k := Sum.inr "mixed") h
theorem sg_seed (h : H p = some (.dK (srcD c a l m s))) : DGet H p (.str "seed") (some (.int s)) := by
  have e : valV (srcD c a l m s) (Sum.inr "seed") = some (.int s) := by
    unfold srcD
    rw [valV_cons', if_neg (by decide +kernel), valV_cons', if_neg (by decide +kernel), valV_cons', if_neg (by decide +kernel), valV_cons', if_neg (by decide +kernel), valV_cons', if_pos rfl]
  exact e ▸ DGet.k (k := Sum.inr "seed") h
theorem kne : (Sum.inr ("cells" : Str) : Key) ≠ Sum.inr ("at" : Str) ∧ (Sum.inr ("cells" : Str) : Key) ≠ Sum.inr ("left" : Str) ∧ (Sum.inr ("cells" : Str) : Key) ≠ Sum.inr ("mixed" : Str) ∧ (Sum.inr ("cells" : Str) : Key) ≠ Sum.inr ("seed" : Str) ∧ (Sum.inr ("at" : Str) : Key) ≠ Sum.inr ("left" : Str) ∧ (Sum.inr ("at" : Str) : Key) ≠ Sum.inr ("mixed" : Str) ∧ (Sum.inr ("at" : Str) : Key) ≠ Sum.inr ("seed" : Str) ∧ (Sum.inr ("left" : Str) : Key) ≠ Sum.inr ("mixed" : Str) ∧ (Sum.inr ("left" : Str) : Key) ≠ Sum.inr ("seed" : Str) ∧ (Sum.inr ("mixed" : Str) : Key) ≠ Sum.inr ("seed" : Str) := by decide +kernel
theorem sp_at (x : Int) : putK (srcD c a l m s) (Sum.inr "at") (.int x) = srcD c x l m s := by
  obtain ⟨h1, h2, h3, h4, h5, h6, h7, h8, h9, h10⟩ := kne
  simp only [putK, srcD, List.any_cons, List.any_nil, List.map_cons, List.map_nil, h1, h2, h3, h4, h5, h6, h7, h8, h9, h10, Ne.symm h1, Ne.symm h2, Ne.symm h3, Ne.symm h4, Ne.symm h5, Ne.symm h6, Ne.symm h7, Ne.symm h8, Ne.symm h9, Ne.symm h10, decide_true, decide_false, Bool.or_true, Bool.true_or, if_true, if_false, Bool.or_false, Bool.false_or]
theorem sp_left (x : Int) : putK (srcD c a l m s) (Sum.inr "left") (.int x) = srcD c a x m s := by
  obtain ⟨h1, h2, h3, h4, h5, h6, h7, h8, h9, h10⟩ := kne
  simp only [putK, srcD, List.any_cons, List.any_nil, List.map_cons, List.map_nil, h1, h2, h3, h4, h5, h6, h7, h8, h9, h10, Ne.symm h1, Ne.symm h2, Ne.symm h3, Ne.symm h4, Ne.symm h5, Ne.symm h6, Ne.symm h7, Ne.symm h8, Ne.symm h9, Ne.symm h10, decide_true, decide_false, Bool.or_true, Bool.true_or, if_true, if_false, Bool.or_false, Bool.false_or]
theorem sp_mixed (x : Int) : putK (srcD c a l m s) (Sum.inr "mixed") (.int x) = srcD c a l x s := by
  obtain ⟨h1, h2, h3, h4, h5, h6, h7, h8, h9, h10⟩ := kne
  simp only [putK, srcD, List.any_cons, List.any_nil, List.map_cons, List.map_nil, h1, h2, h3, h4, h5, h6, h7, h8, h9, h10, Ne.symm h1, Ne.symm h2, Ne.symm h3, Ne.symm h4, Ne.symm h5, Ne.symm h6, Ne.symm h7, Ne.symm h8, Ne.symm h9, Ne.symm h10, decide_true, decide_false, Bool.or_true, Bool.true_or, if_true, if_false, Bool.or_false, Bool.false_or]
theorem sp_seed (x : Int) : putK (srcD c a l m s) (Sum.inr "seed") (.int x) = srcD c a l m x := by
  obtain ⟨h1, h2, h3, h4, h5, h6, h7, h8, h9, h10⟩ := kne
  simp only [putK, srcD, List.any_cons, List.any_nil, List.map_cons, List.map_nil, h1, h2, h3, h4, h5, h6, h7, h8, h9, h10, Ne.symm h1, Ne.symm h2, Ne.symm h3, Ne.symm h4, Ne.symm h5, Ne.symm h6, Ne.symm h7, Ne.symm h8, Ne.symm h9, Ne.symm h10, decide_true, decide_false, Bool.or_true, Bool.true_or, if_true, if_false, Bool.or_false, Bool.false_or]
theorem sd_at (h : H p = some (.dK (srcD c a l m s))) (x : Int) : DPut H p (.str "at") (.int x) (upd H p (.dK (srcD c x l m s))) := sp_at (c := c) (a := a) (l := l) (m := m) (s := s) x ▸ DPut.k (k := Sum.inr "at") (v := .int x) h (by show 5 < sizeLine; decide)
theorem sd_left (h : H p = some (.dK (srcD c a l m s))) (x : Int) : DPut H p (.str "left") (.int x) (upd H p (.dK (srcD c a x m s))) := sp_left (c := c) (a := a) (l := l) (m := m) (s := s) x ▸ DPut.k (k := Sum.inr "left") (v := .int x) h (by show 5 < sizeLine; decide)
theorem sd_mixed (h : H p = some (.dK (srcD c a l m s))) (x : Int) : DPut H p (.str "mixed") (.int x) (upd H p (.dK (srcD c a l x s))) := sp_mixed (c := c) (a := a) (l := l) (m := m) (s := s) x ▸ DPut.k (k := Sum.inr "mixed") (v := .int x) h (by show 5 < sizeLine; decide)
theorem sd_seed (h : H p = some (.dK (srcD c a l m s))) (x : Int) : DPut H p (.str "seed") (.int x) (upd H p (.dK (srcD c a l m x))) := sp_seed (c := c) (a := a) (l := l) (m := m) (s := s) x ▸ DPut.k (k := Sum.inr "seed") (v := .int x) h (by show 5 < sizeLine; decide)
end

/-! ### one draw -/
theorem upd_upd {H : Hp} {p : Addr} (o u : HO) : upd (upd H p o) p u = upd H p u := by
  funext b
  by_cases h : b = p
  · rw [h, upd_same, upd_same]
  · rw [upd_ne h, upd_ne h, upd_ne h]
/-- what a draw promises, in the heap's words -/
def spDraw : Sp := fun vs H Q _ => ∃ (p c : Addr) (many : Int), vs = [.ref p, .int many] ∧ SrcAt H p c ∧ 0 < many ∧ many < 2 ^ 1000 ∧ ∀ (k : Int) (H' : Hp), 0 ≤ k → k < many → SrcAt H' p c → (∀ b, b ≠ p → H' b = H b) → Q (.int k) H'
abbrev sDraw : PSp := fun ds Q => ∃ many : Int, ds = [.src, .int many] ∧ 0 < many ∧ many < 2 ^ 1000 ∧ ∀ k : Nat, (k : Int) < many → Q (.int k)
theorem draw_of {P : Program} {w : World} {K : PySem.W.Frag} {mg : Str → Option Value} {base : Heap} {k : Nat} {f : Addr} {fd : FuncData} {ps : List Str} (G : FnOk P w K mg base CX0 k f fd ps spDraw) : FnOk P w K mg base CX0 k f fd ps (spU K 2 sDraw) :=
  G.imp fun vs H Q E ⟨n, ds, Q0, hK, ok, hH, r, hl, ⟨many, e, h1, h2, h3⟩, kk⟩ => by
    subst e; subst hH
    obtain ⟨v, r', rfl, a1, a2⟩ := r.inv
    obtain ⟨u, rfl, a3⟩ := a2.single
    obtain ⟨p, c, hw, rfl⟩ := a1.src'
    rw [a3.int']
    refine ⟨p, c, many, rfl, ok.inv p c hw, h1, h2, fun k H' k1 k2 hs hb => ?_⟩
    have hp : n.ads p := ⟨p, c, hw, .inl rfl⟩
    obtain ⟨j, rfl⟩ := Int.eq_ofNat_of_zero_le k1
    refine kk (.int j) _ n.F0 H' (h3 j k2) ⟨⟨fun a o e => ?_, ok.adF, fun p' c' e => ?_, ok.ext, ok.new, fun a o e na => ?_⟩, Sub.refl _, fun a o e => .inl e, fun a o e na => ?_⟩ (rInt ..)
    · rw [hb a fun z => by rw [z, ok.adF p hp] at e; cases e]
      exact ok.sub a o e
    · rw [hw] at e
      cases e
      exact hs
    · rw [hb a fun z => na (by rw [z]; exact hp)]
      exact e
    · rw [hb a fun z => na (by rw [z]; exact hp)]
      exact e
theorem cell_div {i j : Int} (h : Cell i) (h0 : 0 ≤ i) (hj : 0 < j) : Cell (i / j) := by
  unfold Cell at h ⊢
  have : (i / j).natAbs ≤ i.natAbs := by
    have h1 : i / j ≤ i := Int.ediv_le_self j h0
    have h2 : 0 ≤ i / j := Int.ediv_nonneg h0 (by omega)
    omega
  omega
theorem cell_neg {i : Int} (h : Cell i) (h0 : i < 0) : Cell (-i - 1) := by
  unfold Cell at h ⊢
  have : (-i - 1).natAbs ≤ i.natAbs := by omega
  omega
theorem divW {i many : Int} (h1 : 0 < many) (h2 : many < 2 ^ 1000) : CDivW i many := by
  refine ⟨h1, ?_⟩
  have : many.natAbs < 2 ^ 1000 := by omega
  have hne : many.natAbs ≠ 0 := by omega
  have := (Nat.log2_lt hne).mpr this
  omega
end U

set_option Elab.async false
set_option linter.all false
set_option maxRecDepth 100000
set_option maxHeartbeats 4000000
namespace U
open PySem PySem.Spec PyProof.Rows L2
section
variable {X : Cx} {tg iter kx vx : Expr} {ifs : List Expr} {scope : Scope} {own : List (Str × Nat)} {w : TPs} {g : TGp} {tt : TPb} {tk tv : TP} {pos : Pos}
/-- a dict comprehension as a value -/
theorem u_dc (hc : X.calm = true) (hN : X.N.Nodup) (hi : UI X tg iter w) (ok : BlkOk X.N X.env.scope scope own)
    (hg : ∀ (s : Shared) (H : Hp) (C : Addr) (cl : List (Str × Addr)) (fp : List Addr), UG (X.blk s H scope (compEnvC scope cl C X.env) fp) tg (own.map (·.2)) g)
    (ht : ∀ (s : Shared) (H : Hp) (C : Addr) (cl : List (Str × Addr)) (fp : List Addr), UTs (X.blk s H scope (compEnvC scope cl C X.env) fp) ifs tt)
    (hk : ∀ (s : Shared) (H : Hp) (C : Addr) (cl : List (Str × Addr)) (fp : List Addr), UE (X.blk s H scope (compEnvC scope cl C X.env) fp) kx tk)
    (he : ∀ (s : Shared) (H : Hp) (C : Addr) (cl : List (Str × Addr)) (fp : List Addr), UE (X.blk s H scope (compEnvC scope cl C X.env) fp) vx tv) (hs : ∀ x, foldedSetIterable iter X.env x = pure x := by intro _; rfl) :
    UE X (.DictComp kx vx [⟨tg, iter, ifs, 0⟩] scope pos) (fun ρ Q => pDc w g tt tk tv (own.map (·.2)) ρ fun ks => Q (.dk ks)) :=
  .of (t' := rDk X (pDc w g tt tk tv (List.map (fun (x : Str × Nat) => x.2) own))) (PE.imp (pe_dc (g := rG X (List.map (fun (x : Str × Nat) => x.2) own) g) (tt := rT X tt) (tk := rE X tk) (tv := rE X tv) hc hN hi.run ok (fun s H C cl fp => (hg s H C cl fp).run) (fun s H C cl fp => (ht s H C cl fp).run) (fun s H C cl fp => (hk s H C cl fp).run) (fun s H C cl fp => (he s H C cl fp).run) hs) fun σ H Q h =>
    dc_read (X := X) (w := w) (g := g) (tt := tt) (tk := tk) (tv := tv) (σ := σ) (H := H) (Q := Q) (List.map (fun (x : Str × Nat) => x.2) own) h) fun n F H ρ σ Q0 hA q Q k => ⟨n, F, ρ, _, hA, q, fun ks a vs F1 H1 q1 m1 h1 h2 h3 r1 => by
  have m2 := Mv.freeze hA.er.ok m1 h1 h2 h3
  have rr : Rep n.w (upd F1 a (.dK vs)) (.dk ks) (.ref a) := by
    simp only [Rep]
    exact ⟨a, vs, rfl, upd_same, RepK.mono (sub_upd h2 _) _ _ r1⟩
  exact k _ _ _ _ q1 m2 rr⟩
end
end U

set_option Elab.async false
set_option linter.all false
set_option maxRecDepth 100000
set_option maxHeartbeats 4000000
namespace K72
open PySem L2 U

abbrev Atm := Str × List Nat
def oD : Option Int → D
  | none => .non
  | some i => .int i
def onD : Option Nat → D
  | none => .non
  | some i => .int i
def nD (n : Nat) : D := .int n
def atD (a : Atm) : D := .tup [.str a.1, .tup (a.2.map nD)]
structure PC where
  pts : List (Option Int)
  ats : List Atm
  hds : List Nat
  pick : Nat
def PC.d (c : PC) : D := .tup [.tup (c.pts.map oD), .tup (c.ats.map atD), .tup (c.hds.map nD), .int c.pick]
structure AtOk (n0 n1 : Str) (len : Nat) (a : Atm) : Prop where
  ix : ∀ i ∈ a.2, i < len
  ar : (a.1 = n0 ∧ ∃ i, a.2 = [i]) ∨ (a.1 = n1 ∧ ∃ i j, a.2 = [i, j])
structure NOk (n0 n1 : Str) : Prop where
  ne : n0 ≠ n1
  s0 : PyData.strOk n0 = true
  s1 : PyData.strOk n1 = true
structure POk (n0 n1 : Str) (pool : List Int) (width : Nat) (c : PC) : Prop where
  consts : c.pts.filterMap id = pool
  ats : ∀ a ∈ c.ats, AtOk n0 n1 c.pts.length a
  free : ∀ k, c.pts[k]? = some none → ∃ a ∈ c.ats, k ∈ a.2
  sorted : srt (c.ats.map atD) = c.ats.map atD
  hl : c.hds.length = width
  hds : ∀ h ∈ c.hds, h < c.pts.length
  pick : c.pick < c.pts.length
  pl : c.pts.length ≤ 6
  al : c.ats.length ≤ 5

/-! ### data -/
theorem oD_inj {a b : Option Int} (h : oD a = oD b) : a = b := by
  cases a <;> cases b <;> simp_all [oD]
theorem nD_inj {a b : Nat} (h : nD a = nD b) : a = b := by
  simp only [nD, D.int.injEq] at h
  omega
theorem map_inj' {α β : Type} {f : α → β} (hf : ∀ a b, f a = f b → a = b) : ∀ {xs ys : List α}, xs.map f = ys.map f → xs = ys
  | [], [], _ => rfl
  | [], _ :: _, h => by simp at h
  | _ :: _, [], h => by simp at h
  | x :: xs, y :: ys, h => by
    simp only [List.map_cons, List.cons.injEq] at h
    rw [hf _ _ h.1, map_inj' hf h.2]
theorem atD_inj {a b : Atm} (h : atD a = atD b) : a = b := by
  obtain ⟨a1, a2⟩ := a
  obtain ⟨b1, b2⟩ := b
  simp only [atD, D.tup.injEq, List.cons.injEq, D.str.injEq, and_true] at h
  rw [h.1, map_inj' (fun _ _ => nD_inj) h.2]
theorem mem_map_inj {α β : Type} {f : α → β} (hf : ∀ a b, f a = f b → a = b) {x : α} {xs : List α} : f x ∈ xs.map f ↔ x ∈ xs := by
  rw [List.mem_map]
  constructor
  · rintro ⟨y, hy, e⟩
    rw [← hf _ _ e]
    exact hy
  · exact fun h => ⟨x, h, rfl⟩
theorem std_oD (o : Option Int) : std (oD o) = true := by cases o <;> simp [oD, std]
theorem std_onD (o : Option Nat) : std (onD o) = true := by cases o <;> simp [onD, std]
theorem std_nD (n : Nat) : std (nD n) = true := by simp [nD, std]
theorem std_map {α : Type} {f : α → D} (h : ∀ a, std (f a) = true) (xs : List α) : ∀ d ∈ xs.map f, std d = true := by
  intro d hd
  obtain ⟨a, _, rfl⟩ := List.mem_map.mp hd
  exact h a
theorem std_atD (a : Atm) : std (atD a) = true := std_tup (by
  intro d hd
  simp only [List.mem_cons, List.not_mem_nil, or_false] at hd
  rcases hd with rfl | rfl
  · exact std_str _
  · exact std_tup (std_map std_nD _))
theorem std_pc (c : PC) : std c.d = true := std_tup (by
  intro d hd
  simp only [List.mem_cons, List.not_mem_nil, or_false] at hd
  rcases hd with rfl | rfl | rfl | rfl
  · exact std_tup (std_map std_oD _)
  · exact std_tup (std_map std_atD _)
  · exact std_tup (std_map std_nD _)
  · exact std_int _)
theorem pl_oD (n : Nat) (o : Option Int) : U.plain n (oD o) = true := by
  cases o
  · exact pl_non n
  · exact pl_int n _
theorem pl_onD (n : Nat) (o : Option Nat) : U.plain n (onD o) = true := by
  cases o
  · exact pl_non n
  · exact pl_int n _
theorem pl_nD (n k : Nat) : U.plain n (nD k) = true := pl_int n _
theorem pl_map {α : Type} {n : Nat} {f : α → D} (xs : List α) (h : ∀ a ∈ xs, U.plain n (f a) = true) : ∀ d ∈ xs.map f, U.plain n d = true := by
  intro d hd
  obtain ⟨a, ha, rfl⟩ := List.mem_map.mp hd
  exact h a ha
theorem pl_tm {α : Type} (n : Nat) {f : α → D} (xs : List α) (h : ∀ a ∈ xs, U.plain n (f a) = true) : U.plain (n + 1) (.tup (xs.map f)) = true := pl_tup (pl_map xs h)
theorem pl_atD (n : Nat) {a : Atm} (h : PyData.strOk a.1 = true) : U.plain (n + 2) (atD a) = true := pl_tup (by
  intro d hd
  simp only [List.mem_cons, List.not_mem_nil, or_false] at hd
  rcases hd with rfl | rfl
  · exact pl_str _ _ h
  · exact pl_tm n _ fun a _ => pl_nD n a)
theorem pl_pc (n : Nat) {c : PC} (h : ∀ a ∈ c.ats, PyData.strOk a.1 = true) : U.plain (n + 4) c.d = true := pl_tup (by
  intro d hd
  simp only [List.mem_cons, List.not_mem_nil, or_false] at hd
  rcases hd with rfl | rfl | rfl | rfl
  · exact pl_tm _ _ fun a _ => pl_oD _ a
  · exact pl_tm _ _ fun a ha => pl_atD n (h a ha)
  · exact pl_tm _ _ fun a _ => pl_nD _ a
  · exact pl_int _ _)
theorem AtOk.str {n0 n1 : Str} {len : Nat} {a : Atm} (h : AtOk n0 n1 len a) (N : NOk n0 n1) : PyData.strOk a.1 = true := by
  rcases h.ar with ⟨e, _⟩ | ⟨e, _⟩
  · rw [e]; exact N.s0
  · rw [e]; exact N.s1

/-! ### partial solutions -/
/-- the slots filled by a row -/
def ext : List (Option Nat) → List (Nat × Nat) → Option (List (Option Nat))
  | vs, [] => some vs
  | vs, (s, v) :: r => match vs.getD s none with
    | none => ext (vs.set s (some v)) r
    | some u => if u = v then ext vs r else none
def step (rows : List (List Nat)) (a : Atm) (p : List (List (Option Nat))) : List (List (Option Nat)) := p.flatMap fun vs => rows.filterMap fun row => ext vs (a.2.zip row)
def sols (rowsOf : Str → List (List Nat)) : List Atm → List (List (Option Nat)) → List (List (Option Nat))
  | [], p => p
  | a :: r, p => sols rowsOf r (step (rowsOf a.1) a p)
theorem ext_len : ∀ {r : List (Nat × Nat)} {vs us : List (Option Nat)}, ext vs r = some us → us.length = vs.length
  | [], vs, us, h => by simp only [ext, Option.some.injEq] at h; rw [h]
  | (s, v) :: r, vs, us, h => by
    simp only [ext] at h
    split at h
    · rw [ext_len h]; simp
    · split at h
      · exact ext_len h
      · cases h
/-- what is filled stays; the row's places are filled with it -/
theorem ext_some : ∀ {r : List (Nat × Nat)} {vs us : List (Option Nat)}, ext vs r = some us → (∀ p ∈ r, p.1 < vs.length) → (∀ (k x : Nat), vs[k]? = some (some x) → us[k]? = some (some x)) ∧ ∀ p ∈ r, us[p.1]? = some (some p.2)
  | [], vs, us, h, _ => by
    simp only [ext, Option.some.injEq] at h
    subst h
    exact ⟨fun _ _ h => h, fun p hp => by cases hp⟩
  | (s, v) :: r, vs, us, h, hl => by
    have hs : s < vs.length := hl (s, v) (List.mem_cons_self ..)
    simp only [ext] at h
    split at h
    · rename_i hg
      have hg' : vs[s]? = some none := by
        rw [List.getD_eq_getElem?_getD] at hg
        rw [List.getElem?_eq_getElem hs] at hg ⊢
        simpa using hg
      obtain ⟨h1, h2⟩ := ext_some h (fun p hp => by simpa using hl p (List.mem_cons_of_mem _ hp))
      refine ⟨fun k x hk => h1 k x ?_, fun p hp => ?_⟩
      · have : k ≠ s := fun z => by rw [z, hg'] at hk; cases hk
        rw [List.getElem?_set_ne (Ne.symm this)]
        exact hk
      · rcases List.mem_cons.mp hp with rfl | hp
        · exact h1 s v (by rw [List.getElem?_set_self hs])
        · exact h2 p hp
    · rename_i u hg
      split at h
      · rename_i huv
        subst huv
        have hg' : vs[s]? = some (some u) := by
          rw [List.getD_eq_getElem?_getD] at hg
          rw [List.getElem?_eq_getElem hs] at hg ⊢
          simpa using hg
        obtain ⟨h1, h2⟩ := ext_some h (fun p hp => hl p (List.mem_cons_of_mem _ hp))
        refine ⟨h1, fun p hp => ?_⟩
        rcases List.mem_cons.mp hp with rfl | hp
        · exact h1 s u hg'
        · exact h2 p hp
      · cases h
/-- a map that agrees with what is filled and with the row: the row can be taken, and the map agrees still -/
def Agrees (m : List Nat) (vs : List (Option Nat)) : Prop := ∀ (k x : Nat), vs[k]? = some (some x) → m[k]? = some x
theorem ext_agrees {m : List Nat} : ∀ {r : List (Nat × Nat)} {vs : List (Option Nat)}, Agrees m vs → (∀ p ∈ r, p.1 < vs.length ∧ m[p.1]? = some p.2) → ∃ us, ext vs r = some us ∧ Agrees m us
  | [], vs, h, _ => ⟨vs, rfl, h⟩
  | (s, v) :: r, vs, h, hr => by
    obtain ⟨hs, hm⟩ := hr (s, v) (List.mem_cons_self ..)
    simp only [ext]
    cases hg : vs.getD s none with
    | none =>
      refine ext_agrees (fun k x hk => ?_) (fun p hp => ?_)
      · rcases get_set hk with ⟨rfl, e, _⟩ | ⟨_, hk⟩
        · cases e; exact hm
        · exact h k x hk
      · have := hr p (List.mem_cons_of_mem _ hp)
        simpa using this
    | some u =>
      have hg' : vs[s]? = some (some u) := by
        rw [List.getD_eq_getElem?_getD, List.getElem?_eq_getElem hs] at hg
        rw [List.getElem?_eq_getElem hs]
        simpa using hg
      have := h s u hg'
      simp only at hm
      rw [hm] at this
      cases this
      simp only [if_true]
      exact ext_agrees h fun p hp => hr p (List.mem_cons_of_mem _ hp)
theorem mem_step {rows : List (List Nat)} {a : Atm} {p : List (List (Option Nat))} {us : List (Option Nat)} : us ∈ step rows a p ↔ ∃ vs ∈ p, ∃ row ∈ rows, ext vs (a.2.zip row) = some us := by
  simp [step, List.mem_flatMap, List.mem_filterMap]
/-- every solution keeps the start and takes, for each atom, one of its rows -/
theorem sols_sound {rowsOf : Str → List (List Nat)} : ∀ {ats : List Atm} {p : List (List (Option Nat))} {us : List (Option Nat)} {n : Nat}, us ∈ sols rowsOf ats p → (∀ vs ∈ p, vs.length = n) → (∀ a ∈ ats, ∀ i ∈ a.2, i < n) →
    ∃ vs ∈ p, us.length = n ∧ (∀ (k x : Nat), vs[k]? = some (some x) → us[k]? = some (some x)) ∧ ∀ a ∈ ats, ∃ row ∈ rowsOf a.1, ∀ q ∈ a.2.zip row, us[q.1]? = some (some q.2)
  | [], p, us, n, h, hn, _ => ⟨us, h, hn us h, fun _ _ h => h, fun a ha => by cases ha⟩
  | a :: r, p, us, n, h, hn, hi => by
    have hn' : ∀ vs ∈ step (rowsOf a.1) a p, vs.length = n := fun vs hvs => by
      obtain ⟨ws, hw, row, _, e⟩ := mem_step.mp hvs
      rw [ext_len e, hn ws hw]
    obtain ⟨vs, hvs, e1, e2, e3⟩ := sols_sound (ats := r) h hn' (fun b hb => hi b (List.mem_cons_of_mem _ hb))
    obtain ⟨ws, hw, row, hrow, e⟩ := mem_step.mp hvs
    obtain ⟨x1, x2⟩ := ext_some e (fun q hq => by
      rw [hn ws hw]
      exact hi a (List.mem_cons_self ..) q.1 (List.of_mem_zip hq).1)
    refine ⟨ws, hw, e1, fun k x hk => e2 k x (x1 k x hk), fun b hb => ?_⟩
    rcases List.mem_cons.mp hb with rfl | hb
    · exact ⟨row, hrow, fun q hq => e2 _ _ (x2 q hq)⟩
    · exact e3 b hb
/-- a map that takes each atom to one of its rows is reached -/
theorem sols_complete {rowsOf : Str → List (List Nat)} {m : List Nat} : ∀ {ats : List Atm} {p : List (List (Option Nat))} {n : Nat}, (∀ vs ∈ p, vs.length = n) → (∃ vs ∈ p, Agrees m vs) →
    (∀ a ∈ ats, ∃ row ∈ rowsOf a.1, ∀ q ∈ a.2.zip row, q.1 < n ∧ m[q.1]? = some q.2) → ∃ us ∈ sols rowsOf ats p, Agrees m us
  | [], p, n, _, h, _ => h
  | a :: r, p, n, hn, ⟨vs, hvs, hA⟩, ha => by
    obtain ⟨row, hrow, hq⟩ := ha a (List.mem_cons_self ..)
    obtain ⟨us, e, hA'⟩ := ext_agrees hA (fun q h => by rw [hn vs hvs]; exact hq q h)
    refine sols_complete (ats := r) (p := step (rowsOf a.1) a p) (n := n) (fun ws hws => ?_) ⟨us, mem_step.mpr ⟨vs, hvs, row, hrow, e⟩, hA'⟩ (fun b hb => ha b (List.mem_cons_of_mem _ hb))
    obtain ⟨xs, hx, row', _, e'⟩ := mem_step.mp hws
    rw [ext_len e', hn xs hx]
theorem step_len {rows : List (List Nat)} {a : Atm} {R : Nat} (h : rows.length ≤ R) : ∀ (p : List (List (Option Nat))), (step rows a p).length ≤ p.length * R
  | [] => by simp [step]
  | v :: p => by
    have ih := step_len (a := a) h p
    have e : step rows a (v :: p) = (rows.filterMap fun row => ext v (a.2.zip row)) ++ step rows a p := by simp [step]
    rw [e, List.length_append, List.length_cons, Nat.succ_mul]
    have := List.length_filterMap_le (fun row => ext v (a.2.zip row)) rows
    omega
end K72

set_option Elab.async false
set_option linter.all false
set_option maxRecDepth 100000
set_option maxHeartbeats 4000000
namespace K72
open PySem L2 U

structure IsMap (P1 P2 : List (Option Int)) (m : List Nat) : Prop where
  len : m.length = P1.length
  asc : m.Pairwise (· < ·)
  pts : ∀ (k j : Nat), m[k]? = some j → ∃ o, P1[k]? = some o ∧ P2[j]? = some o
/-- the map's value at a place -/
def at_ (m : List Nat) (k : Nat) : Nat := m.getD k 0
theorem at_of {m : List Nat} {k j : Nat} (h : m[k]? = some j) : at_ m k = j := by
  unfold at_
  rw [List.getD_eq_getElem?_getD, h]
  rfl
theorem at_get {m : List Nat} {k : Nat} (h : k < m.length) : m[k]? = some (at_ m k) := by
  unfold at_
  rw [List.getD_eq_getElem?_getD, List.getElem?_eq_getElem h]
  rfl
structure Good (c1 c2 : PC) (mx : Bool) (m : List Nat) : Prop where
  hds : c1.hds.map (at_ m) = c2.hds
  pick : if mx then c2.pick ≤ at_ m c1.pick else at_ m c1.pick ≤ c2.pick
def Reach (c1 c2 : PC) (mx : Bool) : Prop := ∃ m, IsMap c1.pts c2.pts m ∧ (∀ a ∈ c1.ats, (a.1, a.2.map (at_ m)) ∈ c2.ats) ∧ Good c1 c2 mx m
structure Start (c1 c2 : PC) (st : List (Option Nat)) : Prop where
  len : st.length = c1.pts.length
  con : ∀ (k : Nat) (x : Int), c1.pts[k]? = some (some x) → ∃ j, st[k]? = some (some j) ∧ c2.pts[j]? = some (some x)
  fre : ∀ (k : Nat), c1.pts[k]? = some none → st[k]? = some none
structure Rows (c : PC) (rowsOf : Str → List (List Nat)) : Prop where
  mem : ∀ name row, row ∈ rowsOf name ↔ (name, row) ∈ c.ats
  len : ∀ name, (rowsOf name).length ≤ c.ats.length
def Cov (c1 c2 : PC) (rowsOf : Str → List (List Nat)) (st : List (Option Nat)) (mx : Bool) : Prop := ∃ m : List Nat, m.map some ∈ sols rowsOf c1.ats [st] ∧ m.Pairwise (· < ·) ∧ Good c1 c2 mx m

theorem const_mem : ∀ {pts : List (Option Int)} {k : Nat} {x : Int}, pts[k]? = some (some x) → x ∈ pts.filterMap id := fun {pts k x} h => by
  rw [List.mem_filterMap]
  exact ⟨some x, List.mem_of_getElem? h, rfl⟩
theorem mem_const {pts : List (Option Int)} {x : Int} (h : x ∈ pts.filterMap id) : ∃ k : Nat, pts[k]? = some (some x) := by
  obtain ⟨o, ho, e⟩ := List.mem_filterMap.mp h
  obtain ⟨k, hk⟩ := List.mem_iff_getElem?.mp ho
  simp only [id] at e
  subst e
  exact ⟨k, hk⟩
theorem const_uniq : ∀ {pts : List (Option Int)} {i j : Nat} {x : Int}, (pts.filterMap id).Nodup → pts[i]? = some (some x) → pts[j]? = some (some x) → i = j
  | [], i, _, _, _, h, _ => by simp at h
  | none :: pts, 0, _, _, _, h, _ => by simp at h
  | none :: pts, _, 0, _, _, _, h => by simp at h
  | none :: pts, i + 1, j + 1, x, hn, h1, h2 => by
    have := const_uniq (pts := pts) (by simpa using hn) (by simpa using h1) (by simpa using h2)
    omega
  | some y :: pts, 0, 0, _, _, _, _ => rfl
  | some y :: pts, 0, j + 1, x, hn, h1, h2 => by
    exfalso
    have e : y = x := by simpa using h1
    subst e
    have : y ∈ pts.filterMap id := const_mem (k := j) (by simpa using h2)
    simp only [List.filterMap_cons, id] at hn
    exact (List.nodup_cons.mp hn).1 this
  | some y :: pts, i + 1, 0, x, hn, h1, h2 => by
    exfalso
    have e : y = x := by simpa using h2
    subst e
    have : y ∈ pts.filterMap id := const_mem (k := i) (by simpa using h1)
    simp only [List.filterMap_cons, id] at hn
    exact (List.nodup_cons.mp hn).1 this
  | some y :: pts, i + 1, j + 1, x, hn, h1, h2 => by
    simp only [List.filterMap_cons, id] at hn
    have := const_uniq (pts := pts) (List.nodup_cons.mp hn).2 (by simpa using h1) (by simpa using h2)
    omega
theorem asc_inj {m : List Nat} (h : m.Pairwise (· < ·)) {i j x : Nat} (h1 : m[i]? = some x) (h2 : m[j]? = some x) : i = j := by
  obtain ⟨hi, e1⟩ := List.getElem?_eq_some_iff.mp h1
  obtain ⟨hj, e2⟩ := List.getElem?_eq_some_iff.mp h2
  rw [List.pairwise_iff_getElem] at h
  rcases Nat.lt_trichotomy i j with q | q | q
  · have := h i j hi hj q
    rw [e1, e2] at this
    exact absurd this (Nat.lt_irrefl _)
  · exact q
  · have := h j i hj hi q
    rw [e1, e2] at this
    exact absurd this (Nat.lt_irrefl _)
theorem zip_of_mem : ∀ {xs row : List Nat} {k : Nat}, k ∈ xs → xs.length = row.length → ∃ v, (k, v) ∈ xs.zip row
  | [], _, _, h, _ => by cases h
  | x :: xs, [], _, _, h => by simp at h
  | x :: xs, r :: row, k, h, hl => by
    rcases List.mem_cons.mp h with rfl | h
    · exact ⟨r, by simp⟩
    · obtain ⟨v, hv⟩ := zip_of_mem h (by simpa using hl)
      exact ⟨v, by simp [hv]⟩
theorem map_of_zip {m : List Nat} : ∀ {xs row : List Nat}, xs.length = row.length → (∀ q ∈ xs.zip row, m[q.1]? = some q.2) → xs.map (at_ m) = row
  | [], [], _, _ => rfl
  | [], _ :: _, h, _ => by simp at h
  | _ :: _, [], h, _ => by simp at h
  | x :: xs, r :: row, hl, h => by
    rw [List.map_cons, map_of_zip (by simpa using hl) (fun q hq => h q (by simp [hq])), at_of (h (x, r) (by simp))]
section
variable {n0 n1 : Str} {pool : List Int} {w1 w2 : Nat} {c1 c2 : PC} {rowsOf : Str → List (List Nat)} {st : List (Option Nat)} {mx : Bool}
theorem arity {a : Atm} {row : List Nat} {l1 l2 : Nat} (N : NOk n0 n1) (h1 : AtOk n0 n1 l1 a) (h2 : AtOk n0 n1 l2 (a.1, row)) : a.2.length = row.length := by
  rcases h1.ar with ⟨e, i, h⟩ | ⟨e, i, j, h⟩ <;> rcases h2.ar with ⟨e', i', h'⟩ | ⟨e', i', j', h'⟩
  · rw [h, show row = [i'] from h']; rfl
  · exact absurd (e.symm.trans e') N.ne
  · exact absurd (e'.symm.trans e) N.ne
  · rw [h, show row = [i', j'] from h']; rfl
/-- a solution has a value everywhere -/
theorem sol_full (N : NOk n0 n1) (p1 : POk n0 n1 pool w1 c1) (p2 : POk n0 n1 pool w2 c2) (R : Rows c2 rowsOf) (S : Start c1 c2 st) {us : List (Option Nat)} (h : us ∈ sols rowsOf c1.ats [st]) :
    ∃ m : List Nat, us = m.map some ∧ m.length = c1.pts.length ∧ (∀ (k j : Nat), st[k]? = some (some j) → m[k]? = some j) ∧ ∀ a ∈ c1.ats, ∃ row, (a.1, row) ∈ c2.ats ∧ a.2.length = row.length ∧ ∀ q ∈ a.2.zip row, m[q.1]? = some q.2 := by
  obtain ⟨vs, hvs, e1, e2, e3⟩ := sols_sound (n := c1.pts.length) h (fun vs hv => by
    rw [List.mem_singleton] at hv
    rw [hv, S.len]) (fun a ha i hi => (p1.ats a ha).ix i hi)
  rw [List.mem_singleton] at hvs
  subst hvs
  have rows : ∀ a ∈ c1.ats, ∃ row, (a.1, row) ∈ c2.ats ∧ a.2.length = row.length ∧ ∀ q ∈ a.2.zip row, us[q.1]? = some (some q.2) := fun a ha => by
    obtain ⟨row, hr, hq⟩ := e3 a ha
    have hr' := (R.mem _ _).mp hr
    exact ⟨row, hr', arity N (p1.ats a ha) (p2.ats _ hr'), hq⟩
  have full : ∀ k, k < us.length → ∃ x, us[k]? = some (some x) := fun k hk => by
    rw [e1] at hk
    cases hp : c1.pts[k]? with
    | none =>
      rw [List.getElem?_eq_none_iff] at hp
      omega
    | some o =>
      cases o with
      | some x =>
        obtain ⟨j, hj, _⟩ := S.con k x hp
        exact ⟨j, e2 k j hj⟩
      | none =>
        obtain ⟨a, ha, hka⟩ := p1.free k hp
        obtain ⟨row, _, hl, hq⟩ := rows a ha
        obtain ⟨v, hv⟩ := zip_of_mem hka hl
        exact ⟨v, hq _ hv⟩
  have gen : ∀ (us : List (Option Nat)), (∀ k, k < us.length → ∃ x, us[k]? = some (some x)) → ∃ m : List Nat, us = m.map some := by
    intro us
    induction us with
    | nil => exact fun _ => ⟨[], rfl⟩
    | cons u us ih =>
      intro h
      obtain ⟨m, rfl⟩ := ih fun k hk => by
        have := h (k + 1) (by simpa using hk)
        simpa using this
      obtain ⟨x, hx⟩ := h 0 (by simp)
      have hx' : u = some x := by simpa using hx
      exact ⟨x :: m, by rw [hx']; rfl⟩
  obtain ⟨m, rfl⟩ := gen us full
  have back : ∀ (k j : Nat), (m.map some)[k]? = some (some j) → m[k]? = some j := fun k j h => by
    rw [List.getElem?_map] at h
    cases hm : m[k]? with
    | none => rw [hm] at h; cases h
    | some x => rw [hm] at h; cases h; rfl
  refine ⟨m, rfl, by simpa using e1, fun k j h => back k j (e2 k j h), fun a ha => ?_⟩
  obtain ⟨row, h1, h2, h3⟩ := rows a ha
  exact ⟨row, h1, h2, fun q hq => back _ _ (h3 q hq)⟩
theorem start_uniq (hn : pool.Nodup) (p2 : POk n0 n1 pool w2 c2) (S : Start c1 c2 st) {k j j' : Nat} {x : Int} (h : c1.pts[k]? = some (some x)) (h1 : st[k]? = some (some j)) (h2 : c2.pts[j']? = some (some x)) : j = j' := by
  obtain ⟨j0, e1, e2⟩ := S.con k x h
  rw [h1] at e1
  cases e1
  exact const_uniq (by rw [p2.consts]; exact hn) e2 h2
/-- THE LAW: the search by atoms finds a map if, and only if, there is one -/
theorem cov_iff (N : NOk n0 n1) (hn : pool.Nodup) (p1 : POk n0 n1 pool w1 c1) (p2 : POk n0 n1 pool w2 c2) (R : Rows c2 rowsOf) (S : Start c1 c2 st) : Cov c1 c2 rowsOf st mx ↔ Reach c1 c2 mx := by
  constructor
  · rintro ⟨m, h, asc, g⟩
    obtain ⟨m', e, hl, hs, ha⟩ := sol_full N p1 p2 R S h
    have em : m = m' := map_inj' (fun _ _ h => by cases h; rfl) e
    subst em
    refine ⟨m, ⟨hl, asc, fun k j hk => ?_⟩, fun a hA => ?_, g⟩
    · have hk' : k < c1.pts.length := by rw [← hl]; exact (List.getElem?_eq_some_iff.mp hk).1
      cases hp : c1.pts[k]? with
      | none =>
        rw [List.getElem?_eq_none_iff] at hp
        omega
      | some o =>
        refine ⟨o, rfl, ?_⟩
        cases o with
        | some x =>
          obtain ⟨j0, e1, e2⟩ := S.con k x hp
          have := hs k j0 e1
          rw [hk] at this
          cases this
          exact e2
        | none =>
          obtain ⟨a, hA, hka⟩ := p1.free k hp
          obtain ⟨row, hr, hlen, hq⟩ := ha a hA
          obtain ⟨v, hv⟩ := zip_of_mem hka hlen
          have e := hq _ hv
          simp only at e
          rw [hk] at e
          cases e
          have hj : j < c2.pts.length := (p2.ats _ hr).ix j (List.of_mem_zip hv).2
          cases hp2 : c2.pts[j]? with
          | none =>
            rw [List.getElem?_eq_none_iff] at hp2
            omega
          | some o2 =>
            cases o2 with
            | none => rfl
            | some y =>
              exfalso
              have hy : y ∈ c1.pts.filterMap id := by
                rw [p1.consts, ← p2.consts]
                exact const_mem hp2
              obtain ⟨k', hk2⟩ := mem_const hy
              obtain ⟨j', e1, e2⟩ := S.con k' y hk2
              have ej : j' = j := const_uniq (by rw [p2.consts]; exact hn) e2 hp2
              subst ej
              have := asc_inj asc hk (hs k' j' e1)
              subst this
              rw [hp] at hk2
              cases hk2
    · obtain ⟨row, hr, hlen, hq⟩ := ha a hA
      rw [map_of_zip hlen hq]
      exact hr
  · rintro ⟨m, I, ha, g⟩
    have hml : m.length = st.length := by rw [I.len, S.len]
    have agr : Agrees m st := fun k x hk => by
      have hk' : k < m.length := by rw [hml]; exact (List.getElem?_eq_some_iff.mp hk).1
      have hm := at_get hk'
      obtain ⟨o, e1, e2⟩ := I.pts k _ hm
      cases o with
      | none =>
        have := S.fre k e1
        rw [hk] at this
        cases this
      | some y =>
        rw [hm, start_uniq hn p2 S e1 hk e2]
    obtain ⟨us, hus, hA⟩ := sols_complete (rowsOf := rowsOf) (m := m) (ats := c1.ats) (p := [st]) (n := st.length) (fun vs hv => by rw [List.mem_singleton] at hv; rw [hv]) ⟨st, by simp, agr⟩ (fun a hA => by
      refine ⟨a.2.map (at_ m), (R.mem _ _).mpr (ha a hA), fun q hq => ?_⟩
      have : ∀ {xs : List Nat}, q ∈ xs.zip (xs.map (at_ m)) → q.2 = at_ m q.1 := by
        intro xs
        induction xs with
        | nil => intro h; cases h
        | cons x xs ih =>
          intro h
          rw [List.map_cons, List.zip_cons_cons] at h
          rcases List.mem_cons.mp h with rfl | h
          · rfl
          · exact ih h
      have h1 : q.1 < c1.pts.length := (p1.ats a hA).ix q.1 (List.of_mem_zip hq).1
      exact ⟨by rw [S.len]; exact h1, by rw [this hq]; exact at_get (by rw [I.len]; exact h1)⟩)
    obtain ⟨m', e, hl, _⟩ := sol_full N p1 p2 R S hus
    have em : m' = m := by
      apply List.ext_getElem?
      intro k
      by_cases hk : k < m'.length
      · have h1 := at_get hk
        have : us[k]? = some (some (at_ m' k)) := by rw [e, List.getElem?_map, h1]; rfl
        rw [h1, hA k _ this]
      · rw [List.getElem?_eq_none_iff.mpr (by omega), List.getElem?_eq_none_iff.mpr (by rw [hml, S.len, ← hl]; omega)]
    subst em
    exact ⟨m', by rw [← e]; exact hus, I.asc, g⟩
end
end K72

set_option Elab.async false
set_option linter.all false
set_option maxRecDepth 100000
set_option maxHeartbeats 4000000
namespace K72
open PySem L2 U

/-! ### atoms sorted -/
theorem alike_ints : ∀ (xs ys : List Nat), PySem.W.alikeAll (pys (xs.map nD)) (pys (ys.map nD)) = true
  | [], _ => by simp [pys, PySem.W.alikeAll]
  | _ :: _, [] => by simp [pys, PySem.W.alikeAll]
  | x :: xs, y :: ys => by
    have := alike_ints xs ys
    simp [pys, PySem.W.alikeAll, nD, D.py, PySem.W.alike] at this ⊢
    exact this
theorem alike_atD (a b : Atm) : PySem.W.alike (atD a).py (atD b).py = true := by
  have := alike_ints a.2 b.2
  simp [atD, D.py, pys, PySem.W.alike, PySem.W.alikeAll, this]
theorem allAlike_atoms (xs : List Atm) : PySem.W.AllAlike ((xs.map atD).map D.py) := by
  intro d hd e he
  simp only [List.map_map, List.mem_map, Function.comp] at hd he
  obtain ⟨a, _, rfl⟩ := hd
  obtain ⟨b, _, rfl⟩ := he
  exact alike_atD a b
theorem sortable_atoms (xs : List Atm) : PySem.W.Sortable ((xs.map atD).map D.py) := by
  left
  intro d hd
  simp only [List.map_map, List.mem_map, Function.comp] at hd
  obtain ⟨a, _, rfl⟩ := hd
  exact ⟨.str a.1, [.tuple (pys (a.2.map nD))], by simp [atD, D.py, pys]⟩
theorem srt_atoms (xs : List Atm) : ∃ cs : List Atm, srt (xs.map atD) = cs.map atD ∧ cs.Perm xs := by
  refine ⟨xs.mergeSort fun a b => PySem.W.dataLe false D.py (atD a) (atD b), ?_, List.mergeSort_perm _ _⟩
  unfold srt
  exact (List.map_mergeSort (r := fun a b => PySem.W.dataLe false D.py (atD a) (atD b)) (s := PySem.W.dataLe false D.py) (f := atD) (l := xs) (fun a _ b _ => rfl)).symm

/-! ### a point put in -/
def ins {α : Type} (l : List α) (i : Nat) (x : α) : List α := l.take i ++ [x] ++ l.drop i
/-- where the points behind it go -/
def sh (i k : Nat) : Nat := if i ≤ k then k + 1 else k
section
variable {α : Type} {l : List α} {i k : Nat} {x : α}
theorem ins_len : (ins l i x).length = l.length + 1 := by
  simp [ins]
  omega
theorem ins_at (h : i ≤ l.length) : (ins l i x)[i]? = some x := by
  unfold ins
  rw [List.append_assoc, List.getElem?_append_right (by simp [h])]
  simp [h]
theorem ins_sh (h : i ≤ l.length) : (ins l i x)[sh i k]? = l[k]? := by
  unfold ins sh
  by_cases hk : i ≤ k
  · rw [if_pos hk, List.append_assoc, List.getElem?_append_right (by simp; omega), List.length_take, Nat.min_eq_left h]
    have e : k + 1 - i = (k - i) + 1 := by omega
    rw [e]
    simp only [List.cons_append, List.nil_append, List.getElem?_cons_succ, List.getElem?_drop]
    congr 1
    omega
  · rw [if_neg hk, List.append_assoc, List.getElem?_append_left (by simp; omega), List.getElem?_take_of_lt (by omega)]
theorem sh_onto (k : Nat) (h : k ≠ i) : ∃ j, k = sh i j := by
  by_cases hk : k < i
  · exact ⟨k, by unfold sh; rw [if_neg (by omega)]⟩
  · exact ⟨k - 1, by unfold sh; rw [if_pos (by omega)]; omega⟩
theorem sh_lt {n : Nat} (h : k < n) : sh i k < n + 1 := by
  unfold sh
  split <;> omega
end
theorem ins_consts (l : List (Option Int)) (i : Nat) : (ins l i none).filterMap id = l.filterMap id := by
  unfold ins
  rw [List.filterMap_append, List.filterMap_append]
  simp only [List.filterMap_cons, List.filterMap_nil, id, List.append_nil]
  rw [← List.filterMap_append, List.take_append_drop]
theorem ins_map {α β : Type} (f : α → β) (l : List α) (i : Nat) (x : α) : (ins l i x).map f = (l.map f).take i ++ [f x] ++ (l.map f).drop i := by
  simp [ins]
theorem ins_nones (l : List (Option Int)) (i : Nat) : ((ins l i none).filter Option.isNone).length = (l.filter Option.isNone).length + 1 := by
  unfold ins
  rw [List.filter_append, List.filter_append, List.length_append, List.length_append]
  have h := congrArg (fun m => (m.filter Option.isNone).length) (List.take_append_drop i l)
  simp only [List.filter_append, List.length_append] at h
  simp
  omega
/-- atoms carried over -/
def shA (i : Nat) (a : Atm) : Atm := (a.1, a.2.map (sh i))
theorem shA_ok {n0 n1 : Str} {len i : Nat} {a : Atm} (h : AtOk n0 n1 len a) : AtOk n0 n1 (len + 1) (shA i a) := by
  refine ⟨fun k hk => ?_, ?_⟩
  · obtain ⟨j, hj, rfl⟩ := List.mem_map.mp hk
    exact sh_lt (h.ix j hj)
  · rcases h.ar with ⟨e, j, h⟩ | ⟨e, j, k, h⟩
    · exact .inl ⟨e, sh i j, by simp [shA, h]⟩
    · exact .inr ⟨e, sh i j, sh i k, by simp [shA, h]⟩
theorem AtOk.mono {n0 n1 : Str} {l1 l2 : Nat} {a : Atm} (h : AtOk n0 n1 l1 a) (hl : l1 ≤ l2) : AtOk n0 n1 l2 a := ⟨fun i hi => Nat.lt_of_lt_of_le (h.ix i hi) hl, h.ar⟩
/-- a case made of what was drawn -/
theorem pok_mk {n0 n1 : Str} {pool : List Int} {width : Nat} {pts : List (Option Int)} {bs cs : List Atm} {hds : List Nat} {pick : Nat} (h1 : pts.filterMap id = pool) (h2 : ∀ a ∈ bs, AtOk n0 n1 pts.length a) (h3 : ∀ k, pts[k]? = some none → ∃ a ∈ bs, k ∈ a.2)
    (hs : srt (bs.map atD) = cs.map atD) (hp : cs.Perm bs) (h4 : hds.length = width) (h5 : ∀ h ∈ hds, h < pts.length) (h6 : pick < pts.length) (h7 : pts.length ≤ 6) (h8 : bs.length ≤ 5) : POk n0 n1 pool width ⟨pts, cs, hds, pick⟩ := by
  refine ⟨h1, fun a ha => h2 a (hp.mem_iff.mp ha), fun k hk => ?_, ?_, h4, h5, h6, h7, by show cs.length ≤ 5; rw [hp.length_eq]; exact h8⟩
  · obtain ⟨a, ha, hka⟩ := h3 k hk
    exact ⟨a, hp.mem_iff.mpr ha, hka⟩
  · show srt (cs.map atD) = cs.map atD
    rw [← hs, srt_srt]
end K72

set_option Elab.async false
set_option linter.all false
set_option maxRecDepth 100000
set_option maxHeartbeats 4000000
namespace K72
open PySem L2 U

/-- one point more -/
def okk (P1 P2 : List (Option Int)) (k : Nat) (m : List Nat) (j : Nat) : Bool := (m.isEmpty || decide (m.getLastD 0 < j)) && decide (P1.getD k none = P2.getD j none)
def gr (P1 P2 : List (Option Int)) (k : Nat) (m : List Nat) : List (List Nat) := (List.range P2.length).filterMap fun j => if okk P1 P2 k m j = true then some (m ++ [j]) else none
structure MapK (P1 P2 : List (Option Int)) (k : Nat) (m : List Nat) : Prop where
  len : m.length = k
  asc : m.Pairwise (· < ·)
  pts : ∀ (i j : Nat), m[i]? = some j → ∃ o, P1[i]? = some o ∧ P2[j]? = some o
theorem last_get {m : List Nat} (h : m ≠ []) : m[m.length - 1]? = some (m.getLastD 0) := by
  rw [List.getLastD_eq_getLast?, List.getLast?_eq_getElem?]
  have : m.length - 1 < m.length := by
    have := List.length_pos_iff.mpr h
    omega
  rw [List.getElem?_eq_getElem this]
  rfl
theorem asc_snoc {m : List Nat} {j : Nat} : (m ++ [j]).Pairwise (· < ·) ↔ m.Pairwise (· < ·) ∧ (m = [] ∨ m.getLastD 0 < j) := by
  rw [List.pairwise_append]
  constructor
  · rintro ⟨h1, _, h3⟩
    refine ⟨h1, ?_⟩
    by_cases hm : m = []
    · exact .inl hm
    · exact .inr (h3 _ (List.mem_of_getElem? (last_get hm)) j (by simp))
  · rintro ⟨h1, h2⟩
    refine ⟨h1, by simp, fun x hx y hy => ?_⟩
    rw [List.mem_singleton.mp hy]
    rcases h2 with rfl | h2
    · cases hx
    · have hm : m ≠ [] := fun z => by rw [z] at hx; cases hx
      obtain ⟨i, hi⟩ := List.mem_iff_getElem?.mp hx
      have hil := (List.getElem?_eq_some_iff.mp hi)
      obtain ⟨hil, hie⟩ := hil
      have hl := last_get hm
      obtain ⟨hll, hle⟩ := List.getElem?_eq_some_iff.mp hl
      by_cases hlast : i = m.length - 1
      · subst hlast
        rw [hl] at hi
        cases hi
        exact h2
      · have := List.pairwise_iff_getElem.mp h1 i (m.length - 1) hil hll (by omega)
        rw [hie, hle] at this
        omega
theorem mem_gr {P1 P2 : List (Option Int)} {k : Nat} {m m' : List Nat} : m' ∈ gr P1 P2 k m ↔ ∃ j, j < P2.length ∧ okk P1 P2 k m j = true ∧ m' = m ++ [j] := by
  unfold gr
  rw [List.mem_filterMap]
  constructor
  · rintro ⟨j, hj, h⟩
    split at h
    · rename_i ho
      cases h
      exact ⟨j, List.mem_range.mp hj, ho, rfl⟩
    · cases h
  · rintro ⟨j, hj, ho, rfl⟩
    exact ⟨j, List.mem_range.mpr hj, by rw [if_pos ho]⟩
theorem mapK_succ {P1 P2 : List (Option Int)} {k : Nat} (hk : k < P1.length) {ms : List (List Nat)} (h : ∀ m, m ∈ ms ↔ MapK P1 P2 k m) (m' : List Nat) : m' ∈ ms.flatMap (gr P1 P2 k) ↔ MapK P1 P2 (k + 1) m' := by
  have hp : P1.getD k none = P1[k] := by rw [List.getD_eq_getElem?_getD, List.getElem?_eq_getElem hk]; rfl
  rw [List.mem_flatMap]
  constructor
  · rintro ⟨m, hm, hg⟩
    obtain ⟨j, hj, ho, rfl⟩ := mem_gr.mp hg
    obtain ⟨e1, e2, e3⟩ := (h m).mp hm
    unfold okk at ho
    simp only [Bool.and_eq_true, Bool.or_eq_true, List.isEmpty_iff, decide_eq_true_eq] at ho
    have hq : P2.getD j none = P2[j] := by rw [List.getD_eq_getElem?_getD, List.getElem?_eq_getElem hj]; rfl
    refine ⟨by simp [e1], asc_snoc.mpr ⟨e2, ho.1⟩, fun i x hx => ?_⟩
    by_cases hi : i < m.length
    · rw [List.getElem?_append_left hi] at hx
      exact e3 i x hx
    · rw [List.getElem?_append_right (by omega)] at hx
      have hi0 : i - m.length = 0 := by
        by_cases z : i - m.length = 0
        · exact z
        · rw [List.getElem?_eq_none (by simp; omega)] at hx
          cases hx
      rw [hi0] at hx
      cases hx
      have : i = k := by omega
      subst this
      refine ⟨P1[i], List.getElem?_eq_getElem hk, ?_⟩
      rw [List.getElem?_eq_getElem hj, ← hp, ho.2, hq]
  · rintro ⟨e1, e2, e3⟩
    have hne : m' ≠ [] := fun z => by rw [z] at e1; cases e1
    obtain ⟨m, j, rfl⟩ : ∃ m j, m' = m ++ [j] := ⟨m'.dropLast, m'.getLast hne, (List.dropLast_concat_getLast hne).symm⟩
    have hl : m.length = k := by simpa using e1
    obtain ⟨a1, a2⟩ := asc_snoc.mp e2
    have hgj : (m ++ [j])[k]? = some j := by
      rw [List.getElem?_append_right (by omega), hl, Nat.sub_self]
      rfl
    obtain ⟨o, o1, o2⟩ := e3 k j hgj
    obtain ⟨hj, hj2⟩ := List.getElem?_eq_some_iff.mp o2
    refine ⟨m, (h m).mpr ⟨hl, a1, fun i x hx => e3 i x ?_⟩, mem_gr.mpr ⟨j, hj, ?_, rfl⟩⟩
    · rw [List.getElem?_append_left (List.getElem?_eq_some_iff.mp hx).1]
      exact hx
    · have hq : P2.getD j none = P2[j] := by rw [List.getD_eq_getElem?_getD, List.getElem?_eq_getElem hj]; rfl
      unfold okk
      simp only [Bool.and_eq_true, Bool.or_eq_true, List.isEmpty_iff, decide_eq_true_eq]
      refine ⟨a2, ?_⟩
      rw [hp, hq, hj2]
      rw [List.getElem?_eq_getElem hk] at o1
      exact Option.some.inj o1
theorem gr_len (P1 P2 : List (Option Int)) (k : Nat) (m : List Nat) : (gr P1 P2 k m).length ≤ P2.length := by
  have := List.length_filterMap_le (fun j => if okk P1 P2 k m j = true then some (m ++ [j]) else none) (List.range P2.length)
  rw [List.length_range] at this
  exact this
theorem flat_len {P1 P2 : List (Option Int)} {k : Nat} (h : P2.length ≤ 6) : ∀ ms : List (List Nat), (ms.flatMap (gr P1 P2 k)).length ≤ ms.length * 6
  | [] => by simp
  | m :: ms => by
    rw [List.flatMap_cons, List.length_append, List.length_cons, Nat.succ_mul]
    have := flat_len (P1 := P1) (k := k) h ms
    have := gr_len P1 P2 k m
    omega
def Win (c1 c2 : PC) (mx : Bool) (m : List Nat) : Prop := (∀ a ∈ c1.ats, (a.1, a.2.map (at_ m)) ∈ c2.ats) ∧ Good c1 c2 mx m
theorem reach_iff {c1 c2 : PC} {mx : Bool} {ms : List (List Nat)} (h : ∀ m, m ∈ ms ↔ IsMap c1.pts c2.pts m) : Reach c1 c2 mx ↔ ∃ m ∈ ms, Win c1 c2 mx m := by
  constructor
  · rintro ⟨m, h1, h2, h3⟩
    exact ⟨m, (h m).mpr h1, h2, h3⟩
  · rintro ⟨m, h1, h2, h3⟩
    exact ⟨m, (h m).mp h1, h2, h3⟩
end K72

set_option Elab.async false
set_option linter.all false
set_option maxRecDepth 100000
set_option maxHeartbeats 4000000
namespace K72
open PySem L2 U
open PySem.Spec PyProof.Rows
def top (i : Nat) : Stmt := PySem.Challenge.pw_mostsalike_k72_case_covers.main.body.getD i (.Pass ⟨0, 0, 0, 0⟩)
/-- what is not overwritten -/
structure NB (mg : Str → Option Value) : Prop where
  len : mg "len" = none
  tuple : mg "tuple" = none
  list : mg "list" = none
  int : mg "int" = none
  str : mg "str" = none
  sorted : mg "sorted" = none
  all : mg "all" = none
  isinstance : mg "isinstance" = none
  range : mg "range" = none
  enumerate : mg "enumerate" = none
  zip : mg "zip" = none
  ve : mg "ValueError" = none
  bool : mg "bool" = none
structure CaseC (K : PySem.W.Frag) (mg : Str → Option Value) (C : Addr) : Prop extends NB mg where
  cl : Cls K C
  n_points : NoAttr K C "points"
  n_atoms : NoAttr K C "atoms"
  n_groups : NoAttr K C "groups"
  n_pick : NoAttr K C "pick"
  n_form : NoAttr K C "form"
section
variable {P : Program} {w : World} {K : PySem.W.Frag} {mg : Str → Option Value} {base : Heap}
abbrev s_sense_of : Stmt := (top 11)
theorem sc_sense_of : FnScope ["kind"] ["kind"] (defScope s_sense_of) := ⟨rfl, rfl, rfl, by decide +kernel, rfl, by decide +kernel, by decide +kernel⟩
theorem ok_sense_of {f : Addr} {fd : FuncData} (F : L2.Fun K "sense_of" "sense_of" s_sense_of f fd) (T : NB mg) : FnOk P w K mg base CX0 1 f fd ["kind"] (spU K 1 fun ds Q => ∃ k : Str, ds = [.str k] ∧ PyData.strOk k = true ∧ Q (.int (if k == "max" then 1 else -1))) := by
  refine okU F sc_sense_of rfl fun cdv A outer s H E hr => ?_
  have hu64 := hu64 hr; have hu65 := hu65 hr; have hu1 := hu1 hr; have nd := sc_sense_of.nd
  refine ⟨_, (uss_one (us_ret (u_ifExp (ut_cmp (ueq hu64) (uv 0) u_str (nomark _)) u_int (u_neg u_int)))), ?_⟩
  rintro ds Q - ⟨k, rfl, hk, q⟩
  refine ⟨_, rfl, pl_str _ _ hk, pl_str _ _ (by decide +kernel), _, rfl, ?_⟩
  rw [deq_str]
  cases e : (k == ("max" : Str)) with
  | true =>
    rw [e] at q
    exact iteT q
  | false =>
    rw [e] at q
    exact iteF ⟨1, rfl, q⟩
abbrev s_is_ascending : Stmt := (top 13)
theorem sc_is_ascending : FnScope ["values", "low", "high"] ["values"] (defScope s_is_ascending) := ⟨rfl, rfl, rfl, by decide +kernel, rfl, by decide +kernel, by decide +kernel⟩
theorem asc_zip : ∀ {xs : List Nat}, xs.Pairwise (· < ·) ↔ ∀ p ∈ (xs.take (xs.length - 1)).zip (xs.drop 1), p.1 < p.2
  | [] => by simp
  | [x] => by simp
  | x :: y :: xs => by
    have ih := asc_zip (xs := y :: xs)
    have e : ((x :: y :: xs).take ((x :: y :: xs).length - 1)).zip ((x :: y :: xs).drop 1) = (x, y) :: ((y :: xs).take ((y :: xs).length - 1)).zip ((y :: xs).drop 1) := by simp
    rw [e]
    constructor
    · intro h p hp
      rcases List.mem_cons.mp hp with rfl | hp
      · exact (List.pairwise_cons.mp h).1 y (by simp)
      · exact ih.mp (List.pairwise_cons.mp h).2 p hp
    · intro h
      have h2 := ih.mpr fun p hp => h p (List.mem_cons_of_mem _ hp)
      have hxy : x < y := h (x, y) (by simp)
      refine List.pairwise_cons.mpr ⟨fun z hz => ?_, h2⟩
      rcases List.mem_cons.mp hz with rfl | hz
      · exact hxy
      · exact Nat.lt_trans hxy ((List.pairwise_cons.mp h2).1 z hz)
theorem zipD_map {α β : Type} (f : α → D) (g : β → D) (xs : List α) (ys : List β) : zipD (xs.map f) (ys.map g) = (xs.zip ys).map fun p => .tup [f p.1, g p.2] := by
  unfold zipD
  rw [List.zip_map, List.map_map]
  rfl
theorem ok_is_ascending {f : Addr} {fd : FuncData} (F : L2.Fun K "is_ascending" "is_ascending" s_is_ascending f fd) (T : NB mg) : FnOk P w K mg base CX0 1 f fd ["values"] (spU K 1 fun ds Q => ∃ xs : List Nat, ds = [.tup (xs.map nD)] ∧ xs.length ≤ 1000 ∧ ∀ b, (b = true ↔ xs.Pairwise (· < ·)) → Q (.bl b)) := by
  refine okU F sc_is_ascending rfl fun cdv A outer s H E hr => ?_
  have hu64 := hu64 hr; have hu65 := hu65 hr; have hu1 := hu1 hr; have nd := sc_is_ascending.nd
  refine ⟨_, (uss_one (us_ret (u_callB1 (uc1_all rfl) (by rfl) T.all boot_all (UL.ur (ul_lc (own := [("low", 1), ("high", 2)]) rfl nd (ui_zip (RZ.pi_zipA (by rfl) T.zip (UA.run (ua_cons (u_slT (uv 0) uo_none (uo_some (u_neg u_int))) (ua_cons (u_slT (uv 0) (uo_some u_int) uo_none) ua_nil))))) (blkOk_by (own := [("low", 1), ("high", 2)]) (N := ["values", "low", "high"]) (sc := defScope s_is_ascending) (by decide +kernel)) (fun _ _ _ _ _ => (ug_tup (m := 2) rfl (ugs_cons (ug nd 1) (ugs_cons (ug nd 2) ugs_nil)))) (fun _ _ _ _ _ => uts_nil) (fun _ _ _ _ _ => (u_cmp ult (uv 1) (uv 2) (nomark _)))))))), ?_⟩
  rintro ds Q - ⟨xs, rfl, hz, q⟩
  refine ⟨_, rfl, 1, rfl, -1, rfl, _, rfl, _, rfl, 1, rfl, _, rfl, _, _, .inl rfl, ?_⟩
  rw [cut_init, show cutD (xs.map nD) (some 1) none = (xs.map nD).drop 1 from cut_drop _ 1, List.length_map, ← List.map_take, ← List.map_drop, zipD_map]
  refine lc_map (fun b => .bl b) (fun p : Nat × Nat => some (decide (p.1 < p.2))) ?_ (fun i p I acc hp hs hI => ⟨hs, ?_⟩) ?_
  · refine Nat.lt_of_le_of_lt ?_ (show 1000 < sizeLine by decide)
    simp
    omega
  · refine ⟨_, rfl, rfl, _, _, rfl, _, _, rfl, rfl, ?_⟩
    refine iteT ⟨_, rfl, _, rfl, _, _, rfl, rfl, trivial, ?_⟩
    have e : decide ((p.1 : Int) < (p.2 : Int)) = decide (p.1 < p.2) := by simp
    show I (i + 1) (acc ++ [.bl (decide ((p.1 : Int) < (p.2 : Int)))])
    rw [e]
    exact hI
  · refine ⟨_, rfl, q _ ?_⟩
    rw [fm_some, asc_zip, List.all_map, List.all_eq_true]
    simp
theorem pl_mono2 {d : D} (h : U.plain 2 d = true) : U.plain 8 d = true := plain_mono h (by decide)
def exD : Option (List (Option Nat)) → D
  | none => .non
  | some us => .tup (us.map onD)
theorem onD_isN (o : Option Nat) : (onD o).isN = some o.isNone := by cases o <;> rfl
theorem atI_map {α : Type} {f : α → D} {xs : List α} {i : Nat} {a : α} (h : xs[i]? = some a) : atI (xs.map f) ((i : Nat) : Int) = some (f a) := by
  obtain ⟨h1, rfl⟩ := List.getElem?_eq_some_iff.mp h
  rw [atI_nat (by simpa using h1)]
  simp
theorem ixN_nat {n i : Nat} (h : i < n) : ixN n (i : Int) = some i := by
  unfold ixN
  simp [h]
abbrev s_extended_values : Stmt := (top 6)
theorem sc_extended_values : FnScope ["values", "slots", "row", "changed", "slot", "value"] ["values", "slots", "row"] (defScope s_extended_values) := ⟨rfl, rfl, rfl, by decide +kernel, rfl, by decide +kernel, by decide +kernel⟩
theorem ok_extended_values {f : Addr} {fd : FuncData} (F : L2.Fun K "extended_values" "extended_values" s_extended_values f fd) (T : NB mg) : FnOk P w K mg base CX0 1 f fd ["values", "slots", "row"] (spU K 3 fun ds Q => ∃ (vs : List (Option Nat)) (sl rw : List Nat), ds = [.tup (vs.map onD), .tup (sl.map nD), .tup (rw.map nD)] ∧ (∀ i ∈ sl, i < vs.length) ∧ Q (exD (ext vs (sl.zip rw)))) := by
  refine okU F sc_extended_values rfl fun cdv A outer s H E hr => ?_
  have hu64 := hu64 hr; have hu65 := hu65 hr; have hu1 := hu1 hr; have nd := sc_extended_values.nd
  refine ⟨_, (uss_cons (us_ownE (i := 3) nd (ul_list (by rfl) T.list (uv 0)))
  (uss_cons (us_for (vs := [4, 5]) PassesOwn.never rfl (ui_zip (RZ.pi_zipA (by rfl) T.zip (UA.run (ua_cons (uv 1) (ua_cons (uv 2) ua_nil))))) (ug_tup (m := 2) rfl (ugs_cons (ug nd 4) (ugs_cons (ug nd 5) ugs_nil)))
   (uss_one (us_if (ut_cmp uisN (u_ixR (uo 3) (uv 4) (fun _ _ => rfl)) u_non (nomark _)) (uss_one (us_put (ps_asg (UE.run (uv 5)) (pg_sub (pv' 3) (UE.run (uv 4)) set_list)))) (uss_one (us_if (ut_cmp (une hu64) (u_ixR (uo 3) (uv 4) (fun _ _ => rfl)) (uv 5) (nomark _)) (uss_one (us_ret u_non)) uss_nil)))))
  (uss_one (us_ret (u_callTy1 uc1_tuple (by rfl) T.tuple boot_tuple (uo 3)))))), ?_⟩
  rintro ds Q - ⟨vs, sl, rw_, rfl, hl, q⟩
  refine ⟨_, rfl, _, .inl rfl, _, rfl, _, rfl, _, _, .inl rfl, ?_⟩
  rw [zipD_map]
  refine for_inv (fun (z : List (Option Nat) × Slot × Slot) => [.va (.tup (vs.map onD)), .va (.tup (sl.map nD)), .va (.tup (rw_.map nD)), .own (.lst (z.1.map onD)), z.2.1, z.2.2])
    (fun i z => ext z.1 ((sl.zip rw_).drop i) = ext vs (sl.zip rw_) ∧ z.1.length = vs.length) (vs, .no, .no) rfl ⟨by simp, rfl⟩ (fun i p I z hp hj hI => ?_) (fun z hz => ?_)
  · obtain ⟨cur, x4, x5⟩ := z
    obtain ⟨h1, h2⟩ := hj
    obtain ⟨s, v⟩ := p
    have hs : s < cur.length := by
      rw [show cur.length = vs.length from h2]
      exact hl s (List.of_mem_zip (List.mem_of_getElem? hp)).1
    have hcs : cur[s]? = some cur[s] := List.getElem?_eq_getElem hs
    have hg : cur.getD s none = cur[s] := by rw [List.getD_eq_getElem?_getD, hcs]; rfl
    rw [drop_cons hp] at h1
    simp only [ext, hg] at h1
    refine ⟨_, rfl, rfl, _, _, rfl, _, _, rfl, rfl, ?_⟩
    refine ⟨_, rfl, _, rfl, _, _, rfl, atI_map hcs, rfl, _, onD_isN _, _, rfl, ?_⟩
    cases e : cur[s] with
    | none =>
      rw [e] at h1
      refine iteT ⟨_, rfl, _, rfl, _, rfl, _, s, rfl, ?_, ?_⟩
      · rw [List.length_map]; exact ixN_nat hs
      · have := hI (cur.set s (some v), .va (nD s), .va (nD v)) ⟨h1, by simp [h2]⟩
        rw [show (List.map onD cur).set s (nD v) = (cur.set s (some v)).map onD from by rw [List.map_set]; rfl]
        exact this
    | some u =>
      rw [e] at h1
      simp only at h1
      refine iteF ⟨_, rfl, _, rfl, _, _, rfl, atI_map hcs, _, rfl, pl_onD _ _, pl_nD _ _, _, rfl, ?_⟩
      rw [e, show deq (onD (some u)) (nD v) = ((u : Int) == (v : Int)) from deq_int _ _]
      by_cases huv : u = v
      · subst huv
        simp only [if_true] at h1
        refine iteF' (by simp) ?_
        exact hI (cur, .va (nD s), .va (nD u)) ⟨h1, h2⟩
      · rw [if_neg huv] at h1
        refine iteT' (by simp; omega) ?_
        rw [← h1] at q
        exact q
  · obtain ⟨cur, x4, x5⟩ := z
    obtain ⟨h1, h2⟩ := hz
    rw [List.drop_length] at h1
    simp only [ext] at h1
    rw [← h1] at q
    exact ⟨_, rfl, q⟩
def solD (v : List (Option Nat)) : D := .tup [.tup (v.map onD), .int 1]
def rowD (r : List Nat) : D := .tup [.tup (r.map nD), .int 1]
abbrev s_atom_solutions : Stmt := (top 7)
theorem sc_atom_solutions : FnScope ["atoms", "start", "tables", "partial", "name", "slots", "grown", "values", "weight", "row", "times", "extended"] ["atoms", "start", "tables"] (defScope s_atom_solutions) := ⟨rfl, rfl, rfl, by decide +kernel, rfl, by decide +kernel, by decide +kernel⟩
/-- the table of rows, as a dict -/
def TabOk (tb : List (Key × D)) (rowsOf : Str → List (List Nat)) : Prop := ∀ name, (valD tb (.inr name)).getD (.lst []) = .lst ((rowsOf name).map rowD)
theorem ok_atom_solutions {f fex : Addr} {fd fdex : FuncData} (F : L2.Fun K "atom_solutions" "atom_solutions" s_atom_solutions f fd) (T : NB mg) (Dextended_values : Def K mg "extended_values" fex fdex ["values", "slots", "row"])
    (Gextended_values : FnOk P w K mg base CX0 1 fex fdex ["values", "slots", "row"] (spU K 3 fun ds Q => ∃ (vs : List (Option Nat)) (sl rw : List Nat), ds = [.tup (vs.map onD), .tup (sl.map nD), .tup (rw.map nD)] ∧ (∀ i ∈ sl, i < vs.length) ∧ Q (exD (ext vs (sl.zip rw))))) :
    FnOk P w K mg base CX0 2 f fd ["atoms", "start", "tables"] (spU K 3 fun ds Q => ∃ (ats : List Atm) (st : List (Option Nat)) (tb : List (Key × D)) (rowsOf : Str → List (List Nat)), ds = [.tup (ats.map atD), .tup (st.map onD), .dk tb] ∧ TabOk tb rowsOf ∧
      (∀ a ∈ ats, ∀ i ∈ a.2, i < st.length) ∧ (∀ name, (rowsOf name).length ≤ 5) ∧ ats.length ≤ 5 ∧ Q (.lst ((sols rowsOf ats [st]).map solD))) := by
  refine okU F sc_atom_solutions rfl fun cdv A outer s H E hr => ?_
  have hu64 := hu64 hr; have hu65 := hu65 hr; have hu1 := hu1 hr; have nd := sc_atom_solutions.nd
  refine ⟨_, (uss_cons (us_setF (i := 3) nd (ul_lst (ua_cons (u_tup (ua_cons (uv 1) (ua_cons u_int ua_nil))) ua_nil)))
  (uss_cons (us_for (vs := [4, 5]) PassesOwn.never rfl (ui_seq (uv 0)) (ug_tup (m := 2) rfl (ugs_cons (ug nd 4) (ugs_cons (ug nd 5) ugs_nil)))
   (uss_cons (us_ownE (i := 6) nd (ul_lst ua_nil))
    (uss_cons (us_for (vs := [7, 8]) PassesOwn.never rfl (ui_seq (uv 3)) (ug_tup (m := 2) rfl (ugs_cons (ug nd 7) (ugs_cons (ug nd 8) ugs_nil)))
     (uss_one (us_for (vs := [9, 10]) PassesOwn.never rfl (ui_seq (u_dget2 hu1 (uv 2) (uv 4) (UL.ue (ul_lst ua_nil)) ⟨rfl, rfl, rfl, rfl⟩)) (ug_tup (m := 2) rfl (ugs_cons (ug nd 9) (ugs_cons (ug nd 10) ugs_nil)))
       (uss_cons (us_setE (i := 11) nd (u_callD Dextended_values Gextended_values hr (ua_cons (uv 7) (ua_cons (uv 5) (ua_cons (uv 9) ua_nil)))))
        (uss_one (us_if (ut_cmp unotN (uv 11) u_non (nomark _)) (uss_one (us_append (pe_bm PySem.F.plainAttrs_list PySem.F.slot_list_append PySem.F.type_list_append mt_append (pv' 6) (pa_cons (UE.run (u_tup (ua_cons (uv 11) (ua_cons (u_op umul (uv 8) (uv 10)) ua_nil)))) pa_nil)))) uss_nil))))))
    (uss_one (us_setF (i := 3) nd (ul_listR (by rfl) T.list (uo 6)))))))
  (uss_one (us_ret (uv 3))))), ?_⟩
  rintro ds Q - ⟨ats, st, tb, rowsOf, rfl, hT, hi, hR, hal, q⟩
  refine ⟨_, rfl, szL (show 2 ≤ 1000 by decide), szL (show 1 ≤ 1000 by decide), _, rfl, _, .inr rfl, ?_⟩
  refine for_inv (fun (z : List (List (Option Nat)) × Slot × Slot × Slot × Slot × Slot × Slot × Slot × Slot) => [.va (.tup (ats.map atD)), .va (.tup (st.map onD)), .va (.dk tb), .va (.lst (z.1.map solD)), z.2.1, z.2.2.1, z.2.2.2.1, z.2.2.2.2.1, z.2.2.2.2.2.1, z.2.2.2.2.2.2.1, z.2.2.2.2.2.2.2.1, z.2.2.2.2.2.2.2.2])
    (fun i z => sols rowsOf (ats.drop i) z.1 = sols rowsOf ats [st] ∧ (∀ v ∈ z.1, v.length = st.length) ∧ z.1.length ≤ 5 ^ i) ([st], .no, .no, .no, .no, .no, .no, .no, .no) rfl ⟨by simp, by simp, by simp⟩ (fun i a I z hp hj hI => ?_) (fun z hz => ?_)
  · obtain ⟨p, x4, x5, x6, x7, x8, x9, x10, x11⟩ := z
    obtain ⟨h1, h2, h3⟩ := hj
    simp only at h1 h2 h3
    have hil : i < 5 := by
      have := (List.getElem?_eq_some_iff.mp hp).1
      omega
    have ham : a ∈ ats := List.mem_of_getElem? hp
    rw [drop_cons hp] at h1
    simp only [sols] at h1
    have hp5 : 5 ^ i ≤ 625 := by
      have : 5 ^ i ≤ 5 ^ 4 := Nat.pow_le_pow_right (by decide) (by omega)
      exact this
    have hpl : p.length ≤ 625 := Nat.le_trans h3 hp5
    have hrl := hR a.1
    refine ⟨_, rfl, rfl, _, _, rfl, _, _, rfl, rfl, ?_⟩
    refine ⟨szL (show 0 ≤ 1000 by decide), _, rfl, _, .inl rfl, ?_⟩
    refine for_inv (fun (z : List (List (Option Nat)) × Slot × Slot × Slot × Slot × Slot) => [.va (.tup (ats.map atD)), .va (.tup (st.map onD)), .va (.dk tb), .va (.lst (p.map solD)), .va (.str a.1), .va (.tup (a.2.map nD)), .own (.lst (z.1.map solD)), z.2.1, z.2.2.1, z.2.2.2.1, z.2.2.2.2.1, z.2.2.2.2.2])
      (fun j z => z.1 = step (rowsOf a.1) a (p.take j)) ([], x7, x8, x9, x10, x11) rfl (by simp [step]) (fun j v I2 z hv hj2 hI2 => ?_) (fun z hz => ?_)
    · obtain ⟨acc, x7, x8, x9, x10, x11⟩ := z
      simp only at hj2
      subst hj2
      have hjl : j < p.length := (List.getElem?_eq_some_iff.mp hv).1
      have hvm : v ∈ p := List.mem_of_getElem? hv
      have hacc : (step (rowsOf a.1) a (p.take j)).length ≤ 3125 := by
        have e1 := step_len (a := a) hrl (p.take j)
        have e2 : (p.take j).length ≤ 625 := by rw [List.length_take]; omega
        have e3 : (p.take j).length * 5 ≤ 625 * 5 := Nat.mul_le_mul_right 5 e2
        omega
      refine ⟨_, rfl, rfl, _, _, rfl, _, _, rfl, rfl, ?_⟩
      refine ⟨_, rfl, _, rfl, _, rfl, szL (show 0 ≤ 1000 by decide), .inr a.1, rfl, _, .inl (hT a.1), ?_⟩
      refine for_inv (fun (z : List (List (Option Nat)) × Slot × Slot × Slot) => [.va (.tup (ats.map atD)), .va (.tup (st.map onD)), .va (.dk tb), .va (.lst (p.map solD)), .va (.str a.1), .va (.tup (a.2.map nD)), .own (.lst (z.1.map solD)), .va (.tup (v.map onD)), .va (.int 1), z.2.1, z.2.2.1, z.2.2.2])
        (fun k z => z.1 = step (rowsOf a.1) a (p.take j) ++ ((rowsOf a.1).take k).filterMap (fun row => ext v (a.2.zip row))) (step (rowsOf a.1) a (p.take j), x9, x10, x11) rfl (by simp) (fun k row I3 z hr hj3 hI3 => ?_) (fun z hz => ?_)
      · obtain ⟨acc, x9, x10, x11⟩ := z
        simp only at hj3
        subst hj3
        have hfl : (((rowsOf a.1).take k).filterMap (fun row => ext v (a.2.zip row))).length ≤ 5 := by
          have e1 := List.length_filterMap_le (fun row => ext v (a.2.zip row)) ((rowsOf a.1).take k)
          rw [List.length_take] at e1
          omega
        have e3 : step (rowsOf a.1) a (p.take j) ++ ((rowsOf a.1).take (k + 1)).filterMap (fun row => ext v (a.2.zip row)) = step (rowsOf a.1) a (p.take j) ++ ((rowsOf a.1).take k).filterMap (fun row => ext v (a.2.zip row)) ++ (ext v (a.2.zip row)).toList := by
          rw [take_snoc hr, List.filterMap_append, List.append_assoc]
          congr 2
        refine ⟨_, rfl, rfl, _, _, rfl, _, _, rfl, rfl, ?_⟩
        refine ⟨_, rfl, _, rfl, _, rfl, rfl, v, a.2, row, rfl, fun i hi' => by rw [h2 v hvm]; exact hi a ham i hi', ?_⟩
        cases he : ext v (a.2.zip row) with
        | none =>
          rw [he] at e3
          refine ⟨_, rfl, rfl, true, rfl, false, rfl, ?_⟩
          refine iteF ?_
          exact hI3 (_, .va (.tup (row.map nD)), .va (.int 1), .va .non) (by rw [e3]; simp)
        | some us =>
          rw [he] at e3
          refine ⟨_, rfl, rfl, false, rfl, true, rfl, ?_⟩
          refine iteT ⟨_, rfl, _, rfl, _, rfl, _, rfl, 1, 1, rfl, rfl, .inl ⟨by decide, by decide⟩, szL (show 2 ≤ 1000 by decide), szT ?_, ?_⟩
          · rw [List.length_map, List.length_append]; omega
          · have := hI3 (_, .va (.tup (row.map nD)), .va (.int 1), .va (.tup (us.map onD))) e3.symm
            simp only [List.map_append] at this ⊢
            exact this
      · obtain ⟨acc, x9, x10, x11⟩ := z
        simp only at hz
        subst hz
        refine hI2 (_, .va (.tup (v.map onD)), .va (.int 1), x9, x10, x11) ?_
        simp only [List.take_length]
        rw [take_snoc hv]
        simp [step]
    · obtain ⟨acc, x7, x8, x9, x10, x11⟩ := z
      simp only at hz
      subst hz
      rw [List.take_length]
      refine ⟨_, rfl, ?_⟩
      refine hI (step (rowsOf a.1) a p, .va (.str a.1), .va (.tup (a.2.map nD)), .own (.lst ((step (rowsOf a.1) a p).map solD)), x7, x8, x9, x10, x11) ⟨h1, fun u hu => ?_, ?_⟩
      · obtain ⟨vs, hvs, row, _, e⟩ := mem_step.mp hu
        rw [ext_len e, h2 vs hvs]
      · have e1 := step_len (a := a) hrl p
        have e3 : p.length * 5 ≤ 5 ^ i * 5 := Nat.mul_le_mul_right 5 h3
        rw [Nat.pow_succ]
        exact Nat.le_trans e1 e3
  · obtain ⟨p, x4, x5, x6, x7, x8, x9, x10, x11⟩ := z
    obtain ⟨h1, h2, h3⟩ := hz
    rw [List.drop_length] at h1
    simp only [sols] at h1
    rw [← h1] at q
    exact ⟨_, rfl, q⟩
abbrev s_different_atoms : Stmt := (inClass (top 9) 7)
theorem sc_different_atoms : FnScope ["self", "place", "atom"] ["self"] (defScope s_different_atoms) := ⟨rfl, rfl, rfl, by decide +kernel, rfl, by decide +kernel, by decide +kernel⟩
theorem first_ix {α : Type} [DecidableEq α] {x : α} : ∀ {xs : List α}, x ∈ xs → ∃ i : Nat, xs[i]? = some x ∧ x ∉ xs.take i
  | [], h => by cases h
  | y :: xs, h => by
    by_cases hy : y = x
    · exact ⟨0, by simp [hy], by simp⟩
    · have hx : x ∈ xs := by
        rcases List.mem_cons.mp h with e | e
        · exact absurd e.symm hy
        · exact e
      obtain ⟨i, h1, h2⟩ := first_ix hx
      exact ⟨i + 1, by simpa using h1, by simp [h2, Ne.symm hy]⟩
def ddF (ats : List Atm) (i : Nat) : Option Atm := (ats[i]?).bind fun a => if a ∈ ats.take i then none else some a
theorem dd_mem (ats : List Atm) (x : Atm) : x ∈ (List.range ats.length).filterMap (ddF ats) ↔ x ∈ ats := by
  rw [List.mem_filterMap]
  constructor
  · rintro ⟨i, _, h⟩
    unfold ddF at h
    cases e : ats[i]? with
    | none => rw [e] at h; cases h
    | some a =>
      rw [e] at h
      simp only [Option.bind_some] at h
      split at h
      · cases h
      · cases h
        exact List.mem_of_getElem? e
  · intro h
    obtain ⟨i, h1, h2⟩ := first_ix h
    refine ⟨i, List.mem_range.mpr (List.getElem?_eq_some_iff.mp h1).1, ?_⟩
    unfold ddF
    rw [h1]
    simp [h2]
/-- a Case's atoms -/
def CaseAt (C : Addr) (fs : List (Str × D)) (ats : List Atm) : Prop := fs.lookup ("atoms" : Str) = some (.tup (ats.map atD)) ∧ fs.lookup ("different_atoms" : Str) = none
theorem ok_different_atoms {f C : Addr} {fd : FuncData} (F : L2.Fun K "different_atoms" "Case.different_atoms" s_different_atoms f fd) (T : CaseC K mg C) : FnOk P w K mg base CX0 1 f fd ["self"] (spU K 1 fun ds Q => ∃ fs ats, ds = [.obj C fs] ∧ CaseAt C fs ats ∧ (∀ a ∈ ats, PyData.strOk a.1 = true) ∧ ats.length ≤ 1000 ∧
    ∀ l : List Atm, (∀ x, x ∈ l ↔ x ∈ ats) → l.length ≤ ats.length → Q (.lst (l.map atD))) := by
  refine okU F sc_different_atoms rfl fun cdv A outer s H E hr => ?_
  have hu64 := hu64 hr; have hu65 := hu65 hr; have hu1 := hu1 hr; have nd := sc_different_atoms.nd
  refine ⟨_, (uss_one (us_ret (UL.ue (ul_lc (own := [("place", 1), ("atom", 2)]) rfl nd (ui_enum (by rfl) T.enumerate (u_fld T.cl T.n_atoms (uv 0))) (blkOk_by (own := [("place", 1), ("atom", 2)]) (N := ["self", "place", "atom"]) (sc := defScope s_different_atoms) (by decide +kernel)) (fun _ _ _ _ _ => (ug_tup (m := 2) rfl (ugs_cons (ug nd 1) (ugs_cons (ug nd 2) ugs_nil)))) (fun _ _ _ _ _ => (uts_one (ut_cmp (unotin hu65) (uv 2) (u_slT (u_fld T.cl T.n_atoms (uv 0)) uo_none (uo_some (uv 1))) (by rfl)))) (fun _ _ _ _ _ => (uv 2)))))), ?_⟩
  rintro ds Q - ⟨fs, ats, rfl, hA, hs, hl, q⟩
  refine ⟨_, rfl, fs, _, rfl, hA.1, _, .inr rfl, ?_⟩
  show ∃ I, _
  unfold enumD
  refine lc_map atD (ddF ats) ?_ (fun i j I acc hp hz hI => ⟨hz, ?_⟩) ?_
  · rw [List.length_range, List.length_map]
    exact szT (by omega)
  · obtain ⟨h1, h2⟩ := List.getElem?_eq_some_iff.mp hp
    rw [List.getElem_range] at h2
    subst h2
    rw [List.length_range, List.length_map] at h1
    have ha : ats[i]? = some ats[i] := List.getElem?_eq_getElem h1
    have hd : (ats.map atD).getD i .non = atD ats[i] := by
      rw [List.getD_eq_getElem?_getD, List.getElem?_map, ha]
      rfl
    rw [hd]
    refine ⟨_, rfl, rfl, _, _, rfl, _, _, rfl, rfl, ?_⟩
    refine ⟨_, rfl, _, rfl, _, _, rfl, hA.1, _, rfl, _, rfl, _, rfl, _, .inr rfl, pl_mono2 (pl_atD 0 (hs _ (List.getElem_mem h1))), ?_, _, rfl, ?_⟩
    · rw [cut_take, ← List.map_take]
      exact plains_iff.mpr (pl_map _ fun a ha => pl_mono2 (pl_atD 0 (hs a (List.mem_of_mem_take ha))))
    · rw [cut_take, ← List.map_take]
      have e : inD (atD ats[i]) ((ats.take i).map atD) = true ↔ ats[i] ∈ ats.take i := by
        rw [inD_iff (std_atD _) (stds_iff.mpr (std_map std_atD _)), mem_map_inj fun _ _ => atD_inj]
      have hf : ddF ats i = if ats[i] ∈ ats.take i then none else some ats[i] := by
        unfold ddF
        rw [ha]
        rfl
      rw [hf] at hI
      by_cases hm : ats[i] ∈ ats.take i
      · rw [if_pos hm] at hI
        exact iteF' (by rw [e.mpr hm]; rfl) hI
      · rw [if_neg hm] at hI
        refine iteT' (by rw [Bool.eq_false_iff.mpr (fun z => hm (e.mp z))]; rfl) ⟨_, rfl, hI⟩
  · rw [List.length_map]
    refine q _ (dd_mem ats) ?_
    have := List.length_filterMap_le (ddF ats) (List.range ats.length)
    rwa [List.length_range] at this
abbrev s_atoms_by_name : Stmt := (top 15)
theorem sc_atoms_by_name : FnScope ["case", "atoms", "tables", "name", "atom", "other", "indexes"] ["case"] (defScope s_atoms_by_name) := ⟨rfl, rfl, rfl, by decide +kernel, rfl, by decide +kernel, by decide +kernel⟩
def rowsIn (l : List Atm) (name : Str) : List (List Nat) := (l.filter fun a => a.1 == name).map (·.2)
theorem ok_atoms_by_name {f fda C : Addr} {fd fdda : FuncData} (F : L2.Fun K "atoms_by_name" "atoms_by_name" s_atoms_by_name f fd) (T : CaseC K mg C) (m_da : Meth K C "different_atoms" fda) (b_da : Binds K fdda ["self"] [])
    (Gda : FnOk P w K mg base CX0 1 fda fdda ["self"] (spU K 1 fun ds Q => ∃ fs ats, ds = [.obj C fs] ∧ CaseAt C fs ats ∧ (∀ a ∈ ats, PyData.strOk a.1 = true) ∧ ats.length ≤ 1000 ∧ ∀ l : List Atm, (∀ x, x ∈ l ↔ x ∈ ats) → l.length ≤ ats.length → Q (.lst (l.map atD)))) :
    FnOk P w K mg base CX0 2 f fd ["case"] (spU K 1 fun ds Q => ∃ fs ats, ds = [.obj C fs] ∧ CaseAt C fs ats ∧ (∀ a ∈ ats, PyData.strOk a.1 = true) ∧ ats.length ≤ 1000 ∧
    ∀ tb rowsOf, TabOk tb rowsOf → (∀ name row, row ∈ rowsOf name ↔ (name, row) ∈ ats) → (∀ name, (rowsOf name).length ≤ ats.length) → Q (.dk tb)) := by
  refine okU F sc_atoms_by_name rfl fun cdv A outer s H E hr => ?_
  have hu64 := hu64 hr; have hu65 := hu65 hr; have hu1 := hu1 hr; have nd := sc_atoms_by_name.nd
  refine ⟨_, (uss_cons (us_setE (i := 1) nd (u_meth0 T.cl m_da Gda (hr.mono (by decide)) b_da (uv 0) (pe_meth0 (UE.run (uv 0)) T.cl m_da Gda (hr.mono (by decide)) b_da .nil pass0)))
  (uss_cons (us_newD (i := 2) nd)
  (uss_cons (us_for (vs := [3]) PassesOwn.never rfl (ui_seq (UL.ue (ul_lc (own := [("atom", 4)]) rfl nd (ui_seq (uv 1)) (blkOk_by (own := [("atom", 4)]) (N := ["case", "atoms", "tables", "name", "atom", "other", "indexes"]) (sc := defScope s_atoms_by_name) (by decide +kernel)) (fun _ _ _ _ _ => (ug nd 4)) (fun _ _ _ _ _ => uts_nil) (fun _ _ _ _ _ => (u_ix (uv 4) u_int (fun _ _ => rfl)))))) (ug nd 3)
   (uss_one (us_dput (ps_dput hu1 (pv' 2) (UE.run (uv 3)) (UE.run (UL.ue (ul_lc (own := [("other", 5), ("indexes", 6)]) rfl nd (ui_seq (uv 1)) (blkOk_by (own := [("other", 5), ("indexes", 6)]) (N := ["case", "atoms", "tables", "name", "atom", "other", "indexes"]) (sc := defScope s_atoms_by_name) (by decide +kernel)) (fun _ _ _ _ _ => (ug_tup (m := 2) rfl (ugs_cons (ug nd 5) (ugs_cons (ug nd 6) ugs_nil)))) (fun _ _ _ _ _ => (uts_one (ut_cmp (ueq hu64) (uv 5) (uv 3) (nomark _)))) (fun _ _ _ _ _ => (u_tup (ua_cons (uv 6) (ua_cons u_int ua_nil))))))) rfl))))
  (uss_one (us_retO (pv' 2)))))), ?_⟩
  rintro ds Q - ⟨fs, ats, rfl, hA, hs, hl, q⟩
  refine ⟨_, rfl, fs, rfl, hA.2, rfl, fs, ats, rfl, hA, hs, hl, fun l hm hll => ?_⟩
  have hsl : ∀ a ∈ l, PyData.strOk a.1 = true := fun a ha => hs a ((hm a).mp ha)
  refine ⟨_, rfl, _, .inl rfl, ?_⟩
  refine lc_map (fun x => D.str x) (fun a : Atm => some a.1) (szT (by omega)) (fun i a I acc hp hz hI => ⟨hz, ?_⟩) ?_
  · exact iteT' (q := I (i + 1) acc) rfl ⟨_, rfl, _, rfl, .inl ⟨_, _, .inl rfl, rfl, hI⟩⟩
  · rw [fm_some]
    refine ⟨_, .inl rfl, ?_⟩
    refine for_inv (fun (z : List (Key × D) × Slot × Slot × Slot × Slot) => [.va (.obj C fs), .va (.lst (l.map atD)), .own (.dk z.1), z.2.1, z.2.2.1, z.2.2.2.1, z.2.2.2.2])
      (fun i z => z.1.length ≤ i ∧ ∀ name, valD z.1 (.inr name) = if name ∈ (l.map (·.1)).take i then some (.lst ((rowsIn l name).map rowD)) else none) ([], .no, .no, .no, .no) rfl ⟨by simp, fun name => by simp [valD]⟩ (fun i name I z hp hj hI => ?_) (fun z hz => ?_)
    · obtain ⟨tb, x3, x4, x5, x6⟩ := z
      obtain ⟨j1, j2⟩ := hj
      simp only at j1 j2
      have hil : i < l.length := by
        have := (List.getElem?_eq_some_iff.mp hp).1
        simpa using this
      have hnm : PyData.strOk name = true := by
        obtain ⟨a, ha, rfl⟩ := List.mem_map.mp (List.mem_of_getElem? hp)
        exact hsl a ha
      refine ⟨_, rfl, _, .inl rfl, ?_⟩
      refine lc_map rowD (fun a : Atm => if a.1 == name then some a.2 else none) (szT (by omega)) (fun k a I2 acc ha hz hI2 => ⟨hz, ?_⟩) ?_
      · refine ⟨_, rfl, rfl, _, _, rfl, _, _, rfl, rfl, ?_⟩
        refine ⟨_, rfl, _, rfl, pl_str _ _ (hsl a (List.mem_of_getElem? ha)), pl_str _ _ hnm, _, rfl, ?_⟩
        rw [deq_str]
        cases e : (a.1 == name) with
        | true =>
          rw [e] at hI2
          exact iteT ⟨_, rfl, szL (show 2 ≤ 1000 by decide), hI2⟩
        | false =>
          rw [e] at hI2
          exact iteF hI2
      · rw [fm_if]
        refine ⟨tb, rfl, _, rfl, .inr name, rfl, szT (Nat.le_trans j1 (by omega)), ?_⟩
        refine hI (_, .va (.str name), x4, x5, x6) ⟨?_, fun n => ?_⟩
        · have := putD_len tb (.inr name) (.lst ((rowsIn l name).map rowD))
          exact Nat.le_trans this (by omega)
        · show valD (putD tb (.inr name) (.lst ((rowsIn l name).map rowD))) (.inr n) = _
          rw [valD_put, j2, take_snoc hp]
          by_cases hn : name = n
          · subst hn
            rw [if_pos rfl, if_pos (by simp)]
          · have h1 : ¬ (Sum.inr name : Key) = Sum.inr n := fun z => hn (by cases z; rfl)
            rw [if_neg h1]
            by_cases h2 : n ∈ (l.map (·.1)).take i
            · rw [if_pos h2, if_pos (List.mem_append_left _ h2)]
            · rw [if_neg h2, if_neg (by rw [List.mem_append, List.mem_singleton]; rintro (z | z); exact h2 z; exact hn z.symm)]
    · obtain ⟨tb, x3, x4, x5, x6⟩ := z
      obtain ⟨j1, j2⟩ := hz
      simp only at j1 j2
      rw [List.length_map] at j2
      refine ⟨_, rfl, q tb (rowsIn l) (fun name => ?_) (fun name row => ?_) (fun name => ?_)⟩
      · rw [j2]
        rw [List.take_of_length_le (by simp)]
        by_cases hn : name ∈ l.map (·.1)
        · rw [if_pos hn]
          rfl
        · rw [if_neg hn]
          have : rowsIn l name = [] := by
            unfold rowsIn
            rw [List.map_eq_nil_iff, List.filter_eq_nil_iff]
            intro a ha hz
            exact hn (List.mem_map.mpr ⟨a, ha, by simpa using hz⟩)
          rw [this]
          rfl
      · rw [← hm]
        unfold rowsIn
        rw [List.mem_map]
        constructor
        · rintro ⟨a, ha, rfl⟩
          obtain ⟨h1, h2⟩ := List.mem_filter.mp ha
          have h3 : a.1 = name := by simpa using h2
          subst h3
          exact h1
        · intro h
          exact ⟨(name, row), List.mem_filter.mpr ⟨h, by simp⟩, rfl⟩
      · unfold rowsIn
        rw [List.length_map]
        exact Nat.le_trans (List.length_filter_le _ _) hll
end
end K72

set_option Elab.async false
set_option linter.all false
set_option maxRecDepth 100000
set_option maxHeartbeats 4000000
namespace K72
open PySem L2 U
open PySem.Spec PyProof.Rows
section
variable {P : Program} {w : World} {K : PySem.W.Frag} {mg : Str → Option Value} {base : Heap}
abbrev s_source : Stmt := (top 18)
theorem sc_source : FnScope ["script"] ["script"] (defScope s_source) := ⟨rfl, rfl, rfl, by decide +kernel, rfl, by decide +kernel, by decide +kernel⟩
def spSource (K : PySem.W.Frag) : Sp := fun vs H Q _ => ∃ (a : Addr) (ns : List Int), vs = [.ref a] ∧ SqL K H a (ns.map V.int) ∧ ∀ (p c : Addr) (H' : Hp), H p = none → H c = none → p ≠ c → H' p = some (.dK (srcD c 0 0 0 0)) → H' c = some (.lst (ns.map V.int)) → (∀ b, b ≠ p → b ≠ c → H' b = H b) → Q (.ref p) H'
theorem ok_source {f : Addr} {fd : FuncData} (F : L2.Fun K "_law_source" "_law_source" s_source f fd) (T : NB mg) : FnOk P w K mg base CX0 1 f fd ["script"] (spSource K) := by
  refine F.ok sc_source (fun vs H Q E h => ?_) fun cdv A outer s H vs Q E hr h => ?_
  · obtain ⟨a, ns, rfl, _⟩ := h
    rfl
  · obtain ⟨a, ns, rfl, hS, k⟩ := h
    refine ⟨_, pss_one (ps_ret (pe_disp (pps_cons pe_str (pe_callTy call_list_of (by rfl) T.list boot_list (pa_cons (pv 0) pa_nil)) (pps_cons pe_str pe_int (pps_cons pe_str pe_int (pps_cons pe_str pe_int (pps_cons pe_str pe_int pps_nil))))) rfl rfl (by intro z; cases z) (by decide))), ?_⟩
    intro p hp
    have h1 : SqL K (upd H p (.dK [])) a (ns.map V.int) := Same.seq (fun b o e => by rw [upd_ne (ne_of_none e hp)]; exact e) hS
    refine ⟨_, rfl, a, _, rfl, .inl h1, fun c hc => ?_⟩
    have hcp : c ≠ p := fun z => by rw [z, upd_same] at hc; cases hc
    have hc' : H c = none := by rw [upd_ne hcp] at hc; exact hc
    refine ⟨by rw [upd_ne (Ne.symm hcp), upd_same], srcD c 0 0 0 0, rfl, by show 5 ≤ 15; decide, ?_⟩
    have em : mergeK [] (srcD c 0 0 0 0) = srcD c 0 0 0 0 := by
      obtain ⟨h1, h2, h3, h4, h5, h6, h7, h8, h9, h10⟩ := kne
      simp only [mergeK, List.foldl, putK, srcD, List.any_cons, List.any_nil, List.map_cons, List.map_nil, List.nil_append, List.cons_append, h1, h2, h3, h4, h5, h6, h7, h8, h9, h10, Ne.symm h1, Ne.symm h2, Ne.symm h3, Ne.symm h4, Ne.symm h5, Ne.symm h6, Ne.symm h7, Ne.symm h8, Ne.symm h9, Ne.symm h10, decide_true, decide_false, Bool.or_true, Bool.true_or, if_true, if_false, Bool.or_false, Bool.false_or, Bool.false_eq_true]
    rw [em]
    refine k p c _ hp hc' (Ne.symm hcp) upd_same (by rw [upd_ne hcp, upd_same]) fun b hb hb' => ?_
    rw [upd_ne hb, upd_ne hb', upd_ne hb]
abbrev s_draw : Stmt := (top 19)
theorem sc_draw : FnScope ["source", "many", "cell", "drawn", "turn", "first", "second"] ["source", "many"] (defScope s_draw) := ⟨rfl, rfl, rfl, by decide +kernel, rfl, by decide +kernel, by decide +kernel⟩
theorem ok_draw {f : Addr} {fd : FuncData} (F : L2.Fun K "_law_draw" "_law_draw" s_draw f fd) (T : NB mg) : FnOk P w K mg base CX0 1 f fd ["source", "many"] spDraw := by
  refine F.ok sc_draw (fun vs H Q E h => ?_) fun cdv A outer s H vs Q E hr h => ?_
  · obtain ⟨p, c, many, rfl, _⟩ := h
    rfl
  · obtain ⟨p, c, many, rfl, hs, m1, m2, k⟩ := h
    have hu1 := hu1 hr; have nd := sc_draw.nd
    obtain ⟨hpc, cells, at0, left, mixed, seed, hc, hp, hcl, ha0, ha1, hl0, hlc, hcc, hm0, hm1, hs0, hs1⟩ := hs
    have part2 : ∃ t2, PSs (cxOf CX0 P w K mg base ["source", "many", "cell", "drawn", "turn", "first", "second"] "_law_draw" (defScope s_draw) f cdv A outer s H E).nox ((defBody s_draw).drop 1) t2 ∧
        ∀ (v : Option V) (H1 : Hp) (a l m sd : Int), H1 c = some (.lst (cells.map V.int)) → H1 p = some (.dK (srcD c a l m sd)) → 0 ≤ a → a ≤ cells.length → 0 ≤ l → Cell l → 0 ≤ m → m ≤ 24 → 0 ≤ sd → sd < 10 ^ 18 → (l = 0 → 1 ≤ m) → (∀ b, b ≠ p → H1 b = H b) →
          t2 { nx := fun _ H' => Q .non H', rt := Q } [some (.ref p), some (.int many), v, none, none, none, none] H1 := by
      refine ⟨_, pss_cons (ps_if (pt_cmpR op_gt (pe_dget hu1 (pv 0) pe_str fun _ _ => rfl) pe_int (nomark _)) (pss_cons (ps_set (i := 3) nd rfl (.inl rfl) (pe_op op_mod (pe_callTy call_int1 (by rfl) T.int boot_int (pa_cons (pe_dget hu1 (pv 0) pe_str fun _ _ => rfl) pa_nil)) (pv 1))) (pss_cons (ps_dput hu1 (pv 0) pe_str (pe_op op_fdivW (pe_callTy call_int1 (by rfl) T.int boot_int (pa_cons (pe_dget hu1 (pv 0) pe_str fun _ _ => rfl) pa_nil)) (pv 1)) rfl) (pss_one (ps_ret (pv 3))))) pss_nil)
   (pss_cons (ps_set (i := 4) nd rfl (.inl rfl) (pe_dget hu1 (pv 0) pe_str fun _ _ => rfl))
   (pss_cons (ps_dput hu1 (pv 0) pe_str (pe_op op_sub (pv 4) pe_int) rfl)
   (pss_cons (ps_set (i := 5) nd rfl (.inl rfl) (pe_op op_mod (pe_callTy call_int1 (by rfl) T.int boot_int (pa_cons (pe_op op_add (pe_op op_add (pe_op op_mul (pe_dget hu1 (pv 0) pe_str fun _ _ => rfl) pe_int) (pe_op op_mul (pv 4) pe_int)) (pe_op op_mul (pe_dget hu1 (pv 0) pe_str fun _ _ => rfl) pe_int)) pa_nil)) pe_int))
   (pss_cons (ps_set (i := 6) nd rfl (.inl rfl) (pe_op op_mod (pe_callTy call_int1 (by rfl) T.int boot_int (pa_cons (pe_op op_add (pe_op op_add (pe_op op_mul (pv 5) (pv 5)) (pe_op op_mul (pv 5) pe_int)) (pe_op op_mul (pv 4) pe_int)) pa_nil)) pe_int))
   (pss_one (ps_ret (pe_op op_mod (pe_callTy call_int1 (by rfl) T.int boot_int (pa_cons (pv 6) pa_nil)) (pv 1)))))))), fun v H1 a l m sd hc hp ha0 ha1 hl0 hlc hm0 hm1 hs0 hs1 hlm hk => ?_⟩
      refine ⟨_, rfl, p, _, rfl, sg_left hp, _, _, rfl, rfl, _, rfl, ?_⟩
      refine ite_by (fun h => ?_) (fun h => ?_)
      · have hl : 0 < l := by simpa using h
        refine ⟨_, rfl, p, _, rfl, sg_left hp, .inl ⟨_, rfl, _, rfl, _, _, rfl, rfl, m1, ?_⟩⟩
        refine ⟨_, rfl, p, _, rfl, sg_left hp, .inl ⟨_, rfl, _, rfl, _, _, rfl, rfl, divW m1 m2, ?_⟩⟩
        refine ⟨_, rfl, p, _, rfl, sd_left hp _, _, rfl, ?_⟩
        refine k _ _ (Int.emod_nonneg _ (by omega)) (Int.emod_lt_of_pos _ m1) ⟨hpc, cells, a, l / many, m, sd, ?_, upd_same, hcl, ha0, ha1, Int.ediv_nonneg hl0 (by omega), cell_div hlc hl0 m1, hcc, hm0, hm1, hs0, hs1⟩ fun b hb => ?_
        · rw [upd_ne (Ne.symm hpc)]; exact hc
        · rw [upd_ne hb]; exact hk b hb
      · have hl : l = 0 := by
          have : ¬ 0 < l := by simpa using h
          omega
        subst hl
        have hm := hlm rfl
        refine ⟨_, rfl, p, _, rfl, sg_mixed hp, ?_⟩
        refine ⟨_, rfl, _, _, rfl, rfl, _, rfl, p, _, rfl, sd_mixed hp _, ?_⟩
        have hp2 : (upd H1 p (.dK (srcD c a 0 (m - 1) sd))) p = some (.dK (srcD c a 0 (m - 1) sd)) := upd_same
        refine ⟨_, rfl, p, _, rfl, sg_seed hp2, _, _, rfl, rfl, .inr ⟨by decide, by decide⟩, _, rfl, _, _, rfl, rfl, .inr ⟨by decide, by decide⟩, _, _, rfl, rfl, _, rfl, p, _, rfl, sg_at hp2, _, _, rfl, rfl, .inr ⟨by decide, by decide⟩, _, _, rfl, rfl, .inl ⟨_, rfl, _, _, rfl, rfl, (by show (0 : Int) < 2147483647; decide), ?_⟩⟩
        have f0 : 0 ≤ (sd * 48271 + m * 69621 + a * 16807) % 2147483647 := Int.emod_nonneg _ (by decide)
        have f1 : (sd * 48271 + m * 69621 + a * 16807) % 2147483647 < 2147483647 := Int.emod_lt_of_pos _ (by decide)
        generalize (sd * 48271 + m * 69621 + a * 16807) % 2147483647 = f at f0 f1 ⊢
        refine ⟨_, rfl, _, rfl, _, _, rfl, rfl, .inl ⟨by omega, by omega⟩, _, rfl, _, _, rfl, rfl, .inr ⟨by decide, by decide⟩, _, _, rfl, rfl, _, rfl, _, _, rfl, rfl, .inr ⟨by decide, by decide⟩, _, _, rfl, rfl, .inl ⟨_, rfl, _, _, rfl, rfl, (by show (0 : Int) < 2147483399; decide), ?_⟩⟩
        refine ⟨_, rfl, .inl ⟨_, rfl, _, rfl, _, _, rfl, rfl, m1, ?_⟩⟩
        refine k _ _ (Int.emod_nonneg _ (by omega)) (Int.emod_lt_of_pos _ m1) ⟨hpc, cells, a, 0, m - 1, sd, ?_, upd_same, hcl, ha0, ha1, by omega, hlc, hcc, by omega, by omega, hs0, hs1⟩ fun b hb => ?_
        · rw [upd_ne (Ne.symm hpc)]; exact hc
        · rw [upd_ne hb]; exact hk b hb
    obtain ⟨t2, h2, q2⟩ := part2
    refine ⟨_, pss_cons (ps_if (PW.pt (pw_and (pt_cmpR op_eq (pe_dget hu1 (pv 0) pe_str fun _ _ => rfl) pe_int (nomark _)) (pw_and1 (pt_cmpR op_eq (pe_dget hu1 (pv 0) pe_str fun _ _ => rfl) pe_int (nomark _)))))
   (pss_cons (ps_if (pt_cmpR op_ge (pe_dget hu1 (pv 0) pe_str fun _ _ => rfl) (pe_callB call_len_seq (by rfl) T.len boot_len (pa_cons (pe_dget hu1 (pv 0) pe_str fun _ _ => rfl) pa_nil)) (nomark _)) (pss_one (ps_ret pe_int)) pss_nil)
   (pss_cons (ps_set (i := 2) nd rfl (.inl rfl) (pe_ix ix_list (pe_dget hu1 (pv 0) pe_str fun _ _ => rfl) (pe_dget hu1 (pv 0) pe_str fun _ _ => rfl) fun _ _ => rfl))
   (pss_cons (ps_dput hu1 (pv 0) pe_str (pe_op op_add (pe_dget hu1 (pv 0) pe_str fun _ _ => rfl) pe_int) rfl)
   (pss_cons (ps_if (pt_cmpR op_lt (pv 2) pe_int (nomark _)) (pss_one (ps_set (i := 2) nd rfl (.inl rfl) (pe_op op_sub (pe_un un_neg (pv 2)) pe_int))) pss_nil)
   (pss_one (ps_if (pt_cmpR op_ge (pv 2) (pe_op op_pow pe_int pe_int) (nomark _)) (pss_one (ps_dput hu1 (pv 0) pe_str (pv 2) rfl)) (pss_cons (ps_dput hu1 (pv 0) pe_str (pv 2) rfl) (pss_one (ps_dput hu1 (pv 0) pe_str pe_int rfl)))))))))
   pss_nil) h2, ?_⟩
    have keep : ∀ b, b ≠ p → H b = H b := fun _ _ => rfl
    refine ⟨_, rfl, p, _, rfl, sg_left hp, rfl, _, rfl, ?_⟩
    refine ite_by (fun hl => ?_) (fun hl => ?_)
    · have hl : left = 0 := by simpa using hl
      subst hl
      refine ⟨_, rfl, p, _, rfl, sg_mixed hp, rfl, _, rfl, ?_⟩
      refine ite_by (fun hm => ?_) (fun hm => ?_)
      · have hm : mixed = 0 := by simpa using hm
        subst hm
        refine ⟨_, rfl, p, _, rfl, sg_at hp, _, rfl, p, _, rfl, sg_cells hp, c, _, rfl, .inl (SqL.of hc), _, _, rfl, rfl, _, rfl, ?_⟩
        refine ite_by (fun ha => ?_) (fun ha => ?_)
        · exact k 0 H (Int.le_refl 0) m1 ⟨hpc, cells, at0, 0, 0, seed, hc, hp, hcl, ha0, ha1, hl0, hlc, hcc, hm0, hm1, hs0, hs1⟩ keep
        · have ha : at0 < cells.length := by
            have : ¬ ((cells.map V.int).length : Int) ≤ at0 := by simpa using ha
            rw [List.length_map] at this
            omega
          obtain ⟨j, rfl⟩ := Int.eq_ofNat_of_zero_le ha0
          have hj : j < cells.length := by omega
          have hcj : (cells.map V.int)[j]? = some (.int cells[j]) := by simp [hj]
          have hce : Cell cells[j] := hcc _ (List.getElem_mem hj)
          have hat : atI (cells.map V.int) ((j : Nat) : Int) = some (.int cells[j]) := by
            rw [atI_nat (by simpa using hj)]
            simp
          refine ⟨_, rfl, p, _, rfl, sg_cells hp, _, rfl, p, _, rfl, sg_at hp, c, _, _, _, rfl, rfl, SqL.of hc, hat, ?_⟩
          refine ⟨_, rfl, p, _, rfl, sg_at hp, _, _, rfl, rfl, _, rfl, p, _, rfl, sd_at hp _, ?_⟩
          generalize cells[j] = cell at hce
          have hp2 : (upd H p (.dK (srcD c ((j : Int) + 1) 0 0 seed))) p = some (.dK (srcD c ((j : Int) + 1) 0 0 seed)) := upd_same
          have hc2 : (upd H p (.dK (srcD c ((j : Int) + 1) 0 0 seed))) c = some (.lst (cells.map V.int)) := by rw [upd_ne (Ne.symm hpc)]; exact hc
          have hl0c : Cell 0 := hlc
          refine ⟨_, rfl, _, _, rfl, rfl, _, rfl, ?_⟩
          refine ite_by (fun hneg => ?_) (fun hneg => ?_)
          · have hneg : cell < 0 := by simpa using hneg
            refine ⟨_, rfl, _, rfl, _, _, rfl, rfl, ?_⟩
            have c1 := cell_neg hce hneg
            have c0 : 0 ≤ -cell - 1 := by omega
            refine ⟨_, rfl, _, _, rfl, rfl, ⟨by decide, by decide, by decide⟩, _, _, rfl, rfl, _, rfl, ?_⟩
            refine ite_by (fun hb => ?_) (fun hb => ?_)
            · have hb : (10 : Int) ^ 18 ≤ -cell - 1 := by simpa using hb
              refine ⟨_, rfl, _, rfl, p, _, rfl, sd_left hp2 _, ?_⟩
              refine q2 (some (.int (-cell - 1))) _ ((j : Int) + 1) (-cell - 1) 0 seed ?_ upd_same (by omega) (by omega) c0 c1 (Int.le_refl 0) (by decide) hs0 hs1 (fun z => ?_) (fun b hb => ?_)
              · rw [upd_ne (Ne.symm hpc), upd_ne (Ne.symm hpc)]; exact hc
              · rw [z] at hb; exact absurd hb (by decide)
              · rw [upd_ne hb, upd_ne hb]
            · have hb : -cell - 1 < (10 : Int) ^ 18 := by simpa using hb
              refine ⟨_, rfl, _, rfl, p, _, rfl, sd_seed hp2 _, ?_⟩
              have hp3 : (upd (upd H p (.dK (srcD c ((j : Int) + 1) 0 0 seed))) p (.dK (srcD c ((j : Int) + 1) 0 0 (-cell - 1)))) p = some (.dK (srcD c ((j : Int) + 1) 0 0 (-cell - 1))) := upd_same
              refine ⟨_, rfl, p, _, rfl, sd_mixed hp3 _, ?_⟩
              refine q2 (some (.int (-cell - 1))) _ ((j : Int) + 1) 0 24 (-cell - 1) ?_ upd_same (by omega) (by omega) (Int.le_refl 0) hl0c (by decide) (by decide) c0 hb (fun _ => by decide) (fun b hb => ?_)
              · rw [upd_ne (Ne.symm hpc), upd_ne (Ne.symm hpc), upd_ne (Ne.symm hpc)]; exact hc
              · rw [upd_ne hb, upd_ne hb, upd_ne hb]
          · have c0 : 0 ≤ cell := by
              have : ¬ cell < 0 := by simpa using hneg
              omega
            have c1 := hce
            generalize cell = x at c1 c0 ⊢
            refine ⟨_, rfl, _, _, rfl, rfl, ⟨by decide, by decide, by decide⟩, _, _, rfl, rfl, _, rfl, ?_⟩
            refine ite_by (fun hb => ?_) (fun hb => ?_)
            · have hb : (10 : Int) ^ 18 ≤ x := by simpa using hb
              refine ⟨_, rfl, _, rfl, p, _, rfl, sd_left hp2 _, ?_⟩
              refine q2 (some (.int x)) _ ((j : Int) + 1) x 0 seed ?_ upd_same (by omega) (by omega) c0 c1 (Int.le_refl 0) (by decide) hs0 hs1 (fun z => ?_) (fun b hb => ?_)
              · rw [upd_ne (Ne.symm hpc), upd_ne (Ne.symm hpc)]; exact hc
              · rw [z] at hb; exact absurd hb (by decide)
              · rw [upd_ne hb, upd_ne hb]
            · have hb : x < (10 : Int) ^ 18 := by simpa using hb
              refine ⟨_, rfl, _, rfl, p, _, rfl, sd_seed hp2 _, ?_⟩
              have hp3 : (upd (upd H p (.dK (srcD c ((j : Int) + 1) 0 0 seed))) p (.dK (srcD c ((j : Int) + 1) 0 0 x))) p = some (.dK (srcD c ((j : Int) + 1) 0 0 x)) := upd_same
              refine ⟨_, rfl, p, _, rfl, sd_mixed hp3 _, ?_⟩
              refine q2 (some (.int x)) _ ((j : Int) + 1) 0 24 x ?_ upd_same (by omega) (by omega) (Int.le_refl 0) hl0c (by decide) (by decide) c0 hb (fun _ => by decide) (fun b hb => ?_)
              · rw [upd_ne (Ne.symm hpc), upd_ne (Ne.symm hpc), upd_ne (Ne.symm hpc)]; exact hc
              · rw [upd_ne hb, upd_ne hb, upd_ne hb]
      · have hm : mixed ≠ 0 := by simpa using hm
        exact q2 none H at0 0 mixed seed hc hp ha0 ha1 hl0 hlc hm0 hm1 hs0 hs1 (fun _ => by omega) keep
    · have hl : left ≠ 0 := by simpa using hl
      exact q2 none H at0 left mixed seed hc hp ha0 ha1 hl0 hlc hm0 hm1 hs0 hs1 (fun z => absurd z hl) keep
end
end K72

set_option Elab.async false
set_option linter.all false
set_option maxRecDepth 100000
set_option maxHeartbeats 4000000
namespace K72
open PySem L2 U
open PySem.Spec PyProof.Rows
section
variable {P : Program} {w : World} {K : PySem.W.Frag} {mg : Str → Option Value} {base : Heap}
variable {fdraw : Addr} {fddraw : FuncData}
abbrev GD (P : Program) (w : World) (K : PySem.W.Frag) (mg : Str → Option Value) (base : Heap) (f : Addr) (fd : FuncData) : Prop := FnOk P w K mg base CX0 1 f fd ["source", "many"] (spU K 2 sDraw)
abbrev DD (K : PySem.W.Frag) (mg : Str → Option Value) (f : Addr) (fd : FuncData) : Prop := Def K mg "_law_draw" f fd ["source", "many"]
/-- a draw's promise, handed on -/
theorem dr {many : Int} {Q : D → Prop} (h1 : 0 < many := by decide) (h2 : many < 2 ^ 1000 := by decide +kernel) (h : ∀ k : Nat, (k : Int) < many → Q (.int k)) : [D.src, .int many].length = 2 ∧ sDraw [.src, .int many] Q := ⟨rfl, many, rfl, h1, h2, h⟩
/-! ### names -/
/-- a text of which no sign is a 1, all signs in range -/
structure Lt (n : Nat) (x : Str) : Prop where
  ok : ∀ c ∈ x.cps.toList, c ≠ 49 ∧ c < 0x110000
  len : x.cps.size ≤ n
theorem Lt.str {n : Nat} {x : Str} (h : Lt n x) : PyData.strOk x = true := by
  unfold PyData.strOk
  rw [← Array.all_toList, List.all_eq_true]
  intro c hc
  simpa using (h.ok c hc).2
theorem cps_add (a b : Str) : (a ++ b).cps = a.cps ++ b.cps := rfl
theorem strOk_add {a b : Str} (h1 : PyData.strOk a = true) (h2 : PyData.strOk b = true) : PyData.strOk (a ++ b) = true := by
  unfold PyData.strOk at *
  rw [cps_add, Array.all_append, h1, h2]
  rfl
theorem abc_ok : (("abcdefghijklmnopqrstuvwxyz" : Str).cps.toList.length = 26) ∧ (("abcdefghijklmnopqrstuvwxyz" : Str).cps.toList.all fun c => decide (c ≠ 49) && decide (c < 0x110000)) = true := by decide +kernel
theorem abc_at {k : Nat} (h : k < 26) : ∃ c, atI ("abcdefghijklmnopqrstuvwxyz" : Str).cps.toList (k : Int) = some c ∧ c ≠ 49 ∧ c < 0x110000 := by
  obtain ⟨h1, h2⟩ := abc_ok
  have hk : k < ("abcdefghijklmnopqrstuvwxyz" : Str).cps.toList.length := by rw [h1]; exact h
  refine ⟨_, atI_nat hk, ?_⟩
  have := List.all_eq_true.mp h2 _ (List.getElem_mem hk)
  simpa using this
theorem Lt.add {n : Nat} {x : Str} {c : Nat} (h : Lt n x) (h1 : c ≠ 49 ∧ c < 0x110000) : Lt (n + 1) (x ++ ⟨#[c]⟩) := by
  refine ⟨fun d hd => ?_, ?_⟩
  · rw [cps_add, Array.toList_append, List.mem_append] at hd
    rcases hd with hd | hd
    · exact h.ok d hd
    · simp only [List.mem_singleton] at hd
      rw [hd]
      exact h1
  · rw [cps_add, Array.size_append]
    have := h.len
    simp
    exact this
theorem log_small {i : Int} (h : i.natAbs < 100) : i.natAbs.log2 < 1920 := by
  by_cases h0 : i.natAbs = 0
  · rw [h0]; decide
  · have := (Nat.log2_lt h0 (k := 7)).mpr (by omega)
    omega
def NJ : Nat → List Str → Prop
  | 0, ns => ns = []
  | 1, ns => ∃ n0, ns = [n0] ∧ PyData.strOk n0 = true ∧ n0.cps[1]? ≠ some 49
  | _, ns => ∃ n0 n1, ns = [n0, n1] ∧ NOk n0 n1
theorem kw_ok : (["count", "sum", "max", "min", "avg", "by", "from", "where"] : List Str).all PyData.strOk = true := by decide +kernel
abbrev s_names : Stmt := (top 20)
theorem sc_names : FnScope ["source", "many", "names", "k", "text", "j"] ["source", "many"] (defScope s_names) := ⟨rfl, rfl, rfl, by decide +kernel, rfl, by decide +kernel, by decide +kernel⟩
abbrev SNames : PSp := fun ds Q => ds = [.src, .int 2] ∧ ∀ n0 n1, NOk n0 n1 → Q (.lst [.str n0, .str n1])
theorem ok_names {f : Addr} {fd : FuncData} (F : L2.Fun K "_law_names" "_law_names" s_names f fd) (T : NB mg) (Ddraw : DD K mg fdraw fddraw) (Gdraw : GD P w K mg base fdraw fddraw) : FnOk P w K mg base CX0 2 f fd ["source", "many"] (spU K 2 SNames) := by
  refine okU F sc_names rfl fun cdv A outer s H E hr => ?_
  have hu64 := hu64 hr; have hu65 := hu65 hr; have hu1 := hu1 hr; have nd := sc_names.nd
  refine ⟨_, (uss_cons (us_ownE (i := 2) nd (ul_lst ua_nil))
  (uss_cons (us_for (vs := [3]) PassesOwn.never rfl (ui_range1 (by rfl) T.range (uv 1)) (ug nd 3)
   (uss_cons (us_setE (i := 4) nd u_str)
    (uss_cons (us_for (vs := [5]) PassesOwn.never rfl (ui_range1 (by rfl) T.range (u_op uadd u_int (u_callD Ddraw Gdraw hr (ua_cons (uv 0) (ua_cons u_int ua_nil))))) (ug nd 5)
     (uss_one (us_setE (i := 4) nd (u_op ucats (uv 4) (u_ix u_str (u_callD Ddraw Gdraw hr (ua_cons (uv 0) (ua_cons u_int ua_nil))) (fun _ _ => rfl))))))
    (uss_cons (us_if (UW.ut (uw_or (ut_inR hu65 (uv 4) (uo 2)) (uw_or1 (ut_inR hu65 (uv 4) (UL.ur (ul_lst (ua_cons u_str (ua_cons u_str (ua_cons u_str (ua_cons u_str (ua_cons u_str (ua_cons u_str (ua_cons u_str (ua_cons u_str ua_nil)))))))))))))) (uss_one (us_setE (i := 4) nd (u_op ucats (u_op ucats u_str (u_callTy ucl_str (by rfl) T.str boot_str (ua_cons (uv 3) ua_nil))) (uv 4)))) uss_nil)
    (uss_one (us_append (pe_bm PySem.F.plainAttrs_list PySem.F.slot_list_append PySem.F.type_list_append mt_append (pv' 2) (pa_cons (UE.run (uv 4)) pa_nil))))))))
  (uss_one (us_retO (pv' 2))))), ?_⟩
  rintro ds Q - ⟨rfl, q⟩
  refine ⟨szL (show 0 ≤ 1000 by decide), _, rfl, 2, rfl, by decide, by decide, ?_⟩
  refine for_range (n := 2) (fun (z : List Str × Slot × Slot × Slot) => [.va .src, .va (.int 2), .own (.lst (z.1.map D.str)), z.2.1, z.2.2.1, z.2.2.2]) (fun i z => NJ i z.1) ([], .no, .no, .no) rfl rfl (fun i I z hi hj hI => ?_) (fun z hz => ?_)
  · obtain ⟨ns, x3, x4, x5⟩ := z
    have hj : NJ i ns := hj
    have hns : ns.length ≤ 2 ∧ ∀ x ∈ ns, PyData.strOk x = true := by
      match i, hi, hj with
      | 0, _, hj =>
        have : ns = [] := hj
        subst this
        exact ⟨by decide, by simp⟩
      | 1, _, hj =>
        obtain ⟨n0, rfl, h1, _⟩ := hj
        exact ⟨by simp, by simpa using h1⟩
    refine ⟨_, rfl, dr (h := fun k1 hk1 => ?_)⟩
    refine ⟨_, _, rfl, rfl, trivial, _, rfl, by omega, by omega, ?_⟩
    refine for_range (fun (z : Str × Slot) => [.va .src, .va (.int 2), .own (.lst (ns.map D.str)), .va (.int i), .va (.str z.1), z.2]) (fun j z => Lt j z.1) ((("" : Str)), x5) rfl (show Lt 0 ("" : Str) from ⟨by decide +kernel, by decide +kernel⟩) (fun j I2 z hj2 hjj hI2 => ?_) (fun z hz => ?_)
    · obtain ⟨t, x5⟩ := z
      have hjj : Lt j t := hjj
      refine ⟨_, rfl, _, rfl, dr (h := fun k2 hk2 => ?_)⟩
      obtain ⟨c, hc, hc'⟩ := abc_at (k := k2) (by omega)
      refine ⟨_, rfl, .inr ⟨_, c, rfl, by decide +kernel, hc, t, _, rfl, rfl, ?_, ?_⟩⟩
      · have := hjj.len
        exact szL (by show t.cps.size + 1 ≤ 1000; omega)
      · exact hI2 (t ++ ⟨#[c]⟩, .va (.int j)) (hjj.add hc')
    · obtain ⟨t, x5⟩ := z
      have hz : Lt _ t := hz
      have hts := hz.str
      have htl : t.cps.size ≤ 6 := Nat.le_trans hz.len (by omega)
      have fin : ∀ t' : Str, PyData.strOk t' = true → (i = 0 → t'.cps[1]? ≠ some 49) → (i = 1 → ∀ n0, ns = [n0] → n0.cps[1]? ≠ some 49 → n0 ≠ t') → I (i + 1) [.va .src, .va (.int 2), .own (.lst (ns.map D.str ++ [.str t'])), .va (.int i), .va (.str t'), x5] := fun t' h1 h2 h3 => by
        have := hI (ns ++ [t'], .va (.int i), .va (.str t'), x5) (by
          match i, hi, hj, h2, h3 with
          | 0, _, hj, h2, h3 =>
            have : ns = [] := hj
            subst this
            exact ⟨t', rfl, h1, h2 rfl⟩
          | 1, _, hj, h2, h3 =>
            obtain ⟨n0, rfl, g1, g2⟩ := hj
            exact ⟨n0, t', rfl, h3 rfl n0 rfl g2, g1, h1⟩)
        simpa using this
      have h49 : t.cps[1]? ≠ some 49 := fun z => by
        have := List.mem_of_getElem? (show t.cps.toList[1]? = some 49 by simpa using z)
        exact (hz.ok _ this).1 rfl
      have ck : (("q" : Str) ++ (toString (0 : Int) : Str)).cps = #[113, 48] ∧ (("q" : Str) ++ (toString (1 : Int) : Str)).cps = #[113, 49] := by decide +kernel
      have hcase : PyData.strOk (("q" : Str) ++ (toString ((i : Nat) : Int) : Str)) = true ∧ (("q" : Str) ++ (toString ((i : Nat) : Int) : Str)).cps = #[113, 48 + i] := by
        have hi2 : i = 0 ∨ i = 1 := by omega
        rcases hi2 with rfl | rfl
        · exact ⟨by decide +kernel, ck.1⟩
        · exact ⟨by decide +kernel, ck.2⟩
      have yes : ∀ (P' : PEnds), P'.nx = I (i + 1) → True := fun _ _ => trivial
      have qk : (((("q" : Str) ++ (toString ((i : Nat) : Int) : Str)) ++ t).cps[1]?) = some (48 + i) := by
        rw [cps_add, hcase.2, Array.getElem?_append_left (by simp)]
        rfl
      refine ⟨_, rfl, _, rfl, pl_str _ _ hts, plains_iff.mpr (pl_map _ fun x hx => pl_str _ _ (hns.2 x hx)), ?_⟩
      refine ite_by (fun hb => ?_) (fun hb => ?_)
      · refine ite_by (b := true) (fun _ => ?_) (fun h => absurd h (by decide))
        refine ⟨_, rfl, _, rfl, log_small (by omega), _, _, rfl, rfl, ?_, _, rfl, _, _, rfl, rfl, ?_, ?_⟩
        · exact szL (by show ("q" : Str).cps.size + (toString ((i : Nat) : Int) : Str).cps.size ≤ 1000; rw [← Array.size_append, ← cps_add, hcase.2]; exact (by decide : 2 ≤ 1000))
        · exact szL (by show (("q" : Str) ++ (toString ((i : Nat) : Int) : Str)).cps.size + t.cps.size ≤ 1000; rw [hcase.2]; simp; omega)
        · refine ⟨_, rfl, _, rfl, szT (by rw [List.length_map]; omega), ?_⟩
          refine fin _ (strOk_add hcase.1 hts) (fun h0 => ?_) (fun h1 n0 _ hn0 e => ?_)
          · rw [qk, h0]; decide
          · rw [e, qk, h1] at hn0; exact hn0 rfl
      · refine ⟨_, rfl, szL (show 8 ≤ 1000 by decide), pl_str _ _ hts, ?_, ?_⟩
        · have hk := List.all_eq_true.mp kw_ok
          exact plains_iff.mpr (pl_map (["count", "sum", "max", "min", "avg", "by", "from", "where"] : List Str) fun x hx => pl_str _ _ (hk x hx))
        refine ite_by (fun hb2 => ?_) (fun hb2 => ?_)
        · refine ⟨_, rfl, _, rfl, log_small (by omega), _, _, rfl, rfl, ?_, _, rfl, _, _, rfl, rfl, ?_, ?_⟩
          · exact szL (by show ("q" : Str).cps.size + (toString ((i : Nat) : Int) : Str).cps.size ≤ 1000; rw [← Array.size_append, ← cps_add, hcase.2]; exact (by decide : 2 ≤ 1000))
          · exact szL (by show (("q" : Str) ++ (toString ((i : Nat) : Int) : Str)).cps.size + t.cps.size ≤ 1000; rw [hcase.2]; simp; omega)
          · refine ⟨_, rfl, _, rfl, szT (by rw [List.length_map]; omega), ?_⟩
            refine fin _ (strOk_add hcase.1 hts) (fun h0 => ?_) (fun h1 n0 _ hn0 e => ?_)
            · rw [qk, h0]; decide
            · rw [e, qk, h1] at hn0; exact hn0 rfl
        · refine ⟨_, rfl, _, rfl, szT (by rw [List.length_map]; omega), ?_⟩
          refine fin t hts (fun _ => h49) (fun _ n0 hn0 _ e => ?_)
          subst hn0
          have : inD (D.str t) [D.str n0] = true := (inD_iff (std_str _) (by simp [stds, std])).mpr (by rw [e]; simp)
          rw [show (List.map D.str [n0]) = [D.str n0] from rfl] at hb
          rw [this] at hb
          cases hb
  · obtain ⟨ns, x3, x4, x5⟩ := z
    obtain ⟨n0, n1, rfl, N⟩ := (show ∃ n0 n1, ns = [n0, n1] ∧ NOk n0 n1 from hz)
    exact ⟨_, rfl, q n0 n1 N⟩
end
end K72

set_option Elab.async false
set_option linter.all false
set_option maxRecDepth 100000
set_option maxHeartbeats 4000000
namespace K72
open PySem L2 U
open PySem.Spec PyProof.Rows
section
variable {P : Program} {w : World} {K : PySem.W.Frag} {mg : Str → Option Value} {base : Heap}
variable {fdraw : Addr} {fddraw : FuncData}
variable {fdraw : Addr} {fddraw : FuncData}
abbrev s_pool : Stmt := (top 21)
theorem sc_pool : FnScope ["source", "many", "pool", "base", "k"] ["source", "many"] (defScope s_pool) := ⟨rfl, rfl, rfl, by decide +kernel, rfl, by decide +kernel, by decide +kernel⟩
abbrev SPool : PSp := fun ds Q => ds = [.src, .int 2] ∧ ∀ ps : List Int, ps.Pairwise (· < ·) → ps.length ≤ 2 → Q (.lst (ps.map D.int))
theorem ok_pool {f : Addr} {fd : FuncData} (F : L2.Fun K "_law_pool" "_law_pool" s_pool f fd) (T : NB mg) (Ddraw : DD K mg fdraw fddraw) (Gdraw : GD P w K mg base fdraw fddraw) : FnOk P w K mg base CX0 2 f fd ["source", "many"] (spU K 2 SPool) := by
  refine okU F sc_pool rfl fun cdv A outer s H E hr => ?_
  have hu64 := hu64 hr; have hu65 := hu65 hr; have hu1 := hu1 hr; have nd := sc_pool.nd
  refine ⟨_, (uss_cons (us_ownE (i := 2) nd (ul_lst ua_nil))
  (uss_cons (us_setE (i := 3) nd (u_op usub (u_callD Ddraw Gdraw hr (ua_cons (uv 0) (ua_cons u_int ua_nil))) u_int))
  (uss_cons (us_if (ut_cmp (ueq hu64) (u_callD Ddraw Gdraw hr (ua_cons (uv 0) (ua_cons u_int ua_nil))) u_int (nomark _)) (uss_one (us_setE (i := 3) nd (u_op usub (u_callD Ddraw Gdraw hr (ua_cons (uv 0) (ua_cons (u_op uadd (u_op umul u_int (u_op upow u_int u_int)) u_int) ua_nil))) (u_op upow u_int u_int)))) uss_nil)
  (uss_cons (us_for (vs := [4]) PassesOwn.never rfl (ui_range1 (by rfl) T.range (u_callD Ddraw Gdraw hr (ua_cons (uv 0) (ua_cons (u_op uadd (uv 1) u_int) ua_nil)))) (ug nd 4)
   (uss_cons (us_append (pe_bm PySem.F.plainAttrs_list PySem.F.slot_list_append PySem.F.type_list_append mt_append (pv' 2) (pa_cons (UE.run (uv 3)) pa_nil)))
    (uss_one (us_setE (i := 3) nd (u_op uadd (u_op uadd (uv 3) u_int) (u_callD Ddraw Gdraw hr (ua_cons (uv 0) (ua_cons u_int ua_nil))))))))
  (uss_one (us_retO (pv' 2))))))), ?_⟩
  rintro ds Q - ⟨rfl, q⟩
  refine ⟨szL (show 0 ≤ 1000 by decide), _, rfl, dr (many := 5) (h := fun k0 hk0 => ?_)⟩
  refine ⟨_, _, rfl, rfl, trivial, _, rfl, dr (many := 8) (h := fun k1 hk1 => ?_)⟩
  refine ⟨pl_int _ _, pl_int _ _, _, rfl, ?_⟩
  refine ite_by (fun hb => ?_) (fun hb => ?_)
  · refine ⟨_, rfl, _, _, rfl, rfl, ⟨by decide, by decide, by decide⟩, _, _, rfl, rfl, .inl ⟨by decide, by decide⟩, _, _, rfl, rfl, trivial, dr (many := 20000000000000000001) (h := fun k2 hk2 => ?_)⟩
    refine ⟨_, _, rfl, rfl, ⟨by decide, by decide, by decide⟩, _, _, rfl, rfl, trivial, ?_⟩
    refine ⟨_, rfl, _, rfl, _, _, rfl, rfl, trivial, dr (many := 3) (h := fun k hk => ?_)⟩
    refine ⟨_, rfl, by omega, by omega, ?_⟩
    refine for_range (fun (z : List Int × Int × Slot) => [.va .src, .va (.int 2), .own (.lst (z.1.map D.int)), .va (.int z.2.1), z.2.2]) (fun i z => z.1.Pairwise (· < ·) ∧ (∀ x ∈ z.1, x < z.2.1) ∧ z.1.length = i) ([], _, .no) rfl ⟨.nil, by simp, rfl⟩ (fun i I z hi hj hI => ?_) (fun z hz => ?_)
    · obtain ⟨ps, b, x4⟩ := z
      obtain ⟨h1, h2, h3⟩ := hj
      simp only at h1 h2 h3
      refine ⟨_, rfl, _, rfl, szT (show (ps.map D.int).length ≤ 1000000 by rw [List.length_map]; omega), ?_⟩
      refine ⟨_, rfl, _, _, rfl, rfl, trivial, _, rfl, dr (many := 3) (h := fun k2 hk2 => ?_)⟩
      refine ⟨_, _, rfl, rfl, trivial, ?_⟩
      have := hI (ps ++ [b], b + 1 + k2, .va (.int i)) ⟨?_, ?_, ?_⟩
      · simpa using this
      · rw [List.pairwise_append]
        exact ⟨h1, by simp, fun x hx y hy => by simp only [List.mem_singleton] at hy; rw [hy]; exact h2 x hx⟩
      · intro x hx
        simp only [List.mem_append, List.mem_singleton] at hx
        show x < b + 1 + (k2 : Int)
        rcases hx with hx | hx
        · have := h2 x hx; omega
        · omega
      · simp [h3]
    · obtain ⟨ps, b, x4⟩ := z
      obtain ⟨h1, h2, h3⟩ := hz
      simp only at h1 h2 h3
      exact ⟨_, rfl, q ps h1 (by omega)⟩
  · 
    refine ⟨_, rfl, _, rfl, _, _, rfl, rfl, trivial, dr (many := 3) (h := fun k hk => ?_)⟩
    refine ⟨_, rfl, by omega, by omega, ?_⟩
    refine for_range (fun (z : List Int × Int × Slot) => [.va .src, .va (.int 2), .own (.lst (z.1.map D.int)), .va (.int z.2.1), z.2.2]) (fun i z => z.1.Pairwise (· < ·) ∧ (∀ x ∈ z.1, x < z.2.1) ∧ z.1.length = i) ([], _, .no) rfl ⟨.nil, by simp, rfl⟩ (fun i I z hi hj hI => ?_) (fun z hz => ?_)
    · obtain ⟨ps, b, x4⟩ := z
      obtain ⟨h1, h2, h3⟩ := hj
      simp only at h1 h2 h3
      refine ⟨_, rfl, _, rfl, szT (show (ps.map D.int).length ≤ 1000000 by rw [List.length_map]; omega), ?_⟩
      refine ⟨_, rfl, _, _, rfl, rfl, trivial, _, rfl, dr (many := 3) (h := fun k2 hk2 => ?_)⟩
      refine ⟨_, _, rfl, rfl, trivial, ?_⟩
      have := hI (ps ++ [b], b + 1 + k2, .va (.int i)) ⟨?_, ?_, ?_⟩
      · simpa using this
      · rw [List.pairwise_append]
        exact ⟨h1, by simp, fun x hx y hy => by simp only [List.mem_singleton] at hy; rw [hy]; exact h2 x hx⟩
      · intro x hx
        simp only [List.mem_append, List.mem_singleton] at hx
        show x < b + 1 + (k2 : Int)
        rcases hx with hx | hx
        · have := h2 x hx; omega
        · omega
      · simp [h3]
    · obtain ⟨ps, b, x4⟩ := z
      obtain ⟨h1, h2, h3⟩ := hz
      simp only at h1 h2 h3
      exact ⟨_, rfl, q ps h1 (by omega)⟩
abbrev s_seen : Stmt := (top 22)
theorem sc_seen : FnScope ["case"] ["case"] (defScope s_seen) := ⟨rfl, rfl, rfl, by decide +kernel, rfl, by decide +kernel, by decide +kernel⟩
theorem ok_seen {f C : Addr} {fd : FuncData} (F : L2.Fun K "_law_seen" "_law_seen" s_seen f fd) (T : CaseC K mg C) : FnOk P w K mg base CX0 1 f fd ["case"] (spU K 1 fun ds Q => ∃ fs p a g k, ds = [.obj C fs] ∧ fs.lookup ("points" : Str) = some p ∧ fs.lookup ("atoms" : Str) = some a ∧ fs.lookup ("groups" : Str) = some g ∧ fs.lookup ("pick" : Str) = some k ∧ Q (.tup [p, a, g, k])) := by
  refine okU F sc_seen rfl fun cdv A outer s H E hr => ?_
  have hu64 := hu64 hr; have hu65 := hu65 hr; have hu1 := hu1 hr; have nd := sc_seen.nd
  refine ⟨_, (uss_one (us_ret (u_tup (ua_cons (u_fld T.cl T.n_points (uv 0)) (ua_cons (u_fld T.cl T.n_atoms (uv 0)) (ua_cons (u_fld T.cl T.n_groups (uv 0)) (ua_cons (u_fld T.cl T.n_pick (uv 0)) ua_nil))))))), ?_⟩
  rintro ds Q - ⟨fs, p, a, g, k, rfl, h1, h2, h3, h4, q⟩
  exact ⟨_, rfl, fs, p, rfl, h1, _, rfl, fs, a, rfl, h2, _, rfl, fs, g, rfl, h3, _, rfl, fs, k, rfl, h4, szL (show 4 ≤ 1000 by decide), q⟩
abbrev s_room : Stmt := (top 23)
theorem sc_room : FnScope ["points", "marks", "k"] ["points"] (defScope s_room) := ⟨rfl, rfl, rfl, by decide +kernel, rfl, by decide +kernel, by decide +kernel⟩
theorem oD_isN (o : Option Int) : (oD o).isN = some o.isNone := by cases o <;> rfl
def mkF (ps : List (Option Int)) (k : Nat) : Option Nat := if (ps.getD k none).isSome = true then some k else none
theorem mk_mem {ps : List (Option Int)} {m : Nat} (h : m ∈ (List.range ps.length).filterMap (mkF ps)) : ∃ x, ps[m]? = some (some x) := by
  obtain ⟨k, hk, e⟩ := List.mem_filterMap.mp h
  unfold mkF at e
  split at e
  · rename_i hs
    cases e
    rw [List.mem_range] at hk
    rw [List.getD_eq_getElem?_getD, List.getElem?_eq_getElem hk] at hs
    obtain ⟨x, hx⟩ := Option.isSome_iff_exists.mp hs
    exact ⟨x, by rw [List.getElem?_eq_getElem hk]; exact congrArg some hx⟩
  · cases e
abbrev SRoom : PSp := fun ds Q => ∃ ps : List (Option Int), ds = [.lst (ps.map oD)] ∧ ps.length ≤ 1000 ∧ ∀ b, ((∀ o ∈ ps, o = none) → b = true) → Q (.bl b)
theorem ok_room {f : Addr} {fd : FuncData} (F : L2.Fun K "_law_room" "_law_room" s_room f fd) (T : NB mg) : FnOk P w K mg base CX0 1 f fd ["points"] (spU K 1 SRoom) := by
  refine okU F sc_room rfl fun cdv A outer s H E hr => ?_
  have hu64 := hu64 hr; have hu65 := hu65 hr; have hu1 := hu1 hr; have nd := sc_room.nd
  refine ⟨_, (uss_cons (us_setL (us_lc (i := 1) (own := [("k", 2)]) rfl nd rfl rfl (sw_true rfl rfl rfl (by decide +kernel)) (ui_range1 (by rfl) T.range (u_callB ucl_len (by rfl) T.len boot_len (ua_cons (uv 0) ua_nil))) (blkOk_by (own := [("k", 2)]) (N := ["points", "marks", "k"]) (sc := defScope s_room) (by decide +kernel)) (fun _ _ _ _ _ => (ug nd 2)) (fun _ _ _ _ _ => (uts_one (ut_cmp unotN (u_ix (uv 0) (uv 2) (fun _ _ => rfl)) u_non (nomark _)))) (fun _ _ _ _ _ => (uv 2))))
  (uss_cons (us_for (vs := [2]) PassesOwn.never rfl (ui_range2 (pi_range2 (by rfl) T.range (UA.run (ua_cons u_int (ua_cons (u_callB ucl_len (by rfl) T.len boot_len (ua_cons (uv 1) ua_nil)) ua_nil))))) (ug nd 2)
   (uss_one (us_if (ut_cmp ult (u_op usub (u_ix (uv 0) (u_ix (uv 1) (uv 2) (fun _ _ => rfl)) (fun _ _ => rfl)) (u_ix (uv 0) (u_ix (uv 1) (u_op usub (uv 2) u_int) (fun _ _ => rfl)) (fun _ _ => rfl))) (u_op usub (u_ix (uv 1) (uv 2) (fun _ _ => rfl)) (u_ix (uv 1) (u_op usub (uv 2) u_int) (fun _ _ => rfl))) (nomark _)) (uss_one (us_ret u_bl)) uss_nil)))
  (uss_one (us_ret u_bl)))), ?_⟩
  rintro ds Q - ⟨ps, rfl, hl, q⟩
  refine ⟨_, rfl, _, .inr rfl, _, rfl, by simp, by simp; omega, ?_⟩
  rw [List.length_map, Int.toNat_natCast]
  refine lc_map nD (mkF ps) (szT (by rw [List.length_range]; omega)) (fun i k I acc hk hz hI => ⟨hz, ?_⟩) ?_
  · obtain ⟨h1, h2⟩ := List.getElem?_eq_some_iff.mp hk
    rw [List.getElem_range] at h2
    subst h2
    rw [List.length_range] at h1
    have hp : ps[i]? = some ps[i] := List.getElem?_eq_getElem h1
    have hg : ps.getD i none = ps[i] := by rw [List.getD_eq_getElem?_getD, hp]; rfl
    refine ⟨_, rfl, _, rfl, _, rfl, .inl ⟨_, _, .inr rfl, atI_map hp, rfl, _, oD_isN _, _, rfl, ?_⟩⟩
    unfold mkF at hI
    rw [hg] at hI
    cases e : ps[i] with
    | none =>
      rw [e] at hI
      exact iteF' (by simp) hI
    | some x =>
      rw [e] at hI
      exact iteT' (by simp) ⟨_, rfl, hI⟩
  · generalize hms : (List.range ps.length).filterMap (mkF ps) = ms
    have hm : ∀ m ∈ ms, ∃ x, ps[m]? = some (some x) := fun m h => mk_mem (by rw [hms]; exact h)
    have hml : ms.length ≤ 1000 := by
      have := List.length_filterMap_le (mkF ps) (List.range ps.length)
      rw [hms, List.length_range] at this
      omega
    refine ⟨_, rfl, _, .inr rfl, 1, _, rfl, by decide, by decide, by simp, by simp; omega, ?_⟩
    rw [List.length_map]
    refine for_range (fun (z : Slot) => [.va (.lst (ps.map oD)), .va (.lst (ms.map nD)), z]) (fun i z => True) .no rfl trivial (fun i I z hi _ hI => ?_) (fun z _ => ?_)
    · have hi' : i + 1 < ms.length := by omega
      have g1 : ms[i + 1]? = some ms[i + 1] := List.getElem?_eq_getElem hi'
      have g0 : ms[i]? = some ms[i] := List.getElem?_eq_getElem (by omega)
      obtain ⟨x1, e1⟩ := hm _ (List.getElem_mem hi')
      obtain ⟨x0, e0⟩ := hm _ (List.getElem_mem (show i < ms.length by omega))
      have a1 : atI (ms.map nD) (1 + (i : Int)) = some (nD ms[i + 1]) := by
        have := atI_map (f := nD) g1
        rw [show (1 + (i : Int)) = ((i + 1 : Nat) : Int) by omega]
        exact this
      have a0 : atI (ms.map nD) (1 + (i : Int) - 1) = some (nD ms[i]) := by
        have := atI_map (f := nD) g0
        rw [show (1 + (i : Int) - 1) = ((i : Nat) : Int) by omega]
        exact this
      refine ⟨_, rfl, _, rfl, _, rfl, _, rfl, .inl ⟨_, _, .inr rfl, a1, _, rfl, .inl ⟨_, _, .inr rfl, atI_map e1, ?_⟩⟩⟩
      refine ⟨_, rfl, _, rfl, _, rfl, _, _, rfl, rfl, trivial, _, rfl, .inl ⟨_, _, .inr rfl, a0, _, rfl, .inl ⟨_, _, .inr rfl, atI_map e0, _, _, rfl, rfl, trivial, ?_⟩⟩⟩
      refine ⟨_, rfl, _, rfl, _, rfl, .inl ⟨_, _, .inr rfl, a1, ?_⟩⟩
      refine ⟨_, rfl, _, rfl, _, _, rfl, rfl, trivial, _, rfl, .inl ⟨_, _, .inr rfl, a0, _, _, rfl, rfl, trivial, _, _, rfl, rfl, trivial, _, rfl, ?_⟩⟩
      refine ite_by (fun _ => ?_) (fun _ => ?_)
      · refine q false fun hn => ?_
        have := hn _ (List.mem_of_getElem? e1)
        cases this
      · exact hI _ trivial
    · exact q true fun _ => rfl
end
end K72

set_option Elab.async false
set_option linter.all false
set_option maxRecDepth 100000
set_option maxHeartbeats 4000000
namespace K72
open PySem L2 U
open PySem.Spec PyProof.Rows
section
variable {P : Program} {w : World} {K : PySem.W.Frag} {mg : Str → Option Value} {base : Heap}
variable {fdraw fatom froom fturned : Addr} {fddraw fdatom fdroom fdturned : FuncData}
abbrev s_atom : Stmt := (top 24)
theorem sc_atom : FnScope ["source", "names", "size", "place", "other"] ["source", "names", "size", "place"] (defScope s_atom) := ⟨rfl, rfl, rfl, by decide +kernel, rfl, by decide +kernel, by decide +kernel⟩
abbrev SAtom : PSp := fun ds Q => ∃ (n0 n1 : Str) (size place : Nat), ds = [.src, .lst [.str n0, .str n1], .int size, .int place] ∧ place < size ∧ size ≤ 1000 ∧ ∀ a : Atm, AtOk n0 n1 size a → place ∈ a.2 → Q (atD a)
abbrev psAtom : List Str := ["source", "names", "size", "place"]
theorem ok_atom {f : Addr} {fd : FuncData} (F : L2.Fun K "_law_atom" "_law_atom" s_atom f fd) (T : NB mg) (Ddraw : DD K mg fdraw fddraw) (Gdraw : GD P w K mg base fdraw fddraw) : FnOk P w K mg base CX0 2 f fd ["source", "names", "size", "place"] (spU K 4 SAtom) := by
  refine okU F sc_atom rfl fun cdv A outer s H E hr => ?_
  have hu64 := hu64 hr; have hu65 := hu65 hr; have hu1 := hu1 hr; have nd := sc_atom.nd
  refine ⟨_, (uss_cons (us_if (ut_cmp (ueq hu64) (u_callD Ddraw Gdraw hr (ua_cons (uv 0) (ua_cons u_int ua_nil))) u_int (nomark _)) (uss_one (us_ret (u_tup (ua_cons (u_ix (uv 1) u_int (fun _ _ => rfl)) (ua_cons (u_tup (ua_cons (uv 3) ua_nil)) ua_nil))))) uss_nil)
  (uss_cons (us_setE (i := 4) nd (u_callD Ddraw Gdraw hr (ua_cons (uv 0) (ua_cons (uv 2) ua_nil))))
  (uss_cons (us_if (ut_cmp (ueq hu64) (u_callD Ddraw Gdraw hr (ua_cons (uv 0) (ua_cons u_int ua_nil))) u_int (nomark _)) (uss_one (us_ret (u_tup (ua_cons (u_ix (uv 1) u_int (fun _ _ => rfl)) (ua_cons (u_tup (ua_cons (uv 3) (ua_cons (uv 4) ua_nil))) ua_nil))))) uss_nil)
  (uss_one (us_ret (u_tup (ua_cons (u_ix (uv 1) u_int (fun _ _ => rfl)) (ua_cons (u_tup (ua_cons (uv 4) (ua_cons (uv 3) ua_nil))) ua_nil)))))))), ?_⟩
  rintro ds Q - ⟨n0, n1, size, place, rfl, hp, hz, q⟩
  refine ⟨_, rfl, dr (many := 2) (h := fun k0 _ => ?_)⟩
  refine ⟨pl_int _ _, pl_int _ _, _, rfl, ?_⟩
  refine ite_by (fun _ => ?_) (fun _ => ?_)
  · refine ⟨_, rfl, 0, rfl, .inl ⟨_, _, .inr rfl, rfl, _, rfl, szL (show 1 ≤ 1000 by decide), szL (show 2 ≤ 1000 by decide), ?_⟩⟩
    exact q (n0, [place]) ⟨fun i hi => by simp only [List.mem_singleton] at hi; rw [hi]; exact hp, .inl ⟨rfl, _, rfl⟩⟩ (by simp)
  · refine ⟨_, rfl, _, rfl, dr (many := (size : Int)) (h1 := by omega) (h2 := Int.lt_of_le_of_lt (show (size : Int) ≤ 1000 by omega) (by decide +kernel)) (h := fun k1 h1 => ?_)⟩
    have hk1 : k1 < size := by omega
    refine ⟨_, rfl, dr (many := 2) (h := fun k2 _ => ?_)⟩
    refine ⟨pl_int _ _, pl_int _ _, _, rfl, ?_⟩
    refine ite_by (fun _ => ?_) (fun _ => ?_)
    · refine ⟨_, rfl, 1, rfl, .inl ⟨_, _, .inr rfl, rfl, _, rfl, _, rfl, szL (show 2 ≤ 1000 by decide), szL (show 2 ≤ 1000 by decide), ?_⟩⟩
      exact q (n1, [place, k1]) ⟨fun i hi => by simp only [List.mem_cons, List.not_mem_nil, or_false] at hi; rcases hi with rfl | rfl <;> assumption, .inr ⟨rfl, _, _, rfl⟩⟩ (by simp)
    · refine ⟨_, rfl, 1, rfl, .inl ⟨_, _, .inr rfl, rfl, _, rfl, _, rfl, szL (show 2 ≤ 1000 by decide), szL (show 2 ≤ 1000 by decide), ?_⟩⟩
      exact q (n1, [k1, place]) ⟨fun i hi => by simp only [List.mem_cons, List.not_mem_nil, or_false] at hi; rcases hi with rfl | rfl <;> assumption, .inr ⟨rfl, _, _, rfl⟩⟩ (by simp)
abbrev s_turned : Stmt := (top 26)
theorem sc_turned : FnScope ["names", "atom"] ["names", "atom"] (defScope s_turned) := ⟨rfl, rfl, rfl, by decide +kernel, rfl, by decide +kernel, by decide +kernel⟩
abbrev STurned : PSp := fun ds Q => ∃ (n0 n1 : Str) (len : Nat) (a : Atm), ds = [.lst [.str n0, .str n1], atD a] ∧ AtOk n0 n1 len a ∧ ∀ b : Atm, AtOk n0 n1 len b → (∀ k ∈ a.2, k ∈ b.2) → Q (atD b)
theorem ok_turned {f : Addr} {fd : FuncData} (F : L2.Fun K "_law_turned" "_law_turned" s_turned f fd) (T : NB mg) : FnOk P w K mg base CX0 1 f fd ["names", "atom"] (spU K 2 STurned) := by
  refine okU F sc_turned rfl fun cdv A outer s H E hr => ?_
  have hu64 := hu64 hr; have hu65 := hu65 hr; have hu1 := hu1 hr; have nd := sc_turned.nd
  refine ⟨_, (uss_cons (us_if (ut_cmp (ueq hu64) (u_callB ucl_len (by rfl) T.len boot_len (ua_cons (u_ix (uv 1) u_int (fun _ _ => rfl)) ua_nil)) u_int (nomark _)) (uss_one (us_ret (u_tup (ua_cons (u_ix (uv 0) u_int (fun _ _ => rfl)) (ua_cons (u_tup (ua_cons (u_ix (u_ix (uv 1) u_int (fun _ _ => rfl)) u_int (fun _ _ => rfl)) (ua_cons (u_ix (u_ix (uv 1) u_int (fun _ _ => rfl)) u_int (fun _ _ => rfl)) ua_nil))) ua_nil))))) uss_nil)
  (uss_one (us_ret (u_tup (ua_cons (u_ix (uv 0) u_int (fun _ _ => rfl)) (ua_cons (u_tup (ua_cons (u_ix (u_ix (uv 1) u_int (fun _ _ => rfl)) u_int (fun _ _ => rfl)) (ua_cons (u_ix (u_ix (uv 1) u_int (fun _ _ => rfl)) u_int (fun _ _ => rfl)) ua_nil))) ua_nil)))))), ?_⟩
  rintro ds Q - ⟨n0, n1, len, ⟨a1, a2⟩, rfl, hA, q⟩
  refine ⟨_, rfl, 1, rfl, .inl ⟨_, _, .inl rfl, rfl, _, .inl rfl, pl_int _ _, pl_int _ _, _, rfl, ?_⟩⟩
  rw [deq_int, List.length_map]
  rcases hA.ar with ⟨e, i, h⟩ | ⟨e, i, j, h⟩
  · simp only at e h
    subst h
    refine iteT' (by simp) ⟨_, rfl, 1, rfl, .inl ⟨_, _, .inr rfl, rfl, _, rfl, 1, rfl, .inl ⟨_, _, .inl rfl, rfl, _, rfl, .inl ⟨_, _, .inl rfl, rfl, _, rfl, 1, rfl, .inl ⟨_, _, .inl rfl, rfl, _, rfl, .inl ⟨_, _, .inl rfl, rfl, szL (show 2 ≤ 1000 by decide), szL (show 2 ≤ 1000 by decide), ?_⟩⟩⟩⟩⟩⟩
    have hi : i < len := hA.ix i (by simp)
    exact q (n1, [i, i]) ⟨fun k hk => by simp only [List.mem_cons, List.not_mem_nil, or_false, or_self] at hk; rw [hk]; exact hi, .inr ⟨rfl, _, _, rfl⟩⟩ (fun k hk => by simp only [List.mem_singleton] at hk; rw [hk]; simp)
  · simp only at e h
    subst h
    refine iteF' (by simp) ⟨_, rfl, 1, rfl, .inl ⟨_, _, .inr rfl, rfl, _, rfl, 1, rfl, .inl ⟨_, _, .inl rfl, rfl, _, rfl, .inl ⟨_, _, .inl rfl, rfl, _, rfl, 1, rfl, .inl ⟨_, _, .inl rfl, rfl, _, rfl, .inl ⟨_, _, .inl rfl, rfl, szL (show 2 ≤ 1000 by decide), szL (show 2 ≤ 1000 by decide), ?_⟩⟩⟩⟩⟩⟩
    have hi : i < len := hA.ix i (by simp)
    have hj : j < len := hA.ix j (by simp)
    exact q (n1, [j, i]) ⟨fun k hk => by simp only [List.mem_cons, List.not_mem_nil, or_false] at hk; rcases hk with rfl | rfl <;> assumption, .inr ⟨rfl, _, _, rfl⟩⟩ (fun k hk => by simp only [List.mem_cons, List.not_mem_nil, or_false] at hk; rcases hk with rfl | rfl <;> simp)
end
end K72

set_option Elab.async false
set_option linter.all false
set_option maxRecDepth 100000
set_option maxHeartbeats 4000000
namespace K72
open PySem L2 U
open PySem.Spec PyProof.Rows
section
variable {P : Program} {w : World} {K : PySem.W.Frag} {mg : Str → Option Value} {base : Heap}
variable {fdraw fatom froom fturned : Addr} {fddraw fdatom fdroom fdturned : FuncData}
abbrev GA (P : Program) (w : World) (K : PySem.W.Frag) (mg : Str → Option Value) (base : Heap) (f : Addr) (fd : FuncData) : Prop := FnOk P w K mg base CX0 2 f fd ["source", "names", "size", "place"] (spU K 4 SAtom)
/-- one more turn of the atoms that are being drawn -/
def AJ (n0 n1 : Str) (pts : List (Option Int)) (i : Nat) (bs : List Atm) : Prop := (∀ a ∈ bs, AtOk n0 n1 pts.length a) ∧ (∀ k < i, pts[k]? = some none → ∃ a ∈ bs, k ∈ a.2) ∧ bs.length ≤ ((pts.take i).filter Option.isNone).length
theorem AJ.snoc {n0 n1 : Str} {pts : List (Option Int)} {i : Nat} {bs : List Atm} {a : Atm} (h : AJ n0 n1 pts i bs) (hi : pts[i]? = some none) (ha : AtOk n0 n1 pts.length a) (hm : i ∈ a.2) : AJ n0 n1 pts (i + 1) (bs ++ [a]) := by
  obtain ⟨h1, h2, h3⟩ := h
  refine ⟨fun b hb => ?_, fun k hk hp => ?_, ?_⟩
  · rcases List.mem_append.mp hb with hb | hb
    · exact h1 b hb
    · rw [List.mem_singleton.mp hb]; exact ha
  · by_cases hki : k = i
    · exact ⟨a, by simp, by rw [hki]; exact hm⟩
    · obtain ⟨b, hb, hkb⟩ := h2 k (by omega) hp
      exact ⟨b, List.mem_append_left _ hb, hkb⟩
  · rw [take_snoc hi, List.filter_append, List.length_append, List.length_append]
    simp
    exact h3
theorem AJ.skip {n0 n1 : Str} {pts : List (Option Int)} {i : Nat} {bs : List Atm} {x : Int} (h : AJ n0 n1 pts i bs) (hi : pts[i]? = some (some x)) : AJ n0 n1 pts (i + 1) bs := by
  obtain ⟨h1, h2, h3⟩ := h
  refine ⟨h1, fun k hk hp => ?_, ?_⟩
  · have : k ≠ i := fun z => by rw [z, hi] at hp; cases hp
    exact h2 k (by omega) hp
  · rw [take_snoc hi, List.filter_append, List.length_append]
    omega
abbrev s_drawn : Stmt := (top 25)
theorem sc_drawn : FnScope ["source", "names", "pool", "width", "points", "k", "at", "wider", "atoms", "heads"] ["source", "names", "pool", "width"] (defScope s_drawn) := ⟨rfl, rfl, rfl, by decide +kernel, rfl, by decide +kernel, by decide +kernel⟩
abbrev SDrawn : PSp := fun ds Q => ∃ (n0 n1 : Str) (pool : List Int) (width : Nat), ds = [.src, .lst [.str n0, .str n1], .lst (pool.map D.int), .int width] ∧ NOk n0 n1 ∧ pool.length ≤ 2 ∧ width ≤ 2 ∧ ∀ c : PC, POk n0 n1 pool width c → c.pts.length ≤ 5 → c.ats.length ≤ 4 → Q c.d
theorem room_call {ps : List (Option Int)} {Q : D → Prop} (hl : ps.length ≤ 1000) (h : ∀ b, ((∀ o ∈ ps, o = none) → b = true) → Q (.bl b)) : [D.lst (ps.map oD)].length = 1 ∧ SRoom [.lst (ps.map oD)] Q := ⟨rfl, ps, rfl, hl, h⟩
theorem atom_call {n0 n1 : Str} {size place : Nat} {Q : D → Prop} (h1 : place < size) (h2 : size ≤ 1000) (h : ∀ a : Atm, AtOk n0 n1 size a → place ∈ a.2 → Q (atD a)) : [D.src, .lst [.str n0, .str n1], .int size, .int place].length = 4 ∧ SAtom [.src, .lst [.str n0, .str n1], .int size, .int place] Q := ⟨rfl, n0, n1, size, place, rfl, h1, h2, h⟩
theorem dn {n : Nat} {Q : D → Prop} (h0 : 0 < n) (hz : n ≤ 1000) (h : ∀ k : Nat, k < n → Q (.int k)) : [D.src, .int (n : Int)].length = 2 ∧ sDraw [.src, .int (n : Int)] Q := dr (many := (n : Int)) (h1 := by omega) (h2 := Int.lt_of_le_of_lt (show (n : Int) ≤ 1000 by omega) (by decide +kernel)) (h := fun k hk => h k (by omega))
theorem dnE {m : Int} {n : Nat} {Q : D → Prop} (e : m = (n : Int)) (h0 : 0 < n) (hz : n ≤ 1000) (h : ∀ k : Nat, k < n → Q (.int k)) : [D.src, .int m].length = 2 ∧ sDraw [.src, .int m] Q := by
  subst e
  exact dn h0 hz h
theorem atomE {n0 n1 : Str} {m : Int} {size place : Nat} {Q : D → Prop} (e : m = (size : Int)) (h1 : place < size) (h2 : size ≤ 1000) (h : ∀ a : Atm, AtOk n0 n1 size a → place ∈ a.2 → Q (atD a)) : [D.src, .lst [.str n0, .str n1], .int m, .int place].length = 4 ∧ SAtom [.src, .lst [.str n0, .str n1], .int m, .int place] Q := by
  subst e
  exact atom_call h1 h2 h
theorem range_get {n i k : Nat} (h : (List.range n)[i]? = some k) : k = i ∧ i < n := by
  obtain ⟨h1, h2⟩ := List.getElem?_eq_some_iff.mp h
  rw [List.getElem_range] at h2
  rw [List.length_range] at h1
  exact ⟨h2.symm, h1⟩
theorem ok_drawn {f : Addr} {fd : FuncData} (F : L2.Fun K "_law_drawn" "_law_drawn" s_drawn f fd) (T : NB mg) (Ddraw : DD K mg fdraw fddraw) (Gdraw : GD P w K mg base fdraw fddraw) (Datom : Def K mg "_law_atom" fatom fdatom ["source", "names", "size", "place"]) (Gatom : GA P w K mg base fatom fdatom)
    (Droom : Def K mg "_law_room" froom fdroom ["points"]) (Groom : FnOk P w K mg base CX0 1 froom fdroom ["points"] (spU K 1 SRoom)) : FnOk P w K mg base CX0 3 f fd ["source", "names", "pool", "width"] (spU K 4 SDrawn) := by
  refine okU F sc_drawn rfl fun cdv A outer s H E hr => ?_
  have hu64 := hu64 hr; have hu65 := hu65 hr; have hu1 := hu1 hr; have nd := sc_drawn.nd
  refine ⟨_, (uss_cons (us_setF (i := 4) nd (ul_list (by rfl) T.list (uv 2)))
  (uss_cons (us_for (vs := [5]) PassesOwn.never rfl (ui_range1 (by rfl) T.range (u_op uadd u_int (u_callD Ddraw Gdraw hr (ua_cons (uv 0) (ua_cons u_int ua_nil))))) (ug nd 5)
   (uss_cons (us_setE (i := 6) nd (u_callD Ddraw Gdraw hr (ua_cons (uv 0) (ua_cons (u_op uadd (u_callB ucl_len (by rfl) T.len boot_len (ua_cons (uv 4) ua_nil)) u_int) ua_nil))))
    (uss_cons (us_setF (i := 7) nd (ul_cat (ul_cat (ul_slL (UE.ur (uv 4)) uo_none (uo_some (uv 6))) (ul_lst (ua_cons u_non ua_nil))) (ul_slL (UE.ur (uv 4)) (uo_some (uv 6)) uo_none)))
    (uss_one (us_if (ut_tru (u_callD Droom Groom hr (ua_cons (uv 7) ua_nil))) (uss_one (us_setE (i := 4) nd (uv 7))) uss_nil)))))
  (uss_cons (us_own (us_lc (i := 8) (own := [("k", 5)]) rfl nd rfl rfl (sw_true rfl rfl rfl (by decide +kernel)) (ui_range1 (by rfl) T.range (u_callB ucl_len (by rfl) T.len boot_len (ua_cons (uv 4) ua_nil))) (blkOk_by (own := [("k", 5)]) (N := ["source", "names", "pool", "width", "points", "k", "at", "wider", "atoms", "heads"]) (sc := defScope s_drawn) (by decide +kernel)) (fun _ _ _ _ _ => (ug nd 5)) (fun _ _ _ _ _ => (uts_one (ut_cmp uisN (u_ix (uv 4) (uv 5) (fun _ _ => rfl)) u_non (nomark _)))) (fun _ _ _ _ _ => (u_callD Datom Gatom hr (ua_cons (uv 0) (ua_cons (uv 1) (ua_cons (u_callB ucl_len (by rfl) T.len boot_len (ua_cons (uv 4) ua_nil)) (ua_cons (uv 5) ua_nil))))))))
  (uss_cons (us_if (ut_cmp (ueq hu64) (u_callD Ddraw Gdraw hr (ua_cons (uv 0) (ua_cons u_int ua_nil))) u_int (nomark _)) (uss_one (us_append (pe_bm PySem.F.plainAttrs_list PySem.F.slot_list_append PySem.F.type_list_append mt_append (pv' 8) (pa_cons (UE.run (u_callD Datom Gatom hr (ua_cons (uv 0) (ua_cons (uv 1) (ua_cons (u_callB ucl_len (by rfl) T.len boot_len (ua_cons (uv 4) ua_nil)) (ua_cons (u_callD Ddraw Gdraw hr (ua_cons (uv 0) (ua_cons (u_callB ucl_len (by rfl) T.len boot_len (ua_cons (uv 4) ua_nil)) ua_nil))) ua_nil)))))) pa_nil)))) uss_nil)
  (uss_cons (us_setE (i := 9) nd (u_callTy1 uc1_tuple (by rfl) T.tuple boot_tuple (UL.ur (ul_lc (own := [("k", 5)]) rfl nd (ui_range1 (by rfl) T.range (uv 3)) (blkOk_by (own := [("k", 5)]) (N := ["source", "names", "pool", "width", "points", "k", "at", "wider", "atoms", "heads"]) (sc := defScope s_drawn) (by decide +kernel)) (fun _ _ _ _ _ => (ug nd 5)) (fun _ _ _ _ _ => uts_nil) (fun _ _ _ _ _ => (u_callD Ddraw Gdraw hr (ua_cons (uv 0) (ua_cons (u_callB ucl_len (by rfl) T.len boot_len (ua_cons (uv 4) ua_nil)) ua_nil))))))))
  (uss_one (us_ret (u_tup (ua_cons (u_callTy ucl_tuple (by rfl) T.tuple boot_tuple (ua_cons (uv 4) ua_nil)) (ua_cons (u_callTy1 uc1_tuple (by rfl) T.tuple boot_tuple (UL.ur (ul_sorted hu65 (by rfl) T.sorted (uo 8)))) (ua_cons (uv 9) (ua_cons (u_callD Ddraw Gdraw hr (ua_cons (uv 0) (ua_cons (u_callB ucl_len (by rfl) T.len boot_len (ua_cons (uv 4) ua_nil)) ua_nil))) ua_nil)))))))))))), ?_⟩
  rintro ds Q - ⟨n0, n1, pool, width, rfl, N, hpl, hwl, q⟩
  refine ⟨_, rfl, _, .inr rfl, _, rfl, dr (many := 3) (h := fun k0 hk0 => ?_)⟩
  refine ⟨_, _, rfl, rfl, trivial, _, rfl, by omega, by omega, ?_⟩
  have p0 : (pool.map some).filterMap id = pool := by
    rw [List.filterMap_map]
    exact List.filterMap_some
  have m0 : (pool.map some).map oD = pool.map D.int := by rw [List.map_map]; rfl
  refine for_range (fun (z : List (Option Int) × Slot × Slot × Slot) => [.va .src, .va (.lst [.str n0, .str n1]), .va (.lst (pool.map D.int)), .va (.int width), .va (.lst (z.1.map oD)), z.2.1, z.2.2.1, z.2.2.2, .no, .no])
    (fun i z => z.1.filterMap id = pool ∧ z.1.length ≤ 2 + i ∧ (z.1.filter Option.isNone).length ≤ i ∧ (0 < i → z.1 ≠ [])) (pool.map some, .no, .no, .no) (by rw [m0]; rfl) ⟨p0, by simpa using hpl, by simp, fun h => absurd h (Nat.lt_irrefl 0)⟩ (fun i I z hi hj hI => ?_) (fun z hz => ?_)
  · obtain ⟨ps, x5, x6, x7⟩ := z
    obtain ⟨h1, h2, h3, h4⟩ := hj
    simp only at h1 h2 h3 h4
    have hi3 : i < 3 := by omega
    refine ⟨_, rfl, _, rfl, _, .inr rfl, _, _, rfl, rfl, trivial, ?_⟩
    refine dnE (n := ps.length + 1) (by simp) (by omega) (by omega) fun at_ hat => ?_
    have eIns : (ps.map oD).take at_ ++ [D.non] ++ (ps.map oD).drop at_ = (ins ps at_ none).map oD := (ins_map oD ps at_ none).symm
    refine ⟨_, rfl, _, rfl, _, rfl, _, rfl, szL (show 1 ≤ 1000 by decide), ?_, _, rfl, _, rfl, _, rfl, _, rfl, ?_, ?_⟩
    · rw [cut_take]
      exact szL (by simp; omega)
    · rw [cut_take, cut_drop]
      exact szL (by simp; omega)
    · rw [cut_take, cut_drop, show (List.take at_ (List.map oD (ps, x5, x6, x7).fst) ++ [D.non] ++ List.drop at_ (List.map oD (ps, x5, x6, x7).fst)) = (ins ps at_ none).map oD from eIns]
      refine ⟨_, rfl, room_call (by rw [ins_len]; omega) fun b hb => ⟨b, rfl, ?_⟩⟩
      refine ite_by (fun _ => ?_) (fun hbf => ?_)
      · exact ⟨_, rfl, hI (ins ps at_ none, .va (.int i), .va (.int at_), .va (.lst ((ins ps at_ none).map oD))) ⟨by rw [ins_consts]; exact h1, by show (ins ps at_ none).length ≤ _; rw [ins_len]; omega, by show ((ins ps at_ none).filter Option.isNone).length ≤ _; rw [ins_nones]; omega, fun _ z => by have := congrArg List.length (show ins ps at_ none = [] from z); rw [ins_len] at this; cases this⟩⟩
      · refine hI (ps, .va (.int i), .va (.int at_), .va (.lst ((ins ps at_ none).map oD))) ⟨h1, by show ps.length ≤ _; omega, by show (ps.filter Option.isNone).length ≤ _; omega, fun _ z => ?_⟩
        have z : ps = [] := z
        subst z
        have := hb (by
          intro o ho
          simp [ins] at ho
          exact ho)
        rw [hbf] at this
        cases this
  · obtain ⟨ps, x5, x6, x7⟩ := z
    obtain ⟨h1, h2, h3, h4⟩ := hz
    simp only at h1 h2 h3 h4
    have hps : 0 < ps.length := List.length_pos_iff.mpr (h4 (by omega))
    have hpl5 : ps.length ≤ 5 := by omega
    refine ⟨_, rfl, _, .inr rfl, _, rfl, by simp, by simp; omega, ?_⟩
    rw [List.length_map, Int.toNat_natCast]
    refine lc_inv atD (AJ n0 n1 ps) ⟨by simp, fun k hk => absurd hk (Nat.not_lt_zero k), by simp⟩ (fun i bs hi hj => ?_) (fun i k I bs hk hj hz hI => ⟨hz, ?_⟩) (fun bs hj => ?_)
    · have h5 := hj.2.2
      have h6 := List.length_filter_le Option.isNone (ps.take i)
      rw [List.length_take] at h6
      exact szT (by omega)
    · obtain ⟨rfl, hi⟩ := range_get hk
      have hp : ps[k]? = some ps[k] := List.getElem?_eq_getElem hi
      refine ⟨_, rfl, _, rfl, _, rfl, .inl ⟨_, _, .inr rfl, atI_map hp, rfl, _, oD_isN _, _, rfl, ?_⟩⟩
      cases e : ps[k] with
      | none =>
        rw [e] at hp
        refine iteT' (by simp) ?_
        refine ⟨_, rfl, _, rfl, _, rfl, _, .inr rfl, _, rfl, ?_⟩
        refine atomE (size := ps.length) (by simp) hi (by omega) fun a ha hka => ?_
        have := hI (bs ++ [a]) (hj.snoc hp ha hka)
        simpa using this
      | some x =>
        rw [e] at hp
        exact iteF' (by simp) (hI bs (hj.skip hp))
    · rw [List.length_range] at hj
      obtain ⟨g1, g2, g3⟩ := hj
      rw [List.take_length] at g3
      have g3 : bs.length ≤ (ps.filter Option.isNone).length := g3
      have h3 : (ps.filter Option.isNone).length ≤ (1 + (k0 : Int)).toNat := h3
      have hL0 : bs.length ≤ 3 := by omega
      have hF0 : ∀ k, ps[k]? = some none → ∃ a ∈ bs, k ∈ a.2 := fun k hk => g2 k (List.getElem?_eq_some_iff.mp hk).1 hk
      refine ⟨_, rfl, dr (many := 2) (h := fun k1 hk1 => ?_)⟩
      refine ⟨pl_int _ _, pl_int _ _, _, rfl, ?_⟩
      refine ite_by (fun _ => ?_) (fun _ => ?_)
      · refine ⟨_, rfl, _, rfl, _, rfl, _, rfl, _, .inr rfl, _, rfl, _, rfl, _, .inr rfl, ?_⟩
        refine dnE (n := ps.length) (by simp) hps (by omega) fun x hx => ?_
        refine atomE (size := ps.length) (by simp) hx (by omega) fun a ha _ => ?_
        refine ⟨szT (by rw [List.length_map]; omega), ?_⟩
        have eb : bs.map atD ++ [atD a] = (bs ++ [a]).map atD := by simp
        rw [eb]
        have hA : ∀ b ∈ bs ++ [a], AtOk n0 n1 ps.length b := fun b hb => by
          rcases List.mem_append.mp hb with hb | hb
          · exact g1 b hb
          · rw [List.mem_singleton.mp hb]; exact ha
        have hF : ∀ k, ps[k]? = some none → ∃ b ∈ bs ++ [a], k ∈ b.2 := fun k hk => by
          obtain ⟨b, hb, hkb⟩ := hF0 k hk
          exact ⟨b, List.mem_append_left _ hb, hkb⟩
        have hL : (bs ++ [a]).length ≤ 4 := by simp; omega
        refine ⟨_, rfl, _, rfl, by omega, by omega, ?_⟩
        rw [Int.toNat_natCast]
        refine lc_inv nD (fun i hs => hs.length = i ∧ ∀ h ∈ hs, h < ps.length) ⟨rfl, by simp⟩ (fun i hs hi hj => szT (by rw [hj.1, List.length_range] at *; omega)) (fun i a I hs ha hj hz hI => ⟨hz, ?_⟩) (fun hs hj => ?_)
        · refine iteT' (q := I (i + 1) (hs.map nD)) rfl ?_
          refine ⟨_, rfl, _, rfl, _, .inr rfl, ?_⟩
          refine dnE (n := ps.length) (by simp) hps (by omega) fun x hx => ?_
          have := hI (hs ++ [x]) ⟨by simp [hj.1], fun h hh => ?_⟩
          · rw [List.map_append] at this; exact this
          · rcases List.mem_append.mp hh with hh | hh
            · exact hj.2 h hh
            · rw [List.mem_singleton.mp hh]; exact hx
        · obtain ⟨j1, j2⟩ := hj
          rw [List.length_range] at j1
          obtain ⟨cs, e1, e2⟩ := srt_atoms (bs ++ [a])
          refine ⟨_, rfl, _, .inr rfl, _, rfl, plains_iff.mpr (pl_map _ fun a ha => pl_mono2 (pl_atD 0 ((hA a ha).str N))), allAlike_atoms _, sortable_atoms _, ?_⟩
          refine ⟨_, rfl, _, rfl, _, rfl, _, .inr rfl, ?_⟩
          refine dnE (n := ps.length) (by simp) hps (by omega) fun pick hpick => ?_
          refine ⟨szL (show 4 ≤ 1000 by decide), ?_⟩
          rw [e1]
          exact q ⟨ps, cs, hs, pick⟩ (pok_mk h1 hA hF e1 e2 j1 j2 hpick (by omega) (by omega)) (by show ps.length ≤ 5; omega) (by show cs.length ≤ 4; rw [e2.length_eq]; exact hL)
      · have hA := g1
        have hF := hF0
        have hL : bs.length ≤ 4 := by omega
        refine ⟨_, rfl, _, rfl, by omega, by omega, ?_⟩
        rw [Int.toNat_natCast]
        refine lc_inv nD (fun i hs => hs.length = i ∧ ∀ h ∈ hs, h < ps.length) ⟨rfl, by simp⟩ (fun i hs hi hj => szT (by rw [hj.1, List.length_range] at *; omega)) (fun i a I hs ha hj hz hI => ⟨hz, ?_⟩) (fun hs hj => ?_)
        · refine iteT' (q := I (i + 1) (hs.map nD)) rfl ?_
          refine ⟨_, rfl, _, rfl, _, .inr rfl, ?_⟩
          refine dnE (n := ps.length) (by simp) hps (by omega) fun x hx => ?_
          have := hI (hs ++ [x]) ⟨by simp [hj.1], fun h hh => ?_⟩
          · rw [List.map_append] at this; exact this
          · rcases List.mem_append.mp hh with hh | hh
            · exact hj.2 h hh
            · rw [List.mem_singleton.mp hh]; exact hx
        · obtain ⟨j1, j2⟩ := hj
          rw [List.length_range] at j1
          obtain ⟨cs, e1, e2⟩ := srt_atoms bs
          refine ⟨_, rfl, _, .inr rfl, _, rfl, plains_iff.mpr (pl_map _ fun a ha => pl_mono2 (pl_atD 0 ((hA a ha).str N))), allAlike_atoms _, sortable_atoms _, ?_⟩
          refine ⟨_, rfl, _, rfl, _, rfl, _, .inr rfl, ?_⟩
          refine dnE (n := ps.length) (by simp) hps (by omega) fun pick hpick => ?_
          refine ⟨szL (show 4 ≤ 1000 by decide), ?_⟩
          rw [e1]
          exact q ⟨ps, cs, hs, pick⟩ (pok_mk h1 hA hF e1 e2 j1 j2 hpick (by omega) (by omega)) (by show ps.length ≤ 5; omega) (by show cs.length ≤ 4; rw [e2.length_eq]; exact hL)
end
end K72

set_option Elab.async false
set_option linter.all false
set_option maxRecDepth 100000
set_option maxHeartbeats 4000000
namespace K72
open PySem L2 U
open PySem.Spec PyProof.Rows
section
variable {P : Program} {w : World} {K : PySem.W.Frag} {mg : Str → Option Value} {base : Heap}
variable {fdraw fatom froom fturned : Addr} {fddraw fdatom fdroom fdturned : FuncData}
abbrev s_wider : Stmt := (top 27)
theorem sc_wider : FnScope ["source", "names", "case", "at", "points", "places", "k", "atoms", "atom", "heads", "pick"] ["source", "names", "case"] (defScope s_wider) := ⟨rfl, rfl, rfl, by decide +kernel, rfl, by decide +kernel, by decide +kernel⟩
abbrev SWider : PSp := fun ds Q => ∃ (n0 n1 : Str) (pool : List Int) (width : Nat) (c : PC), ds = [.src, .lst [.str n0, .str n1], c.d] ∧ NOk n0 n1 ∧ width ≤ 2 ∧ POk n0 n1 pool width c ∧ c.pts.length ≤ 5 ∧ c.ats.length ≤ 4 ∧ ∀ c' : PC, POk n0 n1 pool width c' → Q c'.d
theorem ok_wider {f : Addr} {fd : FuncData} (F : L2.Fun K "_law_wider" "_law_wider" s_wider f fd) (T : NB mg) (Ddraw : DD K mg fdraw fddraw) (Gdraw : GD P w K mg base fdraw fddraw) (Datom : Def K mg "_law_atom" fatom fdatom ["source", "names", "size", "place"]) (Gatom : GA P w K mg base fatom fdatom)
    (Droom : Def K mg "_law_room" froom fdroom ["points"]) (Groom : FnOk P w K mg base CX0 1 froom fdroom ["points"] (spU K 1 SRoom)) (Dturned : Def K mg "_law_turned" fturned fdturned ["names", "atom"]) (Gturned : FnOk P w K mg base CX0 1 fturned fdturned ["names", "atom"] (spU K 2 STurned)) : FnOk P w K mg base CX0 3 f fd ["source", "names", "case"] (spU K 3 SWider) := by
  refine okU F sc_wider rfl fun cdv A outer s H E hr => ?_
  have hu64 := hu64 hr; have hu65 := hu65 hr; have hu1 := hu1 hr; have nd := sc_wider.nd
  -- the pick, the end
  have part3 : ∃ t3, USs (cxOf CX0 P w K mg base ["source", "names", "case", "at", "points", "places", "k", "atoms", "atom", "heads", "pick"] "_law_wider" (defScope s_wider) f cdv A outer s H E).nox ((defBody s_wider).drop 9) t3 ∧
      ∀ (Q : D → Prop) (c : PC) (n0 n1 : Str) (pool : List Int) (width at_ : Nat) (x6 x8 : Slot) (x1 : D) (bs : List Atm) (hs : List Nat), NOk n0 n1 → c.pts.length ≤ 5 → c.pick < c.pts.length → at_ ≤ c.pts.length → (ins c.pts at_ none).filterMap id = pool → (∀ a ∈ bs, AtOk n0 n1 (c.pts.length + 1) a) →
        (∀ k, (ins c.pts at_ none)[k]? = some none → ∃ a ∈ bs, k ∈ a.2) → bs.length ≤ 5 → hs.length = width → (∀ h ∈ hs, h < c.pts.length + 1) → (∀ c' : PC, POk n0 n1 pool width c' → Q c'.d) →
        t3 { nx := fun _ => Q .non, rt := Q } [.va .src, .va x1, .va c.d, .va (.int at_), .va (.lst ((ins c.pts at_ none).map oD)), .va (.lst (((List.range c.pts.length).map (sh at_)).map nD)), x6, .own (.lst (bs.map atD)), x8, .va (.tup (hs.map nD)), .no] := by
    refine ⟨_, (uss_cons (us_setE (i := 10) nd (u_ix (uv 5) (u_ix (uv 2) u_int (fun _ _ => rfl)) (fun _ _ => rfl)))
  (uss_cons (us_if (ut_cmp (ueq hu64) (u_callD Ddraw Gdraw hr (ua_cons (uv 0) (ua_cons u_int ua_nil))) u_int (nomark _)) (uss_one (us_setE (i := 10) nd (u_callD Ddraw Gdraw hr (ua_cons (uv 0) (ua_cons (u_callB ucl_len (by rfl) T.len boot_len (ua_cons (uv 4) ua_nil)) ua_nil))))) uss_nil)
  (uss_one (us_ret (u_tup (ua_cons (u_callTy ucl_tuple (by rfl) T.tuple boot_tuple (ua_cons (uv 4) ua_nil)) (ua_cons (u_callTy1 uc1_tuple (by rfl) T.tuple boot_tuple (UL.ur (ul_sorted hu65 (by rfl) T.sorted (uo 7)))) (ua_cons (uv 9) (ua_cons (uv 10) ua_nil))))))))), fun Q c n0 n1 pool width at_ x6 x8 x1 bs hs N hp5 hpk hat hcon hA hF hL hhl hh q => ?_⟩
    have g0 : ((List.range c.pts.length).map (sh at_))[c.pick]? = some (sh at_ c.pick) := by simp [hpk]
    refine ⟨_, rfl, _, rfl, 3, rfl, .inl ⟨_, _, .inl rfl, rfl, _, rfl, .inl ⟨_, _, .inr rfl, atI_map g0, ?_⟩⟩⟩
    refine ⟨_, rfl, dr (many := 3) (h := fun k1 hk1 => ?_)⟩
    refine ⟨pl_int _ _, pl_int _ _, _, rfl, ?_⟩
    obtain ⟨cs, e1, e2⟩ := srt_atoms bs
    have pi : (ins c.pts at_ none).length = c.pts.length + 1 := ins_len
    refine ite_by (fun _ => ?_) (fun _ => ?_)
    · refine ⟨_, rfl, _, rfl, _, .inr rfl, ?_⟩
      refine dnE (n := c.pts.length + 1) (by simp [ins_len]) (by omega) (by omega) fun pick hpick => ?_
      refine ⟨_, rfl, _, .inr rfl, _, rfl, plains_iff.mpr (pl_map _ fun a ha => pl_mono2 (pl_atD 0 ((hA a ha).str N))), allAlike_atoms _, sortable_atoms _, ?_⟩
      refine ⟨_, rfl, _, rfl, szL (show 4 ≤ 1000 by decide), ?_⟩
      rw [e1]
      exact q ⟨ins c.pts at_ none, cs, hs, pick⟩ (pok_mk hcon (by rw [pi]; exact hA) hF e1 e2 hhl (by rw [pi]; exact hh) (by rw [pi]; exact hpick) (by rw [pi]; omega) hL)
    · refine ⟨_, rfl, _, .inr rfl, _, rfl, plains_iff.mpr (pl_map _ fun a ha => pl_mono2 (pl_atD 0 ((hA a ha).str N))), allAlike_atoms _, sortable_atoms _, ?_⟩
      refine ⟨_, rfl, _, rfl, szL (show 4 ≤ 1000 by decide), ?_⟩
      rw [e1]
      exact q ⟨ins c.pts at_ none, cs, hs, sh at_ c.pick⟩ (pok_mk hcon (by rw [pi]; exact hA) hF e1 e2 hhl (by rw [pi]; exact hh) (by rw [pi]; exact sh_lt hpk) (by rw [pi]; omega) hL)
  obtain ⟨t3, h3, q3⟩ := part3
  -- the last atom, the heads
  have part2 : ∃ t2, USs (cxOf CX0 P w K mg base ["source", "names", "case", "at", "points", "places", "k", "atoms", "atom", "heads", "pick"] "_law_wider" (defScope s_wider) f cdv A outer s H E).nox ((defBody s_wider).drop 6) t2 ∧
      ∀ (Q : D → Prop) (c : PC) (n0 n1 : Str) (pool : List Int) (width at_ : Nat) (x6 x8 : Slot) (bs : List Atm), NOk n0 n1 → width ≤ 2 → POk n0 n1 pool width c → c.pts.length ≤ 5 → at_ ≤ c.pts.length → (∀ a ∈ bs, AtOk n0 n1 (c.pts.length + 1) a) →
        (∀ k, k ≠ at_ → (ins c.pts at_ none)[k]? = some none → ∃ a ∈ bs, k ∈ a.2) → bs.length ≤ 4 → (∀ c' : PC, POk n0 n1 pool width c' → Q c'.d) →
        t2 { nx := fun _ => Q .non, rt := Q } [.va .src, .va (.lst [.str n0, .str n1]), .va c.d, .va (.int at_), .va (.lst ((ins c.pts at_ none).map oD)), .va (.lst (((List.range c.pts.length).map (sh at_)).map nD)), x6, .own (.lst (bs.map atD)), x8, .no, .no] := by
    refine ⟨_, (uss_cons (us_append (pe_bm PySem.F.plainAttrs_list PySem.F.slot_list_append PySem.F.type_list_append mt_append (pv' 7) (pa_cons (UE.run (u_callD Datom Gatom hr (ua_cons (uv 0) (ua_cons (uv 1) (ua_cons (u_callB ucl_len (by rfl) T.len boot_len (ua_cons (uv 4) ua_nil)) (ua_cons (uv 3) ua_nil)))))) pa_nil)))
  (uss_cons (us_setE (i := 9) nd (u_callTy1 uc1_tuple (by rfl) T.tuple boot_tuple (UL.ur (ul_lc (own := [("k", 6)]) rfl nd (ui_seq (u_ix (uv 2) u_int (fun _ _ => rfl))) (blkOk_by (own := [("k", 6)]) (N := ["source", "names", "case", "at", "points", "places", "k", "atoms", "atom", "heads", "pick"]) (sc := defScope s_wider) (by decide +kernel)) (fun _ _ _ _ _ => (ug nd 6)) (fun _ _ _ _ _ => uts_nil) (fun _ _ _ _ _ => (u_ix (uv 5) (uv 6) (fun _ _ => rfl)))))))
  (uss_cons (us_if (UW.ut (uw_and (ut_cmp ugt (u_callB ucl_len (by rfl) T.len boot_len (ua_cons (uv 9) ua_nil)) u_int (nomark _)) (uw_and1 (ut_cmp (ueq hu64) (u_callD Ddraw Gdraw hr (ua_cons (uv 0) (ua_cons u_int ua_nil))) u_int (nomark _))))) (uss_one (us_setE (i := 9) nd (u_op ucat (u_tup (ua_cons (u_callD Ddraw Gdraw hr (ua_cons (uv 0) (ua_cons (u_callB ucl_len (by rfl) T.len boot_len (ua_cons (uv 4) ua_nil)) ua_nil))) ua_nil)) (u_slT (uv 9) (uo_some u_int) uo_none)))) uss_nil)
  h3))), fun Q c n0 n1 pool width at_ x6 x8 bs N hw2 hc hp5 hat hA hF hL q => ?_⟩
    refine ⟨_, rfl, _, rfl, _, rfl, _, rfl, _, .inr rfl, _, rfl, ?_⟩
    refine atomE (size := c.pts.length + 1) (by simp [ins_len]) (by omega) (by omega) fun a ha hma => ?_
    refine ⟨szT (by rw [List.length_map]; omega), ?_⟩
    have eb : bs.map atD ++ [atD a] = (bs ++ [a]).map atD := by simp
    rw [eb]
    have hA2 : ∀ b ∈ bs ++ [a], AtOk n0 n1 (c.pts.length + 1) b := fun b hb => by
      rcases List.mem_append.mp hb with hb | hb
      · exact hA b hb
      · rw [List.mem_singleton.mp hb]; exact ha
    have hF2 : ∀ k, (ins c.pts at_ none)[k]? = some none → ∃ b ∈ bs ++ [a], k ∈ b.2 := fun k hk => by
      by_cases hka : k = at_
      · exact ⟨a, by simp, by rw [hka]; exact hma⟩
      · obtain ⟨b, hb, hkb⟩ := hF k hka hk
        exact ⟨b, List.mem_append_left _ hb, hkb⟩
    have hL2 : (bs ++ [a]).length ≤ 5 := by simp; omega
    -- heads
    refine ⟨_, rfl, 2, rfl, .inl ⟨_, _, .inl rfl, rfl, _, .inr rfl, ?_⟩⟩
    refine lc_map nD (fun h => some (sh at_ h)) (szT (by rw [hc.hl]; omega)) (fun i h I acc hh hz hI => ⟨hz, ?_⟩) ?_
    · have hlt : h < c.pts.length := hc.hds h (List.mem_of_getElem? hh)
      have g0 : ((List.range c.pts.length).map (sh at_))[h]? = some (sh at_ h) := by simp [hlt]
      exact iteT' (q := I (i + 1) acc) rfl ⟨_, rfl, _, rfl, _, rfl, .inl ⟨_, _, .inr rfl, atI_map g0, hI⟩⟩
    rw [fm_some]
    have hcon : (ins c.pts at_ none).filterMap id = pool := by rw [ins_consts]; exact hc.consts
    have hhs : ∀ h ∈ c.hds.map (sh at_), h < c.pts.length + 1 := fun h hh => by
      obtain ⟨j, hj, rfl⟩ := List.mem_map.mp hh
      exact sh_lt (hc.hds j hj)
    have hhl : (c.hds.map (sh at_)).length = width := by rw [List.length_map]; exact hc.hl
    generalize c.hds.map (sh at_) = hs at hhs hhl ⊢
    have go : ∀ hs' : List Nat, hs'.length = width → (∀ h ∈ hs', h < c.pts.length + 1) → t3 { nx := fun _ => Q .non, rt := Q } [.va .src, .va (.lst [.str n0, .str n1]), .va c.d, .va (.int at_), .va (.lst ((ins c.pts at_ none).map oD)), .va (.lst (((List.range c.pts.length).map (sh at_)).map nD)), x6, .own (.lst ((bs ++ [a]).map atD)), x8, .va (.tup (hs'.map nD)), .no] := fun hs' g1 g2 =>
      q3 Q c n0 n1 pool width at_ x6 x8 _ _ hs' N hp5 hc.pick hat hcon hA2 hF2 hL2 g1 g2 q
    refine ⟨_, rfl, _, .inl rfl, _, _, rfl, rfl, trivial, _, rfl, ?_⟩
    refine ite_by (fun hb => ?_) (fun _ => ite_by (b := false) (fun h => absurd h (by decide)) fun _ => go hs hhl hhs)
    refine ⟨_, rfl, dr (many := 6) (h := fun k1 hk1 => ?_)⟩
    refine ⟨pl_int _ _, pl_int _ _, _, rfl, ?_⟩
    refine ite_by (fun _ => ?_) (fun _ => go hs hhl hhs)
    refine ⟨_, rfl, _, rfl, _, .inr rfl, ?_⟩
    refine dnE (n := c.pts.length + 1) (by simp [ins_len]) (by omega) (by omega) fun x hx => ?_
    refine ⟨szL (show 1 ≤ 1000 by decide), _, rfl, 1, rfl, _, rfl, _, _, rfl, rfl, ?_, ?_⟩
    · rw [show cutD (hs.map nD) (some 1) none = (hs.map nD).drop 1 from cut_drop _ 1]
      exact szL (by simp; omega)
    · rw [show cutD (hs.map nD) (some 1) none = (hs.map nD).drop 1 from cut_drop _ 1]
      have hpos : 0 < hs.length := by
        have : ((0 : Int) < ((hs.map nD).length : Int)) := by simpa using hb
        rw [List.length_map] at this
        omega
      have := go (x :: hs.drop 1) (by simp; omega) (fun h hh => by
        rcases List.mem_cons.mp hh with rfl | hh
        · exact hx
        · exact hhs h (List.mem_of_mem_drop hh))
      rw [List.map_cons, List.map_drop] at this
      exact this
  obtain ⟨t2, h2, q2⟩ := part2
  refine ⟨_, (uss_cons (us_setE (i := 3) nd (u_callD Ddraw Gdraw hr (ua_cons (uv 0) (ua_cons (u_op uadd (u_callB ucl_len (by rfl) T.len boot_len (ua_cons (u_ix (uv 2) u_int (fun _ _ => rfl)) ua_nil)) u_int) ua_nil))))
  (uss_cons (us_setF (i := 4) nd (ul_cat (ul_cat (ul_list (by rfl) T.list (u_slT (u_ix (uv 2) u_int (fun _ _ => rfl)) uo_none (uo_some (uv 3)))) (ul_lst (ua_cons u_non ua_nil))) (ul_list (by rfl) T.list (u_slT (u_ix (uv 2) u_int (fun _ _ => rfl)) (uo_some (uv 3)) uo_none))))
  (uss_cons (us_if (ut_not (ut_tru (u_callD Droom Groom hr (ua_cons (uv 4) ua_nil)))) (uss_one (us_ret (uv 2))) uss_nil)
  (uss_cons (us_setF (i := 5) nd (ul_lc (own := [("k", 6)]) rfl nd (ui_range1 (by rfl) T.range (u_callB ucl_len (by rfl) T.len boot_len (ua_cons (u_ix (uv 2) u_int (fun _ _ => rfl)) ua_nil))) (blkOk_by (own := [("k", 6)]) (N := ["source", "names", "case", "at", "points", "places", "k", "atoms", "atom", "heads", "pick"]) (sc := defScope s_wider) (by decide +kernel)) (fun _ _ _ _ _ => (ug nd 6)) (fun _ _ _ _ _ => uts_nil) (fun _ _ _ _ _ => (u_ifExp (ut_cmp uge (uv 6) (uv 3) (nomark _)) (u_op uadd (uv 6) u_int) (uv 6)))))
  (uss_cons (us_own (us_lc (i := 7) (own := [("atom", 8)]) rfl nd rfl rfl (sw_true rfl rfl rfl (by decide +kernel)) (ui_seq (u_ix (uv 2) u_int (fun _ _ => rfl))) (blkOk_by (own := [("atom", 8)]) (N := ["source", "names", "case", "at", "points", "places", "k", "atoms", "atom", "heads", "pick"]) (sc := defScope s_wider) (by decide +kernel)) (fun _ _ _ _ _ => (ug nd 8)) (fun _ _ _ _ _ => uts_nil) (fun _ _ _ _ _ => (u_tup (ua_cons (u_ix (uv 8) u_int (fun _ _ => rfl)) (ua_cons (u_callTy1 uc1_tuple (by rfl) T.tuple boot_tuple (UL.ur (ul_lc (own := [("k", 6)]) rfl nd (ui_seq (u_ix (uv 8) u_int (fun _ _ => rfl))) (blkOk_by (own := [("k", 6)]) (by rfl)) (fun _ _ _ _ _ => (ug nd 6)) (fun _ _ _ _ _ => uts_nil) (fun _ _ _ _ _ => (u_ix (uv 5) (uv 6) (fun _ _ => rfl)))))) ua_nil))))))
  (uss_cons (us_if (UW.ut (uw_and (ut_cmp ugt (u_callB1 uc1_len (by rfl) T.len boot_len (uo 7)) u_int (nomark _)) (uw_and1 (ut_cmp (ueq hu64) (u_callD Ddraw Gdraw hr (ua_cons (uv 0) (ua_cons u_int ua_nil))) u_int (nomark _))))) (uss_one (us_put (ps_asg (UE.run (u_callD Dturned Gturned hr (ua_cons (uv 1) (ua_cons (u_ixR (uo 7) u_int (fun _ _ => rfl)) ua_nil)))) (pg_sub (pv' 7) (UE.run u_int) set_list)))) uss_nil)
  h2)))))), ?_⟩
  rintro ds Q - ⟨n0, n1, pool, width, c, rfl, N, hw2, hc, hp5, ha4, q⟩
  refine ⟨_, rfl, _, rfl, 0, rfl, .inl ⟨_, _, .inl rfl, rfl, _, .inl rfl, _, _, rfl, rfl, trivial, ?_⟩⟩
  refine dnE (n := c.pts.length + 1) (by simp) (by omega) (by omega) fun at_ hat => ?_
  have eIns : (c.pts.map oD).take at_ ++ [D.non] ++ (c.pts.map oD).drop at_ = (ins c.pts at_ none).map oD := (ins_map oD c.pts at_ none).symm
  refine ⟨_, rfl, 0, rfl, .inl ⟨_, _, .inl rfl, rfl, _, rfl, _, rfl, _, rfl, _, .inl rfl, szL (show 1 ≤ 1000 by decide), ?_, _, rfl, 0, rfl, .inl ⟨_, _, .inl rfl, rfl, _, rfl, _, rfl, _, rfl, _, .inl rfl, ?_, ?_⟩⟩⟩
  · rw [cut_take]
    exact szL (by simp; omega)
  · rw [cut_take, cut_drop]
    exact szL (by simp; omega)
  rw [cut_take, cut_drop, eIns]
  refine ⟨_, rfl, room_call (by rw [ins_len]; omega) fun b hb => ⟨b, rfl, ?_⟩⟩
  refine ite_by (fun _ => ⟨_, rfl, q c hc⟩) (fun _ => ?_)
  -- places
  refine ⟨_, rfl, 0, rfl, .inl ⟨_, _, .inl rfl, rfl, _, .inl rfl, _, rfl, by simp, by simp; omega, ?_⟩⟩
  rw [List.length_map, Int.toNat_natCast]
  refine lc_map nD (fun k => some (sh at_ k)) (szT (by rw [List.length_range]; omega)) (fun i k I acc hk hz hI => ⟨hz, ?_⟩) ?_
  · refine iteT' (q := I (i + 1) acc) rfl ?_
    refine ⟨_, rfl, _, rfl, _, _, rfl, rfl, trivial, _, rfl, ?_⟩
    have hI : I (i + 1) (acc ++ [nD (sh at_ k)]) := hI
    unfold sh at hI
    refine ite_by (fun hb2 => ?_) (fun hb2 => ?_)
    · have : at_ ≤ k := by simpa using hb2
      rw [if_pos this] at hI
      exact ⟨_, rfl, _, _, rfl, rfl, trivial, hI⟩
    · have : ¬ at_ ≤ k := by simpa using hb2
      rw [if_neg this] at hI
      exact ⟨_, rfl, hI⟩
  rw [fm_some]
  -- atoms
  refine ⟨_, rfl, 1, rfl, .inl ⟨_, _, .inl rfl, rfl, _, .inr rfl, ?_⟩⟩
  refine lc_map atD (fun a => some (shA at_ a)) (szT (by omega)) (fun i a I acc ha hz hI => ⟨hz, ?_⟩) ?_
  · have hA := hc.ats a (List.mem_of_getElem? ha)
    refine iteT' (q := I (i + 1) acc) rfl ?_
    refine ⟨_, rfl, 0, rfl, .inl ⟨_, _, .inl rfl, rfl, _, rfl, 1, rfl, .inl ⟨_, _, .inl rfl, rfl, _, .inr rfl, ?_⟩⟩⟩
    refine lc_map nD (fun k => some (sh at_ k)) ?_ (fun j k I2 acc2 hk hz2 hI2 => ⟨hz2, ?_⟩) ?_
    · rcases hA.ar with ⟨_, x, h⟩ | ⟨_, x, y, h⟩ <;> rw [h] <;> exact szT (by simp)
    · have hlt : k < c.pts.length := hA.ix k (List.mem_of_getElem? hk)
      have g0 : ((List.range c.pts.length).map (sh at_))[k]? = some (sh at_ k) := by simp [hlt]
      exact iteT' (q := I2 (j + 1) acc2) rfl ⟨_, rfl, _, rfl, _, rfl, .inl ⟨_, _, .inr rfl, atI_map g0, hI2⟩⟩
    · rw [fm_some]
      exact ⟨szL (show 2 ≤ 1000 by decide), hI⟩
  rw [fm_some]
  have hA0 : ∀ a ∈ c.ats.map (shA at_), AtOk n0 n1 (c.pts.length + 1) a := fun a ha => by
    obtain ⟨b, hb, rfl⟩ := List.mem_map.mp ha
    exact shA_ok (hc.ats b hb)
  have hF0 : ∀ k, k ≠ at_ → (ins c.pts at_ none)[k]? = some none → ∃ a ∈ c.ats.map (shA at_), k ∈ a.2 := fun k hk hp => by
    obtain ⟨j, rfl⟩ := sh_onto k hk
    rw [ins_sh (by omega)] at hp
    obtain ⟨a, ha, hja⟩ := hc.free j hp
    exact ⟨shA at_ a, List.mem_map_of_mem ha, List.mem_map_of_mem hja⟩
  have hL0 : (c.ats.map (shA at_)).length ≤ 4 := by rw [List.length_map]; exact ha4
  generalize c.ats.map (shA at_) = bs at hA0 hF0 hL0 ⊢
  refine ⟨_, rfl, _, _, rfl, rfl, trivial, _, rfl, ?_⟩
  refine ite_by (fun hb2 => ?_) (fun _ => ite_by (b := false) (fun h => absurd h (by decide)) fun _ => q2 Q c n0 n1 pool width at_ .no .no bs N hw2 hc hp5 (by omega) hA0 hF0 hL0 q)
  refine ⟨_, rfl, dr (many := 4) (h := fun k1 hk1 => ?_)⟩
  refine ⟨pl_int _ _, pl_int _ _, _, rfl, ?_⟩
  refine ite_by (fun _ => ?_) (fun _ => q2 Q c n0 n1 pool width at_ .no .no bs N hw2 hc hp5 (by omega) hA0 hF0 hL0 q)
  cases bs with
  | nil => exact absurd hb2 (by simp)
  | cons a r =>
    refine ⟨_, rfl, _, rfl, 0, _, rfl, (show atI ((a :: r).map atD) ((0 : Nat) : Int) = some (atD a) from atI_map rfl), rfl, n0, n1, c.pts.length + 1, a, rfl, hA0 a (by simp), fun b hb hk => ?_⟩
    refine ⟨_, rfl, 0, 0, rfl, (show ixN ((a :: r).map atD).length ((0 : Nat) : Int) = some 0 from ixN_nat (by simp)), ?_⟩
    refine q2 Q c n0 n1 pool width at_ .no .no (b :: r) N hw2 hc hp5 (by omega) (fun x hx => ?_) (fun k hk2 hp => ?_) (by simpa using hL0) q
    · rcases List.mem_cons.mp hx with rfl | hx
      · exact hb
      · exact hA0 x (List.mem_cons_of_mem _ hx)
    · obtain ⟨x, hx, hkx⟩ := hF0 k hk2 hp
      rcases List.mem_cons.mp hx with rfl | hx
      · exact ⟨b, by simp, hk k hkx⟩
      · exact ⟨x, List.mem_cons_of_mem _ hx, hkx⟩
end
end K72

set_option Elab.async false
set_option linter.all false
set_option maxRecDepth 100000
set_option maxHeartbeats 4000000
namespace K72
open PySem L2 U
open PySem.Spec PyProof.Rows
section
variable {P : Program} {w : World} {K : PySem.W.Frag} {mg : Str → Option Value} {base : Heap}
variable {fmaps freaches : Addr} {fdmaps fdreaches : FuncData}
abbrev s_maps : Stmt := (top 28)
theorem sc_maps : FnScope ["points", "others", "maps", "k", "grown", "one", "j"] ["points", "others"] (defScope s_maps) := ⟨rfl, rfl, rfl, by decide +kernel, rfl, by decide +kernel, by decide +kernel⟩
def mpD (m : List Nat) : D := .tup (m.map nD)
theorem last_at {m : List Nat} (h : m ≠ []) : atI (m.map nD) (-1) = some (nD (m.getLastD 0)) := by
  have hp := List.length_pos_iff.mpr h
  have : ixN (m.map nD).length (-1) = some (m.length - 1) := by
    rw [List.length_map]
    unfold ixN
    rw [if_neg (by decide), if_pos (by omega)]
    congr 1
    omega
  unfold atI
  rw [this]
  show (m.map nD)[m.length - 1]? = _
  rw [List.getElem?_map, last_get h]
  rfl
abbrev SMaps : PSp := fun ds Q => ∃ P1 P2 : List (Option Int), ds = [.tup (P1.map oD), .tup (P2.map oD)] ∧ P1.length ≤ 6 ∧ P2.length ≤ 6 ∧ ∀ ms : List (List Nat), (∀ m, m ∈ ms ↔ IsMap P1 P2 m) → ms.length ≤ 46656 → Q (.lst (ms.map mpD))
theorem ok_maps {f : Addr} {fd : FuncData} (F : L2.Fun K "_law_maps" "_law_maps" s_maps f fd) (T : NB mg) : FnOk P w K mg base CX0 1 f fd ["points", "others"] (spU K 2 SMaps) := by
  refine okU F sc_maps rfl fun cdv A outer s H E hr => ?_
  have hu64 := hu64 hr; have hu65 := hu65 hr; have hu1 := hu1 hr; have nd := sc_maps.nd
  refine ⟨_, (uss_cons (us_setF (i := 2) nd (ul_lst (ua_cons (u_tup ua_nil) ua_nil)))
  (uss_cons (us_for (vs := [3]) PassesOwn.never rfl (ui_range1 (by rfl) T.range (u_callB ucl_len (by rfl) T.len boot_len (ua_cons (uv 0) ua_nil))) (ug nd 3)
   (uss_cons (us_ownE (i := 4) nd (ul_lst ua_nil))
    (uss_cons (us_for (vs := [5]) PassesOwn.never rfl (ui_seq (uv 2)) (ug nd 5)
     (uss_one (us_for (vs := [6]) PassesOwn.never rfl (ui_range1 (by rfl) T.range (u_callB ucl_len (by rfl) T.len boot_len (ua_cons (uv 1) ua_nil))) (ug nd 6)
       (uss_one (us_if (UW.ut (uw_and (UW.ut (uw_or (ut_cmp (ueq hu64) (u_callB ucl_len (by rfl) T.len boot_len (ua_cons (uv 5) ua_nil)) u_int (nomark _)) (uw_or1 (ut_cmp ult (u_ix (uv 5) (u_neg u_int) (fun _ _ => rfl)) (uv 6) (nomark _))))) (uw_and1 (ut_cmp (ueq hu64) (u_ix (uv 0) (uv 3) (fun _ _ => rfl)) (u_ix (uv 1) (uv 6) (fun _ _ => rfl)) (nomark _))))) (uss_one (us_append (pe_bm PySem.F.plainAttrs_list PySem.F.slot_list_append PySem.F.type_list_append mt_append (pv' 4) (pa_cons (UE.run (u_op ucat (uv 5) (u_tup (ua_cons (uv 6) ua_nil)))) pa_nil)))) uss_nil)))))
    (uss_one (us_setF (i := 2) nd (ul_listR (by rfl) T.list (uo 4)))))))
  (uss_one (us_ret (uv 2))))), ?_⟩
  rintro ds Q - ⟨P1, P2, rfl, l1, l2, q⟩
  refine ⟨szL (show 0 ≤ 1000 by decide), szL (show 1 ≤ 1000 by decide), _, rfl, _, .inl rfl, _, rfl, by simp, by simp; omega, ?_⟩
  rw [List.length_map, Int.toNat_natCast]
  refine for_range (fun (z : List (List Nat) × Slot × Slot × Slot × Slot) => [.va (.tup (P1.map oD)), .va (.tup (P2.map oD)), .va (.lst (z.1.map mpD)), z.2.1, z.2.2.1, z.2.2.2.1, z.2.2.2.2]) (fun k z => (∀ m, m ∈ z.1 ↔ MapK P1 P2 k m) ∧ z.1.length ≤ 6 ^ k) ([[]], .no, .no, .no, .no) rfl ⟨fun m => ?_, by decide⟩ (fun k I z hk hj hI => ?_) (fun z hz => ?_)
  · show m ∈ [[]] ↔ _
    rw [List.mem_singleton]
    constructor
    · rintro rfl
      exact ⟨rfl, .nil, fun i j h => by simp at h⟩
    · intro h
      exact List.length_eq_zero_iff.mp h.len
  · obtain ⟨ms, x3, x4, x5, x6⟩ := z
    obtain ⟨h1, h2⟩ := hj
    simp only at h1 h2
    have hk5 : 6 ^ k ≤ 7776 := (show 6 ^ k ≤ 6 ^ 5 from Nat.pow_le_pow_right (by decide) (by omega))
    refine ⟨szL (show 0 ≤ 1000 by decide), _, rfl, _, .inl rfl, ?_⟩
    refine for_inv (fun (z : List (List Nat) × Slot × Slot) => [.va (.tup (P1.map oD)), .va (.tup (P2.map oD)), .va (.lst (ms.map mpD)), .va (.int k), .own (.lst (z.1.map mpD)), z.2.1, z.2.2]) (fun i z => z.1 = (ms.take i).flatMap (gr P1 P2 k)) ([], x5, x6) rfl (by simp) (fun i m I2 z hm hj2 hI2 => ?_) (fun z hz => ?_)
    · obtain ⟨acc, x5, x6⟩ := z
      simp only at hj2
      subst hj2
      have hml := (List.getElem?_eq_some_iff.mp hm).1
      have hmk : MapK P1 P2 k m := (h1 m).mp (List.mem_of_getElem? hm)
      have hfl : ((ms.take i).flatMap (gr P1 P2 k)).length ≤ 46656 := by
        have e1 := flat_len (P1 := P1) (k := k) l2 (ms.take i)
        rw [List.length_take] at e1
        have e2 : min i ms.length * 6 ≤ 7776 * 6 := Nat.mul_le_mul_right 6 (by omega)
        omega
      refine ⟨_, rfl, _, .inl rfl, _, rfl, by simp, by simp; omega, ?_⟩
      rw [List.length_map, Int.toNat_natCast]
      refine for_range (fun (z : List (List Nat) × Slot) => [.va (.tup (P1.map oD)), .va (.tup (P2.map oD)), .va (.lst (ms.map mpD)), .va (.int k), .own (.lst (z.1.map mpD)), .va (mpD m), z.2]) (fun j z => z.1 = (ms.take i).flatMap (gr P1 P2 k) ++ (List.range j).filterMap fun j => if okk P1 P2 k m j = true then some (m ++ [j]) else none) ((ms.take i).flatMap (gr P1 P2 k), x6) rfl (by simp) (fun j I3 z hjj hj3 hI3 => ?_) (fun z hz => ?_)
      · obtain ⟨acc, x6⟩ := z
        simp only at hj3
        subst hj3
        have gk : P1[k]? = some P1[k] := List.getElem?_eq_getElem (by omega)
        have gj : P2[j]? = some P2[j] := List.getElem?_eq_getElem hjj
        have e0 : okk P1 P2 k m j = ((m.isEmpty || decide (m.getLastD 0 < j)) && decide (P1[k] = P2[j])) := by
          unfold okk
          rw [List.getD_eq_getElem?_getD, gk, List.getD_eq_getElem?_getD, gj]
          rfl
        have hal : ((List.range j).filterMap fun j => if okk P1 P2 k m j = true then some (m ++ [j]) else none).length ≤ 6 := by
          have := List.length_filterMap_le (fun j => if okk P1 P2 k m j = true then some (m ++ [j]) else none) (List.range j)
          rw [List.length_range] at this
          omega
        have yes : okk P1 P2 k m j = true → I3 (j + 1) [.va (.tup (P1.map oD)), .va (.tup (P2.map oD)), .va (.lst (ms.map mpD)), .va (.int k), .own (.lst (((ms.take i).flatMap (gr P1 P2 k) ++ (List.range j).filterMap fun j => if okk P1 P2 k m j = true then some (m ++ [j]) else none).map mpD ++ [mpD (m ++ [j])])), .va (mpD m), .va (.int j)] := fun ho => by
          have := hI3 (((ms.take i).flatMap (gr P1 P2 k) ++ (List.range j).filterMap fun j => if okk P1 P2 k m j = true then some (m ++ [j]) else none) ++ [m ++ [j]], .va (.int j)) (by
            rw [List.range_succ, List.filterMap_append, List.append_assoc]
            simp [ho])
          rw [List.map_append] at this
          exact this
        have no : okk P1 P2 k m j = false → I3 (j + 1) [.va (.tup (P1.map oD)), .va (.tup (P2.map oD)), .va (.lst (ms.map mpD)), .va (.int k), .own (.lst (((ms.take i).flatMap (gr P1 P2 k) ++ (List.range j).filterMap fun j => if okk P1 P2 k m j = true then some (m ++ [j]) else none).map mpD)), .va (mpD m), .va (.int j)] := fun ho => by
          exact hI3 ((ms.take i).flatMap (gr P1 P2 k) ++ (List.range j).filterMap fun j => if okk P1 P2 k m j = true then some (m ++ [j]) else none, .va (.int j)) (by
            rw [List.range_succ, List.filterMap_append]
            simp [ho])
        -- points[k] == others[j]
        have tail : ∀ (hb : (m.isEmpty || decide (m.getLastD 0 < j)) = true) (b : Bool), b = decide (P1[k] = P2[j]) → okk P1 P2 k m j = b := fun hb b e => by rw [e0, hb, e]; rfl
        have deqP : deq (oD P1[k]) (oD P2[j]) = decide (P1[k] = P2[j]) := by
          rw [Bool.eq_iff_iff, deq_iff (std_oD _) (std_oD _), decide_eq_true_eq]
          exact ⟨oD_inj, fun h => by rw [h]⟩
        refine ⟨_, rfl, _, .inl rfl, pl_int _ _, pl_int _ _, _, rfl, ?_⟩
        rw [deq_int, List.length_map]
        have fin : (m.isEmpty || decide (m.getLastD 0 < j)) = true → _ := fun hb => tail hb _ deqP
        refine ite_by (b := (((m.length : Nat) : Int) == 0)) (fun hb => ?_) (fun hb => ?_)
        · have hm0 : m = [] := List.length_eq_zero_iff.mp (by simpa using hb)
          refine ite_by (b := true) (fun _ => ?_) (fun h => absurd h (by decide))
          refine ⟨_, rfl, _, rfl, _, rfl, .inl ⟨_, _, .inl rfl, atI_map gk, _, rfl, _, rfl, _, rfl, .inl ⟨_, _, .inl rfl, atI_map gj, pl_oD _ _, pl_oD _ _, _, rfl, ?_⟩⟩⟩
          have hh := fin (by rw [hm0]; rfl)
          refine ite_by (fun hd => ?_) (fun hd => ?_)
          · refine ⟨_, rfl, _, rfl, _, rfl, szL (show 1 ≤ 1000 by decide), _, _, rfl, rfl, szL (by rw [List.length_map, hmk.len]; simp; omega), szT (by rw [List.length_map, List.length_append]; omega), ?_⟩
            have := yes (by rw [hh]; exact hd)
            simp only [mpD, List.map_append] at this ⊢
            exact this
          · exact no (by rw [hh]; exact hd)
        · have hm0 : m ≠ [] := fun z => by rw [z] at hb; exact absurd hb (by decide)
          refine ⟨_, rfl, 1, rfl, -1, rfl, .inl ⟨_, _, .inl rfl, last_at hm0, _, rfl, _, _, rfl, rfl, trivial, _, rfl, ?_⟩⟩
          have elt : decide (((m.getLastD 0 : Nat) : Int) < ((j : Nat) : Int)) = decide (m.getLastD 0 < j) := by simp
          rw [elt]
          refine ite_by (fun hlt => ?_) (fun hlt => ?_)
          · refine ⟨_, rfl, _, rfl, _, rfl, .inl ⟨_, _, .inl rfl, atI_map gk, _, rfl, _, rfl, _, rfl, .inl ⟨_, _, .inl rfl, atI_map gj, pl_oD _ _, pl_oD _ _, _, rfl, ?_⟩⟩⟩
            have hh := fin (by rw [hlt, Bool.or_true])
            refine ite_by (fun hd => ?_) (fun hd => ?_)
            · refine ⟨_, rfl, _, rfl, _, rfl, szL (show 1 ≤ 1000 by decide), _, _, rfl, rfl, szL (by rw [List.length_map, hmk.len]; simp; omega), szT (by rw [List.length_map, List.length_append]; omega), ?_⟩
              have := yes (by rw [hh]; exact hd)
              simp only [mpD, List.map_append] at this ⊢
              exact this
            · exact no (by rw [hh]; exact hd)
          · refine ite_by (b := false) (fun h => absurd h (by decide)) (fun _ => ?_)
            refine no ?_
            rw [e0, hlt, Bool.or_false]
            cases m with
            | nil => exact absurd rfl hm0
            | cons x r => rfl
      · obtain ⟨acc, x6⟩ := z
        simp only at hz
        subst hz
        refine hI2 (_, .va (mpD m), x6) ?_
        simp only
        rw [take_snoc hm, List.flatMap_append]
        simp [gr]
    · obtain ⟨acc, x5, x6⟩ := z
      simp only at hz
      subst hz
      rw [List.take_length]
      refine ⟨_, rfl, ?_⟩
      refine hI (ms.flatMap (gr P1 P2 k), .va (.int k), .own (.lst ((ms.flatMap (gr P1 P2 k)).map mpD)), x5, x6) ⟨fun m => mapK_succ (by omega) h1 m, ?_⟩
      have e1 := flat_len (P1 := P1) (k := k) l2 ms
      have e3 : ms.length * 6 ≤ 6 ^ k * 6 := Nat.mul_le_mul_right 6 h2
      rw [Nat.pow_succ]
      exact Nat.le_trans e1 e3
  · obtain ⟨ms, x3, x4, x5, x6⟩ := z
    obtain ⟨h1, h2⟩ := hz
    simp only at h1 h2
    have h6 : 6 ^ P1.length ≤ 46656 := (show 6 ^ P1.length ≤ 6 ^ 6 from Nat.pow_le_pow_right (by decide) l1)
    exact ⟨_, rfl, q ms (fun m => (h1 m).trans ⟨fun h => ⟨h.len, h.asc, h.pts⟩, fun h => ⟨h.len, h.asc, h.pts⟩⟩) (by omega)⟩
end
end K72

set_option Elab.async false
set_option linter.all false
set_option maxRecDepth 100000
set_option maxHeartbeats 4000000
namespace K72
open PySem L2 U
open PySem.Spec PyProof.Rows
section
variable {P : Program} {w : World} {K : PySem.W.Frag} {mg : Str → Option Value} {base : Heap}
variable {fmaps freaches : Addr} {fdmaps fdreaches : FuncData}
abbrev s_reaches : Stmt := (top 29)
theorem sc_reaches : FnScope ["first", "second", "sense", "one", "kept", "atom", "k", "good"] ["first", "second", "sense"] (defScope s_reaches) := ⟨rfl, rfl, rfl, by decide +kernel, rfl, by decide +kernel, by decide +kernel⟩
theorem filter_all {α : Type} {p : α → Bool} {xs : List α} : ((xs.filter p).length = xs.length) ↔ ∀ x ∈ xs, p x = true := by
  constructor
  · intro h x hx
    have := List.length_filter_eq_length_iff.mp h
    exact this x hx
  · exact fun h => List.length_filter_eq_length_iff.mpr h
def keepF (c2 : PC) (m : List Nat) (a : Atm) : Bool := decide ((a.1, a.2.map (at_ m)) ∈ c2.ats)
theorem eq_tup_nD {xs ys : List Nat} : deq (.tup (xs.map nD)) (.tup (ys.map nD)) = decide (xs = ys) := by
  rw [Bool.eq_iff_iff, deq_iff (std_tup (std_map std_nD _)) (std_tup (std_map std_nD _)), decide_eq_true_eq, D.tup.injEq]
  exact ⟨map_inj' fun _ _ => nD_inj, fun h => by rw [h]⟩
abbrev SReaches : PSp := fun ds Q => ∃ (n0 n1 : Str) (p1 p2 : List Int) (w1 w2 : Nat) (c1 c2 : PC) (sense : Str), ds = [c1.d, c2.d, .str sense] ∧ NOk n0 n1 ∧ POk n0 n1 p1 w1 c1 ∧ POk n0 n1 p2 w2 c2 ∧ w1 ≤ 2 ∧ PyData.strOk sense = true ∧ (sense = "max" ∨ sense = "min") ∧
  ∀ b, (b = true ↔ Reach c1 c2 (sense == "max")) → Q (.bl b)
theorem ok_reaches {f : Addr} {fd : FuncData} (F : L2.Fun K "_law_reaches" "_law_reaches" s_reaches f fd) (T : NB mg) (Dmaps : Def K mg "_law_maps" fmaps fdmaps ["points", "others"]) (Gmaps : FnOk P w K mg base CX0 1 fmaps fdmaps ["points", "others"] (spU K 2 SMaps)) : FnOk P w K mg base CX0 2 f fd ["first", "second", "sense"] (spU K 3 SReaches) := by
  refine okU F sc_reaches rfl fun cdv A outer s H E hr => ?_
  have hu64 := hu64 hr; have hu65 := hu65 hr; have hu1 := hu1 hr; have nd := sc_reaches.nd
  refine ⟨_, (uss_cons (us_for (vs := [3]) PassesOwn.never rfl (ui_seq (u_callD Dmaps Gmaps hr (ua_cons (u_ix (uv 0) u_int (fun _ _ => rfl)) (ua_cons (u_ix (uv 1) u_int (fun _ _ => rfl)) ua_nil)))) (ug nd 3)
   (uss_cons (us_setL (us_lc (i := 4) (own := [("atom", 5)]) rfl nd rfl rfl (sw_true rfl rfl rfl (by decide +kernel)) (ui_seq (u_ix (uv 0) u_int (fun _ _ => rfl))) (blkOk_by (own := [("atom", 5)]) (N := ["first", "second", "sense", "one", "kept", "atom", "k", "good"]) (sc := defScope s_reaches) (by decide +kernel)) (fun _ _ _ _ _ => (ug nd 5)) (fun _ _ _ _ _ => (uts_one (ut_cmp (uin hu65) (u_tup (ua_cons (u_ix (uv 5) u_int (fun _ _ => rfl)) (ua_cons (u_callTy1 uc1_tuple (by rfl) T.tuple boot_tuple (UL.ur (ul_lc (own := [("k", 6)]) rfl nd (ui_seq (u_ix (uv 5) u_int (fun _ _ => rfl))) (blkOk_by (own := [("k", 6)]) (by rfl)) (fun _ _ _ _ _ => (ug nd 6)) (fun _ _ _ _ _ => uts_nil) (fun _ _ _ _ _ => (u_ix (uv 3) (uv 6) (fun _ _ => rfl)))))) ua_nil))) (u_ix (uv 1) u_int (fun _ _ => rfl)) (by rfl)))) (fun _ _ _ _ _ => (uv 5))))
    (uss_cons (us_setE (i := 7) nd (u_cmp uge (u_ix (uv 3) (u_ix (uv 0) u_int (fun _ _ => rfl)) (fun _ _ => rfl)) (u_ix (uv 1) u_int (fun _ _ => rfl)) (nomark _)))
    (uss_cons (us_if (ut_cmp (ueq hu64) (uv 2) u_str (nomark _)) (uss_one (us_setE (i := 7) nd (u_cmp ule (u_ix (uv 3) (u_ix (uv 0) u_int (fun _ _ => rfl)) (fun _ _ => rfl)) (u_ix (uv 1) u_int (fun _ _ => rfl)) (nomark _)))) uss_nil)
    (uss_one (us_if (UW.ut (uw_and (ut_tru (uv 7)) (uw_and (ut_cmp (ueq hu64) (u_callB ucl_len (by rfl) T.len boot_len (ua_cons (uv 4) ua_nil)) (u_callB ucl_len (by rfl) T.len boot_len (ua_cons (u_ix (uv 0) u_int (fun _ _ => rfl)) ua_nil)) (nomark _)) (uw_and1 (ut_cmp (ueq hu64) (u_callTy1 uc1_tuple (by rfl) T.tuple boot_tuple (UL.ur (ul_lc (own := [("k", 6)]) rfl nd (ui_seq (u_ix (uv 0) u_int (fun _ _ => rfl))) (blkOk_by (own := [("k", 6)]) (N := ["first", "second", "sense", "one", "kept", "atom", "k", "good"]) (sc := defScope s_reaches) (by decide +kernel)) (fun _ _ _ _ _ => (ug nd 6)) (fun _ _ _ _ _ => uts_nil) (fun _ _ _ _ _ => (u_ix (uv 3) (uv 6) (fun _ _ => rfl)))))) (u_ix (uv 1) u_int (fun _ _ => rfl)) (nomark _)))))) (uss_one (us_ret u_bl)) uss_nil))))))
  (uss_one (us_ret u_bl))), ?_⟩
  rintro ds Q - ⟨n0, n1, p1, p2, w1, w2, c1, c2, sense, rfl, N, h1, h2, hw, hss, hs, q⟩
  refine ⟨_, rfl, 0, rfl, .inl ⟨_, _, .inl rfl, rfl, _, rfl, 0, rfl, .inl ⟨_, _, .inl rfl, rfl, rfl, c1.pts, c2.pts, rfl, h1.pl, h2.pl, fun ms hms hml => ?_⟩⟩⟩
  refine ⟨_, .inl rfl, ?_⟩
  have hneq : ("max" : Str) ≠ "min" := by decide +kernel
  refine for_inv (fun (z : Slot × Slot × Slot × Slot × Slot) => [.va c1.d, .va c2.d, .va (.str sense), z.1, z.2.1, z.2.2.1, z.2.2.2.1, z.2.2.2.2]) (fun i z => ∀ m ∈ ms.take i, ¬ Win c1 c2 (sense == "max") m) (.no, .no, .no, .no, .no) rfl (by simp) (fun i m I z hm hj hI => ?_) (fun z hz => ?_)
  · obtain ⟨x3, x4, x5, x6, x7⟩ := z
    have hj : ∀ m ∈ ms.take i, ¬ Win c1 c2 (sense == "max") m := hj
    have hmem := List.mem_of_getElem? hm
    have hM := (hms m).mp hmem
    have next : ¬ Win c1 c2 (sense == "max") m → ∀ x4 x5 x6 x7, I (i + 1) [.va c1.d, .va c2.d, .va (.str sense), .va (mpD m), x4, x5, x6, x7] := fun hn x4 x5 x6 x7 => hI (.va (mpD m), x4, x5, x6, x7) fun m' hm' => by
      rw [take_snoc hm] at hm'
      rcases List.mem_append.mp hm' with hm' | hm'
      · exact hj m' hm'
      · rw [List.mem_singleton.mp hm']; exact hn
    have gm : ∀ k, k < c1.pts.length → atI (m.map nD) ((k : Nat) : Int) = some (nD (at_ m k)) := fun k hk => atI_map (at_get (by rw [hM.len]; exact hk))
    refine ⟨_, rfl, 1, rfl, .inl ⟨_, _, .inl rfl, rfl, _, .inr rfl, ?_⟩⟩
    refine lc_map atD (fun a => if keepF c2 m a = true then some a else none) (szT (by have := h1.al; omega)) (fun k a I2 acc ha hz hI2 => ⟨hz, ?_⟩) ?_
    · have hA := h1.ats a (List.mem_of_getElem? ha)
      refine ⟨_, rfl, 0, rfl, .inl ⟨_, _, .inl rfl, rfl, _, rfl, 1, rfl, .inl ⟨_, _, .inl rfl, rfl, _, .inr rfl, ?_⟩⟩⟩
      refine lc_map nD (fun k => some (at_ m k)) ?_ (fun j k I3 acc3 hk hz3 hI3 => ⟨hz3, ?_⟩) ?_
      · rcases hA.ar with ⟨_, x, h⟩ | ⟨_, x, y, h⟩ <;> rw [h] <;> exact szT (by simp)
      · have hlt : k < c1.pts.length := hA.ix k (List.mem_of_getElem? hk)
        exact iteT' (q := I3 (j + 1) acc3) rfl ⟨_, rfl, _, rfl, _, rfl, .inl ⟨_, _, .inl rfl, gm k hlt, hI3⟩⟩
      · rw [fm_some]
        refine ⟨szL (show 2 ≤ 1000 by decide), _, rfl, 1, rfl, .inl ⟨_, _, .inl rfl, rfl, _, .inr rfl, pl_mono2 (pl_atD 0 (a := (a.1, a.2.map (at_ m))) (hA.str N)), plains_iff.mpr (pl_map _ fun b hb => pl_mono2 (pl_atD 0 ((h2.ats b hb).str N))), _, rfl, ?_⟩⟩
        have e : inD (.tup [.str a.1, .tup ((a.2.map (at_ m)).map nD)]) (c2.ats.map atD) = keepF c2 m a := by
          rw [Bool.eq_iff_iff]
          unfold keepF
          rw [decide_eq_true_eq, show D.tup [.str a.1, .tup ((a.2.map (at_ m)).map nD)] = atD (a.1, a.2.map (at_ m)) from rfl, inD_iff (std_atD _) (stds_iff.mpr (std_map std_atD _)), mem_map_inj fun _ _ => atD_inj]
        rw [e]
        refine ite_by (fun hk => ?_) (fun hk => ?_)
        · rw [if_pos hk] at hI2
          exact ⟨_, rfl, hI2⟩
        · have hk : keepF c2 m a = false := hk
          rw [if_neg (by rw [hk]; decide)] at hI2
          exact hI2
    rw [fm_if]
    have hk2 : (c1.ats.filter (keepF c2 m)).map (fun a => a) = c1.ats.filter (keepF c2 m) := List.map_id' _
    rw [hk2]
    -- the pick
    have gp := gm c1.pick h1.pick
    refine ⟨_, rfl, _, rfl, 3, rfl, .inl ⟨_, _, .inl rfl, rfl, _, rfl, .inl ⟨_, _, .inl rfl, gp, _, rfl, 3, rfl, .inl ⟨_, _, .inl rfl, rfl, _, _, rfl, rfl, trivial, ?_⟩⟩⟩⟩
    refine ⟨_, rfl, pl_str _ _ hss, pl_str _ _ (by decide +kernel), _, rfl, ?_⟩
    rw [deq_str]
    refine ite_by (fun hmin => ?_) (fun hmin => ?_)
    · have hmn : sense = "min" := eq_of_beq hmin
      have hmx : (sense == ("max" : Str)) = false := by rw [hmn]; decide +kernel
      have gw : decide (((at_ m c1.pick : Nat) : Int) ≤ ((c2.pick : Nat) : Int)) = true ↔ (if (sense == ("max" : Str)) = true then c2.pick ≤ at_ m c1.pick else at_ m c1.pick ≤ c2.pick) := by
        rw [hmx, decide_eq_true_eq, if_neg (by decide)]
        omega
      refine ⟨_, rfl, _, rfl, 3, rfl, .inl ⟨_, _, .inl rfl, rfl, _, rfl, .inl ⟨_, _, .inl rfl, gp, _, rfl, 3, rfl, .inl ⟨_, _, .inl rfl, rfl, _, _, rfl, rfl, trivial, ?_⟩⟩⟩⟩
      refine ⟨_, rfl, _, rfl, ?_⟩
      refine ite_by (fun hg => ?_) (fun hg => ?_)
      · refine ⟨_, rfl, _, .inr rfl, _, rfl, 1, rfl, .inl ⟨_, _, .inl rfl, rfl, _, .inl rfl, pl_int _ _, pl_int _ _, _, rfl, ?_⟩⟩
        rw [deq_int, List.length_map, List.length_map]
        refine ite_by (fun hl => ?_) (fun hl => ?_)
        · have hl : (c1.ats.filter (keepF c2 m)).length = c1.ats.length := by
            have := eq_of_beq hl
            omega
          have hall := filter_all.mp hl
          refine ⟨_, rfl, 2, rfl, .inl ⟨_, _, .inl rfl, rfl, _, .inr rfl, ?_⟩⟩
          refine lc_map nD (fun h => some (at_ m h)) (szT (by rw [h1.hl]; omega)) (fun j h I3 acc3 hh hz3 hI3 => ⟨hz3, ?_⟩) ?_
          · exact iteT' (q := I3 (j + 1) acc3) rfl ⟨_, rfl, _, rfl, _, rfl, .inl ⟨_, _, .inl rfl, gm h (h1.hds h (List.mem_of_getElem? hh)), hI3⟩⟩
          rw [fm_some]
          refine ⟨_, rfl, 2, rfl, .inl ⟨_, _, .inl rfl, rfl, pl_tm 7 _ fun a _ => pl_nD _ a, pl_tm 7 _ fun a _ => pl_nD _ a, _, rfl, ?_⟩⟩
          rw [eq_tup_nD]
          refine ite_by (fun he => ?_) (fun he => ?_)
          · refine q true ?_
            rw [reach_iff hms]
            refine ⟨fun _ => ⟨m, hmem, fun a ha => of_decide_eq_true (hall a ha), of_decide_eq_true he, gw.mp hg⟩, fun _ => rfl⟩
          · exact next (fun w => absurd w.2.hds (of_decide_eq_false he)) _ _ _ _
        · refine ite_by (b := false) (fun h => absurd h (by decide)) (fun _ => ?_)
          refine next (fun w => ?_) _ _ _ _
          have : (c1.ats.filter (keepF c2 m)).length = c1.ats.length := filter_all.mpr fun a ha => decide_eq_true (w.1 a ha)
          rw [this] at hl
          simp at hl
      · refine ite_by (b := false) (fun h => absurd h (by decide)) (fun _ => ?_)
        refine next (fun w => ?_) _ _ _ _
        rw [gw.mpr w.2.pick] at hg
        cases hg
    · have hmx : (sense == ("max" : Str)) = true := by
        rcases hs with e | e
        · rw [e]; exact beq_self_eq_true _
        · rw [e] at hmin; exact absurd hmin (by decide +kernel)
      have gw : decide (((c2.pick : Nat) : Int) ≤ ((at_ m c1.pick : Nat) : Int)) = true ↔ (if (sense == ("max" : Str)) = true then c2.pick ≤ at_ m c1.pick else at_ m c1.pick ≤ c2.pick) := by
        rw [hmx, decide_eq_true_eq, if_pos rfl]
        omega
      refine ⟨_, rfl, _, rfl, ?_⟩
      refine ite_by (fun hg => ?_) (fun hg => ?_)
      · refine ⟨_, rfl, _, .inr rfl, _, rfl, 1, rfl, .inl ⟨_, _, .inl rfl, rfl, _, .inl rfl, pl_int _ _, pl_int _ _, _, rfl, ?_⟩⟩
        rw [deq_int, List.length_map, List.length_map]
        refine ite_by (fun hl => ?_) (fun hl => ?_)
        · have hl : (c1.ats.filter (keepF c2 m)).length = c1.ats.length := by
            have := eq_of_beq hl
            omega
          have hall := filter_all.mp hl
          refine ⟨_, rfl, 2, rfl, .inl ⟨_, _, .inl rfl, rfl, _, .inr rfl, ?_⟩⟩
          refine lc_map nD (fun h => some (at_ m h)) (szT (by rw [h1.hl]; omega)) (fun j h I3 acc3 hh hz3 hI3 => ⟨hz3, ?_⟩) ?_
          · exact iteT' (q := I3 (j + 1) acc3) rfl ⟨_, rfl, _, rfl, _, rfl, .inl ⟨_, _, .inl rfl, gm h (h1.hds h (List.mem_of_getElem? hh)), hI3⟩⟩
          rw [fm_some]
          refine ⟨_, rfl, 2, rfl, .inl ⟨_, _, .inl rfl, rfl, pl_tm 7 _ fun a _ => pl_nD _ a, pl_tm 7 _ fun a _ => pl_nD _ a, _, rfl, ?_⟩⟩
          rw [eq_tup_nD]
          refine ite_by (fun he => ?_) (fun he => ?_)
          · refine q true ?_
            rw [reach_iff hms]
            refine ⟨fun _ => ⟨m, hmem, fun a ha => of_decide_eq_true (hall a ha), of_decide_eq_true he, gw.mp hg⟩, fun _ => rfl⟩
          · exact next (fun w => absurd w.2.hds (of_decide_eq_false he)) _ _ _ _
        · refine ite_by (b := false) (fun h => absurd h (by decide)) (fun _ => ?_)
          refine next (fun w => ?_) _ _ _ _
          have : (c1.ats.filter (keepF c2 m)).length = c1.ats.length := filter_all.mpr fun a ha => decide_eq_true (w.1 a ha)
          rw [this] at hl
          simp at hl
      · refine ite_by (b := false) (fun h => absurd h (by decide)) (fun _ => ?_)
        refine next (fun w => ?_) _ _ _ _
        rw [gw.mpr w.2.pick] at hg
        cases hg
  · obtain ⟨x3, x4, x5, x6, x7⟩ := z
    have hz : ∀ m ∈ ms.take ms.length, ¬ Win c1 c2 (sense == "max") m := hz
    rw [List.take_length] at hz
    refine q false ?_
    rw [reach_iff hms]
    constructor
    · intro h; cases h
    · rintro ⟨m, hm, hw⟩
      exact absurd hw (hz m hm)
end
end K72

set_option Elab.async false
set_option linter.all false
set_option maxRecDepth 100000
set_option maxHeartbeats 4000000
namespace K72
open PySem L2 U
open PySem.Spec PyProof.Rows
section
variable {P : Program} {w : World} {K : PySem.W.Frag} {mg : Str → Option Value} {base : Heap}
variable {fmaps freaches : Addr} {fdmaps fdreaches : FuncData}
abbrev s_due : Stmt := (top 30)
theorem sc_due : FnScope ["first", "second", "sense", "one"] ["first", "second", "sense"] (defScope s_due) := ⟨rfl, rfl, rfl, by decide +kernel, rfl, by decide +kernel, by decide +kernel⟩
/-- what the law awaits -/
def dueD (sense : Str) (sameC sameW b : Bool) : D :=
  if (sense == "max" || sense == "min") = true then
    if sameC = true then
      if sameW = true then .tup [.str "covers", .bl b, .bl true] else .tup [.str "Mismatch", .str "groups", .bl true]
    else .tup [.str "Mismatch", .str "constants", .bl true]
  else .tup [.str "InvalidKind", .str sense, .bl true]
theorem not_f {b : Bool} (h : (!b) = false) : b = true := by cases b <;> simp_all
theorem not_t {b : Bool} (h : (!b) = true) : b = false := by cases b <;> simp_all
theorem in_kinds (sense : Str) : inD (.str sense) [.str "max", .str "min"] = (sense == "max" || sense == "min") := by
  rw [Bool.eq_iff_iff, inD_iff (std_str _) (by simp [stds, std])]
  simp
theorem some_map (xs : List (Option Int)) : (xs.filterMap fun o => if o.isSome = true then some o else none) = (xs.filterMap id).map some := by
  induction xs with
  | nil => rfl
  | cons o xs ih =>
    cases o with
    | none => simpa using ih
    | some x => simpa using ih
theorem deq_consts {xs ys : List Int} : deq (.lst ((xs.map some).map oD)) (.lst ((ys.map some).map oD)) = decide (xs = ys) := by
  rw [Bool.eq_iff_iff, deq_iff (std_lst (std_map std_oD _)) (std_lst (std_map std_oD _)), decide_eq_true_eq, D.lst.injEq]
  constructor
  · intro h
    exact map_inj' (fun a b h => Option.some.inj h) (map_inj' (fun _ _ => oD_inj) h)
  · intro h
    rw [h]
theorem consts_len {n0 n1 : Str} {p : List Int} {w : Nat} {c : PC} (h : POk n0 n1 p w c) : p.length ≤ 6 := by
  have := List.length_filterMap_le id c.pts
  rw [h.consts] at this
  have := h.pl
  omega
abbrev SDue : PSp := fun ds Q => ∃ (n0 n1 : Str) (p1 p2 : List Int) (w1 w2 : Nat) (c1 c2 : PC) (sense : Str), ds = [c1.d, c2.d, .str sense] ∧ NOk n0 n1 ∧ POk n0 n1 p1 w1 c1 ∧ POk n0 n1 p2 w2 c2 ∧ w1 ≤ 2 ∧ w2 ≤ 2 ∧ PyData.strOk sense = true ∧
  ∀ b, (b = true ↔ Reach c1 c2 (sense == "max")) → Q (dueD sense (decide (p1 = p2)) (decide (w1 = w2)) b)
theorem ok_due {f : Addr} {fd : FuncData} (F : L2.Fun K "_law_due" "_law_due" s_due f fd) (T : NB mg) (Dreaches : Def K mg "_law_reaches" freaches fdreaches ["first", "second", "sense"]) (Greaches : FnOk P w K mg base CX0 2 freaches fdreaches ["first", "second", "sense"] (spU K 3 SReaches)) : FnOk P w K mg base CX0 3 f fd ["first", "second", "sense"] (spU K 3 SDue) := by
  refine okU F sc_due rfl fun cdv A outer s H E hr => ?_
  have hu64 := hu64 hr; have hu65 := hu65 hr; have hu1 := hu1 hr; have nd := sc_due.nd
  refine ⟨_, (uss_cons (us_if (ut_cmp (unotin hu65) (uv 2) (UL.ue (ul_lst (ua_cons u_str (ua_cons u_str ua_nil)))) (by rfl)) (uss_one (us_ret (u_tup (ua_cons u_str (ua_cons (uv 2) (ua_cons u_bl ua_nil)))))) uss_nil)
  (uss_cons (us_if (ut_cmp (une hu64) (UL.ue (ul_lc (own := [("one", 3)]) rfl nd (ui_seq (u_ix (uv 0) u_int (fun _ _ => rfl))) (blkOk_by (own := [("one", 3)]) (N := ["first", "second", "sense", "one"]) (sc := defScope s_due) (by decide +kernel)) (fun _ _ _ _ _ => (ug nd 3)) (fun _ _ _ _ _ => (uts_one (ut_cmp unotN (uv 3) u_non (nomark _)))) (fun _ _ _ _ _ => (uv 3)))) (UL.ue (ul_lc (own := [("one", 3)]) rfl nd (ui_seq (u_ix (uv 1) u_int (fun _ _ => rfl))) (blkOk_by (own := [("one", 3)]) (N := ["first", "second", "sense", "one"]) (sc := defScope s_due) (by decide +kernel)) (fun _ _ _ _ _ => (ug nd 3)) (fun _ _ _ _ _ => (uts_one (ut_cmp unotN (uv 3) u_non (nomark _)))) (fun _ _ _ _ _ => (uv 3)))) (nomark _)) (uss_one (us_ret (u_tup (ua_cons u_str (ua_cons u_str (ua_cons u_bl ua_nil)))))) uss_nil)
  (uss_cons (us_if (ut_cmp (une hu64) (u_callB ucl_len (by rfl) T.len boot_len (ua_cons (u_ix (uv 0) u_int (fun _ _ => rfl)) ua_nil)) (u_callB ucl_len (by rfl) T.len boot_len (ua_cons (u_ix (uv 1) u_int (fun _ _ => rfl)) ua_nil)) (nomark _)) (uss_one (us_ret (u_tup (ua_cons u_str (ua_cons u_str (ua_cons u_bl ua_nil)))))) uss_nil)
  (uss_one (us_ret (u_tup (ua_cons u_str (ua_cons (u_callD Dreaches Greaches hr (ua_cons (uv 0) (ua_cons (uv 1) (ua_cons (uv 2) ua_nil)))) (ua_cons u_bl ua_nil))))))))), ?_⟩
  rintro ds Q - ⟨n0, n1, p1, p2, w1, w2, c1, c2, sense, rfl, N, h1, h2, hw1, hw2, hss, q⟩
  refine ⟨_, rfl, szL (show 2 ≤ 1000 by decide), _, .inl rfl, pl_str _ _ hss, ?_, _, rfl, ?_⟩
  · refine plains_iff.mpr ?_
    intro d hd
    simp only [List.mem_cons, List.not_mem_nil, or_false] at hd
    rcases hd with rfl | rfl <;> exact pl_str _ _ (by decide +kernel)
  rw [in_kinds]
  unfold dueD at q
  refine ite_by (fun hk => ?_) (fun hk => ?_)
  · have hk : (sense == ("max" : Str) || sense == ("min" : Str)) = false := not_t hk
    rw [hk] at q
    simp only [Bool.false_eq_true, if_false] at q
    refine ⟨_, rfl, szL (show 3 ≤ 1000 by decide), ?_⟩
    by_cases hR : Reach c1 c2 (sense == "max")
    · exact q true ⟨fun _ => hR, fun _ => rfl⟩
    · exact q false ⟨fun h => (by cases h), fun h => absurd h hR⟩
  · have hk : (sense == ("max" : Str) || sense == ("min" : Str)) = true := not_f hk
    rw [hk] at q
    simp only [if_true] at q
    refine ⟨_, rfl, 0, rfl, .inl ⟨_, _, .inl rfl, rfl, _, .inr rfl, ?_⟩⟩
    refine lc_map oD (fun o : Option Int => if o.isSome = true then some o else none) (szT (by have := h1.pl; omega)) (fun i o I acc ho hz hI => ⟨hz, ?_⟩) ?_
    · refine ⟨_, rfl, rfl, _, oD_isN _, _, rfl, ?_⟩
      cases o with
      | none => exact iteF' rfl hI
      | some x => exact iteT' rfl ⟨_, rfl, hI⟩
    rw [some_map, h1.consts]
    refine ⟨_, rfl, 0, rfl, .inl ⟨_, _, .inl rfl, rfl, _, .inr rfl, ?_⟩⟩
    refine lc_map oD (fun o : Option Int => if o.isSome = true then some o else none) (szT (by have := h2.pl; omega)) (fun i o I acc ho hz hI => ⟨hz, ?_⟩) ?_
    · refine ⟨_, rfl, rfl, _, oD_isN _, _, rfl, ?_⟩
      cases o with
      | none => exact iteF' rfl hI
      | some x => exact iteT' rfl ⟨_, rfl, hI⟩
    rw [some_map, h2.consts]
    refine ⟨pl_lst (pl_map _ fun a _ => pl_oD 7 a), pl_lst (pl_map _ fun a _ => pl_oD 7 a), _, rfl, ?_⟩
    rw [deq_consts]
    refine ite_by (fun hc => ?_) (fun hc => ?_)
    · have hc : decide (p1 = p2) = false := not_t hc
      rw [hc] at q
      simp only [Bool.false_eq_true, if_false] at q
      refine ⟨szL (show 3 ≤ 1000 by decide), ?_⟩
      by_cases hR : Reach c1 c2 (sense == "max")
      · exact q true ⟨fun _ => hR, fun _ => rfl⟩
      · exact q false ⟨fun h => (by cases h), fun h => absurd h hR⟩
    · have hc : decide (p1 = p2) = true := not_f hc
      rw [hc] at q
      simp only [if_true] at q
      refine ⟨_, rfl, 2, rfl, .inl ⟨_, _, .inl rfl, rfl, _, .inl rfl, _, rfl, 2, rfl, .inl ⟨_, _, .inl rfl, rfl, _, .inl rfl, pl_int _ _, pl_int _ _, _, rfl, ?_⟩⟩⟩
      rw [deq_int, List.length_map, List.length_map, h1.hl, h2.hl]
      have ew : (((w1 : Nat) : Int) == ((w2 : Nat) : Int)) = decide (w1 = w2) := by
        rw [Bool.eq_iff_iff, beq_iff_eq, decide_eq_true_eq]
        omega
      rw [ew]
      refine ite_by (fun hw => ?_) (fun hw => ?_)
      · have hw : decide (w1 = w2) = false := not_t hw
        rw [hw] at q
        simp only [Bool.false_eq_true, if_false] at q
        refine ⟨szL (show 3 ≤ 1000 by decide), ?_⟩
        by_cases hR : Reach c1 c2 (sense == "max")
        · exact q true ⟨fun _ => hR, fun _ => rfl⟩
        · exact q false ⟨fun h => (by cases h), fun h => absurd h hR⟩
      · have hw : decide (w1 = w2) = true := not_f hw
        rw [hw] at q
        simp only [if_true] at q
        refine ⟨_, rfl, _, rfl, _, rfl, rfl, n0, n1, p1, p2, w1, w2, c1, c2, sense, rfl, N, h1, h2, hw1, hss, ?_, fun b hb => ⟨szL (show 3 ≤ 1000 by decide), q b hb⟩⟩
        rcases (Bool.or_eq_true _ _).mp hk with e | e
        · exact .inl (eq_of_beq e)
        · exact .inr (eq_of_beq e)
end
end K72

set_option Elab.async false
set_option linter.all false
set_option maxRecDepth 100000
set_option maxHeartbeats 4000000
namespace K72
open PySem L2 U
open PySem.Spec PyProof.Rows
section
variable {P : Program} {w : World} {K : PySem.W.Frag} {mg : Str → Option Value} {base : Heap}
theorem lookup_putFD (f g : Str) (d : D) : ∀ fs : List (Str × D), (putFD f d fs).lookup g = if g = f then some d else fs.lookup g
  | [] => by
    show ([(f, d)] : List (Str × D)).lookup g = _
    by_cases h : g = f
    · subst h; simp [List.lookup]
    · have hb : (g == f) = false := by simpa using h
      simp [List.lookup, hb, h]
  | (k, z) :: r => by
    show (if k = f then (k, d) :: r else (k, z) :: putFD f d r).lookup g = _
    by_cases hk : k = f
    · subst hk
      rw [if_pos rfl]
      by_cases h : g = k
      · subst h; simp [List.lookup]
      · have hb : (g == k) = false := by simpa using h
        simp [List.lookup, hb, h]
    · rw [if_neg hk]
      by_cases h : g = k
      · subst h
        simp [List.lookup, hk]
      · have hb : (g == k) = false := by simpa using h
        simp only [List.lookup, hb]
        exact lookup_putFD f g d r
theorem putFD_len (f : Str) (d : D) : ∀ fs : List (Str × D), (putFD f d fs).length ≤ fs.length + 1
  | [] => by simp [putFD]
  | (k, z) :: r => by
    show (if k = f then (k, d) :: r else (k, z) :: putFD f d r).length ≤ _
    split
    · simp
    · have := putFD_len f d r
      simp
      omega
/-- a Case's attributes -/
structure CaseF (c : PC) (fs : List (Str × D)) : Prop where
  pts : fs.lookup ("points" : Str) = some (.tup (c.pts.map oD))
  ats : fs.lookup ("atoms" : Str) = some (.tup (c.ats.map atD))
  hds : fs.lookup ("groups" : Str) = some (.tup (c.hds.map nD))
  pick : fs.lookup ("pick" : Str) = some (.int c.pick)
  da : fs.lookup ("different_atoms" : Str) = none
theorem fne : ("points" : Str) ≠ "atoms" ∧ ("points" : Str) ≠ "groups" ∧ ("points" : Str) ≠ "pick" ∧ ("points" : Str) ≠ "form" ∧ ("atoms" : Str) ≠ "groups" ∧ ("atoms" : Str) ≠ "pick" ∧ ("atoms" : Str) ≠ "form" ∧ ("groups" : Str) ≠ "pick" ∧ ("groups" : Str) ≠ "form" ∧ ("pick" : Str) ≠ "form" ∧
    ("different_atoms" : Str) ≠ "points" ∧ ("different_atoms" : Str) ≠ "atoms" ∧ ("different_atoms" : Str) ≠ "groups" ∧ ("different_atoms" : Str) ≠ "pick" ∧ ("different_atoms" : Str) ≠ "form" := by decide +kernel
abbrev s_init : Stmt := (inClass (top 9) 0)
theorem sc_init : FnScope ["self", "points", "atoms", "groups", "pick", "name", "indexes", "codes", "point", "free"] ["self", "points", "atoms", "groups", "pick"] (defScope s_init) := ⟨rfl, rfl, rfl, by decide +kernel, rfl, by decide +kernel, by decide +kernel⟩
abbrev SInit : PSi := fun ds Q => ∃ (n0 n1 : Str) (p : List Int) (w : Nat) (c : PC) (dp da dg : D), ds = [dp, da, dg, .int c.pick] ∧ (dp = .lst (c.pts.map oD) ∨ dp = .tup (c.pts.map oD)) ∧ (da = .lst (c.ats.map atD) ∨ da = .tup (c.ats.map atD)) ∧ (dg = .lst (c.hds.map nD) ∨ dg = .tup (c.hds.map nD)) ∧
  NOk n0 n1 ∧ POk n0 n1 p w c ∧ w ≤ 2 ∧ ∀ fs, CaseF c fs → Q fs
theorem ok_init {f C : Addr} {fd : FuncData} (hF : ∀ {sp : Sp}, (∀ vs H Q E, sp vs H Q E → vs.length = 5) →
      (∀ (cdv : Value) (A : Around) (outer : List Env) (s : Shared) (H : Hp) (vs : List V) (Q : VK) (E : XK), Room 0 (A.deeper (envOfC "Case.__init__" (defScope s_init) s.heap.objs.size f cdv)) → sp vs H Q E →
        ∃ t, PSs (cxOf CX0 P w K mg base ["self", "points", "atoms", "groups", "pick", "name", "indexes", "codes", "point", "free"] "Case.__init__" (defScope s_init) f cdv A outer s H E).nox (defBody s_init) t ∧ t { nx := fun _ H' => Q .non H', rt := Q } (L2.start ["self", "points", "atoms", "groups", "pick", "name", "indexes", "codes", "point", "free"] vs) H) → FnOk P w K mg base CX0 1 f fd ["self", "points", "atoms", "groups", "pick"] sp)
    (T : CaseC K mg C) : FnOk P w K mg base CX0 1 f fd ["self", "points", "atoms", "groups", "pick"] (spI K C 4 SInit) := by
  refine okUI (x := "__init__") (st := s_init) hF rfl (by decide) fun cdv A outer s H E hr => ?_
  have hu64 := hu64 hr; have hu65 := hu65 hr; have hu1 := hu1 hr; have nd := sc_init.nd
  refine ⟨_, (uss_cons (us_fld T.cl T.n_points (ps_fld (pv' 0) (UE.run (u_callTy ucl_tuple (by rfl) T.tuple boot_tuple (ua_cons (uv 1) ua_nil))) rfl))
  (uss_cons (us_fld T.cl T.n_atoms (ps_fld (pv' 0) (UE.run (u_callTy1 uc1_tuple (by rfl) T.tuple boot_tuple (UL.ur (ul_sorted hu65 (by rfl) T.sorted (UL.ur (ul_lc (own := [("name", 5), ("indexes", 6)]) rfl nd (ui_seq (uv 2)) (blkOk_by (own := [("name", 5), ("indexes", 6)]) (N := ["self", "points", "atoms", "groups", "pick", "name", "indexes", "codes", "point", "free"]) (sc := defScope s_init) (by decide +kernel)) (fun _ _ _ _ _ => (ug_tup (m := 2) rfl (ugs_cons (ug nd 5) (ugs_cons (ug nd 6) ugs_nil)))) (fun _ _ _ _ _ => uts_nil) (fun _ _ _ _ _ => (u_tup (ua_cons (uv 5) (ua_cons (u_callTy ucl_tuple (by rfl) T.tuple boot_tuple (ua_cons (uv 6) ua_nil)) ua_nil)))))))))) rfl))
  (uss_cons (us_fld T.cl T.n_groups (ps_fld (pv' 0) (UE.run (u_callTy ucl_tuple (by rfl) T.tuple boot_tuple (ua_cons (uv 3) ua_nil))) rfl))
  (uss_cons (us_fld T.cl T.n_pick (ps_fld (pv' 0) (UE.run (uv 4)) rfl))
  (uss_cons (us_setE (i := 7) nd (u_callTy1 uc1_tuple (by rfl) T.tuple boot_tuple (UL.ur (ul_lc (own := [("point", 8)]) rfl nd (ui_seq (u_fldO T.cl T.n_points (pv' 0))) (blkOk_by (own := [("point", 8)]) (N := ["self", "points", "atoms", "groups", "pick", "name", "indexes", "codes", "point", "free"]) (sc := defScope s_init) (by decide +kernel)) (fun _ _ _ _ _ => (ug nd 8)) (fun _ _ _ _ _ => uts_nil) (fun _ _ _ _ _ => (u_ifExp (ut_cmp uisN (uv 8) u_non (nomark _)) (u_tup ua_nil) (u_tup (ua_cons (uv 8) ua_nil))))))))
  (uss_cons (us_setE (i := 9) nd (u_callB1 uc1_len (by rfl) T.len boot_len (UL.ur (ul_lc (own := [("point", 8)]) rfl nd (ui_seq (u_fldO T.cl T.n_points (pv' 0))) (blkOk_by (own := [("point", 8)]) (N := ["self", "points", "atoms", "groups", "pick", "name", "indexes", "codes", "point", "free"]) (sc := defScope s_init) (by decide +kernel)) (fun _ _ _ _ _ => (ug nd 8)) (fun _ _ _ _ _ => (uts_one (ut_cmp uisN (uv 8) u_non (nomark _)))) (fun _ _ _ _ _ => (uv 8))))))
  (uss_one (us_fld T.cl T.n_form (ps_fld (pv' 0) (UE.run (u_tup (ua_cons (uv 9) (ua_cons (uv 7) (ua_cons (u_fldO T.cl T.n_atoms (pv' 0)) (ua_cons (u_fldO T.cl T.n_groups (pv' 0)) (ua_cons (u_ifExp (ut_cmp uisN (uv 4) u_non (nomark _)) (u_neg u_int) (uv 4)) ua_nil))))))) rfl))))))))), ?_⟩
  rintro ds Q - ⟨n0, n1, p, w, c, dp, da, dg, rfl, hp, ha, hg, N, hc, hw, q⟩
  obtain ⟨f1, f2, f3, f4, f5, f6, f7, f8, f9, f10, f11, f12, f13, f14, f15⟩ := fne
  have hlen : ∀ {fs : List (Str × D)} {n : Nat} (f : Str) (d : D), fs.length ≤ n → (putFD f d fs).length ≤ n + 1 := fun f d h => Nat.le_trans (putFD_len f d _) (by omega)
  have wpt : ∀ {d : D} {xs : List D}, (d = .lst xs ∨ d = .tup xs) → ([d] = [.tup xs] ∨ [d] = [.lst xs]) := fun h => by
    rcases h with rfl | rfl
    · exact .inr rfl
    · exact .inl rfl
  have al := hc.al
  have pl := hc.pl
  have sA : ∀ a ∈ c.ats, PyData.strOk a.1 = true := fun a ha => (hc.ats a ha).str N
  -- self.points
  refine ⟨_, rfl, _, wpt hp, _, rfl, (by decide), ?_⟩
  -- self.atoms
  refine ⟨_, rfl, _, ha, ?_⟩
  refine lc_map atD (fun a : Atm => some a) (szT (by omega)) (fun i a I acc hh hz hI => ⟨hz, ?_⟩) ?_
  · refine ⟨_, rfl, rfl, _, _, rfl, _, _, rfl, rfl, ?_⟩
    exact iteT' (q := I (i + 1) acc) rfl ⟨_, rfl, _, rfl, _, .inl rfl, szL (show 2 ≤ 1000 by decide), hI⟩
  rw [fm_some, List.map_id']
  refine ⟨plains_iff.mpr (pl_map _ fun a ha => pl_mono2 (pl_atD 0 (sA a ha))), allAlike_atoms _, sortable_atoms _, _, rfl, Nat.lt_of_le_of_lt (putFD_len _ _ _) (by decide), ?_⟩
  -- self.groups, self.pick
  rw [hc.sorted]
  refine ⟨_, rfl, _, wpt hg, _, rfl, Nat.lt_of_le_of_lt (hlen _ _ (putFD_len _ _ _)) (by decide), ?_⟩
  refine ⟨_, rfl, _, rfl, Nat.lt_of_le_of_lt (hlen _ _ (hlen _ _ (putFD_len _ _ _))) (by decide), ?_⟩
  have hf4 : (putFD "pick" (.int c.pick) (putFD "groups" (.tup (c.hds.map nD)) (putFD "atoms" (.tup (c.ats.map atD)) (putFD "points" (.tup (c.pts.map oD)) [])))).length ≤ 4 := hlen _ _ (hlen _ _ (hlen _ _ (putFD_len _ _ _)))
  have g1 : (putFD "pick" (.int c.pick) (putFD "groups" (.tup (c.hds.map nD)) (putFD "atoms" (.tup (c.ats.map atD)) (putFD "points" (.tup (c.pts.map oD)) [])))).lookup ("points" : Str) = some (.tup (c.pts.map oD)) := by
    rw [lookup_putFD, if_neg f3, lookup_putFD, if_neg f2, lookup_putFD, if_neg f1, lookup_putFD, if_pos rfl]
  have g2 : (putFD "pick" (.int c.pick) (putFD "groups" (.tup (c.hds.map nD)) (putFD "atoms" (.tup (c.ats.map atD)) (putFD "points" (.tup (c.pts.map oD)) [])))).lookup ("atoms" : Str) = some (.tup (c.ats.map atD)) := by
    rw [lookup_putFD, if_neg f6, lookup_putFD, if_neg f5, lookup_putFD, if_pos rfl]
  have g3 : (putFD "pick" (.int c.pick) (putFD "groups" (.tup (c.hds.map nD)) (putFD "atoms" (.tup (c.ats.map atD)) (putFD "points" (.tup (c.pts.map oD)) [])))).lookup ("groups" : Str) = some (.tup (c.hds.map nD)) := by
    rw [lookup_putFD, if_neg f8, lookup_putFD, if_pos rfl]
  have g4 : (putFD "pick" (.int c.pick) (putFD "groups" (.tup (c.hds.map nD)) (putFD "atoms" (.tup (c.ats.map atD)) (putFD "points" (.tup (c.pts.map oD)) [])))).lookup ("pick" : Str) = some (.int c.pick) := by
    rw [lookup_putFD, if_pos rfl]
  have g5 : (putFD "pick" (.int c.pick) (putFD "groups" (.tup (c.hds.map nD)) (putFD "atoms" (.tup (c.ats.map atD)) (putFD "points" (.tup (c.pts.map oD)) [])))).lookup ("different_atoms" : Str) = none := by
    rw [lookup_putFD, if_neg f14, lookup_putFD, if_neg f13, lookup_putFD, if_neg f12, lookup_putFD, if_neg f11]
    rfl
  generalize putFD "pick" (.int c.pick) (putFD "groups" (.tup (c.hds.map nD)) (putFD "atoms" (.tup (c.ats.map atD)) (putFD "points" (.tup (c.pts.map oD)) []))) = fs at hf4 g1 g2 g3 g4 g5 ⊢
  -- codes
  refine ⟨fs, _, rfl, g1, _, .inr rfl, ?_⟩
  refine lc_map (fun o : Option Int => D.tup (match o with | none => [] | some x => [.int x])) (fun o => some o) (szT (by omega)) (fun i o I acc hh hz hI => ⟨hz, ?_⟩) ?_
  · refine iteT' (q := I (i + 1) acc) rfl ?_
    refine ⟨_, rfl, rfl, _, oD_isN _, _, rfl, ?_⟩
    cases o with
    | none => exact iteT' rfl ⟨szL (show 0 ≤ 1000 by decide), hI⟩
    | some x => exact iteF' rfl ⟨_, rfl, szL (show 1 ≤ 1000 by decide), hI⟩
  -- free
  refine ⟨fs, _, rfl, g1, _, .inr rfl, ?_⟩
  refine lc_map oD (fun o : Option Int => if o.isNone = true then some o else none) (szT (by omega)) (fun i o I acc hh hz hI => ⟨hz, ?_⟩) ?_
  · refine ⟨_, rfl, rfl, _, oD_isN _, _, rfl, ?_⟩
    cases o with
    | none => exact iteT' rfl ⟨_, rfl, hI⟩
    | some x => exact iteF' rfl hI
  -- form
  refine ⟨_, rfl, _, rfl, fs, _, rfl, g2, fs, _, rfl, g3, _, rfl, rfl, false, rfl, _, rfl, ?_⟩
  refine iteF ⟨_, rfl, szL (show 5 ≤ 1000 by decide), fs, rfl, Nat.lt_of_le_of_lt hf4 (by decide), ?_⟩
  refine ⟨_, rfl, q _ ⟨?_, ?_, ?_, ?_, ?_⟩⟩
  · rw [lookup_putFD, if_neg f4]; exact g1
  · rw [lookup_putFD, if_neg f7]; exact g2
  · rw [lookup_putFD, if_neg f9]; exact g3
  · rw [lookup_putFD, if_neg f10]; exact g4
  · rw [lookup_putFD, if_neg f15]; exact g5
end
end K72

set_option Elab.async false
set_option linter.all false
set_option maxRecDepth 100000
set_option maxHeartbeats 4000000
namespace K72
open PySem L2 U
open PySem.Spec PyProof.Rows
section
variable {P : Program} {w : World} {K : PySem.W.Frag} {mg : Str → Option Value} {base : Heap}
/-- an own exception class and its __init__ -/
structure Exn (P : Program) (w : World) (K : PySem.W.Frag) (mg : Str → Option Value) (base : Heap) (x : Str) (C fI : Addr) (fd : FuncData) (arg fld : Str) : Prop where
  O : OexC K C
  iC : PySem.W.findIn K (.ref C) "__init__" = some (some (.ref fI))
  tI : PySem.W.typeIn K (.ref fI) = some (.type "function")
  F : FnOk P w K mg base CX0 1 fI fd ["self", arg] (spX K C fld)
  b : Binds K fd ["self", arg] []
  m : mg x = some (.ref C)
theorem us_raiseX {X : Cx} {W : WX} {x arg fld : Str} {C fI : Addr} {fd : FuncData} {e : Expr} {te : TP} {p pos pos' : Pos} (hc : X.calm = true) (tk : Takes X W) (E : Exn X.prog X.w X.K X.mg X.base x C fI fd arg fld) (hr : Room 2 X.A) (ha : UE X e te) (hg : Gl X x := by rfl) (hdb : (x == ("__debug__" : Str)) = false := by decide)
    (he : starEach [e] X.env = (false, eval e X.env) :: starEach [] X.env := by rfl) (hpl : (backTo pos (starEach [] X.env)).any (·.1) = false := by rfl) :
    US X (.Raise (some (.Call (.Name x p) [e] [] pos)) none pos') (fun P ρ => P.W = W ∧ te ρ fun d => P.xt ρ C [(fld, d)]) := us_raise hc tk E.O E.iC E.tI E.F hr E.b pass0 hg E.m ha hdb he hpl
/-! ### where the constants stand -/
def mkE (P2 : List (Option Int)) (k : Nat) : Option (Key × D) := match P2[k]? with
  | some (some x) => some (.inl x, .int k)
  | _ => none
def mks (P2 : List (Option Int)) (i : Nat) : List (Key × D) := (List.range i).filterMap (mkE P2)
theorem mks_succ (P2 : List (Option Int)) (i : Nat) : mks P2 (i + 1) = mks P2 i ++ (mkE P2 i).toList := by
  unfold mks
  rw [List.range_succ, List.filterMap_append]
  congr 1
theorem mks_val (P2 : List (Option Int)) (x : Int) : ∀ i, i ≤ P2.length → valD (mks P2 i) (.inl x) = if P2.idxOf (some x) < i then some (.int (P2.idxOf (some x) : Nat)) else none
  | 0, _ => by simp [mks, valD]
  | i + 1, h => by
    have hp : P2[i]? = some P2[i] := List.getElem?_eq_getElem (by omega)
    rw [mks_succ]
    by_cases hi : P2[i] = some x
    · have hle : P2.idxOf (some x) ≤ i := by
        by_cases z : P2.idxOf (some x) ≤ i
        · exact z
        · exfalso
          have := List.not_of_lt_findIdx (p := (· == some x)) (xs := P2) (i := i) (by unfold List.idxOf at z; omega)
          simp [hi] at this
      have e : mkE P2 i = some (.inl x, .int i) := by unfold mkE; rw [hp, hi]
      rw [e]
      show valD (mks P2 i ++ [(Sum.inl x, D.int i)]) (.inl x) = _
      rw [valD_snoc, mks_val P2 x i (by omega), if_pos rfl, if_pos (show P2.idxOf (some x) < i + 1 by omega)]
      by_cases hlt : P2.idxOf (some x) < i
      · rw [if_pos hlt]; rfl
      · rw [if_neg hlt]
        have : P2.idxOf (some x) = i := by omega
        rw [this]; rfl
    · have hne : P2.idxOf (some x) ≠ i := fun z => by
        have hl : P2.idxOf (some x) < P2.length := by omega
        have h3 : P2[P2.idxOf (some x)]? = some (some x) := by rw [List.getElem?_eq_getElem hl, List.getElem_idxOf hl]
        rw [z, hp] at h3
        exact hi (Option.some.inj h3)
      have key : valD (mks P2 i ++ (mkE P2 i).toList) (.inl x) = valD (mks P2 i) (.inl x) := by
        unfold mkE
        rw [hp]
        cases e : P2[i] with
        | none => simp
        | some y =>
          show valD (mks P2 i ++ [(Sum.inl y, D.int i)]) (.inl x) = _
          rw [valD_snoc, if_neg (fun z => by cases z; exact hi e)]
          cases valD (mks P2 i) (.inl x) <;> rfl
      rw [key, mks_val P2 x i (by omega)]
      by_cases hlt : P2.idxOf (some x) < i
      · rw [if_pos hlt, if_pos (by omega)]
      · rw [if_neg hlt, if_neg (by omega)]
theorem mks_keys (P2 : List (Option Int)) : ∀ i, i ≤ P2.length → (mks P2 i).map (fun kv => kD kv.1) = ((P2.take i).filterMap id).map D.int
  | 0, _ => by simp [mks]
  | i + 1, h => by
    have hp : P2[i]? = some P2[i] := List.getElem?_eq_getElem (by omega)
    rw [mks_succ, List.map_append, mks_keys P2 i (by omega), take_snoc hp, List.filterMap_append, List.map_append]
    congr 1
    unfold mkE
    rw [hp]
    cases e : P2[i] with
    | none => simp
    | some y => simp [kD]
theorem put_new {tb : List (Key × D)} {k : Key} {d : D} (h : valD tb k = none) : putD tb k d = tb ++ [(k, d)] := by
  unfold putD
  rw [valD_any, h]
  rfl
theorem idx_some {P2 : List (Option Int)} {x : Int} (h : x ∈ P2.filterMap id) : P2.idxOf (some x) < P2.length ∧ P2[P2.idxOf (some x)]? = some (some x) := by
  obtain ⟨k, hk⟩ := mem_const h
  have hm : some x ∈ P2 := List.mem_of_getElem? hk
  have hl := List.idxOf_lt_length_iff.mpr hm
  exact ⟨hl, by rw [List.getElem?_eq_getElem hl, List.getElem_idxOf hl]⟩
def stF (P2 : List (Option Int)) (o : Option Int) : Option Nat := o.map fun x => P2.idxOf (some x)
theorem start_ok {n0 n1 : Str} {p : List Int} {w1 w2 : Nat} {c1 c2 : PC} (h1 : POk n0 n1 p w1 c1) (h2 : POk n0 n1 p w2 c2) : Start c1 c2 (c1.pts.map (stF c2.pts)) := by
  refine ⟨by simp, fun k x hk => ?_, fun k hk => ?_⟩
  · have hx : x ∈ c2.pts.filterMap id := by rw [h2.consts, ← h1.consts]; exact const_mem hk
    exact ⟨_, by rw [List.getElem?_map, hk]; rfl, (idx_some hx).2⟩
  · rw [List.getElem?_map, hk]
    rfl
variable {C fas fan fso fia fda CK fK CM fM : Addr} {fdas fdan fdso fdia fdda fdK fdM : FuncData}
abbrev s_covers : Stmt := (top 16)
theorem sc_covers : FnScope ["case", "other", "kind", "marks", "index", "point", "start", "solution", "places"] ["case", "other", "kind"] (defScope s_covers) := ⟨rfl, rfl, rfl, by decide +kernel, rfl, by decide +kernel, by decide +kernel⟩
abbrev SCov (C CK CM : Addr) : PSx := fun ds Q E => ∃ (n0 n1 : Str) (p1 p2 : List Int) (w1 w2 : Nat) (c1 c2 : PC) (fs1 fs2 : List (Str × D)) (kind : Str), ds = [.obj C fs1, .obj C fs2, .str kind] ∧ CaseF c1 fs1 ∧ CaseF c2 fs2 ∧ NOk n0 n1 ∧ POk n0 n1 p1 w1 c1 ∧ POk n0 n1 p2 w2 c2 ∧ p1.Nodup ∧ p2.Nodup ∧ w1 ≤ 2 ∧ w2 ≤ 2 ∧ PyData.strOk kind = true ∧
  ((kind == "max" || kind == "min") = false → E CK [("kind", .str kind)]) ∧ ((kind == "max" || kind == "min") = true → p1 ≠ p2 → E CM [("what", .str "constants")]) ∧ ((kind == "max" || kind == "min") = true → p1 = p2 → w1 ≠ w2 → E CM [("what", .str "groups")]) ∧
  ((kind == "max" || kind == "min") = true → p1 = p2 → w1 = w2 → ∀ b, (b = true ↔ Reach c1 c2 (kind == "max")) → Q (.bl b))
theorem ok_covers {f : Addr} {fd : FuncData} (F : L2.Fun K "covers" "covers" s_covers f fd) (T : CaseC K mg C) (XInvalidKind : Exn P w K mg base "InvalidKind" CK fK fdK "kind" "kind") (XMismatch : Exn P w K mg base "Mismatch" CM fM fdM "what" "what")
    (Datom_solutions : Def K mg "atom_solutions" fas fdas ["atoms", "start", "tables"]) (Gatom_solutions : FnOk P w K mg base CX0 2 fas fdas ["atoms", "start", "tables"] (spU K 3 fun ds Q => ∃ (ats : List Atm) (st : List (Option Nat)) (tb : List (Key × D)) (rowsOf : Str → List (List Nat)), ds = [.tup (ats.map atD), .tup (st.map onD), .dk tb] ∧ TabOk tb rowsOf ∧
      (∀ a ∈ ats, ∀ i ∈ a.2, i < st.length) ∧ (∀ name, (rowsOf name).length ≤ 5) ∧ ats.length ≤ 5 ∧ Q (.lst ((sols rowsOf ats [st]).map solD))))
    (Datoms_by_name : Def K mg "atoms_by_name" fan fdan ["case"]) (Gatoms_by_name : FnOk P w K mg base CX0 2 fan fdan ["case"] (spU K 1 fun ds Q => ∃ fs ats, ds = [.obj C fs] ∧ CaseAt C fs ats ∧ (∀ a ∈ ats, PyData.strOk a.1 = true) ∧ ats.length ≤ 1000 ∧
    ∀ tb rowsOf, TabOk tb rowsOf → (∀ name row, row ∈ rowsOf name ↔ (name, row) ∈ ats) → (∀ name, (rowsOf name).length ≤ ats.length) → Q (.dk tb)))
    (Dsense_of : Def K mg "sense_of" fso fdso ["kind"]) (Gsense_of : FnOk P w K mg base CX0 1 fso fdso ["kind"] (spU K 1 fun ds Q => ∃ k : Str, ds = [.str k] ∧ PyData.strOk k = true ∧ Q (.int (if k == "max" then 1 else -1))))
    (Dis_ascending : Def K mg "is_ascending" fia fdia ["values"]) (Gis_ascending : FnOk P w K mg base CX0 1 fia fdia ["values"] (spU K 1 fun ds Q => ∃ xs : List Nat, ds = [.tup (xs.map nD)] ∧ xs.length ≤ 1000 ∧ ∀ b, (b = true ↔ xs.Pairwise (· < ·)) → Q (.bl b))) :
    FnOk P w K mg base (L2.CX P w) 3 f fd ["case", "other", "kind"] (spE K 3 (SCov C CK CM)) := by
  refine okUX F sc_covers rfl fun cdv A outer s H E hr tk => ?_
  have hu64 := hu64 hr; have hu65 := hu65 hr; have hu1 := hu1 hr; have nd := sc_covers.nd
  refine ⟨_, (uss_cons (us_if (ut_cmp (unotin hu65) (uv 2) (u_tup (ua_cons u_str (ua_cons u_str ua_nil))) (by rfl)) (uss_one (us_raiseX rfl tk XInvalidKind (hr.mono (by decide)) (uv 2))) uss_nil)
  (uss_cons (us_setE (i := 3) nd (u_dc (own := [("index", 4), ("point", 5)]) rfl nd (ui_enum (by rfl) T.enumerate (u_fld T.cl T.n_points (uv 1))) (blkOk_by (own := [("index", 4), ("point", 5)]) (N := ["case", "other", "kind", "marks", "index", "point", "start", "solution", "places"]) (sc := defScope s_covers) (by decide +kernel)) (fun _ _ _ _ _ => (ug_tup (m := 2) rfl (ugs_cons (ug nd 4) (ugs_cons (ug nd 5) ugs_nil)))) (fun _ _ _ _ _ => (uts_one (ut_cmp unotN (uv 5) u_non (nomark _)))) (fun _ _ _ _ _ => (uv 5)) (fun _ _ _ _ _ => (uv 4))))
  (uss_cons (us_if (ut_cmp (une hu64) (UL.ue (ul_listD rfl (by rfl) T.list (uv 3))) (UL.ue (ul_lc (own := [("point", 5)]) rfl nd (ui_seq (u_fld T.cl T.n_points (uv 0))) (blkOk_by (own := [("point", 5)]) (N := ["case", "other", "kind", "marks", "index", "point", "start", "solution", "places"]) (sc := defScope s_covers) (by decide +kernel)) (fun _ _ _ _ _ => (ug nd 5)) (fun _ _ _ _ _ => (uts_one (ut_cmp unotN (uv 5) u_non (nomark _)))) (fun _ _ _ _ _ => (uv 5)))) (nomark _)) (uss_one (us_raiseX rfl tk XMismatch (hr.mono (by decide)) u_str)) uss_nil)
  (uss_cons (us_if (ut_cmp (une hu64) (u_callB ucl_len (by rfl) T.len boot_len (ua_cons (u_fld T.cl T.n_groups (uv 0)) ua_nil)) (u_callB ucl_len (by rfl) T.len boot_len (ua_cons (u_fld T.cl T.n_groups (uv 1)) ua_nil)) (nomark _)) (uss_one (us_raiseX rfl tk XMismatch (hr.mono (by decide)) u_str)) uss_nil)
  (uss_cons (us_setE (i := 6) nd (u_callTy1 uc1_tuple (by rfl) T.tuple boot_tuple (UL.ur (ul_lc (own := [("point", 5)]) rfl nd (ui_seq (u_fld T.cl T.n_points (uv 0))) (blkOk_by (own := [("point", 5)]) (N := ["case", "other", "kind", "marks", "index", "point", "start", "solution", "places"]) (sc := defScope s_covers) (by decide +kernel)) (fun _ _ _ _ _ => (ug nd 5)) (fun _ _ _ _ _ => uts_nil) (fun _ _ _ _ _ => (u_ifExp (ut_cmp uisN (uv 5) u_non (nomark _)) u_non (u_dget hu1 (uv 3) (uv 5) (fun _ _ => rfl))))))))
  (uss_cons (us_for (vs := [7]) (passes_of rfl) rfl (ui_seq (u_callD Datom_solutions Gatom_solutions hr (ua_cons (u_fld T.cl T.n_atoms (uv 0)) (ua_cons (uv 6) (ua_cons (u_callD Datoms_by_name Gatoms_by_name hr (ua_cons (uv 1) ua_nil)) ua_nil))))) (ug nd 7)
   (uss_cons (us_setE (i := 8) nd (u_ix (uv 7) u_int (fun _ _ => rfl)))
    (uss_one (us_if (UW.ut (uw_and (ut_tru (u_callD Dis_ascending Gis_ascending hr (ua_cons (uv 8) ua_nil))) (uw_and1 (ut_cmp (ueq hu64) (u_callTy1 uc1_tuple (by rfl) T.tuple boot_tuple (UL.ur (ul_lc (own := [("index", 4)]) rfl nd (ui_seq (u_fld T.cl T.n_groups (uv 0))) (blkOk_by (own := [("index", 4)]) (N := ["case", "other", "kind", "marks", "index", "point", "start", "solution", "places"]) (sc := defScope s_covers) (by decide +kernel)) (fun _ _ _ _ _ => (ug nd 4)) (fun _ _ _ _ _ => uts_nil) (fun _ _ _ _ _ => (u_ix (uv 8) (uv 4) (fun _ _ => rfl)))))) (u_fld T.cl T.n_groups (uv 1)) (nomark _))))) (uss_one (us_if (ut_cmp uge (u_op umul (u_callD Dsense_of Gsense_of hr (ua_cons (uv 2) ua_nil)) (u_op usub (u_ix (uv 8) (u_fld T.cl T.n_pick (uv 0)) (fun _ _ => rfl)) (u_fld T.cl T.n_pick (uv 1)))) u_int (nomark _)) (uss_one (us_ret u_bl)) uss_nil)) uss_nil))))
  (uss_one (us_ret u_bl)))))))), ?_⟩
  rintro ds Q Ex - ⟨n0, n1, p1, p2, w1, w2, c1, c2, fs1, fs2, kind, rfl, f1, f2, N, h1, h2, nd1, nd2, hw1, hw2, hk, q1, q2, q3, q4⟩
  refine ⟨_, rfl, szL (show 2 ≤ 1000 by decide), _, .inr rfl, pl_str _ _ hk, ?_, _, rfl, ?_⟩
  · refine plains_iff.mpr ?_
    intro d hd
    simp only [List.mem_cons, List.not_mem_nil, or_false] at hd
    rcases hd with rfl | rfl <;> exact pl_str _ _ (by decide +kernel)
  rw [in_kinds]
  refine ite_by (fun hb => ?_) (fun hb => ?_)
  · exact ⟨rfl, _, rfl, q1 (not_t hb)⟩
  have hb := not_f hb
  -- marks
  refine ⟨_, rfl, fs2, _, rfl, f2.pts, _, .inr rfl, ?_⟩
  refine ⟨fun i acc => acc = mks c2.pts i, by simp [mks], fun i d acc hd ha => ?_, fun acc ha => ?_⟩
  · subst ha
    have hi : i < c2.pts.length := by
      have := (List.getElem?_eq_some_iff.mp hd).1
      rw [enumD_len, List.length_map] at this
      exact this
    have hp : c2.pts[i]? = some c2.pts[i] := List.getElem?_eq_getElem hi
    rw [enumD_get (show (c2.pts.map oD)[i]? = some (oD c2.pts[i]) by rw [List.getElem?_map, hp]; rfl)] at hd
    cases hd
    have hml : (mks c2.pts i).length ≤ 6 := by
      have e1 := List.length_filterMap_le (mkE c2.pts) (List.range i)
      rw [List.length_range] at e1
      have := h2.pl
      exact Nat.le_trans e1 (by omega)
    refine ⟨szT (by omega), _, rfl, rfl, _, _, rfl, _, _, rfl, rfl, ?_⟩
    refine ⟨_, rfl, rfl, _, oD_isN _, _, rfl, ?_⟩
    have es := mks_succ c2.pts i
    unfold mkE at es
    rw [hp] at es
    cases e : c2.pts[i] with
    | none =>
      rw [e] at es
      refine iteF' rfl ?_
      show mks c2.pts i = mks c2.pts (i + 1)
      rw [es]
      simp
    | some x =>
      rw [e] at es hp
      refine iteT' rfl ⟨_, rfl, _, rfl, .inl x, rfl, ?_⟩
      show putD (mks c2.pts i) (.inl x) (.int i) = mks c2.pts (i + 1)
      have hidx : c2.pts.idxOf (some x) = i := const_uniq (by rw [h2.consts]; exact nd2) (idx_some (const_mem hp)).2 hp
      rw [put_new (by rw [mks_val _ _ _ (by omega), if_neg (by omega)]), es]
      rfl
  have hlen2 : (enumD (c2.pts.map oD)).length = c2.pts.length := by rw [enumD_len, List.length_map]
  rw [hlen2] at ha
  subst ha
  -- the constants
  have hkeys : (mks c2.pts c2.pts.length).map (fun kv => kD kv.1) = (p2.map some).map oD := by
    rw [mks_keys _ _ (Nat.le_refl _), List.take_length, h2.consts, List.map_map]
    rfl
  refine ⟨_, rfl, _, rfl, ?_⟩
  refine ⟨_, rfl, fs1, _, rfl, f1.pts, _, .inr rfl, ?_⟩
  refine lc_map oD (fun o : Option Int => if o.isSome = true then some o else none) (szT (by have := h1.pl; omega)) (fun i o I acc ho hz hI => ⟨hz, ?_⟩) ?_
  · refine ⟨_, rfl, rfl, _, oD_isN _, _, rfl, ?_⟩
    cases o with
    | none => exact iteF' rfl hI
    | some x => exact iteT' rfl ⟨_, rfl, hI⟩
  rw [some_map, h1.consts, hkeys]
  refine ⟨pl_lst (pl_map _ fun a _ => pl_oD 7 a), pl_lst (pl_map _ fun a _ => pl_oD 7 a), _, rfl, ?_⟩
  rw [deq_consts]
  refine ite_by (fun hc => ?_) (fun hc => ?_)
  · have : p2 ≠ p1 := of_decide_eq_false (not_t hc)
    exact ⟨rfl, q2 hb (Ne.symm this)⟩
  have hpp : p2 = p1 := of_decide_eq_true (not_f hc)
  subst hpp
  -- the groups
  refine ⟨_, rfl, fs1, _, rfl, f1.hds, _, .inl rfl, _, rfl, fs2, _, rfl, f2.hds, _, .inl rfl, pl_int _ _, pl_int _ _, _, rfl, ?_⟩
  rw [deq_int, List.length_map, List.length_map, h1.hl, h2.hl]
  refine ite_by (fun hw => ?_) (fun hw => ?_)
  · have : w1 ≠ w2 := fun z => by rw [z] at hw; simp at hw
    exact ⟨rfl, q3 hb rfl this⟩
  have hww : w1 = w2 := by
    have := eq_of_beq (not_f hw)
    omega
  subst hww
  have q4 := q4 hb rfl rfl
  -- the start
  refine ⟨_, rfl, fs1, _, rfl, f1.pts, _, .inr rfl, ?_⟩
  refine lc_map onD (fun o : Option Int => some (stF c2.pts o)) (szT (by have := h1.pl; omega)) (fun i o I acc ho hz hI => ⟨hz, ?_⟩) ?_
  · refine iteT' (q := I (i + 1) acc) rfl ?_
    refine ⟨_, rfl, rfl, _, oD_isN _, _, rfl, ?_⟩
    cases o with
    | none => exact iteT' rfl hI
    | some x =>
      have hx : x ∈ c2.pts.filterMap id := by rw [h2.consts, ← h1.consts]; exact const_mem ho
      refine iteF' rfl ⟨_, rfl, _, rfl, _, .inl x, _, rfl, rfl, ?_, hI⟩
      rw [mks_val _ _ _ (Nat.le_refl _), if_pos (idx_some hx).1]
      rfl
  rw [fm_some]
  have hS := start_ok (c1 := c1) (c2 := c2) h1 h2
  generalize c1.pts.map (stF c2.pts) = st at hS ⊢
  have s1 : ∀ a ∈ c1.ats, PyData.strOk a.1 = true := fun a ha => (h1.ats a ha).str N
  have s2 : ∀ a ∈ c2.ats, PyData.strOk a.1 = true := fun a ha => (h2.ats a ha).str N
  -- the search
  refine ⟨_, rfl, fs1, _, rfl, f1.ats, _, rfl, _, rfl, rfl, fs2, c2.ats, rfl, ⟨f2.ats, f2.da⟩, s2, by have := h2.al; omega, fun tb rowsOf ht hr hrl => ?_⟩
  have R : Rows c2 rowsOf := ⟨hr, hrl⟩
  refine ⟨rfl, c1.ats, st, tb, rowsOf, rfl, ht, fun a ha i hi => by rw [hS.len]; exact (h1.ats a ha).ix i hi, fun name => Nat.le_trans (hrl name) h2.al, h1.al, ?_⟩
  have hiff := cov_iff (mx := kind == "max") N nd1 h1 h2 R hS
  have full : ∀ us ∈ sols rowsOf c1.ats [st], ∃ m : List Nat, us = m.map some ∧ m.length = c1.pts.length := fun us hus => by
    obtain ⟨m, e, hl, _⟩ := sol_full N h1 h2 R hS hus
    exact ⟨m, e, hl⟩
  unfold Cov at hiff
  generalize sols rowsOf c1.ats [st] = ss at hiff full ⊢
  refine ⟨_, .inl rfl, ?_⟩
  have eon : ∀ m : List Nat, (m.map some).map onD = m.map nD := fun m => by rw [List.map_map]; rfl
  refine for_inv (fun (z : Slot × Slot) => [.va (.obj C fs1), .va (.obj C fs2), .va (.str kind), .va (.dk (mks c2.pts c2.pts.length)), .no, .no, .va (.tup (st.map onD)), z.1, z.2]) (fun i z => ∀ m : List Nat, m.map some ∈ ss.take i → ¬ (m.Pairwise (· < ·) ∧ Good c1 c2 (kind == "max") m)) (.no, .no) rfl (by simp) (fun i us I z hu hj hI => ?_) (fun z hz => ?_)
  · obtain ⟨x7, x8⟩ := z
    have hj : ∀ m : List Nat, m.map some ∈ ss.take i → ¬ (m.Pairwise (· < ·) ∧ Good c1 c2 (kind == "max") m) := hj
    have hmem := List.mem_of_getElem? hu
    obtain ⟨m, rfl, hml⟩ := full us hmem
    have next : ¬ (m.Pairwise (· < ·) ∧ Good c1 c2 (kind == "max") m) → I (i + 1) [.va (.obj C fs1), .va (.obj C fs2), .va (.str kind), .va (.dk (mks c2.pts c2.pts.length)), .no, .no, .va (.tup (st.map onD)), .va (solD (m.map some)), .va (.tup ((m.map some).map onD))] := fun hn => hI (.va (solD (m.map some)), .va (.tup ((m.map some).map onD))) fun m' hm' => by
      rw [take_snoc hu] at hm'
      rcases List.mem_append.mp hm' with hm' | hm'
      · exact hj m' hm'
      · have : m' = m := map_inj' (fun a b h => Option.some.inj h) (List.mem_singleton.mp hm')
        rw [this]; exact hn
    have gm : ∀ k, k < c1.pts.length → atI ((m.map some).map onD) ((k : Nat) : Int) = some (nD (at_ m k)) := fun k hk => by
      rw [eon]
      exact atI_map (at_get (by rw [hml]; exact hk))
    refine ⟨_, rfl, 0, rfl, .inl ⟨_, _, .inl rfl, rfl, ?_⟩⟩
    refine ⟨_, rfl, rfl, m, by rw [eon], by rw [hml]; have := h1.pl; omega, fun b hasc => ⟨b, rfl, ?_⟩⟩
    refine ite_by (fun hb1 => ?_) (fun hb1 => ?_)
    · have asc := hasc.mp hb1
      refine ⟨_, rfl, fs1, _, rfl, f1.hds, _, .inr rfl, ?_⟩
      refine lc_map nD (fun h => some (at_ m h)) (szT (by rw [h1.hl]; omega)) (fun j h I3 acc3 hh hz3 hI3 => ⟨hz3, ?_⟩) ?_
      · exact iteT' (q := I3 (j + 1) acc3) rfl ⟨_, rfl, _, rfl, _, rfl, .inl ⟨_, _, .inl rfl, gm h (h1.hds h (List.mem_of_getElem? hh)), hI3⟩⟩
      rw [fm_some]
      refine ⟨_, rfl, fs2, _, rfl, f2.hds, pl_tm 7 _ fun a _ => pl_nD _ a, pl_tm 7 _ fun a _ => pl_nD _ a, _, rfl, ?_⟩
      rw [eq_tup_nD]
      refine ite_by (fun he => ?_) (fun he => ?_)
      · have he := of_decide_eq_true he
        refine ⟨_, rfl, rfl, kind, rfl, hk, _, rfl, _, rfl, fs1, _, rfl, f1.pick, _, rfl, .inl ⟨_, _, .inl rfl, gm c1.pick h1.pick, _, rfl, fs2, _, rfl, f2.pick, _, _, rfl, rfl, trivial, _, _, rfl, rfl, ?_, _, _, rfl, rfl, trivial, _, rfl, ?_⟩⟩
        · refine .inl ?_
          cases (kind == ("max" : Str)) <;> decide
        · have gw : decide ((0 : Int) ≤ (if (kind == ("max" : Str)) = true then 1 else -1) * (((at_ m c1.pick : Nat) : Int) - ((c2.pick : Nat) : Int))) = true ↔ (if (kind == ("max" : Str)) = true then c2.pick ≤ at_ m c1.pick else at_ m c1.pick ≤ c2.pick) := by
            rw [decide_eq_true_eq]
            cases (kind == ("max" : Str)) with
            | true =>
              rw [if_pos rfl, if_pos rfl]
              omega
            | false =>
              rw [if_neg (by decide), if_neg (by decide)]
              omega
          refine ite_by (fun hg => ?_) (fun hg => ?_)
          · refine q4 true ?_
            rw [← hiff]
            exact ⟨fun _ => ⟨m, hmem, asc, he, gw.mp hg⟩, fun _ => rfl⟩
          · refine next fun z => ?_
            have hg : decide ((0 : Int) ≤ (if (kind == ("max" : Str)) = true then 1 else -1) * (((at_ m c1.pick : Nat) : Int) - ((c2.pick : Nat) : Int))) = false := hg
            rw [gw.mpr z.2.pick] at hg
            cases hg
      · exact next fun z => absurd z.2.hds (of_decide_eq_false he)
    · refine ite_by (b := false) (fun h => absurd h (by decide)) (fun _ => ?_)
      refine next fun z => ?_
      rw [hasc.mpr z.1] at hb1
      cases hb1
  · obtain ⟨x7, x8⟩ := z
    have hz : ∀ m : List Nat, m.map some ∈ ss.take ss.length → ¬ (m.Pairwise (· < ·) ∧ Good c1 c2 (kind == "max") m) := hz
    rw [List.take_length] at hz
    refine q4 false ?_
    rw [← hiff]
    constructor
    · intro h; cases h
    · rintro ⟨m, hm, ha, hg⟩
      exact absurd ⟨ha, hg⟩ (hz m hm)
end
end K72

set_option Elab.async false
set_option linter.all false
set_option maxRecDepth 100000
set_option maxHeartbeats 4000000
namespace K72
open PySem L2 U
open PySem.Spec PyProof.Rows
section
variable {P : Program} {w : World} {K : PySem.W.Frag} {mg : Str → Option Value} {base : Heap}
variable {C CK CM CME fcov fsh fdue fseen fin_ : Addr} {fdcov fdsh fddue fdseen fdin : FuncData}
theorem lk1 {x : Str} {d : D} : ([(x, d)] : List (Str × D)).lookup x = some d := by simp [List.lookup]
/-- what an except suite finds of the exception -/
structure Cat (K : PySem.W.Frag) (C CME : Addr) (fld : Str) : Prop where
  xf : XfC K C
  nf : PySem.W.findIn K (.ref C) fld = some none
  ex : ExcC K C
  k1 : PySem.W.kitOne K (.ref C) (.ref CME) = some true
  k2 : PySem.W.kitOne K (.ref C) (.type "ValueError") = some true
abbrev s_shown : Stmt := (top 31)
theorem sc_shown : FnScope ["case", "other", "sense", "told", "e"] ["case", "other", "sense"] (defScope s_shown) := ⟨rfl, rfl, rfl, by decide +kernel, rfl, by decide +kernel, by decide +kernel⟩
abbrev SShown (C : Addr) : PSp := fun ds Q => ∃ (n0 n1 : Str) (p1 p2 : List Int) (w1 w2 : Nat) (c1 c2 : PC) (fs1 fs2 : List (Str × D)) (kind : Str), ds = [.obj C fs1, .obj C fs2, .str kind] ∧ CaseF c1 fs1 ∧ CaseF c2 fs2 ∧ NOk n0 n1 ∧ POk n0 n1 p1 w1 c1 ∧ POk n0 n1 p2 w2 c2 ∧ p1.Nodup ∧ p2.Nodup ∧ w1 ≤ 2 ∧ w2 ≤ 2 ∧ PyData.strOk kind = true ∧
  ∀ b, (b = true ↔ Reach c1 c2 (kind == "max")) → Q (dueD kind (decide (p1 = p2)) (decide (w1 = w2)) b)
theorem ok_shown {f : Addr} {fd : FuncData} (F : L2.Fun K "_law_shown" "_law_shown" s_shown f fd) (T : NB mg) (Dcovers : Def K mg "covers" fcov fdcov ["case", "other", "kind"]) (Gcovers : FnOk P w K mg base (L2.CX P w) 3 fcov fdcov ["case", "other", "kind"] (spE K 3 (SCov C CK CM)))
    (mK : mg "InvalidKind" = some (.ref CK)) (mM : mg "Mismatch" = some (.ref CM)) (mME : mg "MostsError" = some (.ref CME)) (catK : Cat K CK CME "kind") (catM : Cat K CM CME "what")
    (xKK : PySem.W.exmOne K (.ref CK) (.ref CK) = some true) (xMK : PySem.W.exmOne K (.ref CM) (.ref CK) = some false) (xMM : PySem.W.exmOne K (.ref CM) (.ref CM) = some true) (kb : PySem.W.kitOne K (.type "bool") (.type "bool") = some true) :
    FnOk P w K mg base CX0 4 f fd ["case", "other", "sense"] (spU K 3 (SShown C)) := by
  refine okU F sc_shown rfl fun cdv A outer s H E hr => ?_
  have hu64 := hu64 hr; have hu65 := hu65 hr; have hu1 := hu1 hr; have nd := sc_shown.nd
  refine ⟨_, uss_cons (us_try (hs := [⟨CK, 4, _⟩, ⟨CM, 4, _⟩]) rfl rfl nd takes0
      (fun W pn xe tk hp => uss_one (us_setX (i := 3) (ps_set (i := 3) nd rfl (.inl rfl) (pe_callS Gcovers hr (by rfl) Dcovers.mg Dcovers.kp Dcovers.b (fun σ => passAt tk σ) (UA.run (ua_cons (uv 0) (ua_cons (uv 1) (ua_cons (uv 2) ua_nil))))))))
      (hds_cons rfl rfl ⟨by rfl, by decide, .inl mK⟩ (fun a oe C dd pn hz hf => (uss_one (us_ret (u_tup (ua_cons u_str (ua_cons (u_xf hz hf (uv 4)) (ua_cons (u_and (u_callB (call_isEx hz hf) (by rfl) T.isinstance boot_isinstance (ua_cons (uv 4) (ua_cons (u_cls (by rfl) mME) ua_nil))) (u_one (u_callB (call_isEx hz hf) (by rfl) T.isinstance boot_isinstance (ua_cons (uv 4) (ua_cons (u_bcls (by rfl) T.ve PyProof.Rows.Boot.«ValueError») ua_nil))))) ua_nil)))))))
        (hds_cons rfl rfl ⟨by rfl, by decide, .inl mM⟩ (fun a oe C dd pn hz hf => (uss_one (us_ret (u_tup (ua_cons u_str (ua_cons (u_xf hz hf (uv 4)) (ua_cons (u_and (u_callB (call_isEx hz hf) (by rfl) T.isinstance boot_isinstance (ua_cons (uv 4) (ua_cons (u_cls (by rfl) mME) ua_nil))) (u_one (u_callB (call_isEx hz hf) (by rfl) T.isinstance boot_isinstance (ua_cons (uv 4) (ua_cons (u_bcls (by rfl) T.ve PyProof.Rows.Boot.«ValueError») ua_nil))))) ua_nil))))))) .nil)))
    (uss_one (us_ret (u_tup (ua_cons u_str (ua_cons (uv 3) (ua_cons (u_callB call_isPl (by rfl) T.isinstance boot_isinstance (ua_cons (uv 3) (ua_cons (u_bcls (x := "bool") (by rfl) T.bool boot_bool) ua_nil))) ua_nil)))))), ?_⟩
  rintro ds Q - ⟨n0, n1, p1, p2, w1, w2, c1, c2, fs1, fs2, kind, rfl, f1, f2, N, h1, h2, nd1, nd2, hw1, hw2, hk, q⟩
  refine ⟨rfl, fun W' => ⟨rfl, _, rfl, _, rfl, _, rfl, rfl, n0, n1, p1, p2, w1, w2, c1, c2, fs1, fs2, kind, rfl, f1, f2, N, h1, h2, nd1, nd2, hw1, hw2, hk, fun hb => ?_, fun hb hp => ?_, fun hb hp hw => ?_, fun hb hp hw b hr => ?_⟩⟩
  · have hq : Q (.tup [.str "InvalidKind", .str kind, .bl true]) := by
      unfold dueD at q
      rw [hb] at q
      simp only [Bool.false_eq_true, if_false] at q
      by_cases hR : Reach c1 c2 (kind == "max")
      · exact q true ⟨fun _ => hR, fun _ => rfl⟩
      · exact q false ⟨fun h => (by cases h), fun h => absurd h hR⟩
    refine ⟨(show 4 < 5 by decide), true, xKK, fun _ a dd => ?_, (fun h => nomatch h)⟩
    refine ⟨catK.xf, catK.nf, _, rfl, _, _, rfl, lk1, _, rfl, ⟨catK.ex, _, _, _, _, rfl, .ref, catK.k1, true, rfl, ?_⟩⟩
    exact iteT ⟨_, rfl, catK.ex, _, _, _, _, rfl, .ty, catK.k2, szL (show 3 ≤ 1000 by decide), hq⟩
  · have hq : Q (.tup [.str "Mismatch", .str "constants", .bl true]) := by
      unfold dueD at q
      rw [hb, show decide (p1 = p2) = false from decide_eq_false hp] at q
      simp only [if_true, Bool.false_eq_true, if_false] at q
      by_cases hR : Reach c1 c2 (kind == "max")
      · exact q true ⟨fun _ => hR, fun _ => rfl⟩
      · exact q false ⟨fun h => (by cases h), fun h => absurd h hR⟩
    refine ⟨(show 4 < 5 by decide), false, xMK, (fun h => nomatch h), fun _ => ⟨(show 4 < 5 by decide), true, xMM, fun _ a dd => ?_, (fun h => nomatch h)⟩⟩
    refine ⟨catM.xf, catM.nf, _, rfl, _, _, rfl, lk1, _, rfl, ⟨catM.ex, _, _, _, _, rfl, .ref, catM.k1, true, rfl, ?_⟩⟩
    exact iteT ⟨_, rfl, catM.ex, _, _, _, _, rfl, .ty, catM.k2, szL (show 3 ≤ 1000 by decide), hq⟩
  · have hq : Q (.tup [.str "Mismatch", .str "groups", .bl true]) := by
      unfold dueD at q
      rw [hb, show decide (p1 = p2) = true from decide_eq_true hp, show decide (w1 = w2) = false from decide_eq_false hw] at q
      simp only [if_true, Bool.false_eq_true, if_false] at q
      by_cases hR : Reach c1 c2 (kind == "max")
      · exact q true ⟨fun _ => hR, fun _ => rfl⟩
      · exact q false ⟨fun h => (by cases h), fun h => absurd h hR⟩
    refine ⟨(show 4 < 5 by decide), false, xMK, (fun h => nomatch h), fun _ => ⟨(show 4 < 5 by decide), true, xMM, fun _ a dd => ?_, (fun h => nomatch h)⟩⟩
    refine ⟨catM.xf, catM.nf, _, rfl, _, _, rfl, lk1, _, rfl, ⟨catM.ex, _, _, _, _, rfl, .ref, catM.k1, true, rfl, ?_⟩⟩
    exact iteT ⟨_, rfl, catM.ex, _, _, _, _, rfl, .ty, catM.k2, szL (show 3 ≤ 1000 by decide), hq⟩
  · unfold dueD at q
    rw [hb, show decide (p1 = p2) = true from decide_eq_true hp, show decide (w1 = w2) = true from decide_eq_true hw] at q
    simp only [if_true] at q
    exact ⟨_, rfl, _, rfl, _, _, _, _, rfl, rfl, kb, szL (show 3 ≤ 1000 by decide), q b hr⟩
end
end K72

set_option Elab.async false
set_option linter.all false
set_option maxRecDepth 100000
set_option maxHeartbeats 4000000
namespace K72
open PySem L2 U
open PySem.Spec PyProof.Rows
section
variable {P : Program} {w : World} {K : PySem.W.Frag} {mg : Str → Option Value} {base : Heap}
variable {C CK CM CME fshown fdue fseen finit fsource fdraw fnames fpool fdrawn fwider fasked : Addr} {fdshown fddue fdseen fdinit fdsource fddraw fdnames fdpool fddrawn fdwider fdasked : FuncData}
abbrev s_asked : Stmt := (top 32)
theorem sc_asked : FnScope ["first", "second", "sense", "case", "other"] ["first", "second", "sense"] (defScope s_asked) := ⟨rfl, rfl, rfl, by decide +kernel, rfl, by decide +kernel, by decide +kernel⟩
theorem deq_refl {n : Nat} {d : D} (hn : n ≤ 60) (h : U.plain n d = true) : deq d d = true := PySem.SeqAt.eqv_refl d.py (plain_lay n d h).1
theorem pl_due {kind : Str} {a b c : Bool} (h : PyData.strOk kind = true) : U.plain 8 (dueD kind a b c) = true := by
  have k3 : ∀ x y z : D, U.plain 7 x = true → U.plain 7 y = true → U.plain 7 z = true → U.plain 8 (.tup [x, y, z]) = true := fun x y z hx hy hz => pl_tup (by
    intro d hd
    simp only [List.mem_cons, List.not_mem_nil, or_false] at hd
    rcases hd with rfl | rfl | rfl <;> assumption)
  unfold dueD
  split
  · split
    · split
      · exact k3 _ _ _ (pl_str _ _ (by decide +kernel)) (pl_bl _ _) (pl_bl _ _)
      · exact k3 _ _ _ (pl_str _ _ (by decide +kernel)) (pl_str _ _ (by decide +kernel)) (pl_bl _ _)
    · exact k3 _ _ _ (pl_str _ _ (by decide +kernel)) (pl_str _ _ (by decide +kernel)) (pl_bl _ _)
  · exact k3 _ _ _ (pl_str _ _ (by decide +kernel)) (pl_str _ _ h) (pl_bl _ _)
abbrev SAsked : PSp := fun ds Q => ∃ (n0 n1 : Str) (p1 p2 : List Int) (w1 w2 : Nat) (c1 c2 : PC) (kind : Str), ds = [c1.d, c2.d, .str kind] ∧ NOk n0 n1 ∧ POk n0 n1 p1 w1 c1 ∧ POk n0 n1 p2 w2 c2 ∧ p1.Nodup ∧ p2.Nodup ∧ w1 ≤ 2 ∧ w2 ≤ 2 ∧ PyData.strOk kind = true ∧ Q (.bl true)
abbrev SSeen (C : Addr) : PSp := fun ds Q => ∃ fs p a g k, ds = [.obj C fs] ∧ fs.lookup ("points" : Str) = some p ∧ fs.lookup ("atoms" : Str) = some a ∧ fs.lookup ("groups" : Str) = some g ∧ fs.lookup ("pick" : Str) = some k ∧ Q (.tup [p, a, g, k])
theorem ok_asked {f : Addr} {fd : FuncData} (F : L2.Fun K "_law_asked" "_law_asked" s_asked f fd) (T : CaseC K mg C) (Mk_ : Mk K C finit) (Ginit : FnOk P w K mg base CX0 1 finit fdinit ["self", "points", "atoms", "groups", "pick"] (spI K C 4 SInit)) (mgC : mg "Case" = some (.ref C)) (binit : Binds K fdinit ["self", "points", "atoms", "groups", "pick"] [])
    (Dshown : Def K mg "_law_shown" fshown fdshown ["case", "other", "sense"]) (Gshown : FnOk P w K mg base CX0 4 fshown fdshown ["case", "other", "sense"] (spU K 3 (SShown C))) (Ddue : Def K mg "_law_due" fdue fddue ["first", "second", "sense"]) (Gdue : FnOk P w K mg base CX0 3 fdue fddue ["first", "second", "sense"] (spU K 3 SDue))
    (Dseen : Def K mg "_law_seen" fseen fdseen ["case"]) (Gseen : FnOk P w K mg base CX0 1 fseen fdseen ["case"] (spU K 1 (SSeen C))) : FnOk P w K mg base CX0 5 f fd ["first", "second", "sense"] (spU K 3 SAsked) := by
  refine okU F sc_asked rfl fun cdv A outer s H E hr => ?_
  have hu64 := hu64 hr; have hu65 := hu65 hr; have hu1 := hu1 hr; have nd := sc_asked.nd
  refine ⟨_, (uss_cons (us_setE (i := 3) nd (u_make Mk_ Ginit (hr.mono (by decide)) (by rfl) mgC binit (ua_cons (UL.ue (ul_list (by rfl) T.list (u_ix (uv 0) u_int (fun _ _ => rfl)))) (ua_cons (UL.ue (ul_list (by rfl) T.list (u_ix (uv 0) u_int (fun _ _ => rfl)))) (ua_cons (UL.ue (ul_list (by rfl) T.list (u_ix (uv 0) u_int (fun _ _ => rfl)))) (ua_cons (u_ix (uv 0) u_int (fun _ _ => rfl)) ua_nil))))))
  (uss_cons (us_setE (i := 4) nd (u_make Mk_ Ginit (hr.mono (by decide)) (by rfl) mgC binit (ua_cons (u_ix (uv 1) u_int (fun _ _ => rfl)) (ua_cons (u_ix (uv 1) u_int (fun _ _ => rfl)) (ua_cons (u_ix (uv 1) u_int (fun _ _ => rfl)) (ua_cons (u_ix (uv 1) u_int (fun _ _ => rfl)) ua_nil))))))
  (uss_cons (us_if (ut_cmp (une hu64) (u_callD Dshown Gshown hr (ua_cons (uv 3) (ua_cons (uv 4) (ua_cons (uv 2) ua_nil)))) (u_callD Ddue Gdue hr (ua_cons (uv 0) (ua_cons (uv 1) (ua_cons (uv 2) ua_nil)))) (nomark _)) (uss_one (us_ret u_bl)) uss_nil)
  (uss_one (us_ret (u_and (u_cmp (ueq hu64) (u_callD Dseen Gseen hr (ua_cons (uv 3) ua_nil)) (uv 0) (nomark _)) (u_one (u_cmp (ueq hu64) (u_callD Dseen Gseen hr (ua_cons (uv 4) ua_nil)) (uv 1) (nomark _))))))))), ?_⟩
  rintro ds Q - ⟨n0, n1, p1, p2, w1, w2, c1, c2, kind, rfl, N, h1, h2, nd1, nd2, hw1, hw2, hk, q⟩
  have pc : ∀ {c : PC} {p : List Int} {w : Nat}, POk n0 n1 p w c → U.plain 8 c.d = true := fun h => plain_mono (pl_pc 0 fun a ha => (h.ats a ha).str N) (by decide)
  refine ⟨_, rfl, 0, rfl, .inl ⟨_, _, .inl rfl, rfl, _, .inl rfl, _, rfl, 1, rfl, .inl ⟨_, _, .inl rfl, rfl, _, .inl rfl, _, rfl, 2, rfl, .inl ⟨_, _, .inl rfl, rfl, _, .inl rfl, _, rfl, 3, rfl, .inl ⟨_, _, .inl rfl, rfl, ?_⟩⟩⟩⟩⟩
  refine ⟨rfl, n0, n1, p1, w1, c1, _, _, _, rfl, .inl rfl, .inl rfl, .inl rfl, N, h1, hw1, fun fs1 f1 => ?_⟩
  refine ⟨_, rfl, 0, rfl, .inl ⟨_, _, .inl rfl, rfl, _, rfl, 1, rfl, .inl ⟨_, _, .inl rfl, rfl, _, rfl, 2, rfl, .inl ⟨_, _, .inl rfl, rfl, _, rfl, 3, rfl, .inl ⟨_, _, .inl rfl, rfl, ?_⟩⟩⟩⟩⟩
  refine ⟨rfl, n0, n1, p2, w2, c2, _, _, _, rfl, .inr rfl, .inr rfl, .inr rfl, N, h2, hw2, fun fs2 f2 => ?_⟩
  refine ⟨_, rfl, _, rfl, _, rfl, rfl, n0, n1, p1, p2, w1, w2, c1, c2, fs1, fs2, kind, rfl, f1, f2, N, h1, h2, nd1, nd2, hw1, hw2, hk, fun b hb => ?_⟩
  refine ⟨_, rfl, _, rfl, _, rfl, rfl, n0, n1, p1, p2, w1, w2, c1, c2, kind, rfl, N, h1, h2, hw1, hw2, hk, fun b' hb' => ?_⟩
  have ebb : b = b' := by
    rw [Bool.eq_iff_iff, hb, hb']
  subst ebb
  refine ⟨pl_due hk, pl_due hk, _, rfl, ?_⟩
  rw [deq_refl (n := 8) (by decide) (pl_due hk)]
  refine ite_by (b := false) (fun h => absurd h (by decide)) (fun _ => ?_)
  refine ⟨_, rfl, rfl, fs1, _, _, _, _, rfl, f1.pts, f1.ats, f1.hds, f1.pick, _, rfl, pc h1, pc h1, _, rfl, ?_⟩
  refine iteT' (deq_refl (n := 8) (by decide) (pc h1)) ?_
  refine ⟨_, rfl, rfl, fs2, _, _, _, _, rfl, f2.pts, f2.ats, f2.hds, f2.pick, _, rfl, pc h2, pc h2, ?_⟩
  have := deq_refl (n := 8) (by decide) (pc h2)
  show Q (.bl (deq c2.d c2.d))
  rw [this]
  exact q
end
end K72

set_option Elab.async false
set_option linter.all false
set_option maxRecDepth 100000
set_option maxHeartbeats 4000000
namespace K72
open PySem L2 U
open PySem.Spec PyProof.Rows
section
variable {P : Program} {w : World} {K : PySem.W.Frag} {mg : Str → Option Value} {base : Heap}
variable {C CK CM CME fshown fdue fseen finit fsource fdraw fnames fpool fdrawn fwider fasked : Addr} {fdshown fddue fdseen fdinit fdsource fddraw fdnames fdpool fddrawn fdwider fdasked : FuncData}
abbrev s_law : Stmt := (top 33)
theorem sc_law : FnScope ["script", "source", "names", "pool", "width", "first", "second", "turn", "moved", "one", "sense"] ["script"] (defScope s_law) := ⟨rfl, rfl, rfl, by decide +kernel, rfl, by decide +kernel, by decide +kernel⟩
theorem cell_bits {n : Int} (h : Builtin.Int.intBits n ≤ 1048576) : Cell n := by
  unfold Cell
  have h1 : n.natAbs < 2 ^ 1048576 := by
    by_cases h0 : n = 0
    · rw [h0]
      exact Nat.two_pow_pos _
    · have hne : n.natAbs ≠ 0 := by omega
      have hb : (n == 0) = false := by simpa using h0
      unfold Builtin.Int.intBits at h
      rw [hb] at h
      simp only [Bool.false_eq_true, if_false] at h
      exact (Nat.log2_lt hne).mp (by omega)
  exact Nat.lt_of_lt_of_le h1 (Nat.pow_le_pow_right (by decide) (by decide))
theorem nd_of {p : List Int} (h : p.Pairwise (· < ·)) : p.Nodup := h.imp fun h => by omega
/-- the law's own promise -/
def spLaw (K : PySem.W.Frag) : Sp := fun vs H Q _ => ∃ (a : Addr) (ns : List Int), vs = [.ref a] ∧ SqL K H a (ns.map V.int) ∧ ns.length ≤ 63 ∧ (∀ k ∈ ns, Builtin.Int.intBits k ≤ 1048576) ∧ ∀ H', Q (.bl true) H'
def kinds : List Str := ["max", "min", "max", "min", "sum", "count"]
theorem kinds_ok : kinds.all PyData.strOk = true := by decide +kernel
theorem ok_law {f : Addr} {fd : FuncData} (F : L2.Fun K "law" "law" s_law f fd) (T : NB mg) (Dsource : Def K mg "_law_source" fsource fdsource ["script"]) (Gsource : FnOk P w K mg base CX0 1 fsource fdsource ["script"] (spSource K)) (Ddraw : DD K mg fdraw fddraw) (Gdraw : GD P w K mg base fdraw fddraw)
    (Dnames : Def K mg "_law_names" fnames fdnames ["source", "many"]) (Gnames : FnOk P w K mg base CX0 2 fnames fdnames ["source", "many"] (spU K 2 SNames)) (Dpool : Def K mg "_law_pool" fpool fdpool ["source", "many"]) (Gpool : FnOk P w K mg base CX0 2 fpool fdpool ["source", "many"] (spU K 2 SPool))
    (Ddrawn : Def K mg "_law_drawn" fdrawn fddrawn ["source", "names", "pool", "width"]) (Gdrawn : FnOk P w K mg base CX0 3 fdrawn fddrawn ["source", "names", "pool", "width"] (spU K 4 SDrawn)) (Dwider : Def K mg "_law_wider" fwider fdwider ["source", "names", "case"]) (Gwider : FnOk P w K mg base CX0 3 fwider fdwider ["source", "names", "case"] (spU K 3 SWider))
    (Dasked : Def K mg "_law_asked" fasked fdasked ["first", "second", "sense"]) (Gasked : FnOk P w K mg base CX0 5 fasked fdasked ["first", "second", "sense"] (spU K 3 SAsked)) : FnOk P w K mg base CX0 6 f fd ["script"] (spLaw K) := by
  refine F.ok sc_law (fun vs H Q E h => ?_) fun cdv A outer s H vs Q E hr h => ?_
  · obtain ⟨a, ns, rfl, _⟩ := h
    rfl
  obtain ⟨a, ns, rfl, hS, hlen, hbits, k⟩ := h
  have hu64 := hu64 hr; have hu65 := hu65 hr; have hu1 := hu1 hr; have nd := sc_law.nd
  -- the questions
  have partE : ∃ t, USs (cxOf CX0 P w K mg base ["script", "source", "names", "pool", "width", "first", "second", "turn", "moved", "one", "sense"] "law" (defScope s_law) f cdv A outer s H E).nox ((defBody s_law).drop 10) t ∧ ∀ (Q : D → Prop) (x0 x2 x3 x4 x7 x8 x9 : Slot) (n0 n1 : Str) (p1 p2 : List Int) (w1 w2 : Nat) (c1 c2 : PC), NOk n0 n1 → POk n0 n1 p1 w1 c1 → POk n0 n1 p2 w2 c2 → p1.Nodup → p2.Nodup → w1 ≤ 2 → w2 ≤ 2 → Q (.bl true) →
      t { nx := fun _ => Q .non, rt := Q } [x0, .va .src, x2, x3, x4, .va c1.d, .va c2.d, x7, x8, x9, .no] := by
    refine ⟨_, (uss_cons (us_setE (i := 10) nd (u_ixR (UL.ur (ul_lst (ua_cons u_str (ua_cons u_str (ua_cons u_str (ua_cons u_str (ua_cons u_str (ua_cons u_str ua_nil)))))))) (u_callD Ddraw Gdraw hr (ua_cons (uv 1) (ua_cons u_int ua_nil))) (fun _ _ => rfl)))
  (uss_cons (us_if (UW.ut (uw_or (ut_not (ut_tru (u_callD Dasked Gasked hr (ua_cons (uv 5) (ua_cons (uv 6) (ua_cons (uv 10) ua_nil)))))) (uw_or1 (ut_not (ut_tru (u_callD Dasked Gasked hr (ua_cons (uv 6) (ua_cons (uv 5) (ua_cons (uv 10) ua_nil))))))))) (uss_one (us_ret u_bl)) uss_nil)
  (uss_one (us_ret (u_callD Dasked Gasked hr (ua_cons (uv 5) (ua_cons (uv 5) (ua_cons (uv 10) ua_nil)))))))), fun Q x0 x2 x3 x4 x7 x8 x9 n0 n1 p1 p2 w1 w2 c1 c2 N h1 h2 nd1 nd2 hw1 hw2 q => ?_⟩
    refine ⟨szL (show 6 ≤ 1000 by decide), _, rfl, dr (many := 6) (h := fun k1 hk1 => ?_)⟩
    have hk1 : k1 < kinds.length := by show k1 < 6; omega
    have hks : kinds[k1]? = some kinds[k1] := List.getElem?_eq_getElem hk1
    have hkk : PyData.strOk kinds[k1] = true := List.all_eq_true.mp kinds_ok _ (List.getElem_mem hk1)
    refine ⟨_, _, rfl, (show atI (kinds.map D.str) ((k1 : Nat) : Int) = some (.str kinds[k1]) from atI_map hks), ?_⟩
    generalize kinds[k1] = kind at hkk
    refine ⟨_, rfl, _, rfl, _, rfl, rfl, n0, n1, p1, p2, w1, w2, c1, c2, kind, rfl, N, h1, h2, nd1, nd2, hw1, hw2, hkk, true, rfl, ?_⟩
    refine ite_by (b := false) (fun h => absurd h (by decide)) (fun _ => ?_)
    refine ⟨_, rfl, _, rfl, _, rfl, rfl, n0, n1, p2, p1, w2, w1, c2, c1, kind, rfl, N, h2, h1, nd2, nd1, hw2, hw1, hkk, true, rfl, ?_⟩
    refine ite_by (b := false) (fun h => absurd h (by decide)) (fun _ => ?_)
    exact ⟨_, rfl, _, rfl, _, rfl, rfl, n0, n1, p1, p1, w1, w1, c1, c1, kind, rfl, N, h1, h1, nd1, nd1, hw1, hw1, hkk, q⟩
  obtain ⟨tE, hE, qE⟩ := partE
  -- another number of groups
  have part3 : ∃ t, USs (cxOf CX0 P w K mg base ["script", "source", "names", "pool", "width", "first", "second", "turn", "moved", "one", "sense"] "law" (defScope s_law) f cdv A outer s H E).nox ((defBody s_law).drop 9) t ∧ ∀ (Q : D → Prop) (x0 x7 x8 x9 : Slot) (turn : Nat) (n0 n1 : Str) (p1 p2 : List Int) (w1 w2 : Nat) (c1 c2 : PC), NOk n0 n1 → POk n0 n1 p1 w1 c1 → POk n0 n1 p2 w2 c2 → p1.Nodup → p2.Nodup → p1.length ≤ 2 → w1 ≤ 2 → w2 ≤ 2 → Q (.bl true) →
      t { nx := fun _ => Q .non, rt := Q } [x0, .va .src, .va (.lst [.str n0, .str n1]), .va (.lst (p1.map D.int)), .va (.int w1), .va c1.d, .va c2.d, .va (.int turn), x8, x9, .no] := by
    refine ⟨_, (uss_cons (us_if (ut_cmp (ueq hu64) (uv 7) u_int (nomark _)) (uss_one (us_setE (i := 6) nd (u_callD Ddrawn Gdrawn hr (ua_cons (uv 1) (ua_cons (uv 2) (ua_cons (uv 3) (ua_cons (u_op umod (u_callTy ucl_int (by rfl) T.int boot_int (ua_cons (u_op uadd (uv 4) u_int) ua_nil)) u_int) ua_nil))))))) uss_nil)
  hE), fun Q x0 x7 x8 x9 turn n0 n1 p1 p2 w1 w2 c1 c2 N h1 h2 nd1 nd2 hp1 hw1 hw2 q => ?_⟩
    refine ⟨_, rfl, pl_int _ _, pl_int _ _, _, rfl, ?_⟩
    refine ite_by (fun _ => ?_) (fun _ => ?_)
    · refine ⟨_, rfl, _, rfl, _, rfl, _, rfl, _, _, rfl, rfl, trivial, _, rfl, _, _, rfl, rfl, (by show (0 : Int) < 3; decide), rfl, n0, n1, p1, ((((w1 : Nat) : Int) + 1) % 3).toNat, ?_, N, hp1, by omega, fun c hc _ _ => ?_⟩
      · have : ((((((w1 : Nat) : Int) + 1) % 3).toNat : Nat) : Int) = (((w1 : Nat) : Int) + 1) % 3 := Int.toNat_of_nonneg (Int.emod_nonneg _ (by decide))
        rw [this] <;> rfl
      · exact qE Q x0 _ _ _ _ x8 x9 n0 n1 p1 p1 w1 _ c1 c N h1 hc nd1 nd1 hw1 (by omega) q
    · exact qE Q x0 _ _ _ _ x8 x9 n0 n1 p1 p2 w1 w2 c1 c2 N h1 h2 nd1 nd2 hw1 hw2 q
  obtain ⟨t3, h3, q3⟩ := part3
  -- other constants
  have part2 : ∃ t, USs (cxOf CX0 P w K mg base ["script", "source", "names", "pool", "width", "first", "second", "turn", "moved", "one", "sense"] "law" (defScope s_law) f cdv A outer s H E).nox ((defBody s_law).drop 8) t ∧ ∀ (Q : D → Prop) (x0 : Slot) (turn : Nat) (n0 n1 : Str) (p1 : List Int) (w1 : Nat) (c1 c2 : PC), NOk n0 n1 → POk n0 n1 p1 w1 c1 → POk n0 n1 p1 w1 c2 → p1.Pairwise (· < ·) → p1.length ≤ 2 → w1 ≤ 2 → Q (.bl true) →
      t { nx := fun _ => Q .non, rt := Q } [x0, .va .src, .va (.lst [.str n0, .str n1]), .va (.lst (p1.map D.int)), .va (.int w1), .va c1.d, .va c2.d, .va (.int turn), .no, .no, .no] := by
    refine ⟨_, (uss_cons (us_if (UW.ut (uw_or (ut_cmp (ueq hu64) (uv 7) u_int (nomark _)) (uw_or1 (ut_cmp (ueq hu64) (uv 7) u_int (nomark _))))) (uss_cons (us_setL (us_lc (i := 8) (own := [("one", 9)]) rfl nd rfl rfl (sw_true rfl rfl rfl (by decide +kernel)) (ui_seq (uv 3)) (blkOk_by (own := [("one", 9)]) (N := ["script", "source", "names", "pool", "width", "first", "second", "turn", "moved", "one", "sense"]) (sc := defScope s_law) (by decide +kernel)) (fun _ _ _ _ _ => (ug nd 9)) (fun _ _ _ _ _ => uts_nil) (fun _ _ _ _ _ => (u_op uadd (uv 9) u_int))))
    (uss_cons (us_if (ut_cmp (ueq hu64) (u_callB ucl_len (by rfl) T.len boot_len (ua_cons (uv 3) ua_nil)) u_int (nomark _)) (uss_one (us_setF (i := 8) nd (ul_lst (ua_cons (u_callD Ddraw Gdraw hr (ua_cons (uv 1) (ua_cons u_int ua_nil))) ua_nil)))) uss_nil)
    (uss_one (us_setE (i := 6) nd (u_callD Ddrawn Gdrawn hr (ua_cons (uv 1) (ua_cons (uv 2) (ua_cons (uv 8) (ua_cons (u_op umod (u_callTy ucl_int (by rfl) T.int boot_int (ua_cons (u_op uadd (uv 4) (uv 7)) ua_nil)) u_int) ua_nil))))))))) uss_nil)
  h3), fun Q x0 turn n0 n1 p1 w1 c1 c2 N h1 h2 asc hp1 hw1 q => ?_⟩
    have nope := q3 Q x0 (.va (.int turn)) .no .no turn n0 n1 p1 p1 w1 w1 c1 c2 N h1 h2 (nd_of asc) (nd_of asc) hp1 hw1 hw1 q
    refine ⟨_, rfl, pl_int _ _, pl_int _ _, _, rfl, ?_⟩
    refine ite_by (fun _ => ?_) (fun _ => ?_)
    · refine ite_by (b := true) (fun _ => ?_) (fun h => absurd h (by decide))
      refine ⟨_, rfl, _, .inl rfl, ?_⟩
      refine lc_map D.int (fun x : Int => some (x + 1)) (szT (by omega)) (fun i x I acc hx hz hI => ⟨hz, ?_⟩) ?_
      · exact iteT' (q := I (i + 1) acc) rfl ⟨_, rfl, _, _, rfl, rfl, trivial, hI⟩
      rw [fm_some]
      refine ⟨_, rfl, _, .inr rfl, pl_int _ _, pl_int _ _, _, rfl, ?_⟩
      refine ite_by (fun _ => ?_) (fun _ => ?_)
      · refine ⟨_, rfl, dr (many := 5) (h := fun x hx => ⟨szL (show 1 ≤ 1000 by decide), ?_⟩)⟩
        refine ⟨_, rfl, _, rfl, _, rfl, _, rfl, _, rfl, _, _, rfl, rfl, trivial, _, rfl, _, _, rfl, rfl, (by show (0 : Int) < 3; decide), rfl, n0, n1, [((x : Nat) : Int)], ((((w1 : Nat) : Int) + ((turn : Nat) : Int)) % 3).toNat, ?_, N, ?_, by omega, fun c hc _ _ => ?_⟩
        · have : ((((((w1 : Nat) : Int) + ((turn : Nat) : Int)) % 3).toNat : Nat) : Int) = (((w1 : Nat) : Int) + ((turn : Nat) : Int)) % 3 := Int.toNat_of_nonneg (Int.emod_nonneg _ (by decide))
          rw [this] <;> rfl
        · show 1 ≤ 2; decide
        · exact q3 Q x0 .no _ _ turn n0 n1 p1 [((x : Nat) : Int)] w1 _ c1 c N h1 hc (nd_of asc) (nd_of (List.pairwise_singleton _ _)) hp1 hw1 (by omega) q
      · have am : (p1.map fun x : Int => x + 1).Pairwise (· < ·) := List.Pairwise.map _ (fun a b h => by omega) asc
        refine ⟨_, rfl, _, rfl, _, rfl, _, rfl, _, rfl, _, _, rfl, rfl, trivial, _, rfl, _, _, rfl, rfl, (by show (0 : Int) < 3; decide), rfl, n0, n1, (p1.map fun x : Int => x + 1), ((((w1 : Nat) : Int) + ((turn : Nat) : Int)) % 3).toNat, ?_, N, ?_, by omega, fun c hc _ _ => ?_⟩
        · have : ((((((w1 : Nat) : Int) + ((turn : Nat) : Int)) % 3).toNat : Nat) : Int) = (((w1 : Nat) : Int) + ((turn : Nat) : Int)) % 3 := Int.toNat_of_nonneg (Int.emod_nonneg _ (by decide))
          rw [this] <;> rfl
        · rw [List.length_map]; exact hp1
        · exact q3 Q x0 .no _ _ turn n0 n1 p1 (p1.map fun x : Int => x + 1) w1 _ c1 c N h1 hc (nd_of asc) (nd_of am) hp1 hw1 (by omega) q
    · refine ⟨_, rfl, pl_int _ _, pl_int _ _, _, rfl, ?_⟩
      refine ite_by (fun _ => ?_) (fun _ => nope)
      refine ⟨_, rfl, _, .inl rfl, ?_⟩
      refine lc_map D.int (fun x : Int => some (x + 1)) (szT (by omega)) (fun i x I acc hx hz hI => ⟨hz, ?_⟩) ?_
      · exact iteT' (q := I (i + 1) acc) rfl ⟨_, rfl, _, _, rfl, rfl, trivial, hI⟩
      rw [fm_some]
      refine ⟨_, rfl, _, .inr rfl, pl_int _ _, pl_int _ _, _, rfl, ?_⟩
      refine ite_by (fun _ => ?_) (fun _ => ?_)
      · refine ⟨_, rfl, dr (many := 5) (h := fun x hx => ⟨szL (show 1 ≤ 1000 by decide), ?_⟩)⟩
        refine ⟨_, rfl, _, rfl, _, rfl, _, rfl, _, rfl, _, _, rfl, rfl, trivial, _, rfl, _, _, rfl, rfl, (by show (0 : Int) < 3; decide), rfl, n0, n1, [((x : Nat) : Int)], ((((w1 : Nat) : Int) + ((turn : Nat) : Int)) % 3).toNat, ?_, N, ?_, by omega, fun c hc _ _ => ?_⟩
        · have : ((((((w1 : Nat) : Int) + ((turn : Nat) : Int)) % 3).toNat : Nat) : Int) = (((w1 : Nat) : Int) + ((turn : Nat) : Int)) % 3 := Int.toNat_of_nonneg (Int.emod_nonneg _ (by decide))
          rw [this] <;> rfl
        · show 1 ≤ 2; decide
        · exact q3 Q x0 .no _ _ turn n0 n1 p1 [((x : Nat) : Int)] w1 _ c1 c N h1 hc (nd_of asc) (nd_of (List.pairwise_singleton _ _)) hp1 hw1 (by omega) q
      · have am : (p1.map fun x : Int => x + 1).Pairwise (· < ·) := List.Pairwise.map _ (fun a b h => by omega) asc
        refine ⟨_, rfl, _, rfl, _, rfl, _, rfl, _, rfl, _, _, rfl, rfl, trivial, _, rfl, _, _, rfl, rfl, (by show (0 : Int) < 3; decide), rfl, n0, n1, (p1.map fun x : Int => x + 1), ((((w1 : Nat) : Int) + ((turn : Nat) : Int)) % 3).toNat, ?_, N, ?_, by omega, fun c hc _ _ => ?_⟩
        · have : ((((((w1 : Nat) : Int) + ((turn : Nat) : Int)) % 3).toNat : Nat) : Int) = (((w1 : Nat) : Int) + ((turn : Nat) : Int)) % 3 := Int.toNat_of_nonneg (Int.emod_nonneg _ (by decide))
          rw [this] <;> rfl
        · rw [List.length_map]; exact hp1
        · exact q3 Q x0 .no _ _ turn n0 n1 p1 (p1.map fun x : Int => x + 1) w1 _ c1 c N h1 hc (nd_of asc) (nd_of am) hp1 hw1 (by omega) q
  obtain ⟨t2, h2, q2⟩ := part2
  have part1 : ∃ t, USs (cxOf CX0 P w K mg base ["script", "source", "names", "pool", "width", "first", "second", "turn", "moved", "one", "sense"] "law" (defScope s_law) f cdv A outer s H E).nox ((defBody s_law).drop 1) t ∧ ∀ (Q : D → Prop) (x0 : Slot), Q (.bl true) → t { nx := fun _ => Q .non, rt := Q } [x0, .va .src, .no, .no, .no, .no, .no, .no, .no, .no, .no] := by
    refine ⟨_, (uss_cons (us_setE (i := 2) nd (u_callD Dnames Gnames hr (ua_cons (uv 1) (ua_cons u_int ua_nil))))
  (uss_cons (us_setE (i := 3) nd (u_callD Dpool Gpool hr (ua_cons (uv 1) (ua_cons u_int ua_nil))))
  (uss_cons (us_setE (i := 4) nd (u_callD Ddraw Gdraw hr (ua_cons (uv 1) (ua_cons u_int ua_nil))))
  (uss_cons (us_setE (i := 5) nd (u_callD Ddrawn Gdrawn hr (ua_cons (uv 1) (ua_cons (uv 2) (ua_cons (uv 3) (ua_cons (uv 4) ua_nil))))))
  (uss_cons (us_setE (i := 6) nd (u_callD Dwider Gwider hr (ua_cons (uv 1) (ua_cons (uv 2) (ua_cons (uv 5) ua_nil)))))
  (uss_cons (us_setE (i := 7) nd (u_callD Ddraw Gdraw hr (ua_cons (uv 1) (ua_cons u_int ua_nil))))
  (uss_cons (us_if (ut_cmp (ueq hu64) (uv 7) u_int (nomark _)) (uss_one (us_setE (i := 6) nd (u_callD Ddrawn Gdrawn hr (ua_cons (uv 1) (ua_cons (uv 2) (ua_cons (uv 3) (ua_cons (uv 4) ua_nil))))))) uss_nil)
  h2))))))), fun Q x0 q => ?_⟩
    refine ⟨_, rfl, rfl, rfl, fun n0 n1 N => ?_⟩
    refine ⟨_, rfl, rfl, rfl, fun p1 asc hp1 => ?_⟩
    refine ⟨_, rfl, dr (many := 3) (h := fun w1 hw1 => ?_)⟩
    refine ⟨_, rfl, _, rfl, _, rfl, _, rfl, rfl, n0, n1, p1, w1, rfl, N, hp1, by omega, fun c1 h1 l5 l4 => ?_⟩
    refine ⟨_, rfl, _, rfl, _, rfl, rfl, n0, n1, p1, w1, c1, rfl, N, by omega, h1, l5, l4, fun c2 h2' => ?_⟩
    refine ⟨_, rfl, dr (many := 8) (h := fun turn ht => ?_)⟩
    refine ⟨_, rfl, pl_int _ _, pl_int _ _, _, rfl, ?_⟩
    refine ite_by (fun _ => ?_) (fun _ => ?_)
    · refine ⟨_, rfl, _, rfl, _, rfl, _, rfl, rfl, n0, n1, p1, w1, rfl, N, hp1, by omega, fun c3 h3' _ _ => ?_⟩
      exact q2 Q x0 turn n0 n1 p1 w1 c1 c3 N h1 h3' asc hp1 (by omega) q
    · exact q2 Q x0 turn n0 n1 p1 w1 c1 c2 N h1 h2' asc hp1 (by omega) q
  obtain ⟨t1, h1, q1⟩ := part1
  refine ⟨_, pss_cons (ps_set (i := 1) nd rfl (.inl rfl) (pe_call Gsource (hr.mono (by decide)) rfl Dsource.mg Dsource.kp Dsource.b .nil pass0 (pa_cons (pv 0) pa_nil))) h1.run, ?_⟩
  refine ⟨_, rfl, a, ns, rfl, hS, fun p c H' hp hc hne e1 e2 e3 => ?_⟩
  have hF : ∀ x : Addr, (fun _ => none : Hp) x = none := fun _ => rfl
  have inv : SrcAt H' p c := ⟨hne, ns, 0, 0, 0, 0, e2, e1, hlen, Int.le_refl 0, by omega, Int.le_refl 0, Nat.two_pow_pos _, fun x hx => cell_bits (hbits x hx), Int.le_refl 0, by decide, Int.le_refl 0, by decide⟩
  let n : En := ⟨⟨K, some (p, c)⟩, fun _ => none, H', 0⟩
  have ok : Ok n (fun _ => none) H' := ⟨fun b o h => (by cases h), fun _ _ => rfl, fun p' c' e => by cases e; exact inv, fun b o h => (by cases h), fun b o h => (by cases h), fun b o h _ => h⟩
  have er : ER n (fun _ => none) H' [.no, .va .src, .no, .no, .no, .no, .no, .no, .no, .no, .no] [some (.ref a), some (.ref p), none, none, none, none, none, none, none, none, none] := by
    refine ⟨ok, rfl, fun i sl hi => ?_, fun i j c e a hij q1 q2 => ?_⟩
    · match i, hi with
      | 0, hi => cases hi; exact ⟨_, rfl, trivial⟩
      | 1, hi =>
        cases hi
        refine ⟨_, rfl, .ref p, rfl, ?_⟩
        simp only [Rep]
        exact ⟨p, c, rfl, rfl⟩
      | 2, hi => cases hi; exact ⟨_, rfl, trivial⟩
      | 3, hi => cases hi; exact ⟨_, rfl, trivial⟩
      | 4, hi => cases hi; exact ⟨_, rfl, trivial⟩
      | 5, hi => cases hi; exact ⟨_, rfl, trivial⟩
      | 6, hi => cases hi; exact ⟨_, rfl, trivial⟩
      | 7, hi => cases hi; exact ⟨_, rfl, trivial⟩
      | 8, hi => cases hi; exact ⟨_, rfl, trivial⟩
      | 9, hi => cases hi; exact ⟨_, rfl, trivial⟩
      | 10, hi => cases hi; exact ⟨_, rfl, trivial⟩
      | i + 11, hi => cases hi
    · match i, q1 with
      | 0, q1 => cases q1
      | 1, q1 => cases q1
      | 2, q1 => cases q1
      | 3, q1 => cases q1
      | 4, q1 => cases q1
      | 5, q1 => cases q1
      | 6, q1 => cases q1
      | 7, q1 => cases q1
      | 8, q1 => cases q1
      | 9, q1 => cases q1
      | 10, q1 => cases q1
      | i + 11, q1 => cases q1
  refine ⟨n, fun _ => none, _, _, ⟨rfl, er⟩, q1 (fun d => d = .bl true) .no rfl, ⟨fun ρ F' σ' H2 _ _ h => (by cases h), fun d v F' H2 _ _ r h => ?_, fun _ _ _ _ _ _ z => z.elim, fun _ _ _ _ _ _ z => z.elim, fun _ _ _ _ _ _ _ _ _ _ _ _ z => z.elim⟩⟩
  have h : d = .bl true := h
  subst h
  rw [r.bl']
  exact k H2
end
end K72

set_option Elab.async false
set_option linter.all false
set_option maxRecDepth 100000
set_option maxHeartbeats 4000000
namespace K72
open PySem L2 U
open PySem.Spec PyProof.Rows
abbrev s_K : Stmt := inClass (top 3) 0
abbrev s_M : Stmt := inClass (top 4) 0
theorem all_mk {w : World} {K : PySem.W.Frag} {h : Heap} {mg : Str → Option Value} {fa : Addr} (X : K.In h) (G : h.Ns mainGlobals mg) (hfa : mg "law" = some (.ref fa))
    {f_extended_values f_atom_solutions f_sense_of f_is_ascending f_atoms_by_name f_covers f_source f_draw f_names f_pool f_seen f_room f_atom f_drawn f_turned f_wider f_maps f_reaches f_due f_shown f_asked f_law : Addr}
    {od_extended_values an_extended_values : Option Addr} {sl_extended_values : Array (Option Value)} {oc_extended_values kV_extended_values dc_extended_values pm_extended_values cd_extended_values ct_extended_values : Value}
    {od_atom_solutions an_atom_solutions : Option Addr} {sl_atom_solutions : Array (Option Value)} {oc_atom_solutions kV_atom_solutions dc_atom_solutions pm_atom_solutions cd_atom_solutions ct_atom_solutions : Value}
    {od_sense_of an_sense_of : Option Addr} {sl_sense_of : Array (Option Value)} {oc_sense_of kV_sense_of dc_sense_of pm_sense_of cd_sense_of ct_sense_of : Value}
    {od_is_ascending an_is_ascending : Option Addr} {sl_is_ascending : Array (Option Value)} {oc_is_ascending kV_is_ascending dc_is_ascending pm_is_ascending cd_is_ascending ct_is_ascending : Value}
    {od_atoms_by_name an_atoms_by_name : Option Addr} {sl_atoms_by_name : Array (Option Value)} {oc_atoms_by_name kV_atoms_by_name dc_atoms_by_name pm_atoms_by_name cd_atoms_by_name ct_atoms_by_name : Value}
    {od_covers an_covers : Option Addr} {sl_covers : Array (Option Value)} {oc_covers kV_covers dc_covers pm_covers cd_covers ct_covers : Value}
    {od_source an_source : Option Addr} {sl_source : Array (Option Value)} {oc_source kV_source dc_source pm_source cd_source ct_source : Value}
    {od_draw an_draw : Option Addr} {sl_draw : Array (Option Value)} {oc_draw kV_draw dc_draw pm_draw cd_draw ct_draw : Value}
    {od_names an_names : Option Addr} {sl_names : Array (Option Value)} {oc_names kV_names dc_names pm_names cd_names ct_names : Value}
    {od_pool an_pool : Option Addr} {sl_pool : Array (Option Value)} {oc_pool kV_pool dc_pool pm_pool cd_pool ct_pool : Value}
    {od_seen an_seen : Option Addr} {sl_seen : Array (Option Value)} {oc_seen kV_seen dc_seen pm_seen cd_seen ct_seen : Value}
    {od_room an_room : Option Addr} {sl_room : Array (Option Value)} {oc_room kV_room dc_room pm_room cd_room ct_room : Value}
    {od_atom an_atom : Option Addr} {sl_atom : Array (Option Value)} {oc_atom kV_atom dc_atom pm_atom cd_atom ct_atom : Value}
    {od_drawn an_drawn : Option Addr} {sl_drawn : Array (Option Value)} {oc_drawn kV_drawn dc_drawn pm_drawn cd_drawn ct_drawn : Value}
    {od_turned an_turned : Option Addr} {sl_turned : Array (Option Value)} {oc_turned kV_turned dc_turned pm_turned cd_turned ct_turned : Value}
    {od_wider an_wider : Option Addr} {sl_wider : Array (Option Value)} {oc_wider kV_wider dc_wider pm_wider cd_wider ct_wider : Value}
    {od_maps an_maps : Option Addr} {sl_maps : Array (Option Value)} {oc_maps kV_maps dc_maps pm_maps cd_maps ct_maps : Value}
    {od_reaches an_reaches : Option Addr} {sl_reaches : Array (Option Value)} {oc_reaches kV_reaches dc_reaches pm_reaches cd_reaches ct_reaches : Value}
    {od_due an_due : Option Addr} {sl_due : Array (Option Value)} {oc_due kV_due dc_due pm_due cd_due ct_due : Value}
    {od_shown an_shown : Option Addr} {sl_shown : Array (Option Value)} {oc_shown kV_shown dc_shown pm_shown cd_shown ct_shown : Value}
    {od_asked an_asked : Option Addr} {sl_asked : Array (Option Value)} {oc_asked kV_asked dc_asked pm_asked cd_asked ct_asked : Value}
    {od_law an_law : Option Addr} {sl_law : Array (Option Value)} {oc_law kV_law dc_law pm_law cd_law ct_law : Value}
    {C fI fD T0 : Addr} {od_i an_i od_d an_d td : Option Addr} {sl_i sl_d tsl : Array (Option Value)} {oc_i kV_i dc_i pm_i cd_i ct_i oc_d kV_d dc_d pm_d cd_d ct_d tc e0 e1 : Value} {tn : Nat}
    {CE : Addr}
    {CK gK ccK cdaK NK : Addr} {nmK qK fileK : Str} {tfK : Tok} {bsK : List Value} {snK : List Str} {subK : List Value} {abK : Bool} {colK : Option Bool} {ddK : Option Addr} {m0K m1K m2K m3K m5K : Option Value} {od_K an_K cldK ccdK : Option Addr} {sl_K cslK ccsK : Array (Option Value)} {oc_K kV_K dc_K pm_K ct_K clK cclK : Value} {vsK : Array Value}
    {CM gM ccM cdaM NM : Addr} {nmM qM fileM : Str} {tfM : Tok} {bsM : List Value} {snM : List Str} {subM : List Value} {abM : Bool} {colM : Option Bool} {ddM : Option Addr} {m0M m1M m2M m3M m5M : Option Value} {od_M an_M cldM ccdM : Option Addr} {sl_M cslM ccsM : Array (Option Value)} {oc_M kV_M dc_M pm_M ct_M clM cclM : Value} {vsM : Array Value}
    (a_extended_values : PySem.W.nsIn K mainGlobals "extended_values" = some (some (.ref f_extended_values)))
    (l_extended_values : K.lookup f_extended_values = some ⟨oc_extended_values, od_extended_values, .func (PySem.W.fnOf "extended_values" "extended_values" (defArgs s_extended_values) (defBody s_extended_values) (defScope s_extended_values) .none kV_extended_values dc_extended_values pm_extended_values an_extended_values cd_extended_values ct_extended_values), sl_extended_values⟩)
    (c_extended_values : PySem.W.codeIn K cd_extended_values "extended_values" = true)
    (k_extended_values : PySem.W.keepIn K (.ref f_extended_values) = true)
    (a_atom_solutions : PySem.W.nsIn K mainGlobals "atom_solutions" = some (some (.ref f_atom_solutions)))
    (l_atom_solutions : K.lookup f_atom_solutions = some ⟨oc_atom_solutions, od_atom_solutions, .func (PySem.W.fnOf "atom_solutions" "atom_solutions" (defArgs s_atom_solutions) (defBody s_atom_solutions) (defScope s_atom_solutions) .none kV_atom_solutions dc_atom_solutions pm_atom_solutions an_atom_solutions cd_atom_solutions ct_atom_solutions), sl_atom_solutions⟩)
    (c_atom_solutions : PySem.W.codeIn K cd_atom_solutions "atom_solutions" = true)
    (k_atom_solutions : PySem.W.keepIn K (.ref f_atom_solutions) = true)
    (a_sense_of : PySem.W.nsIn K mainGlobals "sense_of" = some (some (.ref f_sense_of)))
    (l_sense_of : K.lookup f_sense_of = some ⟨oc_sense_of, od_sense_of, .func (PySem.W.fnOf "sense_of" "sense_of" (defArgs s_sense_of) (defBody s_sense_of) (defScope s_sense_of) .none kV_sense_of dc_sense_of pm_sense_of an_sense_of cd_sense_of ct_sense_of), sl_sense_of⟩)
    (c_sense_of : PySem.W.codeIn K cd_sense_of "sense_of" = true)
    (k_sense_of : PySem.W.keepIn K (.ref f_sense_of) = true)
    (a_is_ascending : PySem.W.nsIn K mainGlobals "is_ascending" = some (some (.ref f_is_ascending)))
    (l_is_ascending : K.lookup f_is_ascending = some ⟨oc_is_ascending, od_is_ascending, .func (PySem.W.fnOf "is_ascending" "is_ascending" (defArgs s_is_ascending) (defBody s_is_ascending) (defScope s_is_ascending) .none kV_is_ascending dc_is_ascending pm_is_ascending an_is_ascending cd_is_ascending ct_is_ascending), sl_is_ascending⟩)
    (c_is_ascending : PySem.W.codeIn K cd_is_ascending "is_ascending" = true)
    (k_is_ascending : PySem.W.keepIn K (.ref f_is_ascending) = true)
    (a_atoms_by_name : PySem.W.nsIn K mainGlobals "atoms_by_name" = some (some (.ref f_atoms_by_name)))
    (l_atoms_by_name : K.lookup f_atoms_by_name = some ⟨oc_atoms_by_name, od_atoms_by_name, .func (PySem.W.fnOf "atoms_by_name" "atoms_by_name" (defArgs s_atoms_by_name) (defBody s_atoms_by_name) (defScope s_atoms_by_name) .none kV_atoms_by_name dc_atoms_by_name pm_atoms_by_name an_atoms_by_name cd_atoms_by_name ct_atoms_by_name), sl_atoms_by_name⟩)
    (c_atoms_by_name : PySem.W.codeIn K cd_atoms_by_name "atoms_by_name" = true)
    (k_atoms_by_name : PySem.W.keepIn K (.ref f_atoms_by_name) = true)
    (a_covers : PySem.W.nsIn K mainGlobals "covers" = some (some (.ref f_covers)))
    (l_covers : K.lookup f_covers = some ⟨oc_covers, od_covers, .func (PySem.W.fnOf "covers" "covers" (defArgs s_covers) (defBody s_covers) (defScope s_covers) .none kV_covers dc_covers pm_covers an_covers cd_covers ct_covers), sl_covers⟩)
    (c_covers : PySem.W.codeIn K cd_covers "covers" = true)
    (k_covers : PySem.W.keepIn K (.ref f_covers) = true)
    (a_source : PySem.W.nsIn K mainGlobals "_law_source" = some (some (.ref f_source)))
    (l_source : K.lookup f_source = some ⟨oc_source, od_source, .func (PySem.W.fnOf "_law_source" "_law_source" (defArgs s_source) (defBody s_source) (defScope s_source) .none kV_source dc_source pm_source an_source cd_source ct_source), sl_source⟩)
    (c_source : PySem.W.codeIn K cd_source "_law_source" = true)
    (k_source : PySem.W.keepIn K (.ref f_source) = true)
    (a_draw : PySem.W.nsIn K mainGlobals "_law_draw" = some (some (.ref f_draw)))
    (l_draw : K.lookup f_draw = some ⟨oc_draw, od_draw, .func (PySem.W.fnOf "_law_draw" "_law_draw" (defArgs s_draw) (defBody s_draw) (defScope s_draw) .none kV_draw dc_draw pm_draw an_draw cd_draw ct_draw), sl_draw⟩)
    (c_draw : PySem.W.codeIn K cd_draw "_law_draw" = true)
    (k_draw : PySem.W.keepIn K (.ref f_draw) = true)
    (a_names : PySem.W.nsIn K mainGlobals "_law_names" = some (some (.ref f_names)))
    (l_names : K.lookup f_names = some ⟨oc_names, od_names, .func (PySem.W.fnOf "_law_names" "_law_names" (defArgs s_names) (defBody s_names) (defScope s_names) .none kV_names dc_names pm_names an_names cd_names ct_names), sl_names⟩)
    (c_names : PySem.W.codeIn K cd_names "_law_names" = true)
    (k_names : PySem.W.keepIn K (.ref f_names) = true)
    (a_pool : PySem.W.nsIn K mainGlobals "_law_pool" = some (some (.ref f_pool)))
    (l_pool : K.lookup f_pool = some ⟨oc_pool, od_pool, .func (PySem.W.fnOf "_law_pool" "_law_pool" (defArgs s_pool) (defBody s_pool) (defScope s_pool) .none kV_pool dc_pool pm_pool an_pool cd_pool ct_pool), sl_pool⟩)
    (c_pool : PySem.W.codeIn K cd_pool "_law_pool" = true)
    (k_pool : PySem.W.keepIn K (.ref f_pool) = true)
    (a_seen : PySem.W.nsIn K mainGlobals "_law_seen" = some (some (.ref f_seen)))
    (l_seen : K.lookup f_seen = some ⟨oc_seen, od_seen, .func (PySem.W.fnOf "_law_seen" "_law_seen" (defArgs s_seen) (defBody s_seen) (defScope s_seen) .none kV_seen dc_seen pm_seen an_seen cd_seen ct_seen), sl_seen⟩)
    (c_seen : PySem.W.codeIn K cd_seen "_law_seen" = true)
    (k_seen : PySem.W.keepIn K (.ref f_seen) = true)
    (a_room : PySem.W.nsIn K mainGlobals "_law_room" = some (some (.ref f_room)))
    (l_room : K.lookup f_room = some ⟨oc_room, od_room, .func (PySem.W.fnOf "_law_room" "_law_room" (defArgs s_room) (defBody s_room) (defScope s_room) .none kV_room dc_room pm_room an_room cd_room ct_room), sl_room⟩)
    (c_room : PySem.W.codeIn K cd_room "_law_room" = true)
    (k_room : PySem.W.keepIn K (.ref f_room) = true)
    (a_atom : PySem.W.nsIn K mainGlobals "_law_atom" = some (some (.ref f_atom)))
    (l_atom : K.lookup f_atom = some ⟨oc_atom, od_atom, .func (PySem.W.fnOf "_law_atom" "_law_atom" (defArgs s_atom) (defBody s_atom) (defScope s_atom) .none kV_atom dc_atom pm_atom an_atom cd_atom ct_atom), sl_atom⟩)
    (c_atom : PySem.W.codeIn K cd_atom "_law_atom" = true)
    (k_atom : PySem.W.keepIn K (.ref f_atom) = true)
    (a_drawn : PySem.W.nsIn K mainGlobals "_law_drawn" = some (some (.ref f_drawn)))
    (l_drawn : K.lookup f_drawn = some ⟨oc_drawn, od_drawn, .func (PySem.W.fnOf "_law_drawn" "_law_drawn" (defArgs s_drawn) (defBody s_drawn) (defScope s_drawn) .none kV_drawn dc_drawn pm_drawn an_drawn cd_drawn ct_drawn), sl_drawn⟩)
    (c_drawn : PySem.W.codeIn K cd_drawn "_law_drawn" = true)
    (k_drawn : PySem.W.keepIn K (.ref f_drawn) = true)
    (a_turned : PySem.W.nsIn K mainGlobals "_law_turned" = some (some (.ref f_turned)))
    (l_turned : K.lookup f_turned = some ⟨oc_turned, od_turned, .func (PySem.W.fnOf "_law_turned" "_law_turned" (defArgs s_turned) (defBody s_turned) (defScope s_turned) .none kV_turned dc_turned pm_turned an_turned cd_turned ct_turned), sl_turned⟩)
    (c_turned : PySem.W.codeIn K cd_turned "_law_turned" = true)
    (k_turned : PySem.W.keepIn K (.ref f_turned) = true)
    (a_wider : PySem.W.nsIn K mainGlobals "_law_wider" = some (some (.ref f_wider)))
    (l_wider : K.lookup f_wider = some ⟨oc_wider, od_wider, .func (PySem.W.fnOf "_law_wider" "_law_wider" (defArgs s_wider) (defBody s_wider) (defScope s_wider) .none kV_wider dc_wider pm_wider an_wider cd_wider ct_wider), sl_wider⟩)
    (c_wider : PySem.W.codeIn K cd_wider "_law_wider" = true)
    (k_wider : PySem.W.keepIn K (.ref f_wider) = true)
    (a_maps : PySem.W.nsIn K mainGlobals "_law_maps" = some (some (.ref f_maps)))
    (l_maps : K.lookup f_maps = some ⟨oc_maps, od_maps, .func (PySem.W.fnOf "_law_maps" "_law_maps" (defArgs s_maps) (defBody s_maps) (defScope s_maps) .none kV_maps dc_maps pm_maps an_maps cd_maps ct_maps), sl_maps⟩)
    (c_maps : PySem.W.codeIn K cd_maps "_law_maps" = true)
    (k_maps : PySem.W.keepIn K (.ref f_maps) = true)
    (a_reaches : PySem.W.nsIn K mainGlobals "_law_reaches" = some (some (.ref f_reaches)))
    (l_reaches : K.lookup f_reaches = some ⟨oc_reaches, od_reaches, .func (PySem.W.fnOf "_law_reaches" "_law_reaches" (defArgs s_reaches) (defBody s_reaches) (defScope s_reaches) .none kV_reaches dc_reaches pm_reaches an_reaches cd_reaches ct_reaches), sl_reaches⟩)
    (c_reaches : PySem.W.codeIn K cd_reaches "_law_reaches" = true)
    (k_reaches : PySem.W.keepIn K (.ref f_reaches) = true)
    (a_due : PySem.W.nsIn K mainGlobals "_law_due" = some (some (.ref f_due)))
    (l_due : K.lookup f_due = some ⟨oc_due, od_due, .func (PySem.W.fnOf "_law_due" "_law_due" (defArgs s_due) (defBody s_due) (defScope s_due) .none kV_due dc_due pm_due an_due cd_due ct_due), sl_due⟩)
    (c_due : PySem.W.codeIn K cd_due "_law_due" = true)
    (k_due : PySem.W.keepIn K (.ref f_due) = true)
    (a_shown : PySem.W.nsIn K mainGlobals "_law_shown" = some (some (.ref f_shown)))
    (l_shown : K.lookup f_shown = some ⟨oc_shown, od_shown, .func (PySem.W.fnOf "_law_shown" "_law_shown" (defArgs s_shown) (defBody s_shown) (defScope s_shown) .none kV_shown dc_shown pm_shown an_shown cd_shown ct_shown), sl_shown⟩)
    (c_shown : PySem.W.codeIn K cd_shown "_law_shown" = true)
    (k_shown : PySem.W.keepIn K (.ref f_shown) = true)
    (a_asked : PySem.W.nsIn K mainGlobals "_law_asked" = some (some (.ref f_asked)))
    (l_asked : K.lookup f_asked = some ⟨oc_asked, od_asked, .func (PySem.W.fnOf "_law_asked" "_law_asked" (defArgs s_asked) (defBody s_asked) (defScope s_asked) .none kV_asked dc_asked pm_asked an_asked cd_asked ct_asked), sl_asked⟩)
    (c_asked : PySem.W.codeIn K cd_asked "_law_asked" = true)
    (k_asked : PySem.W.keepIn K (.ref f_asked) = true)
    (a_law : PySem.W.nsIn K mainGlobals "law" = some (some (.ref f_law)))
    (l_law : K.lookup f_law = some ⟨oc_law, od_law, .func (PySem.W.fnOf "law" "law" (defArgs s_law) (defBody s_law) (defScope s_law) .none kV_law dc_law pm_law an_law cd_law ct_law), sl_law⟩)
    (c_law : PySem.W.codeIn K cd_law "law" = true)
    (k_law : PySem.W.keepIn K (.ref f_law) = true)
    (aC : PySem.W.nsIn K mainGlobals "Case" = some (some (.ref C)))
    (a_i : PySem.W.findIn K (.ref C) "__init__" = some (some (.ref fI)))
    (i_i : PySem.W.isFn K (.ref fI) = true)
    (l_i : K.lookup fI = some ⟨oc_i, od_i, .func (PySem.W.fnOf "__init__" "Case.__init__" (defArgs s_init) (defBody s_init) (defScope s_init) (.ref T0) kV_i dc_i pm_i an_i cd_i ct_i), sl_i⟩)
    (t_i : K.lookup T0 = some ⟨tc, td, .seq #[e0, e1] tn, tsl⟩)
    (c_i : PySem.W.codeIn K cd_i "Case.__init__" = true)
    (a_d : PySem.W.findIn K (.ref C) "different_atoms" = some (some (.ref fD)))
    (i_d : PySem.W.isFn K (.ref fD) = true)
    (l_d : K.lookup fD = some ⟨oc_d, od_d, .func (PySem.W.fnOf "different_atoms" "Case.different_atoms" (defArgs s_different_atoms) (defBody s_different_atoms) (defScope s_different_atoms) .none kV_d dc_d pm_d an_d cd_d ct_d), sl_d⟩)
    (c_d : PySem.W.codeIn K cd_d "Case.different_atoms" = true)
    (k_d : PySem.W.keepIn K (.ref fD) = true)
    (pg : PySem.W.plainGet K C Str.empty = true)
    (hd : PySem.W.hasDictIn K C = true)
    (po : PySem.W.plainOver K C = true)
    (sa : PySem.W.findIn K (.ref C) "__setattr__" = some (some (.builtin "object.__setattr__")))
    (mk : PySem.W.makesIn K C = true)
    (kc : PySem.W.keepIn K (.ref C) = true)
    (n_points : PySem.W.findIn K (.ref C) "points" = some none)
    (n_atoms : PySem.W.findIn K (.ref C) "atoms" = some none)
    (n_groups : PySem.W.findIn K (.ref C) "groups" = some none)
    (n_pick : PySem.W.findIn K (.ref C) "pick" = some none)
    (n_form : PySem.W.findIn K (.ref C) "form" = some none)
    (b_len : PySem.W.nsIn K mainGlobals "len" = some none)
    (b_tuple : PySem.W.nsIn K mainGlobals "tuple" = some none)
    (b_list : PySem.W.nsIn K mainGlobals "list" = some none)
    (b_int : PySem.W.nsIn K mainGlobals "int" = some none)
    (b_str : PySem.W.nsIn K mainGlobals "str" = some none)
    (b_sorted : PySem.W.nsIn K mainGlobals "sorted" = some none)
    (b_all : PySem.W.nsIn K mainGlobals "all" = some none)
    (b_isinstance : PySem.W.nsIn K mainGlobals "isinstance" = some none)
    (b_range : PySem.W.nsIn K mainGlobals "range" = some none)
    (b_enumerate : PySem.W.nsIn K mainGlobals "enumerate" = some none)
    (b_zip : PySem.W.nsIn K mainGlobals "zip" = some none)
    (b_ValueError : PySem.W.nsIn K mainGlobals "ValueError" = some none)
    (b_bool : PySem.W.nsIn K mainGlobals "bool" = some none)
    (b_super : PySem.W.nsIn K mainGlobals "super" = some none)
    (opq : PySem.W.nsIn K cStatics "thirdparty.any" = some none)
    (aE : PySem.W.nsIn K mainGlobals "MostsError" = some (some (.ref CE)))
    (aCK : PySem.W.nsIn K mainGlobals "InvalidKind" = some (some (.ref CK)))
    (xLK : K.lookup CK = some (excClassObj nmK qK CK NK bsK [.ref CE, .type "ValueError", .type "Exception", .type "BaseException", .type "object"] true snK subK abK colK ddK m0K m1K m2K m3K m5K "ValueError.__new__"))
    (saK : PySem.W.findIn K (.ref CK) "__setattr__" = some (some (.builtin "object.__setattr__")))
    (eCK : PySem.W.subIn K (.ref CK) (.type "BaseException") = some true)
    (tCK : PySem.W.typeIn K (.ref CK) = some (.type "type"))
    (kCK : PySem.W.keepIn K (.ref CK) = true)
    (iCK : PySem.W.findIn K (.ref CK) "__init__" = some (some (.ref gK)))
    (tIK : PySem.W.typeIn K (.ref gK) = some (.type "function"))
    (l_K : K.lookup gK = some ⟨oc_K, od_K, .func (PySem.W.fnX "__init__" "InvalidKind.__init__" (defArgs s_K) (defBody s_K) (defScope s_K) [("__class__", ccK)] .none kV_K dc_K pm_K an_K (.ref cdaK) ct_K), sl_K⟩)
    (c_K : PySem.W.codeIn K (.ref cdaK) "InvalidKind.__init__" = true)
    (nfK : PySem.W.findIn K (.ref CK) "kind" = some none)
    (clsK : (PySem.W.clsIn K CK).isSome = true)
    (cellK : K.lookup ccK = some ⟨clK, cldK, .cell (some (.ref CK)), cslK⟩)
    (codeK : K.lookup cdaK = some ⟨cclK, ccdK, .fields vsK, ccsK⟩)
    (vs2K : vsK[2]? = some (.str fileK tfK))
    (filK : (("/claim/cut.py" : Str) == fileK) = true)
    (mroK : PySem.W.mroIn K CK (.ref CK) = some true)
    (iniK : PySem.W.ks_superIn K CK CK "__init__" = some (some (.builtin "ValueError.__init__")))
    (svK : PySem.W.subIn K (.ref CK) (.type "ValueError") = some true)
    (xfK : xfB K CK = true)
    (xgK : PySem.W.findIn K (.ref CK) "__getattribute__" = some (some (.builtin "BaseException.__getattribute__")))
    (xkK : PySem.W.findIn K (.ref CK) "__getattr__" = some none)
    (xdK : PySem.W.hasDictIn K CK = true)
    (xaK : PySem.W.findIn K (.ref CK) "__class__" = some (some (.builtin "object.__class__")))
    (xmK : PySem.W.mroIn K CK (.type "object") = some true)
    (q1K : PySem.W.kitOne K (.ref CK) (.ref CE) = some true)
    (q2K : PySem.W.kitOne K (.ref CK) (.type "ValueError") = some true)
    (aCM : PySem.W.nsIn K mainGlobals "Mismatch" = some (some (.ref CM)))
    (xLM : K.lookup CM = some (excClassObj nmM qM CM NM bsM [.ref CE, .type "ValueError", .type "Exception", .type "BaseException", .type "object"] true snM subM abM colM ddM m0M m1M m2M m3M m5M "ValueError.__new__"))
    (saM : PySem.W.findIn K (.ref CM) "__setattr__" = some (some (.builtin "object.__setattr__")))
    (eCM : PySem.W.subIn K (.ref CM) (.type "BaseException") = some true)
    (tCM : PySem.W.typeIn K (.ref CM) = some (.type "type"))
    (kCM : PySem.W.keepIn K (.ref CM) = true)
    (iCM : PySem.W.findIn K (.ref CM) "__init__" = some (some (.ref gM)))
    (tIM : PySem.W.typeIn K (.ref gM) = some (.type "function"))
    (l_M : K.lookup gM = some ⟨oc_M, od_M, .func (PySem.W.fnX "__init__" "Mismatch.__init__" (defArgs s_M) (defBody s_M) (defScope s_M) [("__class__", ccM)] .none kV_M dc_M pm_M an_M (.ref cdaM) ct_M), sl_M⟩)
    (c_M : PySem.W.codeIn K (.ref cdaM) "Mismatch.__init__" = true)
    (nfM : PySem.W.findIn K (.ref CM) "what" = some none)
    (clsM : (PySem.W.clsIn K CM).isSome = true)
    (cellM : K.lookup ccM = some ⟨clM, cldM, .cell (some (.ref CM)), cslM⟩)
    (codeM : K.lookup cdaM = some ⟨cclM, ccdM, .fields vsM, ccsM⟩)
    (vs2M : vsM[2]? = some (.str fileM tfM))
    (filM : (("/claim/cut.py" : Str) == fileM) = true)
    (mroM : PySem.W.mroIn K CM (.ref CM) = some true)
    (iniM : PySem.W.ks_superIn K CM CM "__init__" = some (some (.builtin "ValueError.__init__")))
    (svM : PySem.W.subIn K (.ref CM) (.type "ValueError") = some true)
    (xfM : xfB K CM = true)
    (xgM : PySem.W.findIn K (.ref CM) "__getattribute__" = some (some (.builtin "BaseException.__getattribute__")))
    (xkM : PySem.W.findIn K (.ref CM) "__getattr__" = some none)
    (xdM : PySem.W.hasDictIn K CM = true)
    (xaM : PySem.W.findIn K (.ref CM) "__class__" = some (some (.builtin "object.__class__")))
    (xmM : PySem.W.mroIn K CM (.type "object") = some true)
    (q1M : PySem.W.kitOne K (.ref CM) (.ref CE) = some true)
    (q2M : PySem.W.kitOne K (.ref CM) (.type "ValueError") = some true)
    (xn : PySem.W.specialIn K (.builtin "object.__class__") "__get__" = some (some (.builtin "getset_descriptor.__get__")))
    (xt : PySem.W.takesIn K (.builtin "object.__class__") = some true)
    (xKK : PySem.W.exmOne K (.ref CK) (.ref CK) = some true)
    (xMK : PySem.W.exmOne K (.ref CM) (.ref CK) = some false)
    (xMM : PySem.W.exmOne K (.ref CM) (.ref CM) = some true)
    (kb : PySem.W.kitOne K (.type "bool") (.type "bool") = some true) :
    ∃ fd : FuncData, (∀ (s : Shared) (v : Value), BindsTo s fd ⟨[v], []⟩ [("script", v)]) ∧ ∀ base : Heap, K.In base → base.Ns mainGlobals mg → FnOk PySem.Challenge.pw_mostsalike_k72_case_covers w K mg base CX0 6 fa fd ["script"] (spLaw K) := by
  have e := hfa.symm.trans (PySem.W.mg_of X G a_law)
  cases e
  have B : NB mg := ⟨PySem.W.mg_none_of X G b_len, PySem.W.mg_none_of X G b_tuple, PySem.W.mg_none_of X G b_list, PySem.W.mg_none_of X G b_int, PySem.W.mg_none_of X G b_str, PySem.W.mg_none_of X G b_sorted, PySem.W.mg_none_of X G b_all, PySem.W.mg_none_of X G b_isinstance, PySem.W.mg_none_of X G b_range, PySem.W.mg_none_of X G b_enumerate, PySem.W.mg_none_of X G b_zip, PySem.W.mg_none_of X G b_ValueError, PySem.W.mg_none_of X G b_bool⟩
  have T : CaseC K mg C := { toNB := B, cl := ⟨pg, hd, po, sa⟩, n_points := n_points, n_atoms := n_atoms, n_groups := n_groups, n_pick := n_pick, n_form := n_form }
  have F_extended_values := fun_mk (st := s_extended_values) l_extended_values c_extended_values k_extended_values
  have Dextended_values : U.Def K mg "extended_values" f_extended_values _ ["values", "slots", "row"] := ⟨PySem.W.mg_of X G a_extended_values, k_extended_values, F_extended_values.binds (ps := ["values", "slots", "row"]) fun _ _ _ _ _ _ us hl => match us, hl with | [_, _, _], _ => rfl⟩
  have F_atom_solutions := fun_mk (st := s_atom_solutions) l_atom_solutions c_atom_solutions k_atom_solutions
  have Datom_solutions : U.Def K mg "atom_solutions" f_atom_solutions _ ["atoms", "start", "tables"] := ⟨PySem.W.mg_of X G a_atom_solutions, k_atom_solutions, F_atom_solutions.binds (ps := ["atoms", "start", "tables"]) fun _ _ _ _ _ _ us hl => match us, hl with | [_, _, _], _ => rfl⟩
  have F_sense_of := fun_mk (st := s_sense_of) l_sense_of c_sense_of k_sense_of
  have Dsense_of : U.Def K mg "sense_of" f_sense_of _ ["kind"] := ⟨PySem.W.mg_of X G a_sense_of, k_sense_of, F_sense_of.binds (ps := ["kind"]) fun _ _ _ _ _ _ us hl => match us, hl with | [_], _ => rfl⟩
  have F_is_ascending := fun_mk (st := s_is_ascending) l_is_ascending c_is_ascending k_is_ascending
  have Dis_ascending : U.Def K mg "is_ascending" f_is_ascending _ ["values"] := ⟨PySem.W.mg_of X G a_is_ascending, k_is_ascending, F_is_ascending.binds (ps := ["values"]) fun _ _ _ _ _ _ us hl => match us, hl with | [_], _ => rfl⟩
  have F_atoms_by_name := fun_mk (st := s_atoms_by_name) l_atoms_by_name c_atoms_by_name k_atoms_by_name
  have Datoms_by_name : U.Def K mg "atoms_by_name" f_atoms_by_name _ ["case"] := ⟨PySem.W.mg_of X G a_atoms_by_name, k_atoms_by_name, F_atoms_by_name.binds (ps := ["case"]) fun _ _ _ _ _ _ us hl => match us, hl with | [_], _ => rfl⟩
  have F_covers := fun_mk (st := s_covers) l_covers c_covers k_covers
  have Dcovers : U.Def K mg "covers" f_covers _ ["case", "other", "kind"] := ⟨PySem.W.mg_of X G a_covers, k_covers, F_covers.binds (ps := ["case", "other", "kind"]) fun _ _ _ _ _ _ us hl => match us, hl with | [_, _, _], _ => rfl⟩
  have F_source := fun_mk (st := s_source) l_source c_source k_source
  have Dsource : U.Def K mg "_law_source" f_source _ ["script"] := ⟨PySem.W.mg_of X G a_source, k_source, F_source.binds (ps := ["script"]) fun _ _ _ _ _ _ us hl => match us, hl with | [_], _ => rfl⟩
  have F_draw := fun_mk (st := s_draw) l_draw c_draw k_draw
  have Ddraw : U.Def K mg "_law_draw" f_draw _ ["source", "many"] := ⟨PySem.W.mg_of X G a_draw, k_draw, F_draw.binds (ps := ["source", "many"]) fun _ _ _ _ _ _ us hl => match us, hl with | [_, _], _ => rfl⟩
  have F_names := fun_mk (st := s_names) l_names c_names k_names
  have Dnames : U.Def K mg "_law_names" f_names _ ["source", "many"] := ⟨PySem.W.mg_of X G a_names, k_names, F_names.binds (ps := ["source", "many"]) fun _ _ _ _ _ _ us hl => match us, hl with | [_, _], _ => rfl⟩
  have F_pool := fun_mk (st := s_pool) l_pool c_pool k_pool
  have Dpool : U.Def K mg "_law_pool" f_pool _ ["source", "many"] := ⟨PySem.W.mg_of X G a_pool, k_pool, F_pool.binds (ps := ["source", "many"]) fun _ _ _ _ _ _ us hl => match us, hl with | [_, _], _ => rfl⟩
  have F_seen := fun_mk (st := s_seen) l_seen c_seen k_seen
  have Dseen : U.Def K mg "_law_seen" f_seen _ ["case"] := ⟨PySem.W.mg_of X G a_seen, k_seen, F_seen.binds (ps := ["case"]) fun _ _ _ _ _ _ us hl => match us, hl with | [_], _ => rfl⟩
  have F_room := fun_mk (st := s_room) l_room c_room k_room
  have Droom : U.Def K mg "_law_room" f_room _ ["points"] := ⟨PySem.W.mg_of X G a_room, k_room, F_room.binds (ps := ["points"]) fun _ _ _ _ _ _ us hl => match us, hl with | [_], _ => rfl⟩
  have F_atom := fun_mk (st := s_atom) l_atom c_atom k_atom
  have Datom : U.Def K mg "_law_atom" f_atom _ ["source", "names", "size", "place"] := ⟨PySem.W.mg_of X G a_atom, k_atom, F_atom.binds (ps := ["source", "names", "size", "place"]) fun _ _ _ _ _ _ us hl => match us, hl with | [_, _, _, _], _ => rfl⟩
  have F_drawn := fun_mk (st := s_drawn) l_drawn c_drawn k_drawn
  have Ddrawn : U.Def K mg "_law_drawn" f_drawn _ ["source", "names", "pool", "width"] := ⟨PySem.W.mg_of X G a_drawn, k_drawn, F_drawn.binds (ps := ["source", "names", "pool", "width"]) fun _ _ _ _ _ _ us hl => match us, hl with | [_, _, _, _], _ => rfl⟩
  have F_turned := fun_mk (st := s_turned) l_turned c_turned k_turned
  have Dturned : U.Def K mg "_law_turned" f_turned _ ["names", "atom"] := ⟨PySem.W.mg_of X G a_turned, k_turned, F_turned.binds (ps := ["names", "atom"]) fun _ _ _ _ _ _ us hl => match us, hl with | [_, _], _ => rfl⟩
  have F_wider := fun_mk (st := s_wider) l_wider c_wider k_wider
  have Dwider : U.Def K mg "_law_wider" f_wider _ ["source", "names", "case"] := ⟨PySem.W.mg_of X G a_wider, k_wider, F_wider.binds (ps := ["source", "names", "case"]) fun _ _ _ _ _ _ us hl => match us, hl with | [_, _, _], _ => rfl⟩
  have F_maps := fun_mk (st := s_maps) l_maps c_maps k_maps
  have Dmaps : U.Def K mg "_law_maps" f_maps _ ["points", "others"] := ⟨PySem.W.mg_of X G a_maps, k_maps, F_maps.binds (ps := ["points", "others"]) fun _ _ _ _ _ _ us hl => match us, hl with | [_, _], _ => rfl⟩
  have F_reaches := fun_mk (st := s_reaches) l_reaches c_reaches k_reaches
  have Dreaches : U.Def K mg "_law_reaches" f_reaches _ ["first", "second", "sense"] := ⟨PySem.W.mg_of X G a_reaches, k_reaches, F_reaches.binds (ps := ["first", "second", "sense"]) fun _ _ _ _ _ _ us hl => match us, hl with | [_, _, _], _ => rfl⟩
  have F_due := fun_mk (st := s_due) l_due c_due k_due
  have Ddue : U.Def K mg "_law_due" f_due _ ["first", "second", "sense"] := ⟨PySem.W.mg_of X G a_due, k_due, F_due.binds (ps := ["first", "second", "sense"]) fun _ _ _ _ _ _ us hl => match us, hl with | [_, _, _], _ => rfl⟩
  have F_shown := fun_mk (st := s_shown) l_shown c_shown k_shown
  have Dshown : U.Def K mg "_law_shown" f_shown _ ["case", "other", "sense"] := ⟨PySem.W.mg_of X G a_shown, k_shown, F_shown.binds (ps := ["case", "other", "sense"]) fun _ _ _ _ _ _ us hl => match us, hl with | [_, _, _], _ => rfl⟩
  have F_asked := fun_mk (st := s_asked) l_asked c_asked k_asked
  have Dasked : U.Def K mg "_law_asked" f_asked _ ["first", "second", "sense"] := ⟨PySem.W.mg_of X G a_asked, k_asked, F_asked.binds (ps := ["first", "second", "sense"]) fun _ _ _ _ _ _ us hl => match us, hl with | [_, _, _], _ => rfl⟩
  have F_law := fun_mk (st := s_law) l_law c_law k_law
  have F_d := fun_mk (st := s_different_atoms) l_d c_d k_d
  have b_d : Binds K _ ["self"] [] := F_d.binds (ps := ["self"]) fun _ _ _ _ _ _ us hl => match us, hl with | [_], _ => rfl
  have b_i : Binds K (PySem.W.fnOf "__init__" "Case.__init__" (defArgs s_init) (defBody s_init) (defScope s_init) (.ref T0) kV_i dc_i pm_i an_i cd_i ct_i) ["self", "points", "atoms", "groups", "pick"] [] := fun s us X hl => by
    rw [List.append_nil] at hl ⊢
    obtain ⟨k, k1, k2⟩ : ∃ k, bindArgs (PySem.W.fnOf "__init__" "Case.__init__" (defArgs s_init) (defBody s_init) (defScope s_init) (.ref T0) kV_i dc_i pm_i an_i cd_i ct_i) ⟨us, []⟩ = seqItems? (.ref T0) >>= k ∧ k (some #[e0, e1]) = pure ((["self", "points", "atoms", "groups", "pick"] : List Str).zip us) :=
      match us, hl with | [_, _, _, _, _], _ => ⟨_, rfl, rfl⟩
    refine BindsTo.of_looks fun M => ?_
    rw [k1]
    exact looks_items X t_i rfl (.of_pure k2)
  have SK : SupI PySem.Challenge.pw_mostsalike_k72_case_covers K mg CK gK ccK cdaK (defScope s_K) := ⟨clsK, ⟨_, _, _, cellK⟩, ⟨_, _, _, _, _, _, codeK, vs2K, filK⟩, mroK, PySem.W.mg_none_of X G b_super, opq, iniK, svK, by decide +kernel, by decide +kernel, by decide +kernel, by decide +kernel, rfl, rfl, rfl, by decide +kernel⟩
  have OK : OexC K CK := ⟨⟨_, _, _, _, _, _, _, _, _, _, _, _, _, _, _, xLK, rfl⟩, saK, eCK, tCK, kCK⟩
  have b_K : Binds K (PySem.W.fnX "__init__" "InvalidKind.__init__" (defArgs s_K) (defBody s_K) (defScope s_K) [("__class__", ccK)] .none kV_K dc_K pm_K an_K (.ref cdaK) ct_K) ["self", "kind"] [] := .all fun us hl => match us, hl with | [_, _], _ => rfl
  have catK : Cat K CK CE "kind" := ⟨xfB_ok xfK, nfK, ⟨xgK, xkK, eCK, xdK, xaK, xn, xt, xmK⟩, q1K, q2K⟩
  have SM : SupI PySem.Challenge.pw_mostsalike_k72_case_covers K mg CM gM ccM cdaM (defScope s_M) := ⟨clsM, ⟨_, _, _, cellM⟩, ⟨_, _, _, _, _, _, codeM, vs2M, filM⟩, mroM, PySem.W.mg_none_of X G b_super, opq, iniM, svM, by decide +kernel, by decide +kernel, by decide +kernel, by decide +kernel, rfl, rfl, rfl, by decide +kernel⟩
  have OM : OexC K CM := ⟨⟨_, _, _, _, _, _, _, _, _, _, _, _, _, _, _, xLM, rfl⟩, saM, eCM, tCM, kCM⟩
  have b_M : Binds K (PySem.W.fnX "__init__" "Mismatch.__init__" (defArgs s_M) (defBody s_M) (defScope s_M) [("__class__", ccM)] .none kV_M dc_M pm_M an_M (.ref cdaM) ct_M) ["self", "what"] [] := .all fun us hl => match us, hl with | [_, _], _ => rfl
  have catM : Cat K CM CE "what" := ⟨xfB_ok xfM, nfM, ⟨xgM, xkM, eCM, xdM, xaM, xn, xt, xmM⟩, q1M, q2M⟩
  refine ⟨PySem.W.fnOf "law" "law" (defArgs s_law) (defBody s_law) (defScope s_law) .none kV_law dc_law pm_law an_law cd_law ct_law, fun s v => .of_eq rfl, fun base KB GB => ?_⟩
  have FK : FnOk PySem.Challenge.pw_mostsalike_k72_case_covers w K mg base (CX0) 1 gK (PySem.W.fnX "__init__" "InvalidKind.__init__" (defArgs s_K) (defBody s_K) (defScope s_K) [("__class__", ccK)] .none kV_K dc_K pm_K an_K (.ref cdaK) ct_K) ["self", "kind"] (spX K CK "kind") :=
    fn_sup SK OK nfK l_K c_K rfl rfl (by decide +kernel) (by decide +kernel) (by decide +kernel) (fun L => by rfl) (fun L => by rfl) (fun L => by rfl) (fun L => by rfl) (fun L => by rfl)
  have XK : Exn PySem.Challenge.pw_mostsalike_k72_case_covers w K mg base "InvalidKind" CK gK _ "kind" "kind" := ⟨OK, iCK, tIK, FK, b_K, PySem.W.mg_of X G aCK⟩
  have FM : FnOk PySem.Challenge.pw_mostsalike_k72_case_covers w K mg base (CX0) 1 gM (PySem.W.fnX "__init__" "Mismatch.__init__" (defArgs s_M) (defBody s_M) (defScope s_M) [("__class__", ccM)] .none kV_M dc_M pm_M an_M (.ref cdaM) ct_M) ["self", "what"] (spX K CM "what") :=
    fn_sup SM OM nfM l_M c_M rfl rfl (by decide +kernel) (by decide +kernel) (by decide +kernel) (fun L => by rfl) (fun L => by rfl) (fun L => by rfl) (fun L => by rfl) (fun L => by rfl)
  have XM : Exn PySem.Challenge.pw_mostsalike_k72_case_covers w K mg base "Mismatch" CM gM _ "what" "what" := ⟨OM, iCM, tIM, FM, b_M, PySem.W.mg_of X G aCM⟩
  have Gdraw := draw_of (ok_draw (P := PySem.Challenge.pw_mostsalike_k72_case_covers) (w := w) (base := base) F_draw B)
  have Gsource := ok_source (P := PySem.Challenge.pw_mostsalike_k72_case_covers) (w := w) (base := base) F_source B
  have Gnames := ok_names F_names B Ddraw Gdraw
  have Gpool := ok_pool F_pool B Ddraw Gdraw
  have Gseen := ok_seen (P := PySem.Challenge.pw_mostsalike_k72_case_covers) (w := w) (base := base) F_seen T
  have Groom := ok_room (P := PySem.Challenge.pw_mostsalike_k72_case_covers) (w := w) (base := base) F_room B
  have Gatom := ok_atom F_atom B Ddraw Gdraw
  have Gturned := ok_turned (P := PySem.Challenge.pw_mostsalike_k72_case_covers) (w := w) (base := base) F_turned B
  have Gdrawn := ok_drawn F_drawn B Ddraw Gdraw Datom Gatom Droom Groom
  have Gwider := ok_wider F_wider B Ddraw Gdraw Datom Gatom Droom Groom Dturned Gturned
  have Gmaps := ok_maps (P := PySem.Challenge.pw_mostsalike_k72_case_covers) (w := w) (base := base) F_maps B
  have Greaches := ok_reaches F_reaches B Dmaps Gmaps
  have Gdue := ok_due F_due B Dreaches Greaches
  have Gex := ok_extended_values (P := PySem.Challenge.pw_mostsalike_k72_case_covers) (w := w) (base := base) F_extended_values B
  have Gas := ok_atom_solutions F_atom_solutions B Dextended_values Gex
  have Gda := ok_different_atoms (P := PySem.Challenge.pw_mostsalike_k72_case_covers) (w := w) (base := base) F_d T
  have Gan := ok_atoms_by_name F_atoms_by_name T ⟨a_d, i_d, k_d⟩ b_d Gda
  have Gso := ok_sense_of (P := PySem.Challenge.pw_mostsalike_k72_case_covers) (w := w) (base := base) F_sense_of B
  have Gia := ok_is_ascending (P := PySem.Challenge.pw_mostsalike_k72_case_covers) (w := w) (base := base) F_is_ascending B
  have Ginit : FnOk PySem.Challenge.pw_mostsalike_k72_case_covers w K mg base CX0 1 fI _ ["self", "points", "atoms", "groups", "pick"] (spI K C 4 SInit) := ok_init (fun len hb => fn_of l_i c_i sc_init len fun A outer s H vs Q E hr hsp => by
    obtain ⟨t, h, q⟩ := hb _ A outer s H vs Q E hr hsp
    exact ⟨t, h.nox, q⟩) T
  have Gcov := ok_covers F_covers T XK XM Datom_solutions Gas Datoms_by_name Gan Dsense_of Gso Dis_ascending Gia
  have Gshown := ok_shown F_shown B Dcovers Gcov (PySem.W.mg_of X G aCK) (PySem.W.mg_of X G aCM) (PySem.W.mg_of X G aE) catK catM xKK xMK xMM kb
  have Gasked := ok_asked F_asked T ⟨mk, a_i, i_i, kc⟩ Ginit (PySem.W.mg_of X G aC) b_i Dshown Gshown Ddue Gdue Dseen Gseen
  exact ok_law F_law B Dsource Gsource Ddraw Gdraw Dnames Gnames Dpool Gpool Ddrawn Gdrawn Dwider Gwider Dasked Gasked

theorem walk {l : PySem.W.OpenLaw} {q : Program} {loose : List Str} {XP : (Str → Option Value) → Heap → Prop} {YP : World → Heap → Prop} {d : DefRec} {K : PySem.Params → PySem.W.Frag} (hn : l.most = some 63) (hdf : d.params.defaults = [])
    (hY : ∀ (w : World) (h : Heap), YP w h → (K w.params).In h)
    (F : ∀ (w : World) (mg : Str → Option Value) (fa : Addr) (h : Heap), (K w.params).In h → h.Ns mainGlobals mg → mg d.name = some (.ref fa) →
      ∃ fd : FuncData, (∀ (s : Shared) (u : Value), BindsTo s fd ⟨[u], []⟩ [("script", u)]) ∧ ∀ base : Heap, (K w.params).In base → base.Ns mainGlobals mg → FnOk l.prog w (K w.params) mg base CX0 6 fa fd ["script"] (spLaw (K w.params))) :
    PySem.W.WalkO q loose XP YP l.row.toRowW d [] (fun f vs => PySem.call f vs) :=
  L2.walk_ofB (n := 63) (k := 6) (x := "script") (CX := fun _ => CX0) (sp := fun w => spLaw (K w.params)) hn (by decide) hdf ⟨rfl, by decide, by decide⟩ hY F (fun _ _ a ns hl hb _ hS => ⟨a, ns, rfl, hS, hl, hb, fun _ => rfl⟩) fun _ _ _ _ _ z => z
end K72

set_option Elab.async false
set_option maxRecDepth 100000
open PySem PySem.W PyProof.Rows
set_option maxRecDepth 100000 in
set_option maxHeartbeats 0 in
theorem PySem.Challenge.cw_mostsalike_k72_case_covers_holds : PySem.Challenge.rw_mostsalike_k72_case_covers.Holds := by
  w_on; o_law; k_head; (case hw => w_witness2)
  k_fill
  refine K72.walk (l := PySem.Challenge.rw_mostsalike_k72_case_covers) rfl rfl (fun w h Y => PySem.W.kIn_of Y) ?F
  case F =>
    intro w mg fa h KX G hmg
    refine' K72.all_mk KX G hmg ?a_extended_values ?l_extended_values ?c_extended_values ?k_extended_values ?a_atom_solutions ?l_atom_solutions ?c_atom_solutions ?k_atom_solutions ?a_sense_of ?l_sense_of ?c_sense_of ?k_sense_of ?a_is_ascending ?l_is_ascending ?c_is_ascending ?k_is_ascending ?a_atoms_by_name ?l_atoms_by_name ?c_atoms_by_name ?k_atoms_by_name ?a_covers ?l_covers ?c_covers ?k_covers ?a_source ?l_source ?c_source ?k_source ?a_draw ?l_draw ?c_draw ?k_draw ?a_names ?l_names ?c_names ?k_names ?a_pool ?l_pool ?c_pool ?k_pool ?a_seen ?l_seen ?c_seen ?k_seen ?a_room ?l_room ?c_room ?k_room ?a_atom ?l_atom ?c_atom ?k_atom ?a_drawn ?l_drawn ?c_drawn ?k_drawn ?a_turned ?l_turned ?c_turned ?k_turned ?a_wider ?l_wider ?c_wider ?k_wider ?a_maps ?l_maps ?c_maps ?k_maps ?a_reaches ?l_reaches ?c_reaches ?k_reaches ?a_due ?l_due ?c_due ?k_due ?a_shown ?l_shown ?c_shown ?k_shown ?a_asked ?l_asked ?c_asked ?k_asked ?a_law ?l_law ?c_law ?k_law ?aC ?a_i ?i_i ?l_i ?t_i ?c_i ?a_d ?i_d ?l_d ?c_d ?k_d ?pg ?hd ?po ?sa ?mk ?kc ?n_points ?n_atoms ?n_groups ?n_pick ?n_form ?b_len ?b_tuple ?b_list ?b_int ?b_str ?b_sorted ?b_all ?b_isinstance ?b_range ?b_enumerate ?b_zip ?b_ValueError ?b_bool ?b_super ?opq ?aE ?aCK ?xLK ?saK ?eCK ?tCK ?kCK ?iCK ?tIK ?l_K ?c_K ?nfK ?clsK ?cellK ?codeK ?vs2K ?filK ?mroK ?iniK ?svK ?xfK ?xgK ?xkK ?xdK ?xaK ?xmK ?q1K ?q2K ?aCM ?xLM ?saM ?eCM ?tCM ?kCM ?iCM ?tIM ?l_M ?c_M ?nfM ?clsM ?cellM ?codeM ?vs2M ?filM ?mroM ?iniM ?svM ?xfM ?xgM ?xkM ?xdM ?xaM ?xmM ?q1M ?q2M ?xn ?xt ?xKK ?xMK ?xMM ?kb
    (case a_extended_values => first | k_is | rfl | decide +kernel)
    (case l_extended_values => first | k_is | rfl | decide +kernel)
    (case c_extended_values => first | k_is | rfl | decide +kernel)
    (case k_extended_values => first | k_is | rfl | decide +kernel)
    (case a_atom_solutions => first | k_is | rfl | decide +kernel)
    (case l_atom_solutions => first | k_is | rfl | decide +kernel)
    (case c_atom_solutions => first | k_is | rfl | decide +kernel)
    (case k_atom_solutions => first | k_is | rfl | decide +kernel)
    (case a_sense_of => first | k_is | rfl | decide +kernel)
    (case l_sense_of => first | k_is | rfl | decide +kernel)
    (case c_sense_of => first | k_is | rfl | decide +kernel)
    (case k_sense_of => first | k_is | rfl | decide +kernel)
    (case a_is_ascending => first | k_is | rfl | decide +kernel)
    (case l_is_ascending => first | k_is | rfl | decide +kernel)
    (case c_is_ascending => first | k_is | rfl | decide +kernel)
    (case k_is_ascending => first | k_is | rfl | decide +kernel)
    (case a_atoms_by_name => first | k_is | rfl | decide +kernel)
    (case l_atoms_by_name => first | k_is | rfl | decide +kernel)
    (case c_atoms_by_name => first | k_is | rfl | decide +kernel)
    (case k_atoms_by_name => first | k_is | rfl | decide +kernel)
    (case a_covers => first | k_is | rfl | decide +kernel)
    (case l_covers => first | k_is | rfl | decide +kernel)
    (case c_covers => first | k_is | rfl | decide +kernel)
    (case k_covers => first | k_is | rfl | decide +kernel)
    (case a_source => first | k_is | rfl | decide +kernel)
    (case l_source => first | k_is | rfl | decide +kernel)
    (case c_source => first | k_is | rfl | decide +kernel)
    (case k_source => first | k_is | rfl | decide +kernel)
    (case a_draw => first | k_is | rfl | decide +kernel)
    (case l_draw => first | k_is | rfl | decide +kernel)
    (case c_draw => first | k_is | rfl | decide +kernel)
    (case k_draw => first | k_is | rfl | decide +kernel)
    (case a_names => first | k_is | rfl | decide +kernel)
    (case l_names => first | k_is | rfl | decide +kernel)
    (case c_names => first | k_is | rfl | decide +kernel)
    (case k_names => first | k_is | rfl | decide +kernel)
    (case a_pool => first | k_is | rfl | decide +kernel)
    (case l_pool => first | k_is | rfl | decide +kernel)
    (case c_pool => first | k_is | rfl | decide +kernel)
    (case k_pool => first | k_is | rfl | decide +kernel)
    (case a_seen => first | k_is | rfl | decide +kernel)
    (case l_seen => first | k_is | rfl | decide +kernel)
    (case c_seen => first | k_is | rfl | decide +kernel)
    (case k_seen => first | k_is | rfl | decide +kernel)
    (case a_room => first | k_is | rfl | decide +kernel)
    (case l_room => first | k_is | rfl | decide +kernel)
    (case c_room => first | k_is | rfl | decide +kernel)
    (case k_room => first | k_is | rfl | decide +kernel)
    (case a_atom => first | k_is | rfl | decide +kernel)
    (case l_atom => first | k_is | rfl | decide +kernel)
    (case c_atom => first | k_is | rfl | decide +kernel)
    (case k_atom => first | k_is | rfl | decide +kernel)
    (case a_drawn => first | k_is | rfl | decide +kernel)
    (case l_drawn => first | k_is | rfl | decide +kernel)
    (case c_drawn => first | k_is | rfl | decide +kernel)
    (case k_drawn => first | k_is | rfl | decide +kernel)
    (case a_turned => first | k_is | rfl | decide +kernel)
    (case l_turned => first | k_is | rfl | decide +kernel)
    (case c_turned => first | k_is | rfl | decide +kernel)
    (case k_turned => first | k_is | rfl | decide +kernel)
    (case a_wider => first | k_is | rfl | decide +kernel)
    (case l_wider => first | k_is | rfl | decide +kernel)
    (case c_wider => first | k_is | rfl | decide +kernel)
    (case k_wider => first | k_is | rfl | decide +kernel)
    (case a_maps => first | k_is | rfl | decide +kernel)
    (case l_maps => first | k_is | rfl | decide +kernel)
    (case c_maps => first | k_is | rfl | decide +kernel)
    (case k_maps => first | k_is | rfl | decide +kernel)
    (case a_reaches => first | k_is | rfl | decide +kernel)
    (case l_reaches => first | k_is | rfl | decide +kernel)
    (case c_reaches => first | k_is | rfl | decide +kernel)
    (case k_reaches => first | k_is | rfl | decide +kernel)
    (case a_due => first | k_is | rfl | decide +kernel)
    (case l_due => first | k_is | rfl | decide +kernel)
    (case c_due => first | k_is | rfl | decide +kernel)
    (case k_due => first | k_is | rfl | decide +kernel)
    (case a_shown => first | k_is | rfl | decide +kernel)
    (case l_shown => first | k_is | rfl | decide +kernel)
    (case c_shown => first | k_is | rfl | decide +kernel)
    (case k_shown => first | k_is | rfl | decide +kernel)
    (case a_asked => first | k_is | rfl | decide +kernel)
    (case l_asked => first | k_is | rfl | decide +kernel)
    (case c_asked => first | k_is | rfl | decide +kernel)
    (case k_asked => first | k_is | rfl | decide +kernel)
    (case a_law => first | k_is | rfl | decide +kernel)
    (case l_law => first | k_is | rfl | decide +kernel)
    (case c_law => first | k_is | rfl | decide +kernel)
    (case k_law => first | k_is | rfl | decide +kernel)
    (case aC => first | k_is | rfl | decide +kernel)
    (case a_i => first | k_is | rfl | decide +kernel)
    (case i_i => first | k_is | rfl | decide +kernel)
    (case l_i => first | k_is | rfl | decide +kernel)
    (case t_i => first | k_is | rfl | decide +kernel)
    (case c_i => first | k_is | rfl | decide +kernel)
    (case a_d => first | k_is | rfl | decide +kernel)
    (case i_d => first | k_is | rfl | decide +kernel)
    (case l_d => first | k_is | rfl | decide +kernel)
    (case c_d => first | k_is | rfl | decide +kernel)
    (case k_d => first | k_is | rfl | decide +kernel)
    (case pg => first | k_is | rfl | decide +kernel)
    (case hd => first | k_is | rfl | decide +kernel)
    (case po => first | k_is | rfl | decide +kernel)
    (case sa => first | k_is | rfl | decide +kernel)
    (case mk => first | k_is | rfl | decide +kernel)
    (case kc => first | k_is | rfl | decide +kernel)
    (case n_points => first | k_is | rfl | decide +kernel)
    (case n_atoms => first | k_is | rfl | decide +kernel)
    (case n_groups => first | k_is | rfl | decide +kernel)
    (case n_pick => first | k_is | rfl | decide +kernel)
    (case n_form => first | k_is | rfl | decide +kernel)
    (case b_len => first | k_is | rfl | decide +kernel)
    (case b_tuple => first | k_is | rfl | decide +kernel)
    (case b_list => first | k_is | rfl | decide +kernel)
    (case b_int => first | k_is | rfl | decide +kernel)
    (case b_str => first | k_is | rfl | decide +kernel)
    (case b_sorted => first | k_is | rfl | decide +kernel)
    (case b_all => first | k_is | rfl | decide +kernel)
    (case b_isinstance => first | k_is | rfl | decide +kernel)
    (case b_range => first | k_is | rfl | decide +kernel)
    (case b_enumerate => first | k_is | rfl | decide +kernel)
    (case b_zip => first | k_is | rfl | decide +kernel)
    (case b_ValueError => first | k_is | rfl | decide +kernel)
    (case b_bool => first | k_is | rfl | decide +kernel)
    (case b_super => first | k_is | rfl | decide +kernel)
    (case opq => first | k_is | rfl | decide +kernel)
    (case aE => first | k_is | rfl | decide +kernel)
    (case aCK => first | k_is | rfl | decide +kernel)
    (case xLK => first | k_is | rfl | decide +kernel)
    (case saK => first | k_is | rfl | decide +kernel)
    (case eCK => first | k_is | rfl | decide +kernel)
    (case tCK => first | k_is | rfl | decide +kernel)
    (case kCK => first | k_is | rfl | decide +kernel)
    (case iCK => first | k_is | rfl | decide +kernel)
    (case tIK => first | k_is | rfl | decide +kernel)
    (case l_K => first | k_is | rfl | decide +kernel)
    (case c_K => first | k_is | rfl | decide +kernel)
    (case nfK => first | k_is | rfl | decide +kernel)
    (case clsK => first | k_is | rfl | decide +kernel)
    (case cellK => first | k_is | rfl | decide +kernel)
    (case codeK => first | k_is | rfl | decide +kernel)
    (case vs2K => first | k_is | rfl | decide +kernel)
    (case filK => first | k_is | rfl | decide +kernel)
    (case mroK => first | k_is | rfl | decide +kernel)
    (case iniK => first | k_is | rfl | decide +kernel)
    (case svK => first | k_is | rfl | decide +kernel)
    (case xfK => first | k_is | rfl | decide +kernel)
    (case xgK => first | k_is | rfl | decide +kernel)
    (case xkK => first | k_is | rfl | decide +kernel)
    (case xdK => first | k_is | rfl | decide +kernel)
    (case xaK => first | k_is | rfl | decide +kernel)
    (case xmK => first | k_is | rfl | decide +kernel)
    (case q1K => first | k_is | rfl | decide +kernel)
    (case q2K => first | k_is | rfl | decide +kernel)
    (case aCM => first | k_is | rfl | decide +kernel)
    (case xLM => first | k_is | rfl | decide +kernel)
    (case saM => first | k_is | rfl | decide +kernel)
    (case eCM => first | k_is | rfl | decide +kernel)
    (case tCM => first | k_is | rfl | decide +kernel)
    (case kCM => first | k_is | rfl | decide +kernel)
    (case iCM => first | k_is | rfl | decide +kernel)
    (case tIM => first | k_is | rfl | decide +kernel)
    (case l_M => first | k_is | rfl | decide +kernel)
    (case c_M => first | k_is | rfl | decide +kernel)
    (case nfM => first | k_is | rfl | decide +kernel)
    (case clsM => first | k_is | rfl | decide +kernel)
    (case cellM => first | k_is | rfl | decide +kernel)
    (case codeM => first | k_is | rfl | decide +kernel)
    (case vs2M => first | k_is | rfl | decide +kernel)
    (case filM => first | k_is | rfl | decide +kernel)
    (case mroM => first | k_is | rfl | decide +kernel)
    (case iniM => first | k_is | rfl | decide +kernel)
    (case svM => first | k_is | rfl | decide +kernel)
    (case xfM => first | k_is | rfl | decide +kernel)
    (case xgM => first | k_is | rfl | decide +kernel)
    (case xkM => first | k_is | rfl | decide +kernel)
    (case xdM => first | k_is | rfl | decide +kernel)
    (case xaM => first | k_is | rfl | decide +kernel)
    (case xmM => first | k_is | rfl | decide +kernel)
    (case q1M => first | k_is | rfl | decide +kernel)
    (case q2M => first | k_is | rfl | decide +kernel)
    (case xn => first | k_is | rfl | decide +kernel)
    (case xt => first | k_is | rfl | decide +kernel)
    (case xKK => first | k_is | rfl | decide +kernel)
    (case xMK => first | k_is | rfl | decide +kernel)
    (case xMM => first | k_is | rfl | decide +kernel)
    (case kb => first | k_is | rfl | decide +kernel)
