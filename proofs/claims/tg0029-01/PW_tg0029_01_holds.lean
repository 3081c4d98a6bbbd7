import PyProof.Rows.All
import Wide.All
import OpenK.AllK
import Wide.FinOn
import PyProof.Rows.ZipGen
import PySem.Challenge.RW_tg0029_01
open PySem PySem.W PyProof.Rows PySem.Calls PySem.Spec
set_option Elab.async false
set_option compiler.extract_closed false
set_option maxRecDepth 100000
set_option maxHeartbeats 8000000
namespace Mine
open_top hd for PySem.Challenge.rw_tg0029_01
-- open_top leaves the walker in another mood than a fresh start; this row sets it back
theorem walk_off : True := by
  w_top off
  trivial
local macro_rules | `(tactic| omega) => `(tactic| first | lia | omega (splitNatSub := true))

section
noncomputable abbrev LO : List Str := looseW hd.view_39 [Str.ofString "PressError"]

/- two addresses differ; hidden from omega, which splits on each ≠ -/
structure NE (a b : Nat) : Prop where
  out : @Ne Nat a b
theorem NE.symm {a b : Nat} (h : NE a b) : NE b a := ⟨Ne.symm h.out⟩
theorem NE.lt {a b : Nat} (h : @LT.lt Nat _ a b) : NE a b := ⟨Nat.ne_of_lt h⟩
theorem NE.gt {a b : Nat} (h : @LT.lt Nat _ b a) : NE a b := ⟨Nat.ne_of_gt h⟩
/- no object of these stands at D -/
noncomputable def Off (D : Nat) : List (Addr × Obj) → Prop
  | [] => True
  | (a, _) :: r => NE a D ∧ Off D r
theorem off_of {D : Addr} {l : List (Addr × Obj)} (h : ∀ p ∈ l, p.1 ≠ D) : Off D l := by
  induction l with
  | nil => exact True.intro
  | cons p r ih => exact ⟨⟨h p List.mem_cons_self⟩, ih fun q hq => h q (List.mem_cons_of_mem _ hq)⟩
theorem off_ne {D : Addr} {l : List (Addr × Obj)} (h : Off D l) : ∀ p ∈ l, p.1 ≠ D := by
  induction l with
  | nil => intro p hp; exact absurd hp List.not_mem_nil
  | cons p r ih =>
    intro q hq
    rcases List.mem_cons.mp hq with e | hq
    · rw [e]; exact h.1.out
    · exact ih h.2 q hq
theorem off_of1 {D : Addr} {l : List (Addr × Obj)} (h : LCg.Off1 D l) : Off D l := by
  induction l with
  | nil => exact True.intro
  | cons p r ih => exact ⟨⟨h.1⟩, ih h.2⟩

-- an existence or a conjunction taken apart at one blow: the goal is copied once
theorem ex2 {α0 α1 : Type} {P : α0 → α1 → Prop} {G : Prop} (q : ∃ x0 x1, P x0 x1) (k : ∀ x0 x1, P x0 x1 → G) : G := q.elim fun x0 q => q.elim fun x1 q => k x0 x1 q
theorem ex3 {α0 α1 α2 : Type} {P : α0 → α1 → α2 → Prop} {G : Prop} (q : ∃ x0 x1 x2, P x0 x1 x2) (k : ∀ x0 x1 x2, P x0 x1 x2 → G) : G := q.elim fun x0 q => q.elim fun x1 q => q.elim fun x2 q => k x0 x1 x2 q
theorem ex4 {α0 α1 α2 α3 : Type} {P : α0 → α1 → α2 → α3 → Prop} {G : Prop} (q : ∃ x0 x1 x2 x3, P x0 x1 x2 x3) (k : ∀ x0 x1 x2 x3, P x0 x1 x2 x3 → G) : G := q.elim fun x0 q => q.elim fun x1 q => q.elim fun x2 q => q.elim fun x3 q => k x0 x1 x2 x3 q
theorem ex5 {α0 α1 α2 α3 α4 : Type} {P : α0 → α1 → α2 → α3 → α4 → Prop} {G : Prop} (q : ∃ x0 x1 x2 x3 x4, P x0 x1 x2 x3 x4) (k : ∀ x0 x1 x2 x3 x4, P x0 x1 x2 x3 x4 → G) : G := q.elim fun x0 q => q.elim fun x1 q => q.elim fun x2 q => q.elim fun x3 q => q.elim fun x4 q => k x0 x1 x2 x3 x4 q
theorem ex6 {α0 α1 α2 α3 α4 α5 : Type} {P : α0 → α1 → α2 → α3 → α4 → α5 → Prop} {G : Prop} (q : ∃ x0 x1 x2 x3 x4 x5, P x0 x1 x2 x3 x4 x5) (k : ∀ x0 x1 x2 x3 x4 x5, P x0 x1 x2 x3 x4 x5 → G) : G := q.elim fun x0 q => q.elim fun x1 q => q.elim fun x2 q => q.elim fun x3 q => q.elim fun x4 q => q.elim fun x5 q => k x0 x1 x2 x3 x4 x5 q
theorem ex7 {α0 α1 α2 α3 α4 α5 α6 : Type} {P : α0 → α1 → α2 → α3 → α4 → α5 → α6 → Prop} {G : Prop} (q : ∃ x0 x1 x2 x3 x4 x5 x6, P x0 x1 x2 x3 x4 x5 x6) (k : ∀ x0 x1 x2 x3 x4 x5 x6, P x0 x1 x2 x3 x4 x5 x6 → G) : G := q.elim fun x0 q => q.elim fun x1 q => q.elim fun x2 q => q.elim fun x3 q => q.elim fun x4 q => q.elim fun x5 q => q.elim fun x6 q => k x0 x1 x2 x3 x4 x5 x6 q
theorem ex8 {α0 α1 α2 α3 α4 α5 α6 α7 : Type} {P : α0 → α1 → α2 → α3 → α4 → α5 → α6 → α7 → Prop} {G : Prop} (q : ∃ x0 x1 x2 x3 x4 x5 x6 x7, P x0 x1 x2 x3 x4 x5 x6 x7) (k : ∀ x0 x1 x2 x3 x4 x5 x6 x7, P x0 x1 x2 x3 x4 x5 x6 x7 → G) : G := q.elim fun x0 q => q.elim fun x1 q => q.elim fun x2 q => q.elim fun x3 q => q.elim fun x4 q => q.elim fun x5 q => q.elim fun x6 q => q.elim fun x7 q => k x0 x1 x2 x3 x4 x5 x6 x7 q
theorem ex9 {α0 α1 α2 α3 α4 α5 α6 α7 α8 : Type} {P : α0 → α1 → α2 → α3 → α4 → α5 → α6 → α7 → α8 → Prop} {G : Prop} (q : ∃ x0 x1 x2 x3 x4 x5 x6 x7 x8, P x0 x1 x2 x3 x4 x5 x6 x7 x8) (k : ∀ x0 x1 x2 x3 x4 x5 x6 x7 x8, P x0 x1 x2 x3 x4 x5 x6 x7 x8 → G) : G := q.elim fun x0 q => q.elim fun x1 q => q.elim fun x2 q => q.elim fun x3 q => q.elim fun x4 q => q.elim fun x5 q => q.elim fun x6 q => q.elim fun x7 q => q.elim fun x8 q => k x0 x1 x2 x3 x4 x5 x6 x7 x8 q
theorem ex11 {α0 α1 α2 α3 α4 α5 α6 α7 α8 α9 α10 : Type} {P : α0 → α1 → α2 → α3 → α4 → α5 → α6 → α7 → α8 → α9 → α10 → Prop} {G : Prop} (q : ∃ x0 x1 x2 x3 x4 x5 x6 x7 x8 x9 x10, P x0 x1 x2 x3 x4 x5 x6 x7 x8 x9 x10) (k : ∀ x0 x1 x2 x3 x4 x5 x6 x7 x8 x9 x10, P x0 x1 x2 x3 x4 x5 x6 x7 x8 x9 x10 → G) : G := q.elim fun x0 q => q.elim fun x1 q => q.elim fun x2 q => q.elim fun x3 q => q.elim fun x4 q => q.elim fun x5 q => q.elim fun x6 q => q.elim fun x7 q => q.elim fun x8 q => q.elim fun x9 q => q.elim fun x10 q => k x0 x1 x2 x3 x4 x5 x6 x7 x8 x9 x10 q
theorem an2 {A0 A1 G : Prop} (q : A0 ∧ A1) (k : A0 → A1 → G) : G := k q.1 q.2
theorem an3 {A0 A1 A2 G : Prop} (q : A0 ∧ A1 ∧ A2) (k : A0 → A1 → A2 → G) : G := k q.1 q.2.1 q.2.2
theorem an4 {A0 A1 A2 A3 G : Prop} (q : A0 ∧ A1 ∧ A2 ∧ A3) (k : A0 → A1 → A2 → A3 → G) : G := k q.1 q.2.1 q.2.2.1 q.2.2.2
theorem an5 {A0 A1 A2 A3 A4 G : Prop} (q : A0 ∧ A1 ∧ A2 ∧ A3 ∧ A4) (k : A0 → A1 → A2 → A3 → A4 → G) : G := k q.1 q.2.1 q.2.2.1 q.2.2.2.1 q.2.2.2.2
theorem an6 {A0 A1 A2 A3 A4 A5 G : Prop} (q : A0 ∧ A1 ∧ A2 ∧ A3 ∧ A4 ∧ A5) (k : A0 → A1 → A2 → A3 → A4 → A5 → G) : G := k q.1 q.2.1 q.2.2.1 q.2.2.2.1 q.2.2.2.2.1 q.2.2.2.2.2
theorem an7 {A0 A1 A2 A3 A4 A5 A6 G : Prop} (q : A0 ∧ A1 ∧ A2 ∧ A3 ∧ A4 ∧ A5 ∧ A6) (k : A0 → A1 → A2 → A3 → A4 → A5 → A6 → G) : G := k q.1 q.2.1 q.2.2.1 q.2.2.2.1 q.2.2.2.2.1 q.2.2.2.2.2.1 q.2.2.2.2.2.2
theorem an8 {A0 A1 A2 A3 A4 A5 A6 A7 G : Prop} (q : A0 ∧ A1 ∧ A2 ∧ A3 ∧ A4 ∧ A5 ∧ A6 ∧ A7) (k : A0 → A1 → A2 → A3 → A4 → A5 → A6 → A7 → G) : G := k q.1 q.2.1 q.2.2.1 q.2.2.2.1 q.2.2.2.2.1 q.2.2.2.2.2.1 q.2.2.2.2.2.2.1 q.2.2.2.2.2.2.2
theorem an9 {A0 A1 A2 A3 A4 A5 A6 A7 A8 G : Prop} (q : A0 ∧ A1 ∧ A2 ∧ A3 ∧ A4 ∧ A5 ∧ A6 ∧ A7 ∧ A8) (k : A0 → A1 → A2 → A3 → A4 → A5 → A6 → A7 → A8 → G) : G := k q.1 q.2.1 q.2.2.1 q.2.2.2.1 q.2.2.2.2.1 q.2.2.2.2.2.1 q.2.2.2.2.2.2.1 q.2.2.2.2.2.2.2.1 q.2.2.2.2.2.2.2.2
theorem an10 {A0 A1 A2 A3 A4 A5 A6 A7 A8 A9 G : Prop} (q : A0 ∧ A1 ∧ A2 ∧ A3 ∧ A4 ∧ A5 ∧ A6 ∧ A7 ∧ A8 ∧ A9) (k : A0 → A1 → A2 → A3 → A4 → A5 → A6 → A7 → A8 → A9 → G) : G := k q.1 q.2.1 q.2.2.1 q.2.2.2.1 q.2.2.2.2.1 q.2.2.2.2.2.1 q.2.2.2.2.2.2.1 q.2.2.2.2.2.2.2.1 q.2.2.2.2.2.2.2.2.1 q.2.2.2.2.2.2.2.2.2
theorem an11 {A0 A1 A2 A3 A4 A5 A6 A7 A8 A9 A10 G : Prop} (q : A0 ∧ A1 ∧ A2 ∧ A3 ∧ A4 ∧ A5 ∧ A6 ∧ A7 ∧ A8 ∧ A9 ∧ A10) (k : A0 → A1 → A2 → A3 → A4 → A5 → A6 → A7 → A8 → A9 → A10 → G) : G := k q.1 q.2.1 q.2.2.1 q.2.2.2.1 q.2.2.2.2.1 q.2.2.2.2.2.1 q.2.2.2.2.2.2.1 q.2.2.2.2.2.2.2.1 q.2.2.2.2.2.2.2.2.1 q.2.2.2.2.2.2.2.2.2.1 q.2.2.2.2.2.2.2.2.2.2
theorem an13 {A0 A1 A2 A3 A4 A5 A6 A7 A8 A9 A10 A11 A12 G : Prop} (q : A0 ∧ A1 ∧ A2 ∧ A3 ∧ A4 ∧ A5 ∧ A6 ∧ A7 ∧ A8 ∧ A9 ∧ A10 ∧ A11 ∧ A12) (k : A0 → A1 → A2 → A3 → A4 → A5 → A6 → A7 → A8 → A9 → A10 → A11 → A12 → G) : G := k q.1 q.2.1 q.2.2.1 q.2.2.2.1 q.2.2.2.2.1 q.2.2.2.2.2.1 q.2.2.2.2.2.2.1 q.2.2.2.2.2.2.2.1 q.2.2.2.2.2.2.2.2.1 q.2.2.2.2.2.2.2.2.2.1 q.2.2.2.2.2.2.2.2.2.2.1 q.2.2.2.2.2.2.2.2.2.2.2.1 q.2.2.2.2.2.2.2.2.2.2.2.2
theorem in2 {α0 α1 : Type} {P : α0 → α1 → Prop} (x0 : α0) (x1 : α1) (q : P x0 x1) : ∃ x0 x1, P x0 x1 := ⟨x0, x1, q⟩
theorem in3 {α0 α1 α2 : Type} {P : α0 → α1 → α2 → Prop} (x0 : α0) (x1 : α1) (x2 : α2) (q : P x0 x1 x2) : ∃ x0 x1 x2, P x0 x1 x2 := ⟨x0, x1, x2, q⟩
theorem in4 {α0 α1 α2 α3 : Type} {P : α0 → α1 → α2 → α3 → Prop} (x0 : α0) (x1 : α1) (x2 : α2) (x3 : α3) (q : P x0 x1 x2 x3) : ∃ x0 x1 x2 x3, P x0 x1 x2 x3 := ⟨x0, x1, x2, x3, q⟩
theorem in5 {α0 α1 α2 α3 α4 : Type} {P : α0 → α1 → α2 → α3 → α4 → Prop} (x0 : α0) (x1 : α1) (x2 : α2) (x3 : α3) (x4 : α4) (q : P x0 x1 x2 x3 x4) : ∃ x0 x1 x2 x3 x4, P x0 x1 x2 x3 x4 := ⟨x0, x1, x2, x3, x4, q⟩
theorem in6 {α0 α1 α2 α3 α4 α5 : Type} {P : α0 → α1 → α2 → α3 → α4 → α5 → Prop} (x0 : α0) (x1 : α1) (x2 : α2) (x3 : α3) (x4 : α4) (x5 : α5) (q : P x0 x1 x2 x3 x4 x5) : ∃ x0 x1 x2 x3 x4 x5, P x0 x1 x2 x3 x4 x5 := ⟨x0, x1, x2, x3, x4, x5, q⟩
theorem in7 {α0 α1 α2 α3 α4 α5 α6 : Type} {P : α0 → α1 → α2 → α3 → α4 → α5 → α6 → Prop} (x0 : α0) (x1 : α1) (x2 : α2) (x3 : α3) (x4 : α4) (x5 : α5) (x6 : α6) (q : P x0 x1 x2 x3 x4 x5 x6) : ∃ x0 x1 x2 x3 x4 x5 x6, P x0 x1 x2 x3 x4 x5 x6 := ⟨x0, x1, x2, x3, x4, x5, x6, q⟩
theorem in8 {α0 α1 α2 α3 α4 α5 α6 α7 : Type} {P : α0 → α1 → α2 → α3 → α4 → α5 → α6 → α7 → Prop} (x0 : α0) (x1 : α1) (x2 : α2) (x3 : α3) (x4 : α4) (x5 : α5) (x6 : α6) (x7 : α7) (q : P x0 x1 x2 x3 x4 x5 x6 x7) : ∃ x0 x1 x2 x3 x4 x5 x6 x7, P x0 x1 x2 x3 x4 x5 x6 x7 := ⟨x0, x1, x2, x3, x4, x5, x6, x7, q⟩
theorem in9 {α0 α1 α2 α3 α4 α5 α6 α7 α8 : Type} {P : α0 → α1 → α2 → α3 → α4 → α5 → α6 → α7 → α8 → Prop} (x0 : α0) (x1 : α1) (x2 : α2) (x3 : α3) (x4 : α4) (x5 : α5) (x6 : α6) (x7 : α7) (x8 : α8) (q : P x0 x1 x2 x3 x4 x5 x6 x7 x8) : ∃ x0 x1 x2 x3 x4 x5 x6 x7 x8, P x0 x1 x2 x3 x4 x5 x6 x7 x8 := ⟨x0, x1, x2, x3, x4, x5, x6, x7, x8, q⟩
theorem in11 {α0 α1 α2 α3 α4 α5 α6 α7 α8 α9 α10 : Type} {P : α0 → α1 → α2 → α3 → α4 → α5 → α6 → α7 → α8 → α9 → α10 → Prop} (x0 : α0) (x1 : α1) (x2 : α2) (x3 : α3) (x4 : α4) (x5 : α5) (x6 : α6) (x7 : α7) (x8 : α8) (x9 : α9) (x10 : α10) (q : P x0 x1 x2 x3 x4 x5 x6 x7 x8 x9 x10) : ∃ x0 x1 x2 x3 x4 x5 x6 x7 x8 x9 x10, P x0 x1 x2 x3 x4 x5 x6 x7 x8 x9 x10 := ⟨x0, x1, x2, x3, x4, x5, x6, x7, x8, x9, x10, q⟩
/- the end of a def that changes nothing that stood -/
noncomputable def PEnd (hs : Heap) (Post : Value → List (Addr × Obj) → Prop) (g : Array GenState) (d : Drawn) (os : OsState) (v : Value) (s' : Shared) : Prop :=
  ∃ h' tk L' m' own, s' = ⟨h', g, d, tk, os⟩ ∧ Fr hs L' h' m' ∧ News hs L' h' own ∧ Post v own

theorem pend {hs h' : Heap} {Post : Value → List (Addr × Obj) → Prop} {g : Array GenState} {d : Drawn} {os : OsState} {v : Value} {tk : Nat} {L' : Addr} {m' : Str → Option Value} (own : List (Addr × Obj)) (F : Fr hs L' h' m') (N : News hs L' h' own) (P : Post v own) : PEnd hs Post g d os v ⟨h', g, d, tk, os⟩ := ⟨h', tk, L', m', own, rfl, F, N, P⟩

theorem fa {α : Type} {P : α → Prop} {a : α} {l : List α} (h : P a) (k : ∀ b ∈ l, P b) : ∀ b ∈ a :: l, P b := List.forall_mem_cons.mpr ⟨h, k⟩
theorem fan {α : Type} {P : α → Prop} : ∀ b ∈ ([] : List α), P b := fun _ h => nomatch h
theorem nsb {h₀ h : Heap} {L : Addr} {l l' : List (Addr × Obj)} (N : News h₀ L h l) (s : ∀ p ∈ l', p ∈ l) : News h₀ L h l' := fun p hp => N p (s p hp)
theorem nwc {h₀ h : Heap} {L a : Addr} {o : Obj} {l : List (Addr × Obj)} (e : h.get? a = some o) (hL : @Ne Nat a L) (h0 : h₀.get? a = none) (N : News h₀ L h l) : News h₀ L h ((a, o) :: l) := fun p hp => by
  rcases List.mem_cons.mp hp with rfl | hp
  · exact ⟨e, hL, h0⟩
  · exact N p hp
theorem nwt {h₀ h : Heap} {L : Addr} {q : Addr × Obj} {l : List (Addr × Obj)} (N : News h₀ L h (q :: l)) : News h₀ L h l := fun p hp => N p (.tail _ hp)

theorem splitlen {s L : Nat} (h : s < L) : s + (0 + 1 + 1) + (L - (s + 1)) = L + 1 := by
  rw [show s + (0 + 1 + 1) = s + 1 + 1 from rfl, Nat.add_right_comm, Nat.add_sub_cancel' h]
theorem rm0 {dp K : Nat} (h : dp + K < recursionLimit) : dp < recursionLimit := Nat.lt_of_le_of_lt (Nat.le_add_right _ _) h
theorem rm {dp k K : Nat} (h : dp + K < recursionLimit) (hk : k < K) : dp + 1 + k < recursionLimit := by omega
theorem ru {un k K : Nat} (h : un + 20 * K < cLine) (hk : k < K) : un + 3 + 20 * k < cLine := Nat.lt_of_le_of_lt (by omega : un + 3 + 20 * k ≤ un + 20 * K) h

noncomputable def Spec (w : World) (k : Nat) (f : Addr) (args : List Value) (Pre : Heap → Prop) (Post : Value → List (Addr × Obj) → Prop) : Prop :=
  ∀ (dp un : Nat) (gd : Option (List Code)) (cn : Str) (cs : Scope) (a : Addr) (ccd : Value) (cl : List (Str × Addr)) (outer : List Env) (A₀ : Around) (base h₀ : Heap) (L : Addr) (m : Str → Option Value)
    (news : List (Addr × Obj)) (s : Shared) (Q E : Value → Shared → Prop) (mean : ExcName → Option Value) (mg mb : Str → Option Value),
    Below A₀ base outer h₀ → Fr h₀ L s.heap m → (hd.heap_39 w.params).In h₀ → News h₀ L s.heap news → Top hd.view_39 LO mean mg mb h₀ → cs.kind = .function →
    dp + k < recursionLimit → un + 20 * k < cLine → Pre s.heap →
    (∀ v own h' tk', Post v own → (∀ p ∈ own, Off p.1 news) → Fr h₀ L h' m → News h₀ L h' (own ++ news) → Q v { s with heap := h', toks := tk' }) →
    wpAny (model PySem.Challenge.rw_tg0029_01.row.prog w) (ktrTop dp un gd cn cs L a ccd cl outer) (call (.ref f) args) Q E s

theorem Spec.use {w : World} {k : Nat} {f : Addr} {args : List Value} {Pre : Heap → Prop} {Post : Value → List (Addr × Obj) → Prop} (C : Spec w k f args Pre Post)
    {dp un : Nat} {gd : Option (List Code)} {cn : Str} {cs : Scope} {a : Addr} {ccd : Value} {cl : List (Str × Addr)} {outer : List Env} {A₀ : Around} {base h₀ : Heap} {L : Addr} {m : Str → Option Value}
    {news : List (Addr × Obj)} {hp : Heap} {g : Array GenState} {d : Drawn} {tk₀ : Nat} {os : OsState} {Q E : Value → Shared → Prop} {mean : ExcName → Option Value} {mg mb : Str → Option Value}
    (B : Below A₀ base outer h₀) (F : Fr h₀ L hp m) (X : (hd.heap_39 w.params).In h₀) (N : News h₀ L hp news) (T : Top hd.view_39 LO mean mg mb h₀) (hk : cs.kind = .function)
    (hd : dp + k < recursionLimit) (hu : un + 20 * k < cLine) (hpre : Pre hp)
    (hret : ∀ v own h' tk', Post v own → (∀ p ∈ own, Off p.1 news) → Fr h₀ L h' m → News h₀ L h' (own ++ news) → Q v ⟨h', g, d, tk', os⟩) :
    wpAny (model PySem.Challenge.rw_tg0029_01.row.prog w) (ktrTop dp un gd cn cs L a ccd cl outer) (call (.ref f) args) Q E ⟨hp, g, d, tk₀, os⟩ :=
  C _ _ _ _ _ _ _ _ _ _ _ _ _ _ _ ⟨hp, g, d, tk₀, os⟩ _ _ _ _ _ B F X N T hk hd hu hpre hret

theorem back {s : Shared} {h₀ : Heap} {L : Addr} {m : Str → Option Value} {news : List (Addr × Obj)} {Q : Value → Shared → Prop} {Post : Value → List (Addr × Obj) → Prop} (F : Fr h₀ L s.heap m) (N : News h₀ L s.heap news)
    (hret : ∀ v own h' tk', Post v own → (∀ p ∈ own, Off p.1 news) → Fr h₀ L h' m → News h₀ L h' (own ++ news) → Q v { s with heap := h', toks := tk' }) {v : Value} {s' : Shared} (hl : PEnd s.heap Post s.gens s.drawn s.os v s') : Q v s' := by
  obtain ⟨h', tk, L', m', own, rfl, F', N', hP⟩ := hl
  refine hret v own h' tk hP (fun p hp => off_of fun q hq e => by have := (N' p hp).2.2; rw [← e, (N q hq).1] at this; cases this) ⟨F.ns.keeps F'.keep, fun b o e => F'.keep b o (F.keep b o e), F.above⟩ fun p hp => ?_
  refine (List.mem_append.mp hp).elim (fun q => ⟨(N' p q).1, fun e => ?_, ?_⟩) fun q => ⟨F'.keep _ _ (N p q).1, (N p q).2.1, (N p q).2.2⟩
  · obtain ⟨oL, es, ep, hL, _⟩ := F.ns
    have := (N' p q).2.2
    rw [e, hL] at this
    cases this
  · cases z : h₀.get? p.1 with
    | none => rfl
    | some o => have := (N' p q).2.2; rw [F.keep _ _ z] at this; cases this

theorem enter {prog : Program} {w : World} {A₀ A : Around} {s : Shared} {base h₀ : Heap} {outer : List Env} {L : Addr} {m : Str → Option Value} {env : Env} {news : List (Addr × Obj)}
    {Q E : Value → Shared → Prop} {name qual : Str} {params : Arguments} {body : List Stmt} {scope : Scope} {dV kV doc pm cdv ct oc : Value} {an od : Option Addr} {osl : Array (Option Value)} {f : Addr} {args : List Value} {binds : List (Str × Value)}
    {K : Frag} {p : Program} {loose : List Str} {mean : ExcName → Option Value} {mg mb : Str → Option Value} {Post : Value → List (Addr × Obj) → Prop}
    (B : Below A₀ base outer h₀) (F : Fr h₀ L s.heap m) (X : K.In h₀) (N : News h₀ L s.heap news) (T : Top p loose mean mg mb h₀) (hA : A.frames = some (env :: outer)) (hf : env.frame = some L) (hke : env.scope.kind = .function)
    (ho : K.lookup f = some ⟨oc, od, .func (fnOf name qual params body scope dV kV doc pm an cdv ct), osl⟩) (hcd : codeIn K cdv qual = true) (hroom : A.depth < recursionLimit)
    (hbind : BindsTo s (fnOf name qual params body scope dV kV doc pm an cdv ct) ⟨args, []⟩ binds) (hloc : ∀ y ∈ binds, scope.names.lookup y.1 = some .local)
    (hco : scope.isCoroutine = false) (hgen : scope.isGenerator = false) (hk : scope.kind = .function)
    (hcell : ∀ x ∈ scope.names, x.2 ≠ .cell)
    (hret : ∀ v own h' tk', Post v own → (∀ p ∈ own, Off p.1 news) → Fr h₀ L h' m → News h₀ L h' (own ++ news) → Q v { s with heap := h', toks := tk' })
    (h : ∀ (R : Flow → Shared → Prop) (g : Array GenState) (d : Drawn) (os : OsState), (∀ v s', PEnd s.heap Post g d os v s' → R (.ret v) s') → (∀ s', PEnd s.heap Post g d os .none s' → R .next s') → ∀ L' h₁ tk, Fr s.heap L' h₁ (fun y => binds.reverse.lookup y) → News s.heap L' h₁ [] → Below A base (env :: outer) s.heap → K.In s.heap → Top p loose mean mg mb s.heap →
      wpAny (model prog w) (A.deeper (envOf qual scope L' f cdv)) (execs body (envOf qual scope L' f cdv))
        R
        (fun _ _ => False)
        ⟨h₁, g, d, tk, os⟩) :
    wpAny (model prog w) A (call (.ref f) args) Q E s := by
  refine wpAny_call ?_
  have B₁ := pushX B F hf hke
  have B₂ : Below A base (env :: outer) s.heap := ⟨hA, B₁.stays, B₁.frames⟩
  refine codeAny_call_def (fd := fnOf name qual params body scope dV kV doc pm an cdv ct) (body := body) (binds := binds) hroom ((X.keeps F.keep) _ _ ho) rfl (T.nolimit.keeps F.keep) (codeRec_of (X.keeps F.keep) hcd) rfl hbind hcell hloc (fun h₁ hns hk₁ => ?_) hco hgen hk
  refine wpAny_mono (h (fun fl s' => PEnd s.heap Post s.gens s.drawn s.os (match fl with | .ret v => v | _ => .none) s') s.gens s.drawn s.os (fun _ _ q => q) (fun _ q => q) _ h₁ _ ⟨hns, hk₁, Nat.le_refl _⟩ (fun _ hp => nomatch hp) B₂ (X.keeps F.keep) (T.keeps F.keep)) (fun fl s' hl => ?_) fun _ _ y => y.elim
  exact back F N hret hl
end

section
/- what a frame holds under these names -/
noncomputable def Names (m : Str → Option Value) : List (Str × Value) → Prop
  | [] => True
  | p :: r => m p.1 = some p.2 ∧ Names m r
theorem Names.all {m : Str → Option Value} {ps : List (Str × Value)} (h : Names m ps) : ∀ p ∈ ps, m p.1 = some p.2 := by
  induction ps with
  | nil => exact List.forall_mem_nil _
  | cons q r ih => exact List.forall_mem_cons.mpr ⟨h.1, ih h.2⟩
theorem Names.eq {m : Str → Option Value} {ps : List (Str × Value)} (h : Names m ps) : m = kstB m ps := by
  funext z; exact (kstB_eq h.all fun _ => rfl).symm
theorem fr0 {h₀ : Heap} {L : Addr} {h : Heap} {m : Str → Option Value} {ps : List (Str × Value)} (hn : Names m ps) (F : Fr h₀ L h m) : Fr h₀ L h (kstB m ps) := by
  rw [← hn.eq]; exact F
theorem fr1 {h₀ : Heap} {L : Addr} {h : Heap} {m : Str → Option Value} {ps : List (Str × Value)} {x : Str} {v : Option Value} (hn : Names m ps) (F : Fr h₀ L h (fun y => if y = x then v else m y)) : Fr h₀ L h (fun y => if y = x then v else kstB m ps y) := by
  rw [← hn.eq]; exact F
theorem fr2 {h₀ : Heap} {L : Addr} {h : Heap} {m : Str → Option Value} {ps : List (Str × Value)} {x x' : Str} {v v' : Option Value} (hn : Names m ps) (F : Fr h₀ L h (fun y => if y = x then v else if y = x' then v' else m y)) : Fr h₀ L h (fun y => if y = x then v else if y = x' then v' else kstB m ps y) := by
  rw [← hn.eq]; exact F

/- the end of a loop's turn; I, o: the iterator and what it is -/
noncomputable def LEnd (h₀ : Heap) (L I : Addr) (o : Obj) (J : (Str → Option Value) → List (Addr × Obj) → Prop) (g : Array GenState) (d : Drawn) (os : OsState) (s₂ : Shared) : Prop :=
  ∃ h' tk m' news', s₂ = ⟨h', g, d, tk, os⟩ ∧ Fr h₀ L h' m' ∧ News h₀ L h' ((I, o) :: news') ∧ Off I news' ∧ J m' news'
noncomputable def LPost (h₀ : Heap) (L I : Addr) (o : Obj) (J : (Str → Option Value) → List (Addr × Obj) → Prop) (g : Array GenState) (d : Drawn) (os : OsState) (Q : Flow → Shared → Prop) (f : Flow) (s₂ : Shared) : Prop :=
  match f with
  | .ret v => Q (.ret v) s₂
  | .brk => Q .next s₂
  | _ => LEnd h₀ L I o J g d os s₂

theorem lend {h₀ h' : Heap} {L I : Addr} {o : Obj} {J : (Str → Option Value) → List (Addr × Obj) → Prop} {g : Array GenState} {d : Drawn} {os : OsState} {Q : Flow → Shared → Prop} {tk : Nat} {m' : Str → Option Value} (news' : List (Addr × Obj)) (F : Fr h₀ L h' m') (N : News h₀ L h' ((I, o) :: news')) (O : Off I news') (j : J m' news') : LPost h₀ L I o J g d os Q .next ⟨h', g, d, tk, os⟩ := ⟨h', tk, m', news', rfl, F, N, O, j⟩

section
variable {prog : Program} {w : World} {A : Around} {E : Value → Shared → Prop} {s : Shared} {env : Env} {h₀ : Heap} {x : Str} {body : List Stmt} {Q : Flow → Shared → Prop}

theorem forW {I : Addr} {fp : List Addr} {n : Nat} {P : Nat → Value → Prop} {St : Nat → Heap → Prop} {m₀ : Str → Option Value} {news : List (Addr × Obj)} (J : Nat → (Str → Option Value) → List (Addr × Obj) → Prop)
    (W : Walks prog w A I fp [I] n P St) (hLf : env.locals ∉ fp) (hI : h₀.get? I = none) (hsome : ∀ i h, St i h → ∃ o, h.get? I = some o) (hnw : ∀ p ∈ news, p.1 ≠ I) (hst : St 0 s.heap) (F : Fr h₀ env.locals s.heap m₀) (N : News h₀ env.locals s.heap news) (hj : J 0 m₀ news)
    (hfix : ∀ b ∈ fp, b ≠ I → ∃ o, ∀ i m₁ news₁ h, J i m₁ news₁ → (∀ b o, h₀.get? b = some o → h.get? b = some o) → News h₀ env.locals h news₁ → h.get? b = some o)
    (turn : ∀ i v m₁ news₁ h tk o, i < n → P i v → J i m₁ news₁ → Off I news₁ → Fr h₀ env.locals h (fun y => if y = x then some v else m₁ y) → News h₀ env.locals h ((I, o) :: news₁) →
      wpAny (model prog w) A (execs body env) (LPost h₀ env.locals I o (J (i + 1)) s.gens s.drawn s.os Q) E { s with heap := h, toks := tk })
    (done : ∀ m₁ news₁ h tk, J n m₁ news₁ → Fr h₀ env.locals h m₁ → News h₀ env.locals h news₁ → Q .next { s with heap := h, toks := tk }) :
    LoopAtV prog w A h₀ env x body Q E (.ref I) s := by
  refine ⟨I, fp, [I], n, P, St, m₀, news, J, rfl, W, hLf, (fun b hb => by rw [List.mem_singleton.mp hb]; exact hI), (fun p hp hq => hnw p hp (List.mem_singleton.mp hq)), hst, F, N, hj, ?_, ?_⟩
  · rintro i v m₁ news₁ s₁ own ⟨hh', tk', rfl⟩ hin hP hJ hoff hown hget hfp hst₁ F₁ N₁
    obtain ⟨o, ho⟩ := hsome _ _ hst₁
    have hIfp : I ∈ fp := W.sub _ (List.mem_singleton.mpr rfl)
    have hmem := hfp I hIfp hI o ho
    have hne : ∀ p ∈ news₁, p.1 ≠ I := fun p hp e => hoff p hp (by rw [e]; exact List.mem_singleton.mpr rfl)
    have PI := N₁ _ (List.mem_append_left _ hmem)
    have N₂ : News h₀ env.locals hh' ((I, o) :: news₁) := nwc PI.1 PI.2.1 PI.2.2 fun p hp => N₁ _ (List.mem_append_right _ hp)
    refine wpAny_mono (turn i v m₁ news₁ hh' tk' o hin hP hJ (off_of hne) F₁ N₂) (fun f s₂ p => ?_) fun _ _ e => e
    have fin : LEnd h₀ env.locals I o (J (i + 1)) s.gens s.drawn s.os s₂ → LoopStepU h₀ env.locals [I] own (J (i + 1)) { s with heap := hh', toks := tk' } .next s₂ := by
      intro q
      refine ex4 q fun h' tk m' news' q => an5 q fun e F' N' hne' hJ' => ?_
      have N'' : News h₀ env.locals h' news' := nwt N'
      refine ⟨rfl, in4 h' tk m' news' ⟨e, F', fun p hp => ?_, fun p hp hq => off_ne hne' p hp (List.mem_singleton.mp hq), hJ'⟩⟩
      rcases List.mem_append.mp hp with hp | hp
      · have P1 := N₁ p (List.mem_append_left _ hp)
        refine ⟨?_, P1.2⟩
        by_cases hpi : p.1 = I
        · have e1 : p = (I, o) := by
            have := hget p hp
            rw [hpi, ho] at this
            exact Prod.ext hpi (Option.some.inj this).symm
          rw [e1]; exact (N' _ (.head _)).1
        · obtain ⟨o', ho'⟩ := hfix _ (hown p hp) hpi
          have a1 := ho' i m₁ news₁ hh' hJ F₁.keep (fun q hq => N₁ q (List.mem_append_right _ hq))
          have a2 := ho' _ m' news' h' hJ' F'.keep N''
          have a3 := hget p hp
          have a4 : o' = p.2 := by
            have := a1.symm.trans a3
            exact Option.some.inj this
          rw [a2, a4]
      · exact N'' p hp
    cases f with
    | ret v => exact .ret p
    | brk => exact .brk p
    | next => exact .next (fin p)
    | cont => exact .cont (fin p)
  · rintro h' tk m' news' F' N' _ hJ
    exact done m' news' h' tk hJ F' N'

/- a for over a list that stands as it is throughout -/
theorem forL {hp : Heap} {g : Array GenState} {d : Drawn} {tk₀ : Nat} {os : OsState} {l : Addr} {vs : List Value} {k : Nat} {ol : Obj} {m₀ : Str → Option Value} {news : List (Addr × Obj)} (J : Nat → (Str → Option Value) → List (Addr × Obj) → Prop)
    (hh : A.handled = none) (hol : ol.cls = .type "list") (hod : ol.data = .seq vs.toArray k) (F : Fr h₀ env.locals hp m₀) (N : News h₀ env.locals hp news) (hj : J 0 m₀ news)
    (hfix : ∀ i m₁ news₁ h, J i m₁ news₁ → (∀ b o, h₀.get? b = some o → h.get? b = some o) → News h₀ env.locals h news₁ → h.get? l = some ol) (hlL : l ≠ env.locals)
    (turn : ∀ i v m₁ news₁ h tk I o (R : Flow → Shared → Prop), (∀ f s₂, LPost h₀ env.locals I o (J (i + 1)) g d os Q f s₂ → R f s₂) → vs[i]? = some v → J i m₁ news₁ → Off I news₁ → Fr h₀ env.locals h (fun y => if y = x then some v else m₁ y) → News h₀ env.locals h ((I, o) :: news₁) →
      wpAny (model prog w) A (execs body env) R E ⟨h, g, d, tk, os⟩)
    (done : ∀ m₁ news₁ h tk, J vs.length m₁ news₁ → Fr h₀ env.locals h m₁ → News h₀ env.locals h news₁ → Q .next ⟨h, g, d, tk, os⟩) :
    wpAny (model prog w) A (pyIter (.ref l)) (fun it s₂ => LoopAtV prog w A h₀ env x body Q E it s₂) E ⟨hp, g, d, tk₀, os⟩ := by
  have h1 : hp.get? l = some ol := hfix 0 m₀ news hp hj F.keep N
  have hls : hp.IsList l vs.toArray := ⟨ol, h1, hol, k, hod⟩
  have hlt : l < hp.objs.size := Heap.lt_size h1
  refine wpAny_pyIter_list hls ?_
  have W := Walks.list (prog := prog) (w := w) hh hp.objs.size l (Nat.ne_of_lt hlt) vs.toArray
  refine forW J W ?_ (next_is_new F) ?_ ?_ ⟨⟨_, Heap.get?_push_size _ rfl, rfl, rfl⟩, hls.at fun o e => Heap.get?_push_of_some _ e⟩ (F.push _) (fun p hp => ⟨Heap.get?_push_of_some _ (N p hp).1, (N p hp).2⟩) hj ?_ ?_ ?_
  · intro hm
    rcases List.mem_cons.mp hm with e | hm
    · exact absurd F.ns.lt (e ▸ Nat.lt_irrefl _)
    · exact hlL (List.mem_singleton.mp hm).symm
  · rintro i h ⟨⟨o, ho, _⟩, _⟩
    exact ⟨_, ho⟩
  · intro p hp
    exact Nat.ne_of_lt (Heap.lt_size (N p hp).1)
  · intro b hb hne
    rcases List.mem_cons.mp hb with e | hb
    · exact absurd e hne
    · rw [List.mem_singleton.mp hb]
      exact ⟨ol, hfix⟩
  · intro i v m₁ news₁ h tk o hin hP
    exact turn i v m₁ news₁ h tk _ o _ (fun _ _ q => q) (by simpa using hP)
  · simpa using done

/- a for over a range by ones -/
theorem forR {hp : Heap} {g : Array GenState} {d : Drawn} {tk₀ : Nat} {os : OsState} {r : Addr} {a₀ b₀ : Int} {t₀ u₀ v₀ : Tok} {n : Nat} {m₀ : Str → Option Value} {news : List (Addr × Obj)} (J : Nat → (Str → Option Value) → List (Addr × Obj) → Prop)
    (hh : A.handled = none) (hr : IsRange hp r a₀ b₀ 1 t₀ u₀ v₀) (hsmall : Builtin.Range.small a₀ b₀ 1 = true) (hn : Builtin.Range.rangeSize a₀ b₀ 1 = (n : Int)) (F : Fr h₀ env.locals hp m₀) (N : News h₀ env.locals hp news) (hj : J 0 m₀ news)
    (turn : ∀ (i : Nat) t m₁ news₁ h tk I o (R : Flow → Shared → Prop), (∀ f s₂, LPost h₀ env.locals I o (J (i + 1)) g d os Q f s₂ → R f s₂) → i < n → J i m₁ news₁ → Off I news₁ → Fr h₀ env.locals h (fun y => if y = x then some (.int (a₀ + (i : Int)) t) else m₁ y) → News h₀ env.locals h ((I, o) :: news₁) →
      wpAny (model prog w) A (execs body env) R E ⟨h, g, d, tk, os⟩)
    (done : ∀ m₁ news₁ h tk, J n m₁ news₁ → Fr h₀ env.locals h m₁ → News h₀ env.locals h news₁ → Q .next ⟨h, g, d, tk, os⟩) :
    wpAny (model prog w) A (pyIter (.ref r)) (fun it s₂ => LoopAtV prog w A h₀ env x body Q E it s₂) E ⟨hp, g, d, tk₀, os⟩ := by
  refine wpAny_pyIter_range hr hsmall ?_
  have W := Walks.range (prog := prog) (w := w) hh hp.objs.size a₀ 1 n
  refine forW J W ?_ (next_is_new F) ?_ ?_ (by show IsRangeIter _ _ _ _ _; rw [hn]; simpa using Heap.get?_push_size _ rfl) (F.push _) (fun p hp => ⟨Heap.get?_push_of_some _ (N p hp).1, (N p hp).2⟩) hj ?_ ?_ ?_
  · intro hm
    exact absurd F.ns.lt ((List.mem_singleton.mp hm) ▸ Nat.lt_irrefl _)
  · intro i h ho
    exact ⟨_, ho⟩
  · intro p hp
    exact Nat.ne_of_lt (Heap.lt_size (N p hp).1)
  · intro b hb hne
    exact absurd (List.mem_singleton.mp hb) hne
  · rintro i v m₁ news₁ h tk o hin ⟨t, rfl⟩ hJ hne F₁ N₁
    have e1 : a₀ + (i : Int) * 1 = a₀ + (i : Int) := by omega
    rw [e1] at F₁
    exact turn i t m₁ news₁ h tk _ o _ (fun _ _ q => q) hin hJ hne F₁ N₁
  · exact done
end

/- the end of a while's turn -/
noncomputable def WPost (h₀ : Heap) (L : Addr) (J : Nat → (Str → Option Value) → List (Addr × Obj) → Prop) (n : Nat) (g : Array GenState) (d : Drawn) (os : OsState) (Q : Flow → Shared → Prop) (f : Flow) (s₂ : Shared) : Prop :=
  match f with
  | .ret v => Q (.ret v) s₂
  | .brk => Q .next s₂
  | _ => ∃ h' tk m' news' n', s₂ = ⟨h', g, d, tk, os⟩ ∧ Fr h₀ L h' m' ∧ News h₀ L h' news' ∧ n' < n ∧ J n' m' news'

theorem wend {h₀ h' : Heap} {L : Addr} {J : Nat → (Str → Option Value) → List (Addr × Obj) → Prop} {n : Nat} {g : Array GenState} {d : Drawn} {os : OsState} {Q : Flow → Shared → Prop} {tk : Nat} {m' : Str → Option Value} {news' : List (Addr × Obj)} (n' : Nat) (F : Fr h₀ L h' m') (N : News h₀ L h' news') (hn : n' < n) (j : J n' m' news') : WPost h₀ L J n g d os Q .next ⟨h', g, d, tk, os⟩ := ⟨h', tk, m', news', n', rfl, F, N, hn, j⟩

section
variable {prog : Program} {w : World} {A : Around} {E : Value → Shared → Prop} {Q : Flow → Shared → Prop} {s : Shared} {env : Env} {h₀ : Heap} {L : Addr}
theorem whileN {hp : Heap} {g : Array GenState} {d : Drawn} {tk₀ : Nat} {os : OsState} {test : Expr} {body : List Stmt} {pos : Pos} {m : Str → Option Value} {news : List (Addr × Obj)} (J : Nat → (Str → Option Value) → List (Addr × Obj) → Prop) {n₀ : Nat}
    (F : Fr h₀ L hp m) (N : News h₀ L hp news) (hJ : J n₀ m news)
    (turn : ∀ n m₁ news₁ h₁ tk₁ (R : Flow → Shared → Prop), (∀ f s₂, WPost h₀ L J n g d os Q f s₂ → R f s₂) → J n m₁ news₁ → Fr h₀ L h₁ m₁ → News h₀ L h₁ news₁ →
      wpAny (model prog w) A (isTrue test env (eval test env)) (fun b s₂ =>
        if b = true then wpAny (model prog w) A (execs body env) R E s₂ else Q .next s₂) E ⟨h₁, g, d, tk₁, os⟩)
    (hE : PassesOwn (model prog w) A env E := by passes_own) :
    wpAny (model prog w) A (exec (.While test body [] pos) env) Q E ⟨hp, g, d, tk₀, os⟩ := by
  refine While_inv2 J F N hJ (fun n m₁ news₁ h₁ tk₁ F₁ N₁ J₁ => wpAny_mono (turn n m₁ news₁ h₁ tk₁ _ (fun _ _ q => q) J₁ F₁ N₁) (fun b s₂ p => ?_) fun _ _ x => x) hE
  cases b with
  | false => simpa using p
  | true =>
    simp only [if_true] at p ⊢
    refine wpAny_mono p (fun f s₃ q => ?_) fun _ _ x => x
    cases f with
    | ret v => exact q
    | brk => exact q
    | next => exact q
    | cont => exact q
end
end

section
theorem enterC {prog : Program} {w : World} {A₀ A : Around} {s : Shared} {base h₀ : Heap} {outer : List Env} {L : Addr} {m : Str → Option Value} {env : Env} {news : List (Addr × Obj)}
    {Q E : Value → Shared → Prop} {name qual : Str} {params : Arguments} {body : List Stmt} {scope : Scope} {dV kV doc pm cdv ct oc : Value} {an od : Option Addr} {osl : Array (Option Value)} {f : Addr} {args : List Value} {binds : List (Str × Value)}
    {K : Frag} {p : Program} {loose : List Str} {mean : ExcName → Option Value} {mg mb : Str → Option Value} {Post : Value → List (Addr × Obj) → Prop}
    (B : Below A₀ base outer h₀) (F : Fr h₀ L s.heap m) (X : K.In h₀) (N : News h₀ L s.heap news) (T : Top p loose mean mg mb h₀) (hA : A.frames = some (env :: outer)) (hf : env.frame = some L) (hke : env.scope.kind = .function)
    (ho : K.lookup f = some ⟨oc, od, .func (fnOf name qual params body scope dV kV doc pm an cdv ct), osl⟩) (hcd : codeIn K cdv qual = true) (hroom : A.depth < recursionLimit)
    (hbind : BindsTo s (fnOf name qual params body scope dV kV doc pm an cdv ct) ⟨args, []⟩ binds)
    (hkind : (binds.all fun y => scope.names.lookup y.1 == some .local || scope.names.lookup y.1 == some .cell) = true)
    (hnd : ((cellsFrom 0 scope.names []).map (·.1)).Nodup)
    (hco : scope.isCoroutine = false) (hgen : scope.isGenerator = false) (hk : scope.kind = .function)
    (hret : ∀ v own h' tk', Post v own → (∀ p ∈ own, Off p.1 news) → Fr h₀ L h' m → News h₀ L h' (own ++ news) → Q v { s with heap := h', toks := tk' })
    (h : ∀ (R : Flow → Shared → Prop) (g : Array GenState) (d : Drawn) (os : OsState), (∀ v s', PEnd s.heap Post g d os v s' → R (.ret v) s') → (∀ s', PEnd s.heap Post g d os .none s' → R .next s') → ∀ L' h₁ tk cells, Fr s.heap L' h₁ (bindL (envOfC qual scope L' f cdv).kindOf binds fun _ => none) → News s.heap L' h₁ cells →
      CellsAre (bindC (envOfC qual scope L' f cdv).kindOf binds fun _ => none) (cellsFrom (L' + 1) scope.names []) cells → Below A base (env :: outer) s.heap → K.In s.heap → Top p loose mean mg mb s.heap →
      wpAny (model prog w) (A.deeper (envOfC qual scope L' f cdv)) (execs body (envOfC qual scope L' f cdv))
        R
        (fun _ _ => False)
        ⟨h₁, g, d, tk, os⟩) :
    wpAny (model prog w) A (call (.ref f) args) Q E s := by
  refine wpAny_call ?_
  have B₁ := pushX B F hf hke
  have B₂ : Below A base (env :: outer) s.heap := ⟨hA, B₁.stays, B₁.frames⟩
  refine codeAny_call_function (fd := fnOf name qual params body scope dV kV doc pm an cdv ct) hroom ((X.keeps F.keep) _ _ ho) rfl hco hgen rfl (codeRec_of (X.keeps F.keep) hcd) (hbind _ _ _ _ ?_)
  refine wpAny_newFunctionEnv_cells hk (kindsX hkind _) fun env' he s' x => ?_
  subst he
  refine ⟨(T.nolimit.keeps F.keep).keeps x.toInCall.keep, codeAny_func ?_⟩
  obtain ⟨h₁, tk, rfl, _⟩ := x.done
  have hk₁ := x.toInCall.keep
  obtain ⟨cells, NC, Y⟩ := Cl.news (h₀ := s.heap) (Nat.le_refl _) fun n c hm => ⟨x.cell n c (lookup_of_mem_nodup (cellsFrom_names scope.names 0 (s.heap.objs.size + 1) [] [] rfl ▸ hnd) hm), x.above n c hm⟩
  refine wpAny_mono (h (fun fl s' => PEnd s.heap Post s.gens s.drawn s.os (match fl with | .ret v => v | _ => .none) s') s.gens s.drawn s.os (fun _ _ q => q) (fun _ q => q) s.heap.objs.size h₁ tk cells ⟨x.toInCall.ns, hk₁, Nat.le_refl _⟩ NC Y B₂ (X.keeps F.keep) (T.keeps F.keep)) (fun fl s' hl => ?_) fun _ _ y => y.elim
  exact back F N hret hl

/- a test's answer within P, the frame and the ledger as they were -/
noncomputable def CutB (b : Heap) (L : Addr) (m : Str → Option Value) (l : List (Addr × Obj)) (P : Bool → Prop) (g : Array GenState) (d : Drawn) (os : OsState) (bb : Bool) (s' : Shared) : Prop :=
  P bb ∧ ∃ h' tk, s' = ⟨h', g, d, tk, os⟩ ∧ Fr b L h' m ∧ News b L h' l
noncomputable def CutV (b : Heap) (L : Addr) (m : Str → Option Value) (l : List (Addr × Obj)) (P : Bool → Prop) (g : Array GenState) (d : Drawn) (os : OsState) (v : Value) (s' : Shared) : Prop :=
  ∃ bb, v = .bool bb ∧ P bb ∧ ∃ h' tk, s' = ⟨h', g, d, tk, os⟩ ∧ Fr b L h' m ∧ News b L h' l
section
variable {prog : Program} {w : World} {A : Around} {E : Value → Shared → Prop} {b hp : Heap} {L : Addr} {m : Str → Option Value} {l : List (Addr × Obj)} {g : Array GenState} {d : Drawn} {tk₀ : Nat} {os : OsState}
theorem cutB {p : Sem Bool} {Q : Bool → Shared → Prop} (P : Bool → Prop) (F : Fr b L hp m) (N : News b L hp l) (h : wpAny (model prog w) A p (CutB b L m l P g d os) E ⟨hp, g, d, tk₀, os⟩)
    (k : ∀ bb, P bb → ∀ h' tk, Fr b L h' m → News b L h' l → Q bb ⟨h', g, d, tk, os⟩) : wpAny (model prog w) A p Q E ⟨hp, g, d, tk₀, os⟩ :=
  wpAny_mono h (fun bb s' q => by
    obtain ⟨hP, h', tk, rfl, F', N'⟩ := q
    exact k bb hP h' tk F' N') fun _ _ e => e
theorem cutV {p : Sem Value} {Q : Value → Shared → Prop} (P : Bool → Prop) (F : Fr b L hp m) (N : News b L hp l) (h : wpAny (model prog w) A p (CutV b L m l P g d os) E ⟨hp, g, d, tk₀, os⟩)
    (k : ∀ bb, P bb → ∀ h' tk, Fr b L h' m → News b L h' l → Q (.bool bb) ⟨h', g, d, tk, os⟩) : wpAny (model prog w) A p Q E ⟨hp, g, d, tk₀, os⟩ :=
  wpAny_mono h (fun v s' q => by
    obtain ⟨bb, rfl, hP, h', tk, rfl, F', N'⟩ := q
    exact k bb hP h' tk F' N') fun _ _ e => e
end

noncomputable def Stop (P : Prop) : Prop := P
theorem stop_ {P : Prop} (h : Stop P) : P := h
noncomputable def tupOf (its : Array Value) : Obj := { cls := .type "tuple", data := .seq its }
end

section
open LCg
section
variable {prog : Program} {w : World} {A : Around} {E : Value → Shared → Prop} {s : Shared} {h₀ : Heap} {L : Addr} {m : Str → Option Value} {env : Env}

noncomputable def OneInt (h₀ : Heap) (L : Addr) (m : Str → Option Value) (s : Shared) (led : List (Addr × Obj)) (k : Int) (y : Value) (s₂ : Shared) : Prop :=
  (∃ t, y = .int k t) ∧ ∃ h' tk', s₂ = { s with heap := h', toks := tk' } ∧ Fr h₀ L h' m ∧ News h₀ L h' led
theorem OneInt.intro {h₀ h' : Heap} {L : Addr} {m : Str → Option Value} {s : Shared} {led : List (Addr × Obj)} {k k' : Int} {t tk' : Tok} (e : k' = k) (F : Fr h₀ L h' m) (N : News h₀ L h' led) :
    OneInt h₀ L m s led k (.int k' t) { s with heap := h', toks := tk' } := ⟨⟨t, by rw [e]⟩, h', tk', rfl, F, N⟩

theorem small2 {b : Int} (h1 : -1 ≤ b) (h2 : b ≤ 1000) : Builtin.Range.small 0 b 2 = true ∧ Builtin.Range.rangeSize 0 b 2 = (((b + 1).toNat / 2 : Nat) : Int) := by
  have key : ∀ k, k < 1002 → Builtin.Range.small 0 (((k : Nat) : Int) - 1) 2 = true ∧ Builtin.Range.rangeSize 0 (((k : Nat) : Int) - 1) 2 = ((k / 2 : Nat) : Int) := by decide +kernel
  have := key (b + 1).toNat (by omega)
  rwa [show (((b + 1).toNat : Nat) : Int) - 1 = b by omega] at this

/- a comprehension each of whose items is an int, the ledger as it was -/
theorem comp_ints {elt : Expr} {x : Str} {scope : Scope} {cl : List (Str × Addr)} {S : List (Addr × Obj) → Prop} {P : Nat → Value → Prop} {Fin : List Value → List (Addr × Obj) → Prop} {news : List (Addr × Obj)} (f : Nat → Int) (hS : S news) :
    ∀ (k i : Nat) (ys : List Value) (ns : List Int), IntsAre ys ns →
    (∀ j v I oI C oC D m₂ h tk (E' : Value → Shared → Prop) ys, i ≤ j → j < i + k → P j v → NsObj oC m₂ → m₂ x = some v → Fr h₀ L h m → News h₀ L h ((I, oI) :: (C, oC) :: (D, lst ys) :: news) → Off3 I C D news → ((@Ne Nat I C) ∧ (@Ne Nat I D) ∧ (@Ne Nat C D)) →
      wpAny (model prog w) A (eval elt (compEnvC scope cl C env)) (OneInt h₀ L m s ((I, oI) :: (C, oC) :: (D, lst ys) :: news) (f j)) E' { s with heap := h, toks := tk }) →
    (∀ ys, IntsAre ys (ns ++ (List.range' i k).map f) → Fin ys news) →
    CompRest prog w A h₀ L m env elt x scope cl s S P Fin k i ys news := by
  intro k
  induction k with
  | zero => intro i ys ns hI _ fin; exact CompRest.zero (fin ys (by simpa using hI))
  | succ k ih =>
    intro i ys ns hI step fin
    refine CompRest.succ fun v I oI C oC D m₂ h tk E' hP hC hx F N off ne => ?_
    refine wpAny_mono (step i v I oI C oC D m₂ h tk E' ys (Nat.le_refl _) (by omega) hP hC hx F N off ne) (fun y s₂ q => ?_) fun _ _ q => q
    refine Exists.elim q.1 fun t e1 => ex2 q.2 fun h' tk' hq => an3 hq fun e2 F' N' => ?_
    clear hq q
    subst e1
    subst e2
    refine in3 h' tk' news ⟨rfl, F', N', off, hS, ?_⟩
    refine ih (i + 1) _ (ns ++ [f i]) (hI.append (.cons _ _ .nil)) (fun j v I oI C oC D m₂ h tk E' ys h1 h2 => step j v I oI C oC D m₂ h tk E' ys (by omega) (by omega)) fun ys hy => fin ys ?_
    simpa [List.range'_succ] using hy

/- a range that a comprehension goes over, and what is left to show -/
noncomputable def SrcG (h₀ : Heap) (L : Addr) (m : Str → Option Value) (R : Shared → Int → Int → Nat → List (Addr × Obj) → Prop) (xv : Value) (s₁ : Shared) : Prop :=
  ∃ r a b c t u v n news, xv = .ref r ∧ Fr h₀ L s₁.heap m ∧ News h₀ L s₁.heap news ∧ IsRange s₁.heap r a b c t u v ∧ Builtin.Range.small a b c = true ∧ Builtin.Range.rangeSize a b c = ((n : Nat) : Int) ∧ n ≤ sizeLine ∧
    ∀ s₂ : Shared, (∃ g, s₂ = { s₁ with heap := g }) → R s₂ a c n news

/- name = [elt for x in range(a, b, c)] -/
theorem compAssignR {elt iter : Expr} {x y : Str} {px py : Pos} {scope : Scope} {cl : List (Str × Addr)} {pos spos : Pos} {Q : Flow → Shared → Prop} (F₀ : Fr h₀ env.locals s.heap m) (hh : A.handled = none)
    (hsw : swapsWith (.ListComp elt [⟨.Name x px, iter, [], 0⟩] scope pos) (some (.Name y py)) spos.line env = pure true)
    (hclos : closureFor scope env = pure cl) (hcell : ∀ z ∈ scope.names, z.2 ≠ .cell) (hkind : scope.kind = .function)
    (hnames : ∀ z ∈ scope.names, z.2 = .local → scope.names.lookup z.1 = some .local) (hx : scope.names.lookup x = some .local)
    (hy : env.kindOf y = some .local) (hp : (env.scope.kind == .class || (env.scope.kind == .module && env.locals != env.globals)) = false)
    (h : wpAny (model prog w) A (eval iter env) (SrcG h₀ env.locals m fun s₂ a c n news => CompRest prog w A h₀ env.locals m env elt x scope cl s₂ (fun _ => True) (fun i v => ∃ t, v = .int (a + (i : Int) * c) t) (FinA h₀ env.locals m s₂ y Q) n 0 [] news) E s)
    (hs : ∀ x, foldedSetIterable iter env x = pure x := by intro _; rfl) :
    wpAny (model prog w) A (exec (.Assign [.Name y py] (.ListComp elt [⟨.Name x px, iter, [], 0⟩] scope pos) spos) env) Q E s := by
  rw [exec_Assign_Name_used _ _ _ _ hsw]
  refine wpAny_bind (wpAny_standAt (wpAny_bind ?_))
  show wpAny _ A (do let _ ← comprehension (.ListComp elt [⟨.Name x px, iter, [], 0⟩] scope pos) scope env _ (newList []) false (eval iter env) (some (assign (.Name y py) env))) _ _ s
  refine wpAny_bind (wpAny_mono (wpAny_comprehension_free (use := some (assign (.Name y py) env)) (Q := fun _ s' => Q .next s') rfl hs hclos hkind hnames
    (wpAny_mono h (fun xv s₁ h₁ => ?_) fun _ _ e => e)) (fun _ s' hq => wpAny_pure (wpAny_pure hq)) fun _ _ e => e)
  refine ex9 h₁ fun r a b c t u v n news hJ => an8 hJ fun e1 F N hr hsm hn hsz R => ?_
  clear hJ h₁
  subst e1
  refine wpAny_pyIter_range hr hsm ?_
  have up : ∀ b o, s₁.heap.get? b = some o → (s₁.heap.push { cls := .type "range_iterator", data := .fields #[rawInt a, rawInt (Builtin.Range.rangeSize a b c), rawInt c] }).get? b = some o := fun b o e => Heap.get?_push_of_some _ e
  have W := Walks.range (prog := prog) (w := w) hh s₁.heap.objs.size a c n
  refine block_U W hsz (fun i h st => ⟨_, st⟩) (fun i g g' o nw st e e' _ _ _ => ?_) hcell hkind hx (by show IsRangeIter _ _ _ _ _; rw [hn]; simpa using Heap.get?_push_size _ rfl) (fun b hb => ?_)
    (F.keeps fun _ _ e => Heap.get?_push_of_some _ e) (N.grown fun _ _ e => Heap.get?_push_of_some _ e) (Nat.ne_of_lt F.ns.lt) (next_is_new F) (fun p hp => Nat.ne_of_lt (Heap.lt_size (N p hp).1)) trivial (R _ ⟨_, rfl⟩) ?_
  · have st' : g.get? s₁.heap.objs.size = some _ := st
    show g'.get? s₁.heap.objs.size = some _
    rw [e', ← e]; exact st'
  · rw [List.mem_singleton.mp hb]
    show s₁.heap.objs.size < (s₁.heap.push _).objs.size
    rw [Heap.size_push]; exact Nat.lt_succ_self _
  · intro D C h' tk m' ys news' F' N' o1 hn' hC₀ hD₀ hCL hDL hCD offC fin
    show wpAny _ A (assign (.Name y py) env (.ref D)) _ _ _
    refine wpAny_assign_Name (wpAny_storeName_local hy F'.ns (fun h₂ hn₂ hs₂ => ?_) hp)
    have F₂ := F'.set hn₂ hs₂
    have N₂ := N'.set hs₂
    have hL₀ : h₀.get? env.locals = none := Heap.get?_none_of_le F'.above
    refine ⟨m', hn'.sameBut hs₂ hCL, fun h'' hs'' => fin D h'' _ (F₂.change hs'' hCL hC₀) (fun p hp => ?_) o1⟩
    refine ⟨hs''.extBut _ _ ?_ (N₂ p hp).1, (N₂ p hp).2⟩
    rcases List.mem_cons.mp hp with rfl | hp
    · exact Ne.symm hCD
    · exact offC p hp
end
end

section
section
variable {prog : Program} {w : World} {A : Around} {E : Value → Shared → Prop} {s : Shared} {env : Env} {h₀ : Heap} {x : Str} {body : List Stmt} {Q : Flow → Shared → Prop}
/- a for over reversed(l), l a list that stands as it is throughout -/
theorem forV {hp : Heap} {g : Array GenState} {d : Drawn} {tk₀ : Nat} {os : OsState} {I l : Addr} {vs : List Value} {k : Nat} {ol : Obj} {m₀ : Str → Option Value} {news : List (Addr × Obj)} (J : Nat → (Str → Option Value) → List (Addr × Obj) → Prop)
    (hh : A.handled = none) (hol : ol.cls = .type "list") (hod : ol.data = .seq vs.toArray k) (hIo : hp.get? I = some (revObj l ((vs.length : Int) - 1))) (hI : h₀.get? I = none) (hIL : I ≠ env.locals)
    (F : Fr h₀ env.locals hp m₀) (N : News h₀ env.locals hp news) (hnw : Off I news) (hj : J 0 m₀ news)
    (hfix : ∀ i m₁ news₁ h, J i m₁ news₁ → (∀ b o, h₀.get? b = some o → h.get? b = some o) → News h₀ env.locals h news₁ → h.get? l = some ol) (hlL : l ≠ env.locals) (hlI : l ≠ I)
    (turn : ∀ i v m₁ news₁ h tk o (R : Flow → Shared → Prop), (∀ f s₂, LPost h₀ env.locals I o (J (i + 1)) g d os Q f s₂ → R f s₂) → i < vs.length → vs[vs.length - 1 - i]? = some v → J i m₁ news₁ → Off I news₁ → Fr h₀ env.locals h (fun y => if y = x then some v else m₁ y) → News h₀ env.locals h ((I, o) :: news₁) →
      wpAny (model prog w) A (execs body env) R E ⟨h, g, d, tk, os⟩)
    (done : ∀ m₁ news₁ h tk, J vs.length m₁ news₁ → Fr h₀ env.locals h m₁ → News h₀ env.locals h news₁ → Q .next ⟨h, g, d, tk, os⟩) :
    wpAny (model prog w) A (pyIter (.ref I)) (fun it s₂ => LoopAtV prog w A h₀ env x body Q E it s₂) E ⟨hp, g, d, tk₀, os⟩ := by
  have h1 : hp.get? l = some ol := hfix 0 m₀ news hp hj F.keep N
  have hls : hp.IsList l vs.toArray := ⟨ol, h1, hol, k, hod⟩
  have hsz : vs.toArray.size = vs.length := List.size_toArray ..
  have W := Walks.listRev (prog := prog) (w := w) hh I l hlI vs.toArray
  have hst : hp.IsRevIter I l ((vs.toArray.size : Int) - 1 - ((0 : Nat) : Int)) := ⟨_, hIo, rfl, by rw [hsz]; simp [revObj]⟩
  refine W.self 0 _ _ _ ⟨Nat.zero_le _, hst, hls⟩ ?_
  refine forW J W ?_ hI ?_ (off_ne hnw) ⟨Nat.zero_le _, hst, hls⟩ F N hj ?_ ?_ ?_
  · intro hm
    rcases List.mem_cons.mp hm with e | hm
    · exact hIL e.symm
    · exact hlL (List.mem_singleton.mp hm).symm
  · rintro i h ⟨_, ⟨o, ho, _⟩, _⟩
    exact ⟨_, ho⟩
  · intro b hb hne
    rcases List.mem_cons.mp hb with e | hb
    · exact absurd e hne
    · rw [List.mem_singleton.mp hb]
      exact ⟨ol, hfix⟩
  · intro i v m₁ news₁ h tk o hin hP
    exact turn i v m₁ news₁ h tk o _ (fun _ _ q => q) (by simpa using hin) (by simpa using hP)
  · simpa using done
end
end

section
/- the end of a turn over an enumerate; e, t: the enumerate, its iterator -/
noncomputable def EEnd (h₀ : Heap) (L e : Addr) (oe : Obj) (t : Addr) (ot : Obj) (J : (Str → Option Value) → List (Addr × Obj) → Prop) (g : Array GenState) (d : Drawn) (os : OsState) (s₂ : Shared) : Prop :=
  ∃ h' tk m' news', s₂ = ⟨h', g, d, tk, os⟩ ∧ Fr h₀ L h' m' ∧ News h₀ L h' ((e, oe) :: (t, ot) :: news') ∧ Off e news' ∧ Off t news' ∧ J m' news'
noncomputable def EPost (h₀ : Heap) (L e : Addr) (oe : Obj) (t : Addr) (ot : Obj) (J : (Str → Option Value) → List (Addr × Obj) → Prop) (g : Array GenState) (d : Drawn) (os : OsState) (Q : Flow → Shared → Prop) (f : Flow) (s₂ : Shared) : Prop :=
  match f with
  | .ret v => Q (.ret v) s₂
  | .brk => Q .next s₂
  | _ => EEnd h₀ L e oe t ot J g d os s₂

theorem eend {h₀ h' : Heap} {L e t : Addr} {oe ot : Obj} {J : (Str → Option Value) → List (Addr × Obj) → Prop} {g : Array GenState} {d : Drawn} {os : OsState} {Q : Flow → Shared → Prop} {tk : Nat} {m' : Str → Option Value} (news' : List (Addr × Obj)) (F : Fr h₀ L h' m') (N : News h₀ L h' ((e, oe) :: (t, ot) :: news')) (O : Off e news') (O' : Off t news') (j : J m' news') : EPost h₀ L e oe t ot J g d os Q .next ⟨h', g, d, tk, os⟩ := ⟨h', tk, m', news', rfl, F, N, O, O', j⟩

section
variable {prog : Program} {w : World} {A : Around} {E : Value → Shared → Prop} {s : Shared} {env : Env} {Q : Flow → Shared → Prop}

/- what an enumerate has to bring -/
noncomputable def EnumAt (prog : Program) (w : World) (A : Around) (h₀ : Heap) (env : Env) (xi xc : Str) (body : List Stmt) (Q : Flow → Shared → Prop) (E : Value → Shared → Prop) (xv : Value) (s₁ : Shared) : Prop :=
  ∃ (e t l : Addr) (vs : List Value) (ol : Obj) (k : Nat) (m : Str → Option Value) (news : List (Addr × Obj)) (J : Nat → (Str → Option Value) → List (Addr × Obj) → Prop),
    xv = .ref e ∧ IsEnum s₁.heap e t 0 .none ∧ s₁.heap.IsListIter t l 0 ∧ (e ≠ t ∧ l ≠ e ∧ l ≠ t ∧ env.locals ≠ e ∧ env.locals ≠ t) ∧ h₀.get? e = none ∧ h₀.get? t = none ∧ Off e news ∧ Off t news ∧
    Fr h₀ env.locals s₁.heap m ∧ News h₀ env.locals s₁.heap news ∧ J 0 m news ∧ ol.cls = .type "list" ∧ ol.data = .seq vs.toArray k ∧
    (∀ i m₁ news₁ h, J i m₁ news₁ → (∀ b o, h₀.get? b = some o → h.get? b = some o) → News h₀ env.locals h news₁ → h.get? l = some ol) ∧
    (∀ i v u m₁ news₁ h tk oe ot (R : Flow → Shared → Prop), (∀ f s₂, EPost h₀ env.locals e oe t ot (J (i + 1)) s₁.gens s₁.drawn s₁.os Q f s₂ → R f s₂) → vs[i]? = some v → J i m₁ news₁ → Off e news₁ → Off t news₁ → Fr h₀ env.locals h (fun y => if y = xc then some v else if y = xi then some (.int (i : Int) u) else m₁ y) → News h₀ env.locals h ((e, oe) :: (t, ot) :: news₁) →
      wpAny (model prog w) A (execs body env) R E { s₁ with heap := h, toks := tk }) ∧
    ∀ m₁ news₁ h tk, J vs.length m₁ news₁ → Fr h₀ env.locals h m₁ → News h₀ env.locals h news₁ → Q .next { s₁ with heap := h, toks := tk }

/- between two turns -/
noncomputable def EnI (h₀ : Heap) (L e t l : Addr) (n : Nat) (J : Nat → (Str → Option Value) → List (Addr × Obj) → Prop) (s₁ : Shared) (k : Nat) (s' : Shared) : Prop :=
  ∃ h' tk m' news' i, s' = { s₁ with heap := h', toks := tk } ∧ (∃ old, IsEnum h' e t ((i : Nat) : Int) old) ∧ h'.IsListIter t l i ∧ Fr h₀ L h' m' ∧ News h₀ L h' news' ∧ Off e news' ∧ Off t news' ∧ J i m' news' ∧ i ≤ n ∧ k = n + 1 - i

theorem For_enum {xi xc : Str} {pk pv pt pos : Pos} {x1 : Nat} {iter : Expr} {body : List Stmt} (h₀ : Heap) (hh : A.handled = none) (hxi : env.kindOf xi = some .local) (hxc : env.kindOf xc = some .local)
    (hp : (env.scope.kind == .class || (env.scope.kind == .module && env.locals != env.globals)) = false)
    (h : wpAny (model prog w) A (eval iter env) (EnumAt prog w A h₀ env xi xc body Q E) E s)
    (hs : ∀ x, foldedSetIterable iter env x = pure x := by intro _; rfl)
    (hE : PassesOwn (model prog w) A env E := by passes_own) :
    wpAny (model prog w) A (exec (.For (.Tuple [.Name xi pk, .Name xc pv] x1 pt) iter body [] pos) env) Q E s := by
  refine wpAny_For (wpAny_mono h (fun xv s₁ h₁ => ?_) fun _ _ e => e) hs
  refine ex9 h₁ fun e t l vs ol k0 m news J hq => an8 hq fun e1 he hit hne he0 ht0 o1 hq2 => an9 hq2 fun o2 F N hJ hol hod hfix turn done => an5 hne fun het hle hlt hLe hLt => ?_
  clear hne hq hq2 h₁
  subst e1
  refine wpAny_pyIter_enum he ?_
  refine codeAny_forLoop_any (R := fun r s' => match r with | .ok f => Q f s' | .error e => cameBackBy (model prog w) A env E e s')
    (EnI h₀ env.locals e t l vs.length J s₁) ?_ (vs.length + 1)
    (in5 s₁.heap s₁.toks m news 0 ⟨rfl, ⟨_, he⟩, hit, F, N, o1, o2, hJ, Nat.zero_le _, rfl⟩)
  intro k s' hq0
  refine ex5 hq0 fun H tk m' news' i hq => an10 hq fun e1 hx hit' F' N' o1' o2' hJ' hi e2 => Exists.elim hx fun old he' => ?_
  clear hx hq hq0
  subst e1
  subst e2
  have hls : H.IsList l vs.toArray := ⟨ol, hfix i m' news' H hJ' F'.keep N', hol, k0, hod⟩
  have keep0 : ∀ h₁ : Heap, (∀ b o, b ≠ e → b ≠ t → H.get? b = some o → h₁.get? b = some o) → Fr h₀ env.locals h₁ m' ∧ News h₀ env.locals h₁ news' := fun h₁ hk₁ =>
    ⟨⟨F'.ns.at' fun o x => hk₁ _ o hLe hLt x, fun b o x => hk₁ b o (fun q => by rw [q, he0] at x; cases x) (fun q => by rw [q, ht0] at x; cases x) (F'.keep b o x), F'.above⟩,
      fun p hp => ⟨hk₁ _ _ (off_ne o1' p hp) (off_ne o2' p hp) (N' p hp).1, (N' p hp).2⟩⟩
  by_cases hlt' : i < vs.length
  · refine wpAny_pyNext_enum_item he' hit' hls (x := vs[i]) (by simp [hlt']) het fun h₁ ho hit₁ hT hsz hk => ?_
    have hTe : H.objs.size ≠ e := Nat.ne_of_gt (Heap.lt_size he')
    refine wpAny_letOwnedTupleGo_enum ho fun h₂ he₂ hs₂ => ?_
    have hT₂ : h₂.IsTuple H.objs.size #[.int (i : Int) tk, vs[i]] := ⟨_, (hs₂.2 _ hTe).trans hT, rfl, _, rfl⟩
    refine wpAny_assign_Tuple hh hT₂ rfl rfl fun h₃ hx₃ => ?_
    replace hx₃ : Heap.ExtBut h₂.objs.size h₂ h₃ := hx₃
    have up₃ : ∀ b o, h₂.get? b = some o → h₃.get? b = some o := fun b o x => hx₃ b o (Nat.ne_of_lt (Heap.lt_size x)) x
    have up : ∀ b o, b ≠ e → b ≠ t → H.get? b = some o → h₃.get? b = some o := fun b o q1 q2 x => up₃ b o ((hs₂.2 b q1).trans (hk b o q1 q2 x))
    obtain ⟨F₃, N₃⟩ := keep0 h₃ up
    have he₃ : IsEnum h₃ e t ((i : Int) + 1) vs[i] := up₃ _ _ he₂
    have hit₃ : h₃.IsListIter t l (i + 1) := hit₁.at fun o x => up₃ t o ((hs₂.2 t (Ne.symm het)).trans x)
    show wpAny _ A (do holding [vs[i]] (assign (.Name xi pk) env (.int (i : Int) tk)); do holding [] (assign (.Name xc pv) env vs[i]); pure ()) _ _ _
    refine wpAny_bind (wpAny_holding (wpAny_assign_Name (wpAny_storeName_local hxi F₃.ns (fun h₄ hn₄ hs₄ => ?_) hp)))
    have F₄ := F₃.set hn₄ hs₄
    refine wpAny_bind (wpAny_holding (wpAny_assign_Name (wpAny_storeName_local hxc F₄.ns (fun h₅ hn₅ hs₅ => wpAny_pure ?_) hp)))
    have F₅ := F₄.set hn₅ hs₅
    have N₅ := (N₃.set hs₄).set hs₅
    have e₅ : ∀ b o, b ≠ env.locals → h₃.get? b = some o → h₅.get? b = some o := fun b o q x => (hs₅.2 b q).trans ((hs₄.2 b q).trans x)
    have he₅ : IsEnum h₅ e t ((i : Int) + 1) vs[i] := e₅ _ _ (Ne.symm hLe) he₃
    have hit₅ : h₅.IsListIter t l (i + 1) := hit₃.at fun o x => e₅ t o (Ne.symm hLt) x
    refine Exists.elim hit₅ fun ot hq => an3 hq fun hot hoc hoi => Exists.elim (show ∃ oe, h₅.get? e = some oe from ⟨_, he₅⟩) fun oe hoe => ?_
    have N₆ : News h₀ env.locals h₅ ((e, oe) :: (t, ot) :: news') := nwc hoe (Ne.symm hLe) he0 (nwc hot (Ne.symm hLt) ht0 N₅)
    refine wpAny_passesOwn hE (wpAny_mono (turn i vs[i] tk m' news' h₅ _ oe ot _ (fun _ _ q => q) (by simp [hlt']) hJ' o1' o2' F₅ N₆) (fun f s₃ q => ?_) fun _ _ x => x)
    have fin : EEnd h₀ env.locals e oe t ot (J (i + 1)) s₁.gens s₁.drawn s₁.os s₃ → ∃ m, m < vs.length + 1 - i ∧ EnI h₀ env.locals e t l vs.length J s₁ m s₃ := by
      intro hq0
      refine ex4 hq0 fun h' tk' m₂ news₂ hq => an6 hq fun e1 F₇ N₇ p1 p2 J₇ => ?_
      subst e1
      have hh7 : h'.get? e = h₅.get? e := by rw [(N₇ _ (.head _)).1, hoe]
      exact ⟨vs.length + 1 - (i + 1), Nat.sub_lt_sub_left (Nat.lt_succ_of_lt hlt') (Nat.lt_succ_self i), in5 h' tk' m₂ news₂ (i + 1) ⟨rfl, ⟨vs[i], hh7.trans he₅⟩, ⟨ot, (N₇ _ (.tail _ (.head _))).1, hoc, hoi⟩, F₇, nwt (nwt N₇), p1, p2, J₇, hlt', rfl⟩⟩
    cases f with
    | ret v => exact q
    | brk => exact q
    | next => exact fin q
    | cont => exact fin q
  · have hin : i = vs.length := by omega
    subst hin
    refine wpAny_pyNext_enum_end hh he' hit' hls (by simp) fun h₁ hx => wpAny_execs_nil ?_
    obtain ⟨F₁, N₁⟩ := keep0 h₁ fun b o _ q2 x => hx b o q2 x
    exact done m' news' h₁ _ hJ' F₁ N₁

theorem enum_start {h₀ : Heap} {L l : Addr} {m : Str → Option Value} {vs : List Value} {k : Nat} {ol : Obj} {news : List (Addr × Obj)} {Q : Value → Shared → Prop} (F : Fr h₀ L s.heap m) (N : News h₀ L s.heap news) (hg : s.heap.get? l = some ol) (hol : ol.cls = .type "list") (hod : ol.data = .seq vs.toArray k)
    (h : ∀ h' e t, IsEnum h' e t 0 .none → h'.IsListIter t l 0 → (e ≠ t ∧ l ≠ e ∧ l ≠ t ∧ L ≠ e ∧ L ≠ t) → h₀.get? e = none → h₀.get? t = none → Off e news → Off t news → Fr h₀ L h' m → News h₀ L h' news → (∀ b o, s.heap.get? b = some o → h'.get? b = some o) → Q (.ref e) { s with heap := h' }) :
    wpAny (model prog w) A (call (.type "enumerate") [.ref l]) Q E s := by
  have hll := Heap.lt_size hg
  have hLL := F.ns.lt
  have hab := F.above
  refine call_enumerate_list ⟨ol, hg, hol, k, hod⟩ fun h' he hit hsz hk => ?_
  refine h h' _ _ he hit ⟨Nat.succ_ne_self _, Nat.ne_of_lt (Nat.lt_succ_of_lt hll), Nat.ne_of_lt hll, Nat.ne_of_lt (Nat.lt_succ_of_lt hLL), Nat.ne_of_lt hLL⟩
    (Heap.get?_none_of_le (Nat.le_trans hab (Nat.le_of_lt (Nat.lt_succ_of_lt hLL)))) (Heap.get?_none_of_le (Nat.le_trans hab (Nat.le_of_lt hLL)))
    (off_of fun p hp => Nat.ne_of_lt (Nat.lt_succ_of_lt (Heap.lt_size (N p hp).1))) (off_of fun p hp => Nat.ne_of_lt (Heap.lt_size (N p hp).1)) ⟨F.ns.keeps hk, fun b o x => hk b o (F.keep b o x), F.above⟩ (fun p hp => ⟨hk _ _ (N p hp).1, (N p hp).2⟩) hk
end
end

section
open LCg
section
variable {prog : Program} {w : World} {A : Around} {E : Value → Shared → Prop} {s : Shared} {h₀ : Heap} {L : Addr} {m : Str → Option Value} {env : Env}

abbrev testsOf (ifs : List Expr) (env : Env) : Sem Bool := forIn ifs true fun c r => if r = true then do let ok ← isTrue c env (eval c env); pure (ForInStep.yield ok) else pure (ForInStep.yield r)

theorem loop_Z {elt target iter : Expr} {ifs : List Expr} {scope : Scope} {pos : Pos} {it acc : Value} {env : Env} {R : Result → Shared → Prop} (I : Nat → Shared → Prop)
    (turn : ∀ n s, I n s → wpAny (model prog w) A (pyNext it) (fun r s₁ => match r with
      | none => R (.ok .next) s₁
      | some v => wpAny (model prog w) A (letOwnedTupleGo target it v) (fun _ s₀ => wpAny (model prog w) A (assign target env v) (fun _ s₂ =>
          wpAny (model prog w) A (testsOf ifs env) (fun ok s₃ =>
            if ok = true then wpAny (model prog w) A (eval elt env) (fun x s₄ =>
              wpAny (model prog w) A (call (.builtin "list.append") [acc, x]) (fun _ s₅ => ∃ m, m < n ∧ I m s₅) (notedBy (model prog w) A env fun e s' => R (.error e) s') s₄) (notedBy (model prog w) A env fun e s' => R (.error e) s') s₃
            else ∃ m, m < n ∧ I m s₃) (notedBy (model prog w) A env fun e s' => R (.error e) s') s₂) (notedBy (model prog w) A env fun e s' => R (.error e) s') s₀) (notedBy (model prog w) A env fun e s' => R (.error e) s') s₁) (notedBy (model prog w) A env fun e s' => R (.error e) s') s)
    (n : Nat) (h : I n s) : codeAny (model prog w) A (.compLoop (.ListComp elt [⟨target, iter, ifs, 0⟩] scope pos) 0 it acc env) R s := by
  refine codeAny_loop rfl I (fun n s hI => ?_) n h
  show wpAny _ A ((compTurn (.ListComp elt [⟨target, iter, ifs, 0⟩] scope pos) 0 it acc env).onRaise (fun x => do noteFrame x env; theTreesLotGoes x)) _ _ s
  refine wpAny_noted ?_
  rw [compTurn_list]
  refine wpAny_bind (wpAny_standAt (wpAny_bind (wpAny_mono (turn n s hI) (fun r s₁ h₁ => ?_) fun _ _ h' => h')))
  cases r with
  | none => exact wpAny_pure h₁
  | some v =>
    refine wpAny_bind (wpAny_mono h₁ (fun _ s₀ h₀' => ?_) fun _ _ h' => h')
    refine wpAny_bind (wpAny_mono h₀' (fun _ s₂ h₂ => wpAny_bind (wpAny_mono h₂ (fun ok s₃ h₃ => ?_) fun _ _ h' => h')) fun _ _ h' => h')
    cases ok with
    | false => exact wpAny_pure ⟨rfl, h₃⟩
    | true =>
      exact wpAny_bind (wpAny_bind (wpAny_mono h₃ (fun x s₄ h₄ => wpAny_bind (wpAny_mono h₄ (fun _ s₅ h₅ => wpAny_pure (wpAny_pure ⟨rfl, h₅⟩)) fun _ _ h' => h')) fun _ _ h' => h'))

/- one turn over a zip: the tests and the element -/
noncomputable def ZTurn (prog : Program) (w : World) (A : Around) (h₀ : Heap) (L : Addr) (m : Str → Option Value) (env : Env) (elt : Expr) (ifs : List Expr) (a b : Str) (scope : Scope) (cl : List (Str × Addr)) (s : Shared) (news : List (Addr × Obj)) (n : Nat)
    (P : Nat → Value → Value → Prop) (f : Nat → Option Int) : Prop :=
  ∀ i x y C oC D ys m₂ h tk own (E' : Value → Shared → Prop), i < n → P i x y → NsObj oC m₂ → m₂ a = some x → m₂ b = some y → Fr h₀ L h m → News h₀ L h ((C, oC) :: (D, lst ys) :: (own ++ news)) →
    wpAny (model prog w) A (testsOf ifs (compEnvC scope cl C env)) (fun ok s₃ => (∃ h' tk', s₃ = { s with heap := h', toks := tk' } ∧ Fr h₀ L h' m ∧ News h₀ L h' ((C, oC) :: (D, lst ys) :: (own ++ news))) ∧
      if ok = true then ∃ k, f i = some k ∧ wpAny (model prog w) A (eval elt (compEnvC scope cl C env)) (OneInt h₀ L m s ((C, oC) :: (D, lst ys) :: (own ++ news)) k) E' s₃ else f i = none) E' { s with heap := h, toks := tk }

theorem ex_ns {h : Heap} {C : Addr} {m' : Str → Option Value} {G : Prop} (q : ∃ oC, h.get? C = some oC ∧ NsObj oC m') (k : ∀ oC, h.get? C = some oC → NsObj oC m' → G) : G := q.elim fun o q => k o q.1 q.2
theorem range_step {n : Nat} (f : Nat → Option Int) : ((List.range (n + 1)).filterMap f) = (List.range n).filterMap f ++ (f n).toList := by
  rw [List.range_succ, List.filterMap_append]
  cases h : f n <;> simp [h]

/- between two turns -/
noncomputable def BlI (h₀ : Heap) (L : Addr) (m : Str → Option Value) (s₂ : Shared) (C D : Addr) (n : Nat) (f : Nat → Option Int) (St : Nat → Heap → Prop) (news : List (Addr × Obj)) (k : Nat) (s' : Shared) : Prop :=
  ∃ h' tk i ys m', s' = { s₂ with heap := h', toks := tk } ∧ i ≤ n ∧ k = n + 1 - i ∧ ys.length ≤ i ∧ IntsAre ys ((List.range i).filterMap f) ∧ St i h' ∧ Fr h₀ L h' m ∧ h'.Ns C m' ∧ News h₀ L h' ((D, lst ys) :: news)

theorem block_Z {elt iter : Expr} {a b : Str} {pa pb tp : Pos} {kk : Nat} {ifs : List Expr} {scope : Scope} {cl : List (Str × Addr)} {pos : Pos} {s₂ : Shared} {I : Addr} {fp wr : List Addr} {n : Nat} {Pt : Nat → Array Value → Prop} {St : Nat → Heap → Prop} {Mid : Nat → Addr → Heap → Prop}
    {P : Nat → Value → Value → Prop} {news : List (Addr × Obj)} {RR : Value → Addr → Result → Shared → Prop} (f : Nat → Option Int)
    (W : WalksT prog w A I fp wr n Pt St Mid) (hpt : ∀ i vals, Pt i vals → ∃ x y, vals = #[x, y] ∧ P i x y) (hsz : n ≤ sizeLine) (hh : A.handled = none)
    (hcell : ∀ y ∈ scope.names, y.2 ≠ .cell) (hkind : scope.kind = .function) (hxa : scope.names.lookup a = some .local) (hxb : scope.names.lookup b = some .local) (hab : ¬ a = b)
    (hst : St 0 s₂.heap) (hfp : ∀ b ∈ fp, b < s₂.heap.objs.size) (hwr : ∀ b ∈ wr, h₀.get? b = none) (hLf : L ∉ fp) (hnw : ∀ p ∈ news, p.1 ∉ wr)
    (F : Fr h₀ L s₂.heap m) (N : News h₀ L s₂.heap news)
    (turn : ZTurn prog w A h₀ L m env elt ifs a b scope cl s₂ news n P f)
    (hRR : ∀ D C h tk m' ys, IntsAre ys ((List.range n).filterMap f) → Fr h₀ L h m → News h₀ L h ((D, lst ys) :: news) → Off1 D news → h.Ns C m' → h₀.get? C = none → h₀.get? D = none → C ≠ L → D ≠ L → C ≠ D → (∀ p ∈ news, p.1 ≠ C) → RR (.ref D) C (.ok .next) { s₂ with heap := h, toks := tk }) :
    wpAny (model prog w) A (newList []) (fun acc s₃ => wpAny (model prog w) A (newFunctionEnv scope env.globals cl [] env.qual none .none (some env)) (fun cenv s₄ =>
      codeAny (model prog w) A (.compStart (.ListComp elt [⟨.Tuple [.Name a pa, .Name b pb] kk tp, iter, ifs, 0⟩] scope pos) 0 (.ref I) acc { cenv with scope := relabel scope env }) (RR acc cenv.locals) s₄) E s₃) E s₂ := by
  refine wpAny_newObj_type (wpAny_newFunctionEnv hcell (by intro y hy; simp at hy) (fun h₁ hns₁ hsb₁ => ?_) hkind)
  dsimp only at hns₁ hsb₁ ⊢
  generalize hH2 : s₂.heap.push { cls := .type "list", dict := none, data := .seq ([] : List Value).toArray } = H2 at hns₁ hsb₁ ⊢
  have hC : H2.objs.size = s₂.heap.objs.size + 1 := by rw [← hH2, Heap.size_push]
  have hDC : s₂.heap.objs.size ≠ H2.objs.size := by rw [hC]; exact Nat.ne_of_lt (Nat.lt_succ_self _)
  have below : ∀ b, b < s₂.heap.objs.size → b ≠ H2.objs.size ∧ b ≠ s₂.heap.objs.size := fun b hb => ⟨by rw [hC]; exact Nat.ne_of_lt (Nat.lt_succ_of_lt hb), Nat.ne_of_lt hb⟩
  have hDf : s₂.heap.objs.size ∉ fp := fun hm => Nat.lt_irrefl _ (hfp _ hm)
  have hCf : H2.objs.size ∉ fp := fun hm => by have := hfp _ hm; rw [hC] at this; exact Nat.lt_irrefl _ (Nat.lt_of_succ_lt this)
  have hDw : s₂.heap.objs.size ∉ wr := fun hm => hDf (W.sub _ hm)
  have hCw : H2.objs.size ∉ wr := fun hm => hCf (W.sub _ hm)
  have hLw : L ∉ wr := fun hm => hLf (W.sub _ hm)
  have old : ∀ b o, s₂.heap.get? b = some o → h₁.get? b = some o := fun b o e => hsb₁.extBut b o (below b (Heap.lt_size e)).1 (Heap.get?_push_of_some _ (hH2 ▸ Heap.get?_push_of_some _ e))
  have hacc : h₁.get? s₂.heap.objs.size = some (lst []) := hsb₁.extBut _ _ hDC (Heap.get?_push_of_some _ (hH2 ▸ Heap.get?_push_size _ rfl))
  have hst₁ : St 0 h₁ := W.frame _ _ _ hst fun b _ o e => old b o e
  have fresh : ∀ a, s₂.heap.objs.size ≤ a → s₂.heap.get? a = none := fun a ha => by
    cases e : s₂.heap.get? a with
    | none => rfl
    | some o' => exact absurd (Heap.lt_size e) (Nat.not_lt.mpr ha)
  have fresh₀ : ∀ a, s₂.heap.objs.size ≤ a → h₀.get? a = none := fun a ha => by
    cases e : h₀.get? a with
    | none => rfl
    | some o' => have := F.keep a o' e; rw [fresh a ha] at this; cases this
  have hD₀ : h₀.get? s₂.heap.objs.size = none := fresh₀ _ (Nat.le_refl _)
  have hC₀ : h₀.get? H2.objs.size = none := fresh₀ _ (by rw [hC]; exact Nat.le_succ _)
  have hLlt : L < s₂.heap.objs.size := F.ns.lt
  have hDL : s₂.heap.objs.size ≠ L := Ne.symm (below L hLlt).2
  have hCL : H2.objs.size ≠ L := Ne.symm (below L hLlt).1
  have offD : ∀ p ∈ news, p.1 ≠ s₂.heap.objs.size := fun p hp => (below _ (Heap.lt_size (N p hp).1)).2
  have offC : ∀ p ∈ news, p.1 ≠ H2.objs.size := fun p hp => (below _ (Heap.lt_size (N p hp).1)).1
  have oneD : Off1 s₂.heap.objs.size news := Off3.one (I := H2.objs.size) (C := H2.objs.size) (Off3.of fun p hp => ⟨offC p hp, offC p hp, offD p hp⟩)
  have frB : ∀ {h h' : Heap}, Fr h₀ L h m → (∀ c o, c ∉ wr → h.get? c = some o → h'.get? c = some o) → Fr h₀ L h' m := fun F' hk =>
    ⟨F'.ns.at' fun o e => hk L o hLw e, fun c o e => hk c o (fun q => by rw [hwr c q] at e; cases e) (F'.keep c o e), F'.above⟩
  have loop : ∀ s₃ : Shared, s₃ = { s₂ with heap := h₁, toks := s₂.toks + ([] : List (Str × Value)).length } →
      codeAny (model prog w) A (.compLoop (.ListComp elt [⟨.Tuple [.Name a pa, .Name b pb] kk tp, iter, ifs, 0⟩] scope pos) 0 (.ref I) (.ref s₂.heap.objs.size) (compEnvC scope cl H2.objs.size env))
        (RR (.ref s₂.heap.objs.size) H2.objs.size) s₃ := by
    rintro s₃ rfl
    refine loop_Z
      (BlI h₀ L m s₂ H2.objs.size s₂.heap.objs.size n f St news) ?_ (n + 1)
      (in5 h₁ _ 0 [] _ ⟨rfl, Nat.zero_le _, rfl, Nat.le_refl _, .nil, hst₁, F.keeps old, hns₁, nwc hacc hDL hD₀ (N.grown old)⟩)
    · intro k s' hJ0
      refine ex5 hJ0 fun h' tk i ys m' hJ => an9 hJ fun e1 hi e2 hyl hI hst' F' hn' N' => ?_
      clear hJ hJ0
      subst e1
      subst e2
      by_cases hlt : i < n
      · refine W.item i _ _ _ hlt hst' fun T vals h₂ tk₂ hPv hTn hT hMid hk₂ => ?_
        obtain ⟨x, y, rfl, hxy⟩ := hpt i vals hPv
        refine W.go _ _ _ i T _ _ _ hMid fun h₃ hst₃ hk₃ => ?_
        have hTw := W.apart _ _ _ hMid
        have hT₃ : h₃.IsTuple T #[x, y] := Heap.IsTuple.at hT fun o e => hk₃ T o hTw e
        have up₃ : ∀ c o, c ∉ wr → h'.get? c = some o → h₃.get? c = some o := fun c o hc e => hk₃ c o hc (hk₂ c o hc e)
        refine kcp_assign (env := compEnvC scope cl H2.objs.size env) hh hT₃ (lookup_relabel_local hxa) (lookup_relabel_local hxb) (by simp [compEnvC, relabel, hkind]) (hn'.at' fun o e => up₃ _ o hCw e) fun h₄ tk₄ hn₄ hs₄ => ?_
        have up : ∀ c o, c ∉ wr → c ≠ H2.objs.size → h'.get? c = some o → h₄.get? c = some o := fun c o h1 h2 e => hs₄ c o h2 (up₃ c o h1 e)
        have hst₄ : St (i + 1) h₄ := W.frame _ _ _ hst₃ fun c hc o e => hs₄ c o (fun q => hCf (by have q' : c = H2.objs.size := q; rw [← q']; exact hc)) e
        refine ex_ns (ns_obj hn₄) fun oC heC hoC => ?_
        have F₄ : Fr h₀ L h₄ m := ⟨F'.ns.at' fun o e => up _ o hLw (Ne.symm hCL) e, fun c o e => up c o (fun q => by rw [hwr c q] at e; cases e) (fun q => by rw [q, hC₀] at e; cases e) (F'.keep c o e), F'.above⟩
        have N₄ : News h₀ L h₄ ((H2.objs.size, oC) :: (s₂.heap.objs.size, lst ys) :: (ownOf h₀ fp h₄ ++ news)) := nwc heC hCL hC₀ (nwc (up _ _ hDw hDC (N' _ (.head _)).1) hDL hD₀
          fun q hq => (List.mem_append.mp hq).elim (fun hq => news_ownOf hLf q hq) fun hq => ⟨up _ _ (hnw q hq) (offC q hq) (N' q (.tail _ hq)).1, (N' q (.tail _ hq)).2⟩)
        have stay : ∀ h₅, Fr h₀ L h₅ m → News h₀ L h₅ ((H2.objs.size, oC) :: (s₂.heap.objs.size, lst ys) :: (ownOf h₀ fp h₄ ++ news)) → St (i + 1) h₅ ∧ h₅.get? s₂.heap.objs.size = some (lst ys) ∧ h₅.get? H2.objs.size = some oC ∧ News h₀ L h₅ news := fun h₅ F₅ N₅ => by
          refine ⟨W.frame _ _ _ hst₄ fun c hc o e => ?_, (N₅ _ (List.mem_cons_of_mem _ List.mem_cons_self)).1, (N₅ _ List.mem_cons_self).1, fun q hq => N₅ q (List.mem_cons_of_mem _ (List.mem_cons_of_mem _ (List.mem_append_right _ hq)))⟩
          cases e₀ : h₀.get? c with
          | some o' =>
            have := F₄.keep c o' e₀
            rw [e] at this
            rw [Option.some.inj this]
            exact F₅.keep c o' e₀
          | none => exact (N₅ _ (List.mem_cons_of_mem _ (List.mem_cons_of_mem _ (List.mem_append_left _ (mem_ownOf hc e₀ e))))).1
        refine wpAny_mono (turn i x y H2.objs.size oC s₂.heap.objs.size ys _ h₄ tk₄ (ownOf h₀ fp h₄) _ hlt hxy hoC (by simp [hab]) (by simp) F₄ N₄) (fun ok s₅ h₅ => ?_) fun _ _ e => e
        obtain ⟨⟨h₅, tk₅, rfl, F₅, N₅⟩, q⟩ := h₅
        by_cases hok : ok = true
        · rw [if_pos hok] at q ⊢
          obtain ⟨k, hk, q⟩ := q
          refine wpAny_mono q (fun v s₆ h₆ => ?_) fun _ _ e => e
          obtain ⟨⟨t, rfl⟩, h₆, tk₆, rfl, F₆, N₆⟩ := h₆
          obtain ⟨st₆, zD, zC, N₆'⟩ := stay h₆ F₆ N₆
          refine append_at (hsz := by show ys.toArray.size ≤ sizeLine; rw [List.size_toArray]; omega) zD fun h₇ hs₇ hD₇ => ?_
          refine ⟨n + 1 - (i + 1), Nat.sub_lt_sub_left (Nat.lt_succ_of_lt hlt) (Nat.lt_succ_self i), in5 h₇ _ (i + 1) (ys ++ [.int k t]) _ ⟨rfl, hlt, rfl, by rw [List.length_append, List.length_singleton]; omega, ?_, W.frame _ _ _ st₆ fun c hc o e => hs₇.extBut c o (fun q => hDf (q ▸ hc)) e, F₆.change hs₇ hDL hD₀, (hoC.ns zC).sameBut hs₇ (Ne.symm hDC), nwc (hD₇.trans (congrArg some (lst_snoc ys _))) hDL hD₀ fun q hq => ?_⟩⟩
          · rw [range_step, hk]
            exact hI.append (.cons _ _ .nil)
          · exact ⟨hs₇.extBut _ _ (offD q hq) (N₆' q hq).1, (N₆' q hq).2⟩
        · rw [if_neg hok] at q ⊢
          obtain ⟨st₅, zD, zC, N₅'⟩ := stay h₅ F₅ N₅
          refine ⟨n + 1 - (i + 1), Nat.sub_lt_sub_left (Nat.lt_succ_of_lt hlt) (Nat.lt_succ_self i), in5 h₅ tk₅ (i + 1) ys _ ⟨rfl, hlt, rfl, by omega, ?_, st₅, F₅, hoC.ns zC, nwc zD hDL hD₀ N₅'⟩⟩
          rw [range_step, q]
          simpa using hI
      · obtain rfl : i = n := Nat.le_antisymm hi (Nat.not_lt.mp hlt)
        refine W.done _ _ _ hst' fun h₂ tk₂ hk₂ => ?_
        exact hRR _ _ h₂ tk₂ _ ys hI (frB F' hk₂) (fun p hp => by
          refine ⟨hk₂ _ _ ?_ (N' p hp).1, (N' p hp).2⟩
          rcases List.mem_cons.mp hp with rfl | hp
          · exact hDw
          · exact hnw p hp) oneD (hn'.at' fun o e => hk₂ _ o hCw e) hC₀ hD₀ hCL hDL (Ne.symm hDC) offC
  exact codeAny_compStart_list (loop _ rfl) (W.self 0 _ _ _ hst₁ (loop _ rfl))

end
end

section
open LCg
section
variable {prog : Program} {w : World} {A : Around} {E : Value → Shared → Prop} {s : Shared} {h₀ : Heap} {L : Addr} {m : Str → Option Value} {env : Env}

noncomputable def ZSrc (prog : Program) (w : World) (A : Around) (h₀ : Heap) (L : Addr) (m : Str → Option Value) (env : Env) (elt : Expr) (ifs : List Expr) (a b : Str) (scope : Scope) (cl : List (Str × Addr)) (Fin : Shared → List Value → List (Addr × Obj) → Prop) (xv : Value) (s₁ : Shared) : Prop :=
  ∃ (z TI TO i1 i2 l1 l2 : Addr) (vs ws : List Value) (news : List (Addr × Obj)) (f : Nat → Option Int), xv = .ref z ∧ A.handled = none ∧ ZipApart z TI TO i1 i2 l1 l2 ∧
    (IsZip s₁.heap z TI TO .none ∧ IsPair s₁.heap TI (.ref i1) (.ref i2) ∧ (∃ a b, IsPair s₁.heap TO a b) ∧ s₁.heap.IsListIter i1 l1 0 ∧ s₁.heap.IsListIter i2 l2 0 ∧ s₁.heap.IsList l1 vs.toArray ∧ s₁.heap.IsList l2 ws.toArray) ∧
    (∀ b ∈ [z, TI, TO, i1, i2, l1, l2], b < s₁.heap.objs.size) ∧ (∀ b ∈ [z, TO, i1, i2], h₀.get? b = none) ∧ L ∉ [z, TI, TO, i1, i2, l1, l2] ∧ (∀ p ∈ news, p.1 ∉ [z, TO, i1, i2]) ∧ vs.length ≤ sizeLine ∧
    Fr h₀ L s₁.heap m ∧ News h₀ L s₁.heap news ∧
    ZTurn prog w A h₀ L m env elt ifs a b scope cl s₁ news (min vs.length ws.length) (fun i x y => vs[i]? = some x ∧ ws[i]? = some y) f ∧
    ∀ ys, IntsAre ys ((List.range (min vs.length ws.length)).filterMap f) → Fin s₁ ys news

theorem ZSrc.call {elt : Expr} {ifs : List Expr} {a b : Str} {scope : Scope} {cl : List (Str × Addr)} {Fin : Shared → List Value → List (Addr × Obj) → Prop} {l1 l2 : Addr} {vs ws : List Value} {news : List (Addr × Obj)} (f : Nat → Option Int)
    (hh : A.handled = none) (h1 : h₀.IsList l1 vs.toArray) (h2 : h₀.IsList l2 ws.toArray) (hsz : vs.length ≤ sizeLine) (F : Fr h₀ L s.heap m) (N : News h₀ L s.heap news)
    (turn : ∀ h, ZTurn prog w A h₀ L m env elt ifs a b scope cl { s with heap := h } news (min vs.length ws.length) (fun i x y => vs[i]? = some x ∧ ws[i]? = some y) f)
    (fin : ∀ h ys, IntsAre ys ((List.range (min vs.length ws.length)).filterMap f) → Fin { s with heap := h } ys news) :
    wpAny (model prog w) A (call (.type "zip") [.ref l1, .ref l2]) (ZSrc prog w A h₀ L m env elt ifs a b scope cl Fin) E s := by
  have k1 : s.heap.IsList l1 vs.toArray := Heap.IsList.at h1 fun o e => F.keep _ o e
  have k2 : s.heap.IsList l2 ws.toArray := Heap.IsList.at h2 fun o e => F.keep _ o e
  have a1 : l1 < s.heap.objs.size := by obtain ⟨_, e, _⟩ := k1; exact Heap.lt_size e
  have a2 : l2 < s.heap.objs.size := by obtain ⟨_, e, _⟩ := k2; exact Heap.lt_size e
  have hL₀ : h₀.get? L = none := Heap.get?_none_of_le F.above
  have b1 : L ≠ l1 := fun q => by obtain ⟨_, e, _⟩ := h1; rw [← q, hL₀] at e; cases e
  have b2 : L ≠ l2 := fun q => by obtain ⟨_, e, _⟩ := h2; rw [← q, hL₀] at e; cases e
  have hLn : L < s.heap.objs.size := F.ns.lt
  have hab := F.above
  refine call_zip_2 k1 k2 fun h' hz hTI hTO hi1 hi2 hs hk => ?_
  have lt : ∀ {c o}, h'.get? c = some o → c < h'.objs.size := fun e => Heap.lt_size e
  refine in11 _ _ _ _ _ _ _ vs ws news f ⟨rfl, hh, zipApart_new a1 a2, ⟨hz, hTI, ⟨_, _, hTO⟩, hi1, hi2, Heap.IsList.at k1 (fun o e => hk _ o e), Heap.IsList.at k2 (fun o e => hk _ o e)⟩, ?_, ?_, ?_, ?_, hsz, F.keeps hk, N.grown hk, turn h', fin h'⟩
  · show ∀ c ∈ _, c < h'.objs.size
    rw [hs]
    exact fa (Nat.lt_succ_self _) (fa (Nat.add_lt_add_left (by decide) _) (fa (Nat.add_lt_add_left (by decide) _) (fa (Nat.lt_add_of_pos_right (by decide)) (fa (Nat.add_lt_add_left (by decide) _)
      (fa (Nat.lt_of_lt_of_le a1 (Nat.le_add_right _ _)) (fa (Nat.lt_of_lt_of_le a2 (Nat.le_add_right _ _)) fan))))))
  · have hn : h₀.objs.size ≤ s.heap.objs.size := Nat.le_trans hab (Nat.le_of_lt hLn)
    have hn2 : ∀ k, h₀.get? (s.heap.objs.size + k) = none := fun k => Heap.get?_none_of_le (Nat.le_trans hn (Nat.le_add_right _ _))
    exact fa (hn2 _) (fa (hn2 _) (fa (hn2 0) (fa (hn2 _) fan)))
  · have hn3 : ∀ k, L ≠ s.heap.objs.size + k := fun k q => absurd hLn (by rw [q]; exact Nat.not_lt.mpr (Nat.le_add_right _ _))
    exact fun hc => fa (P := fun c => L ≠ c) (hn3 _) (fa (hn3 _) (fa (hn3 _) (fa (hn3 0) (fa (hn3 _) (fa b1 (fa b2 fan)))))) _ hc rfl
  · intro p hp hc
    have hp' := Heap.lt_size (N p hp).1
    have hn3 : ∀ k, p.1 ≠ s.heap.objs.size + k := fun k q => absurd hp' (by rw [q]; exact Nat.not_lt.mpr (Nat.le_add_right _ _))
    exact fa (P := fun c => p.1 ≠ c) (hn3 _) (fa (hn3 _) (fa (hn3 0) (fa (hn3 _) fan))) _ hc rfl

theorem ListComp_Z {elt iter : Expr} {a b : Str} {pa pb tp : Pos} {kk : Nat} {ifs : List Expr} {scope : Scope} {cl : List (Str × Addr)} {pos : Pos} {Q : Value → Shared → Prop} (F₀u : Fr h₀ L s.heap m)
    (hclos : closureFor scope env = pure cl) (hcell : ∀ y ∈ scope.names, y.2 ≠ .cell) (hkind : scope.kind = .function)
    (hnames : ∀ y ∈ scope.names, y.2 = .local → scope.names.lookup y.1 = some .local) (hxa : scope.names.lookup a = some .local) (hxb : scope.names.lookup b = some .local) (hab : ¬ a = b)
    (h : wpAny (model prog w) A (eval iter env) (ZSrc prog w A h₀ L m env elt ifs a b scope cl (fun s₂ => FinE h₀ L m s₂ Q)) E s)
    (hs : ∀ x, foldedSetIterable iter env x = pure x := by intro _; rfl) :
    wpAny (model prog w) A (eval (.ListComp elt [⟨.Tuple [.Name a pa, .Name b pb] kk tp, iter, ifs, 0⟩] scope pos) env) Q E s := by
  rw [eval_ListComp]
  refine wpAny_comprehension_free (use := none) rfl hs hclos hkind hnames (wpAny_mono h (fun xv s₁ h₁ => ?_) fun _ _ e => e)
  refine ex11 h₁ fun z TI TO i1 i2 l1 l2 vs ws news f hJ => an13 hJ fun e1 hh D st hfp hwr hLf hnw hsz F N turn fin => ?_
  clear hJ h₁
  subst e1
  refine wpAny_pyIter_zip st.1 ?_
  have W := WalksT.zip2 (prog := prog) (w := w) hh z TI TO i1 i2 l1 l2 D vs.toArray ws.toArray
  rw [show min vs.toArray.size ws.toArray.size = min vs.length ws.length by simp] at W
  refine block_Z f W (fun i vals hv => by obtain ⟨x, y, e1, e2, e3⟩ := hv; exact ⟨x, y, e3, by simpa using e1, by simpa using e2⟩) (Nat.le_trans (Nat.min_le_left _ _) hsz) hh hcell hkind hxa hxb hab st hfp hwr hLf hnw F N turn ?_
  intro D C h tk m' ys hI F' N' o1 hn hC₀ hD₀ hCL hDL hCD offC
  refine ⟨m', hn, fun h'' hs'' => fin ys hI D h'' tk (F'.change hs'' hCL hC₀) (fun p hp => ?_) o1⟩
  refine ⟨hs''.extBut _ _ ?_ (N' p hp).1, (N' p hp).2⟩
  rcases List.mem_cons.mp hp with rfl | hp
  · exact Ne.symm hCD
  · exact offC p hp

theorem Assign_ListComp_Z {elt iter : Expr} {a b y : Str} {pa pb tp py : Pos} {kk : Nat} {ifs : List Expr} {scope : Scope} {cl : List (Str × Addr)} {pos spos : Pos} {Q : Flow → Shared → Prop} (F₀u : Fr h₀ env.locals s.heap m)
    (hsw : swapsWith (.ListComp elt [⟨.Tuple [.Name a pa, .Name b pb] kk tp, iter, ifs, 0⟩] scope pos) (some (.Name y py)) spos.line env = pure true)
    (hclos : closureFor scope env = pure cl) (hcell : ∀ y ∈ scope.names, y.2 ≠ .cell) (hkind : scope.kind = .function)
    (hnames : ∀ y ∈ scope.names, y.2 = .local → scope.names.lookup y.1 = some .local) (hxa : scope.names.lookup a = some .local) (hxb : scope.names.lookup b = some .local) (hab : ¬ a = b)
    (hy : env.kindOf y = some .local) (hp : (env.scope.kind == .class || (env.scope.kind == .module && env.locals != env.globals)) = false)
    (h : wpAny (model prog w) A (eval iter env) (ZSrc prog w A h₀ env.locals m env elt ifs a b scope cl (fun s₂ => FinA h₀ env.locals m s₂ y Q)) E s)
    (hs : ∀ x, foldedSetIterable iter env x = pure x := by intro _; rfl) :
    wpAny (model prog w) A (exec (.Assign [.Name y py] (.ListComp elt [⟨.Tuple [.Name a pa, .Name b pb] kk tp, iter, ifs, 0⟩] scope pos) spos) env) Q E s := by
  rw [exec_Assign_Name_used _ _ _ _ hsw]
  refine wpAny_bind (wpAny_standAt (wpAny_bind ?_))
  show wpAny _ A (do let _ ← comprehension (.ListComp elt [⟨.Tuple [.Name a pa, .Name b pb] kk tp, iter, ifs, 0⟩] scope pos) scope env _ (newList []) false (eval iter env) (some (assign (.Name y py) env))) _ _ s
  refine wpAny_bind (wpAny_mono (wpAny_comprehension_free (use := some (assign (.Name y py) env)) (Q := fun _ s' => Q .next s') rfl hs hclos hkind hnames
    (wpAny_mono h (fun xv s₁ h₁ => ?_) fun _ _ e => e)) (fun _ s' hq => wpAny_pure (wpAny_pure hq)) fun _ _ e => e)
  refine ex11 h₁ fun z TI TO i1 i2 l1 l2 vs ws news f hJ => an13 hJ fun e1 hh D st hfp hwr hLf hnw hsz F N turn fin => ?_
  clear hJ h₁
  subst e1
  refine wpAny_pyIter_zip st.1 ?_
  have W := WalksT.zip2 (prog := prog) (w := w) hh z TI TO i1 i2 l1 l2 D vs.toArray ws.toArray
  rw [show min vs.toArray.size ws.toArray.size = min vs.length ws.length by simp] at W
  refine block_Z f W (fun i vals hv => by obtain ⟨x, y, e1, e2, e3⟩ := hv; exact ⟨x, y, e3, by simpa using e1, by simpa using e2⟩) (Nat.le_trans (Nat.min_le_left _ _) hsz) hh hcell hkind hxa hxb hab st hfp hwr hLf hnw F N turn ?_
  intro D C h' tk m' ys hI F' N' o1 hn hC₀ hD₀ hCL hDL hCD offC
  show wpAny _ A (assign (.Name y py) env (.ref D)) _ _ _
  refine wpAny_assign_Name (wpAny_storeName_local hy F'.ns (fun h₂ hn₂ hs₂ => ?_) hp)
  have hL₀ : h₀.get? env.locals = none := Heap.get?_none_of_le F'.above
  have F₂ : Fr h₀ env.locals h₂ (fun z => if z = y then some (.ref D) else m z) := ⟨hn₂, fun b o e => hs₂.extBut b o (fun q => by rw [q, hL₀] at e; cases e) (F'.keep b o e), F'.above⟩
  refine ⟨m', hn.sameBut hs₂ hCL, fun h'' hs'' => fin ys hI D h'' _ (F₂.change hs'' hCL hC₀) (fun p hp => ?_) o1⟩
  have z : h₂.get? p.1 = some p.2 := hs₂.extBut _ _ (N' p hp).2.1 (N' p hp).1
  refine ⟨hs''.extBut _ _ ?_ z, (N' p hp).2⟩
  rcases List.mem_cons.mp hp with rfl | hp
  · exact Ne.symm hCD
  · exact offC p hp
end
end

section
open LCg
section
variable {prog : Program} {w : World} {A : Around} {E : Value → Shared → Prop} {s : Shared} {h₀ : Heap} {L : Addr} {m : Str → Option Value} {env : Env}

/- what a turn with a test brings -/
noncomputable def OneTest (prog : Program) (w : World) (A : Around) (h₀ : Heap) (L : Addr) (m : Str → Option Value) (elt : Expr) (cenv : Env) (s : Shared) (led : List (Addr × Obj)) (E' : Value → Shared → Prop) (r : Option Int) (ok : Bool) (s₃ : Shared) : Prop :=
  (∃ h' tk', s₃ = { s with heap := h', toks := tk' } ∧ Fr h₀ L h' m ∧ News h₀ L h' led) ∧ if ok = true then ∃ k, r = some k ∧ wpAny (model prog w) A (eval elt cenv) (OneInt h₀ L m s led k) E' s₃ else r = none

/- a comprehension over ints with a test, the ledger as it was -/
theorem comp_tests {ct elt : Expr} {x : Str} {scope : Scope} {cl : List (Str × Addr)} {S : List (Addr × Obj) → Prop} {P : Nat → Value → Prop} {Fin : List Value → List (Addr × Obj) → Prop} {news : List (Addr × Obj)} (f : Nat → Option Int) (hS : S news) :
    ∀ (k i : Nat) (ys : List Value) (ns : List Int), IntsAre ys ns →
    (∀ j v I oI C oC D m₂ h tk (E' : Value → Shared → Prop) ys, i ≤ j → j < i + k → P j v → NsObj oC m₂ → m₂ x = some v → Fr h₀ L h m → News h₀ L h ((I, oI) :: (C, oC) :: (D, lst ys) :: news) → Off3 I C D news → ((@Ne Nat I C) ∧ (@Ne Nat I D) ∧ (@Ne Nat C D)) →
      wpAny (model prog w) A (isTrue ct (compEnvC scope cl C env) (eval ct (compEnvC scope cl C env))) (OneTest prog w A h₀ L m elt (compEnvC scope cl C env) s ((I, oI) :: (C, oC) :: (D, lst ys) :: news) E' (f j)) E' { s with heap := h, toks := tk }) →
    (∀ ys, IntsAre ys (ns ++ (List.range' i k).filterMap f) → Fin ys news) →
    LCt.CompRestT prog w A h₀ L m env ct elt x scope cl s S P Fin k i ys news := by
  intro k
  induction k with
  | zero => intro i ys ns hI _ fin; exact LCt.CompRestT.zero (fin ys (by simpa using hI))
  | succ k ih =>
    intro i ys ns hI step fin
    refine LCt.CompRestT.succ fun v I oI C oC D m₂ h tk E' hP hC hx F N off ne => ?_
    refine wpAny_mono (step i v I oI C oC D m₂ h tk E' ys (Nat.le_refl _) (by omega) hP hC hx F N off ne) (fun ok s₂ q => ?_) fun _ _ q => q
    obtain ⟨⟨h', tk', rfl, F', N'⟩, q⟩ := q
    by_cases hok : ok = true
    · rw [if_pos hok] at q ⊢
      obtain ⟨kk, hk, q⟩ := q
      refine wpAny_mono q (fun y s₂ q => ?_) fun _ _ q => q
      obtain ⟨⟨t, rfl⟩, h', tk', rfl, F', N'⟩ := q
      refine ⟨h', tk', news, rfl, F', N', off, hS, ?_⟩
      refine ih (i + 1) _ (ns ++ [kk]) (hI.append (.cons _ _ .nil)) (fun j v I oI C oC D m₂ h tk E' ys h1 h2 => step j v I oI C oC D m₂ h tk E' ys (by omega) (by omega)) fun ys hy => fin ys ?_
      simpa [List.range'_succ, List.filterMap_cons, hk] using hy
    · rw [if_neg hok] at q ⊢
      refine ⟨h', tk', news, rfl, F', N', off, hS, ?_⟩
      refine ih (i + 1) _ ns hI (fun j v I oI C oC D m₂ h tk E' ys h1 h2 => step j v I oI C oC D m₂ h tk E' ys (by omega) (by omega)) fun ys hy => fin ys ?_
      simpa [List.range'_succ, List.filterMap_cons, q] using hy
end
end

section
/- a sort's questions, answered by lt; each within n -/
noncomputable def Kw (lt : Nat → Nat → Bool) (n : Nat) {α : Type} : KasT α → (α → Prop) → Prop
  | .ret a, Q => Q a
  | .ask i j k, Q => i < n ∧ j < n ∧ Kw lt n (k (lt i j)) Q
theorem Kw.bind {lt : Nat → Nat → Bool} {n : Nat} {α β : Type} {f : α → KasT β} {Q : β → Prop} : ∀ (t : KasT α), Kw lt n t (fun a => Kw lt n (f a) Q) → Kw lt n (t.bind f) Q
  | .ret _, h => h
  | .ask _ _ k, ⟨h1, h2, h⟩ => ⟨h1, h2, Kw.bind (k _) h⟩
theorem Kw.wp {lt : Nat → Nat → Bool} {n : Nat} {α : Type} {cmp : Nat → Nat → (Bool → Shared → Prop) → Shared → Prop} {s : Shared} {G : α → Shared → Prop} {Q : α → Prop} (hq : ∀ a, Q a → G a s)
    (hc : ∀ i j (C : Bool → Shared → Prop), i < n → j < n → C (lt i j) s → cmp i j C s) : ∀ (t : KasT α), Kw lt n t Q → t.kasWp cmp G s
  | .ret a, h => hq a h
  | .ask i j k, ⟨h1, h2, h⟩ => hc i j _ h1 h2 (Kw.wp hq hc (k _) h)

section
variable {n : Nat} {key : Nat → Int}
abbrev kl (key : Nat → Int) (i j : Nat) : Bool := decide (key i < key j)
/- a rearrangement of 0 .. n - 1 -/
structure IsP (n : Nat) (p : Array Nat) : Prop where
  perm : p.Perm (List.toArray (List.range n))
theorem IsP.size {p : Array Nat} (h : IsP n p) : p.size = n := by rw [h.perm.size_eq]; simp
theorem IsP.lt {p : Array Nat} (h : IsP n p) {i : Nat} (hi : i < n) : p.getD i 0 < n := by
  have hs := h.size
  have h1 : p.getD i 0 = p[i] := by simp [Array.getD, hs, hi]
  have h2 : p[i] ∈ p := Array.getElem_mem _
  have h3 : p[i] ∈ List.toArray (List.range n) := (Array.Perm.mem_iff h.perm).mp h2
  rw [h1]
  simpa using h3
theorem IsP.inj {p : Array Nat} (h : IsP n p) {i j : Nat} (hi : i < n) (hj : j < n) (e : p.getD i 0 = p.getD j 0) : i = j := by
  have hs := h.size
  have hnd : p.toList.Nodup := by
    have h1 : p.toList.Perm (List.range n) := by simpa using h.perm.toList
    exact (h1.nodup_iff).mpr List.nodup_range
  have e1 : ∀ k, (hk : k < n) → p.getD k 0 = p.toList[k]'(by simpa [hs] using hk) := fun k hk => by simp [Array.getD, hs, hk]
  rw [e1 i hi, e1 j hj] at e
  exact (List.getElem_inj hnd).mp e
noncomputable def Srt (key : Nat → Int) (p : Array Nat) (k : Nat) : Prop := ∀ i j, i < j → j < k → key (p.getD i 0) < key (p.getD j 0)

variable (hinj : ∀ i j, i < n → j < n → key i = key j → i = j)
include hinj
theorem IsP.ne {p : Array Nat} (h : IsP n p) {i j : Nat} (hi : i < n) (hj : j < n) (hne : i ≠ j) : key (p.getD i 0) ≠ key (p.getD j 0) := fun e =>
  hne (h.inj hi hj (hinj _ _ (h.lt hi) (h.lt hj) e))

omit hinj in
theorem asc_ {p : Array Nat} {Q : Nat → Prop} (hp : IsP n p) : ∀ (f m : Nat), 1 ≤ m → m + f ≤ n → (∀ i j, i < j → j < m → ¬ key (p.getD j 0) < key (p.getD i 0)) →
    (∀ k, m ≤ k → k ≤ m + f → (∀ i j, i < j → j < k → ¬ key (p.getD j 0) < key (p.getD i 0)) → (k = m + f ∨ key (p.getD k 0) < key (p.getD (k - 1) 0)) → Q k) → Kw (kl key) n (kas_asc p f m) Q
  | 0, m, _, _, hs, fin => fin m (Nat.le_refl _) (Nat.le_refl _) hs (.inl rfl)
  | f + 1, m, h1, hz, hs, fin => by
    have e0 : m + 1 + f = m + (f + 1) := Nat.add_right_comm m 1 f
    have hmn : m < n := Nat.lt_of_lt_of_le (Nat.lt_add_of_pos_right (Nat.succ_pos f)) hz
    refine ⟨hp.lt hmn, hp.lt (Nat.lt_of_le_of_lt (Nat.sub_le _ _) hmn), ?_⟩
    dsimp only
    by_cases hc : key (p.getD m 0) < key (p.getD (m - 1) 0)
    · rw [if_pos (by simpa using hc)]
      exact fin m (Nat.le_refl _) (Nat.le_add_right _ _) hs (.inr hc)
    · rw [if_neg (by simpa using hc)]
      refine asc_ hp f (m + 1) (Nat.le_add_left _ _) (by rw [e0]; exact hz) (fun i j hij hj => ?_) fun k hk1 hk2 hk3 hk4 => fin k (Nat.le_of_succ_le hk1) (e0 ▸ hk2) hk3 (hk4.imp (fun e => e.trans e0) id)
      by_cases hjm : j < m
      · exact hs i j hij hjm
      · have e : j = m := Nat.le_antisymm (Nat.le_of_lt_succ hj) (Nat.not_lt.mp hjm)
        subst e
        by_cases him : i = j - 1
        · rw [him]; exact hc
        · exact fun h => hc (Int.lt_of_lt_of_le h (Int.not_lt.mp (hs i (j - 1) (Nat.lt_of_le_of_ne (Nat.le_pred_of_lt hij) him) (Nat.sub_lt (Nat.lt_of_le_of_lt (Nat.zero_le _) hij) Nat.one_pos))))

theorem srt_of {p : Array Nat} (hp : IsP n p) {k : Nat} (hk : k ≤ n) (h : ∀ i j, i < j → j < k → ¬ key (p.getD j 0) < key (p.getD i 0)) : Srt key p k := fun i j hij hj => by
  have h1 := h i j hij hj
  have h2 := hp.ne hinj (i := i) (j := j) (by omega) (by omega) (by omega)
  omega

theorem desc_ {p : Array Nat} {Q : Array Nat × Nat × Nat → Prop} (hp : IsP n p) : ∀ (f m : Nat), 1 ≤ m → m + f ≤ n → (∀ i j, i < j → j < m → key (p.getD j 0) < key (p.getD i 0)) →
    (∀ k, m ≤ k → k ≤ m + f → (∀ i j, i < j → j < k → key (p.getD j 0) < key (p.getD i 0)) → Q (p, k, 0)) → Kw (kl key) n (kas_desc f p m 0) Q
  | 0, m, _, _, hs, fin => fin m (Nat.le_refl _) (Nat.le_refl _) hs
  | f + 1, m, h1, hz, hs, fin => by
    have e0 : m + 1 + f = m + (f + 1) := Nat.add_right_comm m 1 f
    have hmn : m < n := Nat.lt_of_lt_of_le (Nat.lt_add_of_pos_right (Nat.succ_pos f)) hz
    have hm1 : m - 1 < n := Nat.lt_of_le_of_lt (Nat.sub_le _ _) hmn
    refine ⟨hp.lt hmn, hp.lt hm1, ?_⟩
    dsimp only
    by_cases hc : key (p.getD m 0) < key (p.getD (m - 1) 0)
    · rw [if_pos (by simpa using hc), if_neg (by omega)]
      refine desc_ hp f (m + 1) (Nat.le_add_left _ _) (by rw [e0]; exact hz) (fun i j hij hj => ?_) fun k hk1 hk2 hk3 => fin k (Nat.le_of_succ_le hk1) (e0 ▸ hk2) hk3
      by_cases hjm : j < m
      · exact hs i j hij hjm
      · have e : j = m := Nat.le_antisymm (Nat.le_of_lt_succ hj) (Nat.not_lt.mp hjm)
        subst e
        by_cases him : i = j - 1
        · rw [him]; exact hc
        · exact Int.lt_trans hc (hs i (j - 1) (Nat.lt_of_le_of_ne (Nat.le_pred_of_lt hij) him) (Nat.sub_lt (Nat.lt_of_le_of_lt (Nat.zero_le _) hij) Nat.one_pos))
    · rw [if_neg (by simpa using hc)]
      refine ⟨hp.lt (by omega), hp.lt (by omega), ?_⟩
      dsimp only
      have hne := hp.ne hinj (i := m) (j := m - 1) hmn hm1 (Nat.ne_of_gt (Nat.sub_lt h1 Nat.one_pos))
      rw [if_pos (by simp only [decide_eq_true_eq]; omega)]
      exact fin m (Nat.le_refl _) (Nat.le_add_right _ _) hs

omit hinj in
theorem rev_get {p : Array Nat} (hp : IsP n p) {m : Nat} (hm : m ≤ n) (k : Nat) : (kas_rev p 0 m).getD k 0 = if k < m then p.getD (m - 1 - k) 0 else p.getD k 0 := by
  have h := getElem?_mirror_all (xs := p) (i := 0) (j := m) (by rw [hp.size]; exact hm) k
  unfold kas_rev
  rw [Array.getD_eq_getD_getElem?, h]
  simp only [Nat.zero_le, true_and, Nat.zero_add]
  split <;> rw [Array.getD_eq_getD_getElem?]
omit hinj in
theorem rev_isP {p : Array Nat} (hp : IsP n p) (i j : Nat) : IsP n (kas_rev p i j) := ⟨(mirror_perm _ _ _ _).trans hp.perm⟩

theorem count_ {p : Array Nat} {Q : Nat × Array Nat → Prop} (hp : IsP n p) (hn : 1 ≤ n) (fin : ∀ k p', 1 ≤ k → k ≤ n → IsP n p' → Srt key p' k → Q (k, p')) : Kw (kl key) n (kas_count n p) Q := by
  unfold kas_count
  refine Kw.bind _ (asc_ hp (n - 1) 1 (Nat.le_refl _) (by omega) (fun i j hij hj => by omega) fun k hk1 hk2 hk3 hk4 => ?_)
  have hkn0 : k ≤ n := by omega
  clear hk2
  have hs := srt_of hinj hp hkn0 hk3
  split
  · exact fin k p hk1 hkn0 hp hs
  · rename_i hkn
    have hkn' : k ≠ n := by simpa using hkn
    split
    · refine ⟨hp.lt (by omega), hp.lt (by omega), ?_⟩
      dsimp only
      rw [if_pos (by simpa using hs 0 (k - 1) (by omega) (by omega))]
      exact fin k p hk1 hkn0 hp hs
    · have hk : k = 1 := by omega
      subst hk
      have hd : key (p.getD 1 0) < key (p.getD 0 0) := by
        rcases hk4 with e | e
        · omega
        · exact e
      unfold kas_descPart
      refine Kw.bind _ (desc_ hinj hp (n - (1 + 1)) (1 + 1) (by omega) (by omega) (fun i j hij hj => ?_) fun m hm1 hm2 hm3 => ?_)
      · have e1 : i = 0 := by omega
        have e2 : j = 1 := by omega
        rw [e1, e2]; exact hd
      · dsimp only
        have hmn : m ≤ n := by omega
        have hm0 : m + (n - m) = n := Nat.add_sub_cancel' hmn
        clear hm2
        rw [if_neg (by omega)]
        unfold kas_tail3
        have hr := rev_isP hp 0 m
        refine Kw.bind _ (asc_ hr (n - m) m (Nat.le_of_succ_le hm1) (Nat.le_of_eq hm0) (fun i j hij hj => ?_) fun k hk1 hk2 hk3 _ => ?_)
        · rw [rev_get hp hmn, rev_get hp hmn, if_pos hj, if_pos (Nat.lt_trans hij hj)]
          exact Int.not_lt.mpr (Int.le_of_lt (hm3 (m - 1 - j) (m - 1 - i) (Nat.sub_lt_sub_left (Nat.lt_of_lt_of_le hij (Nat.le_pred_of_lt hj)) hij) (by omega)))
        · have hkn1 : k ≤ n := Nat.le_trans hk2 (Nat.le_of_eq hm0)
          exact fin k _ (Nat.le_trans (Nat.le_of_succ_le hm1) hk1) hkn1 hr (srt_of hinj hr hkn1 hk3)

theorem place_ {p : Array Nat} {k : Nat} {Q : Nat → Prop} (hp : IsP n p) (hk : k < n) (fin : ∀ l, l ≤ k → (∀ i, i < l → key (p.getD i 0) < key (p.getD k 0)) → (∀ i, l ≤ i → i < k → key (p.getD k 0) < key (p.getD i 0)) → Q l) (hs : Srt key p k) :
    ∀ (f l r : Nat), l ≤ r → r ≤ k → r ≤ l + f → (∀ i, i < l → key (p.getD i 0) < key (p.getD k 0)) → (∀ i, r ≤ i → i < k → key (p.getD k 0) < key (p.getD i 0)) → Kw (kl key) n (kas_place p k f l r) Q
  | 0, l, r, h1, h2, h3, h4, h5 => fin l (Nat.le_trans h1 h2) h4 fun i hi => h5 i (Nat.le_trans h3 hi)
  | f + 1, l, r, h1, h2, h3, h4, h5 => by
    unfold kas_place
    split
    · exact fin l (Nat.le_trans h1 h2) h4 fun i hi => h5 i (Nat.le_trans (by assumption) hi)
    · have m2 : (l + r) / 2 < r := by omega
      have m1 : l ≤ (l + r) / 2 := by omega
      have m3 := Nat.lt_of_lt_of_le m2 h2
      have m4 : (l + r) / 2 ≤ l + f := Nat.le_of_lt_succ (Nat.lt_of_lt_of_le m2 h3)
      have m5 : r ≤ (l + r) / 2 + 1 + f := by omega
      refine ⟨hp.lt hk, hp.lt (Nat.lt_trans m3 hk), ?_⟩
      dsimp only
      generalize (l + r) / 2 = mid at m1 m2 m3 m4 m5 ⊢
      clear h1 h3
      by_cases hc : key (p.getD k 0) < key (p.getD mid 0)
      · rw [if_pos (by simpa using hc)]
        refine place_ hp hk fin hs f l mid m1 (Nat.le_of_lt m3) m4 h4 fun i hi1 hi2 => ?_
        by_cases hi : i = mid
        · rw [hi]; exact hc
        · exact Int.lt_trans hc (hs mid i (by omega) hi2)
      · rw [if_neg (by simpa using hc)]
        have hne := hp.ne hinj (i := k) (j := mid) hk (Nat.lt_trans m3 hk) (Nat.ne_of_gt m3)
        have hlt : key (p.getD mid 0) < key (p.getD k 0) := by omega
        refine place_ hp hk fin hs f (mid + 1) r m2 h2 m5 (fun i hi => ?_) h5
        by_cases hi' : i = mid
        · rw [hi']; exact hlt
        · exact Int.lt_trans (hs i mid (by omega) m3) hlt

omit hinj in
theorem bub_get {p : Array Nat} (hp : IsP n p) {k d : Nat} (hk : k < n) (hd : d ≤ k) (i : Nat) : (bubble p k d).getD i 0 = if i = k - d then p.getD k 0 else if k - d < i ∧ i ≤ k then p.getD (i - 1) 0 else p.getD i 0 := by
  have h := getElem?_bubble (xs := p) (src := k) (by rw [hp.size]; exact hk) d hd i
  rw [Array.getD_eq_getD_getElem?, h]
  split
  · rw [Array.getD_eq_getD_getElem?]
  · split <;> rw [Array.getD_eq_getD_getElem?]

theorem bin_ {Q : Array Nat → Prop} (fin : ∀ p, IsP n p → Srt key p n → Q p) : ∀ (f : Nat) (p : Array Nat) (k : Nat), IsP n p → k + f = n → Srt key p k → Kw (kl key) n (kas_bin f p k) Q
  | 0, p, k, hp, hk, hs => fin p hp (by have e : k = n := by omega
                                        rw [← e]; exact hs)
  | f + 1, p, k, hp, hk, hs => by
    unfold kas_bin
    refine Kw.bind _ (place_ hinj hp (by omega) (fun l hl h1 h2 => ?_) hs k 0 k (Nat.zero_le _) (Nat.le_refl _) (Nat.le_of_eq (Nat.zero_add k).symm) (fun i hi => absurd hi (Nat.not_lt_zero _)) fun i hi1 hi2 => absurd hi2 (Nat.not_lt.mpr hi1))
    refine bin_ fin f _ (k + 1) ⟨(bubble_perm _ _ _).trans hp.perm⟩ (by omega) fun i j hij hj => ?_
    rw [bub_get hp (by omega) (by omega), bub_get hp (by omega) (by omega)]
    have e : k - (k - l) = l := Nat.sub_sub_self hl
    rw [e]
    have hjk := Nat.le_of_lt_succ hj
    have hj1 : l < j → j - 1 < k := fun h => Nat.lt_of_lt_of_le (Nat.sub_lt (Nat.lt_of_le_of_lt (Nat.zero_le _) h) Nat.one_pos) hjk
    by_cases c1 : i = l
    · have hlj : l < j := c1 ▸ hij
      rw [if_pos c1, if_neg (Nat.ne_of_gt hlj), if_pos ⟨hlj, hjk⟩]
      exact h2 _ (Nat.le_pred_of_lt hlj) (hj1 hlj)
    · rw [if_neg c1]
      by_cases c2 : l < i
      · have hlj := Nat.lt_trans c2 hij
        rw [if_pos ⟨c2, Nat.le_trans (Nat.le_of_lt hij) hjk⟩, if_neg (Nat.ne_of_gt hlj), if_pos ⟨hlj, hjk⟩]
        exact hs _ _ (Nat.sub_lt_sub_right (Nat.lt_of_le_of_lt (Nat.zero_le _) c2) hij) (hj1 hlj)
      · have c2' : i < l := Nat.lt_of_le_of_ne (Nat.not_lt.mp c2) c1
        rw [if_neg fun h => c2 h.1]
        by_cases c3 : j = l
        · rw [if_pos c3]; exact h1 i c2'
        · rw [if_neg c3]
          by_cases c4 : l < j
          · rw [if_pos ⟨c4, hjk⟩]
            exact hs _ _ (Nat.lt_of_lt_of_le c2' (Nat.le_pred_of_lt c4)) (hj1 c4)
          · rw [if_neg fun h => c4 h.1]
            exact hs _ _ hij (Nat.lt_of_lt_of_le (Nat.lt_of_le_of_ne (Nat.not_lt.mp c4) c3) hl)

theorem sort_ (hn : 1 ≤ n) : Kw (kl key) n (kas_sort n) (fun p => IsP n p ∧ Srt key p n) := by
  unfold kas_sort
  refine Kw.bind _ (count_ hinj ⟨Array.Perm.refl _⟩ hn fun k p hk1 hk2 hp hs => ?_)
  dsimp only
  split
  · refine bin_ hinj (fun p hp hs => ⟨hp, hs⟩) _ p _ hp (by omega) ?_
    rw [Nat.max_eq_left hk1]; exact hs
  · have e : k = n := by omega
    exact ⟨hp, by rw [e] at hs; exact hs⟩
end
end

local macro_rules | `(tactic| walk_at "ite") => `(tactic| (exfalso; first | contradiction | exact absurd (of_decide_eq_true (by assumption)) (by assumption) | exact absurd (by assumption) (of_decide_eq_false (by assumption)) | ((fail_if_success (have : (7 : Nat) = 7 := by assumption)); omega)))
section
theorem walk_off_E1 : True := by
  w_top off
  trivial
/- the bits that all symbols take -/
noncomputable def bitsOf : List Int → List Int → Int
  | c :: cs, l :: ls => (if 0 < c then c * l else 0) + bitsOf cs ls
  | _, _ => 0

theorem bitsOf_take (cs ls : List Int) (i : Nat) (c l : Int) (hc : cs[i]? = some c) (hl : ls[i]? = some l) :
    bitsOf (cs.take (i + 1)) (ls.take (i + 1)) = bitsOf (cs.take i) (ls.take i) + (if 0 < c then c * l else 0) := by
  induction cs generalizing ls i with
  | nil => simp at hc
  | cons c' cs ih =>
    cases ls with
    | nil => simp at hl
    | cons l' ls =>
      cases i with
      | zero => simp at hc hl; subst hc; subst hl; simp [bitsOf]
      | succ i =>
        simp at hc hl
        have := ih ls i hc hl
        simp only [List.take_succ_cons, bitsOf]
        rw [this]; omega

theorem total_bits_spec (w : World) {c l : Addr} {vs ws : List Value} {ns ls : List Int} (hi : IntsAre vs ns) (hj : IntsAre ws ls) (hlen : ns.length = ls.length) (hn: ns.length ≤ 20)
   (hc : ∀ (i : Nat) (c l : Int), ns[i]? = some c → ls[i]? = some l → 0 ≤ c ∧ c ≤ 1000 ∧ (0 < c → 1 ≤ l ∧ l ≤ 20)) :
   Spec w 3 61 [.ref c, .ref l] (fun h => h.IsList c vs.toArray ∧ h.IsList l ws.toArray) (fun v own => own = [] ∧ ∃ t, v = .int (bitsOf ns ls) t) := by
  unfold Spec
  k_fill
  intro dp un gd cn cs a ccd cl outer A₀ base h₀ L m news s Q E mean mg mb hd_B hd_F hd_X hd_N hd_T hd_k hdp hun hpre hret
  obtain ⟨hp1, hp2⟩ := hpre
  k_dflt (refine' enter (by assumption) (by assumption) (by assumption) (by assumption) (by assumption) rfl rfl (by assumption) ?k6 ?k7 ?k8 ?k9 ?kB ?c2 ?c3 ?c4 ?c5 (by assumption) ?_; (case k6 => k_is); (case k7 => k_is); (case k8 => exact rm0 (by assumption)); (case k9 => exact BindsTo.of_eq rfl); (case c5 => decide); (case kB => exact locs rfl); (case c2 => exact rfl); (case c3 => exact rfl); (case c4 => exact rfl))
  clear hd_B hd_F hd_N hd_X hd_T hret; intro R g₀ d₀ os₀ hR hN L' h' tk' F' N' B' X' T'; (try dsimp only)
  k_steps
  rename Fr _ _ _ _ => F1
  rename News _ _ _ _ => N1
  rename PairSrcL _ _ _ _ _ _ _ _ _ _ _ _ => S
  refine PairSrcL.at S _ rfl _ _ _ _ (fun i m₁ n₁ => n₁ = [] ∧ ∃ t, Names m₁ [(Str.ofString "found", .int (bitsOf (ns.take i) (ls.take i)) t), (Str.ofString "lengths", .ref l)]) ?_ ?_ ?_
  · refine ⟨rfl, _, by rfl, by rfl, trivial⟩
  · rintro i a t v m₁ n₁ s₁ own ⟨h, tk, rfl⟩ hai hv ⟨rfl, t1, hm⟩ _ hoff F2 N2
    replace F2 := fr2 hm F2
    obtain ⟨t2, rfl⟩ := ItemKind.int_is hv
    dsimp only [kstB] at F2
    clear F1 N1 S
    obtain ⟨hi1, hi2⟩ := ints_get_facts hai
    have hl1 : i < ls.length := by omega
    have hl2 : ls[i]? = some (ls.getD ((i : Int)).toNat 0) := by simp [hl1]
    have hb := bitsOf_take ns ls i a _ hai hl2
    obtain ⟨q1, q2, q3⟩ := hc i a _ hai hl2
    by_cases hpos : 0 < a
    · obtain ⟨q4, q5⟩ := q3 hpos
      rw [if_pos hpos] at hb
      k_steps
      exact ⟨by rw [hb]; rfl, rfl, trivial⟩
    · rw [if_neg hpos, Int.add_zero] at hb
      k_steps
      exact ⟨by rw [hb]; rfl, rfl, trivial⟩
  · intro h2 tk2 m2 n2 F2 N2 _ ⟨hx, t1, hm⟩
    subst hx
    replace F2 := fr0 hm F2
    dsimp only [kstB] at F2
    clear F1 N1 S
    k_steps
    dsimp only
    rw [List.take_length, hlen, List.take_length]
    exact hR _ _ (pend _ F2 N2 ⟨rfl, _, rfl⟩)
end

local macro_rules | `(tactic| walk_at $s:str) => if ["exec While", "exec While BoolOp cons nil", "pyIter ref", "call ref", "exec For Name Subscript cons nil", "call type:enumerate", "exec For Tuple Call", "call builtin:sorted", "SrcLP", "call type:zip", "exec For Name Name", "binaryOp Add ref ref", "exec For Name BinOp"].contains s.getString then `(tactic| refine stop_ ?_) else Lean.Macro.throwUnsupported

section
theorem walk_off_E2 : True := by
  w_top off
  trivial
local macro_rules | `(tactic| walk_at "eval BoolOp") => `(tactic| ((fail_if_success (have : (3 : Nat) = 3 := by assumption)); refine stop_ ?_))

noncomputable def mergeF : List Int → List Int → List (Int × Bool)
  | ws, [] => ws.map fun w => (w, true)
  | [], ps => ps.map fun p => (p, false)
  | w :: ws, p :: ps => if w ≤ p then (w, true) :: mergeF ws (p :: ps) else (p, false) :: mergeF (w :: ws) ps
termination_by ws ps => ws.length + ps.length

theorem mg_nil (ws : List Int) : mergeF ws [] = ws.map fun w => (w, true) := by rw [mergeF]
theorem mg_nil' (p : Int) (ps : List Int) : mergeF [] (p :: ps) = (p :: ps).map fun p => (p, false) := by
  rw [mergeF]
  simp
theorem mg_le {w p : Int} {ws ps : List Int} (h : w ≤ p) : mergeF (w :: ws) (p :: ps) = (w, true) :: mergeF ws (p :: ps) := by rw [mergeF, if_pos h]
theorem mg_gt {w p : Int} {ws ps : List Int} (h : ¬ w ≤ p) : mergeF (w :: ws) (p :: ps) = (p, false) :: mergeF (w :: ws) ps := by rw [mergeF, if_neg h]
theorem mg_ind {P : List Int → List Int → Prop} (h1 : ∀ ws, P ws []) (h2 : ∀ p ps, P [] (p :: ps)) (h3 : ∀ w ws p ps, w ≤ p → P ws (p :: ps) → P (w :: ws) (p :: ps)) (h4 : ∀ w ws p ps, ¬ w ≤ p → P (w :: ws) ps → P (w :: ws) (p :: ps)) : ∀ ws ps, P ws ps := by
  intro ws
  induction ws with
  | nil =>
    intro ps
    cases ps with
    | nil => exact h1 _
    | cons p ps => exact h2 _ _
  | cons w ws ih =>
    intro ps
    induction ps with
    | nil => exact h1 _
    | cons p ps ih2 => exact if h : w ≤ p then h3 _ _ _ _ h (ih _) else h4 _ _ _ _ h ih2

theorem mf_leaf {ns ls : List Int} {i j : Nat} (h1 : i < ns.length) (h : j < ls.length → ns.getD ((i : Int)).toNat 0 ≤ ls.getD ((j : Int)).toNat 0) :
    mergeF (ns.drop i) (ls.drop j) = (ns.getD ((i : Int)).toNat 0, true) :: mergeF (ns.drop (i + 1)) (ls.drop j) := by
  rw [Int.toNat_natCast, Int.toNat_natCast] at *
  have e1 : ns.drop i = ns.getD i 0 :: ns.drop (i + 1) := by
    rw [List.drop_eq_getElem_cons h1]; simp [h1]
  rw [e1]
  by_cases h2 : j < ls.length
  · have e2 : ls.drop j = ls.getD j 0 :: ls.drop (j + 1) := by
      rw [List.drop_eq_getElem_cons h2]; simp [h2]
    rw [e2, mergeF, if_pos (h h2)]
  · have e2 : ls.drop j = [] := List.drop_eq_nil_of_le (by omega)
    rw [e2, mergeF, mergeF, List.map_cons]
theorem mf_pair {ns ls : List Int} {i j : Nat} (h2 : j < ls.length) (h : i < ns.length → ¬ ns.getD ((i : Int)).toNat 0 ≤ ls.getD ((j : Int)).toNat 0) :
    mergeF (ns.drop i) (ls.drop j) = (ls.getD ((j : Int)).toNat 0, false) :: mergeF (ns.drop i) (ls.drop (j + 1)) := by
  rw [Int.toNat_natCast, Int.toNat_natCast] at *
  have e2 : ls.drop j = ls.getD j 0 :: ls.drop (j + 1) := by
    rw [List.drop_eq_getElem_cons h2]; simp [h2]
  rw [e2]
  by_cases h1 : i < ns.length
  · have e1 : ns.drop i = ns.getD i 0 :: ns.drop (i + 1) := by
      rw [List.drop_eq_getElem_cons h1]; simp [h1]
    rw [e1, mergeF, if_neg (h h1)]
  · have e1 : ns.drop i = [] := List.drop_eq_nil_of_le (by omega)
    rw [e1, mergeF]
    · cases hd : ls.drop (j + 1) with
      | nil => simp [mergeF]
      | cons p ps => rw [mergeF]; simp; simp
    · simp

theorem merged_spec (w : World) {c l : Addr} {vs ws : List Value} {ns ls : List Int} (hi : IntsAre vs ns) (hj : IntsAre ws ls) (hn: ns.length + ls.length ≤ 100) :
   Spec w 3 82 [.ref c, .ref l] (fun h => h.IsList c vs.toArray ∧ h.IsList l ws.toArray) (fun v own => ∃ t r f rv k1 k2, v = .ref t ∧ own = [(t, tupOf #[.ref r, .ref f]), (f, listOf (List.toArray ((mergeF ns ls).map fun x => Value.bool x.2)) k2), (r, listOf (List.toArray rv) k1)] ∧ IntsAre rv ((mergeF ns ls).map (·.1))) := by
  unfold Spec
  k_fill
  intro dp un gd cn cs a ccd cl outer A₀ base h₀ L m news s Q E mean mg mb hd_B hd_F hd_X hd_N hd_T hd_k hdp hun hpre hret
  obtain ⟨hp1, hp2⟩ := hpre
  k_dflt (refine' enter (by assumption) (by assumption) (by assumption) (by assumption) (by assumption) rfl rfl (by assumption) ?k6 ?k7 ?k8 ?k9 ?kB ?c2 ?c3 ?c4 ?c5 (by assumption) ?_; (case k6 => k_is); (case k7 => k_is); (case k8 => exact rm0 (by assumption)); (case k9 => exact BindsTo.of_eq rfl); (case c5 => decide); (case kB => exact locs rfl); (case c2 => exact rfl); (case c3 => exact rfl); (case c4 => exact rfl))
  clear hd_B hd_F hd_N hd_X hd_T hret; intro R g₀ d₀ os₀ hR hN L' h' tk' F' N' B' X' T'; (try dsimp only)
  k_steps
  unfold Stop
  rename Fr _ _ _ _ => F1
  rename News _ _ _ _ => N1
  rename_i rw' _ _ lv' _ hlt _ _ _ _ _ _ _ _
  have hne : rw' ≠ lv' := Nat.ne_of_lt hlt
  have hne2 : lv' ≠ rw' := Nat.ne_of_gt hlt
  refine whileN (fun n m nx => ∃ (i j : Nat) (acc : List (Int × Bool)) (rv : List Value) (k1 k2 : Nat) (t1 t2 : Tok), Names m [(Str.ofString "pair", .int (j : Int) t1), (Str.ofString "leaf", .int (i : Int) t2), (Str.ofString "leaves", .ref lv'), (Str.ofString "row", .ref rw'), (Str.ofString "weights", .ref c), (Str.ofString "pairs", .ref l)] ∧
    nx = [(lv', listOf (List.toArray (acc.map fun x => Value.bool x.2)) k1), (rw', listOf (List.toArray rv) k2)] ∧ IntsAre rv (acc.map (·.1)) ∧ i ≤ ns.length ∧ j ≤ ls.length ∧ acc ++ mergeF (ns.drop i) (ls.drop j) = mergeF ns ls ∧ acc.length = i + j ∧ n = (ns.length - i) + (ls.length - j)) (n₀ := ns.length + ls.length) F1 (fun p hp => N1 p (.tail _ hp)) ?_ ?_
  · exact in8 0 0 [] [] 0 0 _ _ ⟨⟨rfl, rfl, rfl, rfl, rfl, rfl, trivial⟩, rfl, .nil, Nat.zero_le _, Nat.zero_le _, by simp, rfl, by simp⟩
  · clear F1 N1
    rintro n m nx h tk R1 hR1 hJ0
    refine ex8 hJ0 fun i j acc rv k1 k2 t1 t2 hJ => an8 hJ fun hm e1 hI hin hjn hacc hal e2 => ?_
    clear hJ hJ0
    intro F1 N1
    replace N1 := e1 ▸ N1
    clear e1
    subst e2
    replace F1 := fr0 hm F1
    dsimp only [kstB] at F1
    clear hm
    refine cutB (fun bb => bb = true ↔ i < ns.length ∨ j < ls.length) F1 N1 ?_ fun bb hbb h5 tk5 F5 N5 => ?_
    · have mk3 : (3 : Nat) = 3 := rfl
      by_cases h1 : i < ns.length
      · k_steps
        rename Fr _ _ _ _ => F2
        rename News _ _ _ _ => N2
        exact ⟨by simp [h1], _, _, rfl, F2, N2⟩
      · by_cases h2 : j < ls.length
        · k_steps
          rename Fr _ _ _ _ => F2
          rename News _ _ _ _ => N2
          exact ⟨by simp [h2], _, _, rfl, F2, N2⟩
        · k_steps
          rename Fr _ _ _ _ => F2
          rename News _ _ _ _ => N2
          exact ⟨by simp [h1, h2], _, _, rfl, F2, N2⟩
    clear F1 N1
    cases bb with
    | true =>
      have h12 := hbb.mp rfl
      clear hbb
      rw [if_pos rfl]
      k_steps
      unfold Stop
      rename Fr _ _ _ _ => F1
      rename News _ _ _ _ => N1
      refine cutV (fun bb => (bb = true → i < ns.length ∧ (j < ls.length → ns.getD ((i : Int)).toNat 0 ≤ ls.getD ((j : Int)).toNat 0)) ∧ (bb = false → j < ls.length ∧ (i < ns.length → ¬ ns.getD ((i : Int)).toNat 0 ≤ ls.getD ((j : Int)).toNat 0))) F1 N1 ?_ fun bb hbb h6 tk6 F6 N6 => ?_
      · have mk3 : (3 : Nat) = 3 := rfl
        by_cases h2 : j < ls.length
        · by_cases h1 : i < ns.length
          · k_steps
            rename Fr _ _ _ _ => F2
            rename News _ _ _ _ => N2
            exact ⟨_, rfl, ⟨fun h => ⟨h1, fun _ => of_decide_eq_true h⟩, fun h => ⟨h2, fun _ => of_decide_eq_false h⟩⟩, _, _, rfl, F2, N2⟩
          · k_steps
            rename Fr _ _ _ _ => F2
            rename News _ _ _ _ => N2
            exact ⟨_, rfl, ⟨fun h => absurd (of_decide_eq_true h) (by omega), fun _ => ⟨h2, fun h => absurd h h1⟩⟩, _, _, rfl, F2, N2⟩
        · have hb9 : (((j : Nat) : Int) == (ls.length : Int)) = true := by rw [beq_iff_eq]; omega
          k_steps
          all_goals (try (exfalso; omega))
          rename Fr _ _ _ _ => F2
          rename News _ _ _ _ => N2
          exact ⟨_, rfl, ⟨fun _ => ⟨by omega, fun h => absurd h h2⟩, fun h => by rw [hb9] at h; cases h⟩, _, _, rfl, F2, N2⟩
      clear F1 N1 h12
      cases bb with
      | true =>
        obtain ⟨h1, h3⟩ := hbb.1 rfl
        clear hbb
        k_steps
        rename Fr _ _ _ _ => F2
        rename News _ _ _ _ => N2
        simp only [List.push_toArray] at N2
        rw [mf_leaf h1 h3] at hacc
        exact hR1 _ _ (wend (ns.length - (i + 1) + (ls.length - j)) F2 N2 (Nat.add_lt_add_right (Nat.sub_lt_sub_left h1 (Nat.lt_succ_self i)) _) (in8 (i + 1) j (acc ++ [(ns.getD ((i : Int)).toNat 0, true)]) _ _ _ _ _ ⟨⟨rfl, rfl, rfl, rfl, rfl, rfl, trivial⟩, by simp only [List.map_append, List.map_cons, List.map_nil]; rfl, by simpa using hI.append (.cons _ _ .nil), h1, hjn, by simpa using hacc, by simp; omega, rfl⟩))
      | false =>
        obtain ⟨h2, h3⟩ := hbb.2 rfl
        clear hbb
        k_steps
        rename Fr _ _ _ _ => F2
        rename News _ _ _ _ => N2
        simp only [List.push_toArray] at N2
        rw [mf_pair h2 h3] at hacc
        exact hR1 _ _ (wend (ns.length - i + (ls.length - (j + 1))) F2 N2 (Nat.add_lt_add_left (Nat.sub_lt_sub_left h2 (Nat.lt_succ_self j)) _) (in8 i (j + 1) (acc ++ [(ls.getD ((j : Int)).toNat 0, false)]) _ _ _ _ _ ⟨⟨rfl, rfl, rfl, rfl, rfl, rfl, trivial⟩, by simp only [List.map_append, List.map_cons, List.map_nil]; rfl, by simpa using hI.append (.cons _ _ .nil), hin, h2, by simpa using hacc, by simp; omega, rfl⟩))
    | false =>
      have h12 : ¬ (i < ns.length ∨ j < ls.length) := fun h => Bool.noConfusion (hbb.mpr h)
      clear hbb
      rw [if_neg (by decide)]
      k_steps
      rename Fr _ _ _ _ => F2
      rename News _ _ _ _ => N2
      have e1 : ns.drop i = [] := List.drop_eq_nil_of_le (by omega)
      have e2 : ls.drop j = [] := List.drop_eq_nil_of_le (by omega)
      rw [e1, e2, mergeF, List.map_nil, List.append_nil] at hacc
      subst hacc
      exact hR _ _ (pend _ F2 N2 (in6 _ _ _ _ _ _ ⟨rfl, rfl, hI⟩))
end

local macro_rules | `(tactic| k_all) => `(tactic| exact off_ne (by assumption))
local macro_rules | `(tactic| k_ne) => `(tactic| first | exact NE.out (by assumption) | exact NE.out (NE.symm (by assumption)))
local macro_rules | `(tactic| walk_at "exec Assign cons ListComp") => `(tactic| ((fail_if_success (have : (8 : Nat) = 8 := by assumption)); refine stop_ ?_))
section
theorem walk_off_E3 : True := by
  w_top off
  trivial
local macro_rules | `(tactic| walk_at "subscriptTail Name Slice ref ref") => `(tactic| refine stop_ ?_)
-- SliceStop
noncomputable def pairsF : List Int → List Int
  | a :: b :: r => (a + b) :: pairsF r
  | _ => []
/- the row of the k-th lap -/
noncomputable def rowF (ws : List Int) : Nat → List (Int × Bool)
  | 0 => []
  | k + 1 => mergeF ws (pairsF ((rowF ws k).map (·.1)))
theorem mergeF_len : ∀ ws ps : List Int, (mergeF ws ps).length = ws.length + ps.length := by
  refine mg_ind (fun ws => ?_) (fun p ps => ?_) (fun w ws p ps h ih => ?_) fun w ws p ps h ih => ?_
  · simp [mg_nil]
  · simp [mg_nil']
  · rw [mg_le h, List.length_cons, ih]; simp only [List.length_cons]; omega
  · rw [mg_gt h, List.length_cons, ih]; simp only [List.length_cons]; omega
theorem pairsF_len : ∀ l : List Int, (pairsF l).length = l.length / 2
  | [] => rfl
  | [_] => by simp [pairsF]
  | a :: b :: r => by rw [pairsF, List.length_cons, pairsF_len r]; simp only [List.length_cons]; omega
theorem pairsF_range : ∀ l : List Int, (List.range (l.length / 2)).map (fun i => l.getD (2 * i) 0 + l.getD (2 * i + 1) 0) = pairsF l
  | [] => rfl
  | [_] => by simp [pairsF]
  | a :: b :: r => by
    have e : (a :: b :: r).length / 2 = r.length / 2 + 1 := by simp only [List.length_cons]; omega
    rw [e, List.range_succ_eq_map, List.map_cons, List.map_map, pairsF, ← pairsF_range r]
    simp only [List.cons.injEq]
    refine ⟨by simp, List.map_congr_left fun i _ => ?_⟩
    simp only [Function.comp]
    rw [show 2 * (i + 1) = 2 * i + 1 + 1 by omega]
    simp
theorem rowF_len (ws : List Int) : ∀ k, (rowF ws k).length ≤ 2 * ws.length
  | 0 => by simp [rowF]
  | k + 1 => by
    have := rowF_len ws k
    rw [rowF, mergeF_len, pairsF_len, List.length_map]; omega
/- the lists of flags stand among these objects -/
noncomputable def Flg (fl : List (Addr × Obj)) : List Value → List (List Bool) → Prop
  | [], [] => True
  | v :: vs, b :: bs => (∃ a k, v = .ref a ∧ (a, listOf (List.toArray (b.map Value.bool)) k) ∈ fl) ∧ Flg fl vs bs
  | _, _ => False
theorem Flg.mono {fl fl' : List (Addr × Obj)} (hs : ∀ p ∈ fl, p ∈ fl') : ∀ {vs : List Value} {bs : List (List Bool)}, Flg fl vs bs → Flg fl' vs bs
  | [], [], _ => trivial
  | _ :: _, _ :: _, ⟨⟨a, k, e, hm⟩, r⟩ => ⟨⟨a, k, e, hs _ hm⟩, Flg.mono hs r⟩
theorem Flg.snoc {fl : List (Addr × Obj)} {a : Addr} {k : Nat} {b : List Bool} (hm : (a, listOf (List.toArray (b.map Value.bool)) k) ∈ fl) : ∀ {vs : List Value} {bs : List (List Bool)}, Flg fl vs bs → Flg fl (vs ++ [.ref a]) (bs ++ [b])
  | [], [], _ => ⟨⟨a, k, rfl, hm⟩, trivial⟩
  | _ :: _, _ :: _, ⟨x, r⟩ => ⟨x, Flg.snoc hm r⟩

/- how many of the first ones are leaves -/
noncomputable def takeF (fs : List Bool) (w : Nat) : Nat := ((fs.take w).filter id).length
noncomputable def incrF : Nat → List Int → List Int
  | 0, ds => ds
  | _ + 1, [] => []
  | t + 1, d :: ds => (d + 1) :: incrF t ds
noncomputable def depF : List (List Bool) → Nat → List Int → List Int
  | [], _, ds => ds
  | f :: r, w, ds => depF r (2 * (w - takeF f w)) (incrF (takeF f w) ds)
noncomputable def rowsF (ws : List Int) (lo : Nat) : List (List Bool) := (List.range lo).map fun j => (rowF ws (j + 1)).map (·.2)
noncomputable def packF (ws : List Int) (lo : Nat) : List Int := depF (rowsF ws lo).reverse (2 * ws.length - 2) (List.replicate ws.length 0)
theorem incrF_len : ∀ t ds, (incrF t ds).length = ds.length
  | 0, _ => rfl
  | _ + 1, [] => rfl
  | t + 1, d :: ds => by rw [incrF, List.length_cons, incrF_len t ds, List.length_cons]
theorem takeF_le (fs : List Bool) (w : Nat) : takeF fs w ≤ w := by
  unfold takeF
  exact Nat.le_trans (List.length_filter_le _ _) (List.length_take_le _ _)
theorem mergeF_leaves : ∀ ws ps : List Int, ((mergeF ws ps).filter (·.2)).length = ws.length := by
  refine mg_ind (fun ws => ?_) (fun p ps => ?_) (fun w ws p ps h ih => ?_) fun w ws p ps h ih => ?_
  · rw [mg_nil]
    induction ws with
    | nil => rfl
    | cons w ws ih => simp [ih]
  · rw [mg_nil']
    induction (p :: ps) with
    | nil => rfl
    | cons p ps ih => simpa using ih
  · rw [mg_le h]
    simp [ih]
  · rw [mg_gt h]
    simpa using ih
theorem rowsF_mem {ws : List Int} {lo : Nat} {b : List Bool} (h : b ∈ rowsF ws lo) : b.length ≤ 2 * ws.length ∧ (b.filter id).length = ws.length := by
  unfold rowsF at h
  obtain ⟨j, _, rfl⟩ := List.mem_map.mp h
  refine ⟨by rw [List.length_map]; exact rowF_len _ _, ?_⟩
  rw [List.filter_map, List.length_map]
  exact mergeF_leaves ws _
theorem rowsF_len (ws : List Int) (lo : Nat) : (rowsF ws lo).length = lo := by simp [rowsF]
theorem takeF_le2 (fs : List Bool) (w : Nat) : takeF fs w ≤ (fs.filter id).length := by
  unfold takeF
  exact (List.Sublist.filter id (List.take_sublist w fs)).length_le
theorem cnt_succ {l : List Bool} {i : Nat} {fb : Bool} (h : l[i]? = some fb) : ((((l.take (i + 1)).filter id).length : Nat) : Int) = (((l.take i).filter id).length : Int) + (if fb = true then 1 else 0) := by
  rw [List.take_add_one, h, List.filter_append, List.length_append]
  cases fb <;> simp
theorem incr_at : ∀ (i : Nat) (ds : List Int), i < ds.length → incrF (i + 1) ds = (incrF i ds).set i ((incrF i ds).getD i 0 + 1)
  | 0, d :: ds, _ => by simp [incrF]
  | i + 1, d :: ds, h => by
    have := incr_at i ds (by simpa using h)
    rw [incrF, this]
    simp [incrF]
theorem off_lt {D : Addr} {l : List (Addr × Obj)} (h : AllLt D l) : Off D l := by
  induction l with
  | nil => exact True.intro
  | cons p r ih => exact ⟨.lt h.1, ih h.2⟩
theorem Flg.get {fl : List (Addr × Obj)} : ∀ {vs : List Value} {bs : List (List Bool)} (i : Nat) {v : Value}, Flg fl vs bs → vs[i]? = some v → ∃ b a k, bs[i]? = some b ∧ v = .ref a ∧ (a, listOf (List.toArray (b.map Value.bool)) k) ∈ fl := by
  intro vs
  induction vs with
  | nil => intro bs i v _ hv; simp at hv
  | cons u vs ih =>
    intro bs i v hf hv
    cases bs with
    | nil => exact (show False from hf).elim
    | cons b bs =>
      cases i with
      | zero =>
        obtain ⟨a, k, e, hm⟩ := hf.1
        exact ⟨b, a, k, rfl, (Option.some.inj hv).symm.trans e, hm⟩
      | succ i => exact ih i hf.2 hv

theorem package_depths_spec (w : World) {c : Addr} {vs : List Value} {ns : List Int} {lo : Nat} {tl : Tok} (hi : IntsAre vs ns) (hn : 2 ≤ ns.length ∧ ns.length ≤ 10) (hlo : 1 ≤ lo ∧ lo ≤ 16) :
   Spec w 5 87 [.ref c, .int (lo : Int) tl] (fun h => h.IsList c vs.toArray) (fun v own => ∃ a dv k, v = .ref a ∧ own = [(a, listOf (List.toArray dv) k)] ∧ IntsAre dv (packF ns lo)) := by
  unfold Spec
  k_fill
  intro dp un gd cn cs a ccd cl outer A₀ base h₀ L m news s Q E mean mg mb hd_B hd_F hd_X hd_N hd_T hd_k hdp hun hpre hret
  k_dflt (refine' enterC (by assumption) (by assumption) (by assumption) (by assumption) (by assumption) rfl rfl (by assumption) ?k6 ?k7 ?k8 ?k9 ?kB ?kD ?c2 ?c3 ?c4 (by assumption) ?_; (case k6 => k_is); (case k7 => k_is); (case k8 => exact rm0 (by assumption)); (case k9 => exact BindsTo.of_eq rfl); (case kB => exact rfl); (case kD => decide +kernel); (case c2 => exact rfl); (case c3 => exact rfl); (case c4 => exact rfl))
  clear hd_B hd_F hd_N hd_X hd_T hret; intro R g₀ d₀ os₀ hR hN L' h' tk' cells' F' N' Y' B' X' T'; k_cells Y'; (try dsimp only [List.cons_append, List.nil_append] at N'); (try dsimp only)
  k_steps
  unfold Stop
  rename Fr _ _ _ _ => F1
  rename News _ _ _ _ => N1
  rename IsRange _ _ _ _ _ _ _ _ => hr
  rename_i o1 d1 rowsA h6 l12 rowA h5 l11 D h4 l1 h3 h2 h1 co F9 N9 hco hh tkk t1 u1 v1 hkeep
  clear F9 N9 d1
  have hne : NE rowsA (L' + 1) := .gt l12
  have hne0 : NE rowA (L' + 1) := .gt l11.2
  have hne00 : NE rowA rowsA := .gt l11.1
  refine forR (n := lo) (fun i m nx => ∃ (as : List Value) (rowA : Addr) (rv : List Value) (k1 k2 : Nat) (co : Obj) (fl : List (Addr × Obj)), Names m [(Str.ofString "rows", .ref rowsA), (Str.ofString "weights", .ref c)] ∧
    nx = (rowsA, listOf (List.toArray as) k1) :: (L' + 1, co) :: (rowA, listOf (List.toArray rv) k2) :: fl ∧ co.data = .cell (some (.ref rowA)) ∧ IntsAre rv ((rowF ns i).map (·.1)) ∧ as.length = i ∧
    Flg fl as (rowsF ns i) ∧ Off rowsA fl ∧ Off (L' + 1) fl ∧ NE rowA rowsA ∧ NE rowA (L' + 1)) rfl hr (small_one (by decide) (by decide) (by omega) (by omega)) (by rw [rangeSize_one]; split <;> omega) F1 (news := [(rowsA, listOf (List.toArray []) 0), (L' + 1, co), (rowA, listOf (List.toArray []) 0)]) (nsb N1 (fa (by k_mem) (fa (by k_mem) (fa (by k_mem) fan)))) ?_ ?_ ?_
  · exact in7 _ _ _ _ _ _ [] ⟨⟨rfl, rfl, trivial⟩, rfl, hco, .nil, rfl, trivial, trivial, trivial, hne00, hne0⟩
  · clear F1 N1 hr hkeep
    rintro i t m₁ n₁ h tk I o R1 hR1 hin hJ0
    refine ex7 hJ0 fun as rowA rv k1 k2 co fl hJ => an10 hJ fun hm e1 hco hI hal hfl hoff1 hoff2 hne1 hne2 => ?_
    clear hJ hJ0
    intro hIo F1 N1
    replace hIo := e1 ▸ hIo
    replace N1 := e1 ▸ N1
    clear e1
    skip
    refine an4 hIo fun hI1 hI2 hI3 hI4 => ?_
    clear hIo
    replace F1 := fr1 hm F1
    dsimp only [kstB] at F1
    have hrl : ((rowF ns i).map (·.1)).length ≤ 20 := by rw [List.length_map]; have := rowF_len ns i; omega
    generalize hrs : (rowF ns i).map (·.1) = rs at hI hrl
    k_steps
    unfold Stop
    refine compAssignR (F₀ := by k_asm) (by rfl) (by with_unfolding_all rfl) (by rfl) (by decide) (by rfl) (by decide) (by rfl) (by rfl) (by rfl) ?_
    k_steps
    rename Fr _ _ _ _ => F2
    rename News _ _ _ _ => N2
    rename IsRange _ _ _ _ _ _ _ _ => hr2
    refine in9 _ _ _ _ _ _ _ (rs.length / 2) _ ⟨rfl, F2, N2, hr2, (small2 (by omega) (by omega)).1, by rw [(small2 (by omega) (by omega)).2]; congr 2; omega, by rw [sizeLine_eq]; omega, ?_⟩
    rintro s₂ ⟨g, rfl⟩
    refine comp_ints (fun i => rs.getD (2 * i) 0 + rs.getD (2 * i + 1) 0) trivial _ _ _ [] .nil ?_ ?_
    · rintro j v I' oI C oC D' m₂ h' tk' E' ys _ hj ⟨t', rfl⟩ hC hx F3 N3 off3 ne3
      k_steps
      exact OneInt.intro (by rw [show (0 + (j : Int) * 2).toNat = 2 * j by omega, show (0 + (j : Int) * 2 + 1).toNat = 2 * j + 1 by omega]) (by assumption) (by assumption)
    · clear F2 N2 hr2
      intro ys hys
      rw [List.nil_append, ← List.range_eq_range', pairsF_range] at hys
      have hpl := pairsF_len rs
      k_steps
      unfold Stop
      rename Fr _ _ _ _ => F3
      rename News _ _ _ _ => N3
      rename_i D' _ _ hD'
      refine an5 hD' fun hD1 hD2 hD3 hD4 hD5 => ?_
      clear hD'
      replace hD1 := NE.mk hD1
      replace hD2 := NE.mk hD2
      replace hD3 := NE.mk hD3
      replace hD4 := NE.mk hD4
      replace hD5 := off_of1 hD5
      k_dflt (refine Spec.use (merged_spec w hi hys (by omega)) B' F3 X' N3 T' (by first | exact rfl | assumption) (by first | exact rm hdp (by decide) | ktr_room) (by first | exact ru hun (by decide) | ktr_units) ⟨hpre.at fun o e => F3.keep _ o e, ⟨_, N3.get (.head _), rfl, _, rfl⟩⟩ ?_)
      intro v own h9 tk9 hJ0 happ F9 N9
      refine ex6 hJ0 fun tA rA fA rv' k1' k2' hJ => an3 hJ fun e1 e2 hI' => ?_
      replace N9 := e2 ▸ N9
      replace happ := e2 ▸ happ
      clear hJ hJ0 e2
      subst e1
      clear F3 N3
      dsimp only [List.cons_append, List.nil_append] at N9
      simp only [List.forall_mem_cons, Off, List.not_mem_nil, false_implies, implies_true, and_true] at happ
      refine an3 happ fun hA hB hC => an6 hA fun a1 a2 a3 a4 a5 a6 => an6 hB fun b1 b2 b3 b4 b5 b6 => an6 hC fun c1 c2 c3 c4 c5 c6 => ?_
      clear hA hB hC
      (try dsimp only)
      k_steps
      rename Fr _ _ _ _ => F4
      rename News _ _ _ _ => N4
      rename Obj => o4
      rename o4.data = _ => hd4
      simp only [List.push_toArray] at N4
      have N5 : News s.heap L' _ ((I, o) :: (rowsA, listOf (List.toArray (as ++ [Value.ref fA])) (k1 + 1)) :: (L' + 1, o4) :: (rA, listOf (List.toArray rv') k1') :: (fA, listOf (List.toArray ((mergeF ns (pairsF rs)).map fun x => Value.bool x.2)) k2') :: fl) := nsb N4 (fa (by k_mem) (fa (by k_mem) (fa (by k_mem) (fa (by k_mem) (fa (by k_mem) (fun _ hq => by repeat (first | exact hq | refine List.Mem.tail _ ?_)))))))
      refine hR1 _ _ (lend _ F4 N5 ⟨hI1, hI2, c2.symm, b2.symm, hI4⟩ (in7 _ _ _ _ _ _ _ ⟨⟨rfl, rfl, trivial⟩, rfl, hd4, by rw [rowF, hrs]; exact hI', by simp [hal], ?_, ⟨b3.symm, hoff1⟩, ⟨b4.symm, hoff2⟩, c3.symm, c4.symm⟩))
      unfold rowsF
      rw [List.range_succ, List.map_append]
      refine Flg.snoc (k := k2') (List.mem_cons.mpr (.inl ?_)) (Flg.mono (fun p hp => List.mem_cons_of_mem _ hp) hfl)
      simp only [rowF, hrs, List.map_map, Function.comp_def]
  · clear F1 N1 hr hkeep
    rintro m₁ n₁ h tk hJ0
    refine ex7 hJ0 fun as rowA rv k1 k2 co fl hJ => an10 hJ fun hm e1 hco hI hal hfl hoff1 hoff2 hne1 hne2 => ?_
    clear hJ hJ0
    intro F1 N1
    replace N1 := e1 ▸ N1
    clear e1
    replace F1 := fr0 hm F1
    dsimp only [kstB] at F1
    k_steps
    unfold Stop
    rename Fr _ _ _ _ => F2
    rename News _ _ _ _ => N2
    rename_i lA h6 q3 dA h5 hdI n1 s1 e1 e2 e3 q2 tA h4 q1 h3 F9 N9 h2 h1' D' hh q0
    clear F9 N9
    simp only [Int.toNat_natCast, List.flatten_replicate_singleton] at hdI N2
    have hdfl : Off dA fl := off_lt q2.2.2.2.2
    have hdr : NE dA rowsA := .gt q2.2.1
    refine forV (I := D') (l := rowsA) (vs := as) (k := k1) (ol := listOf (List.toArray as) k1) (fun i m nx => ∃ (w : Nat) (ds : List Int) (dv : List Value) (kd : Nat) (t : Tok), Names m [(Str.ofString "depths", .ref dA), (Str.ofString "wanted", .int (w : Int) t)] ∧
      nx = (dA, listOf (List.toArray dv) kd) :: (rowsA, listOf (List.toArray as) k1) :: fl ∧ IntsAre dv ds ∧ ds.length = ns.length ∧ w ≤ 18 * 2 ^ i ∧ depF ((rowsF ns lo).reverse.drop i) w ds = packF ns lo)
      rfl rfl rfl (N2.get (.head _)) ((N2 _ (.head _)).2.2) ((N2 _ (.head _)).2.1) F2 (news := (dA, listOf (List.toArray (List.replicate ns.length (Value.int 0 _))) 0) :: (rowsA, listOf (List.toArray as) k1) :: fl)
      (nsb N2 (fa (by k_mem) (fa (by k_mem) (fun _ hq => by repeat (first | exact hq | refine List.Mem.tail _ ?_))))) ⟨.lt q0.2.1, .lt q0.2.2.2.1, off_lt q0.2.2.2.2.2.2⟩
      (in5 (2 * ns.length - 2) _ _ _ _ ⟨⟨rfl, by rw [show ((2 * ns.length - 2 : Nat) : Int) = 2 * (ns.length : Int) - 2 by omega]; rfl, trivial⟩, rfl, hdI, by simp, by omega, rfl⟩)
      ?_ ((N2 _ (.tail _ (.tail _ (.tail _ (.tail _ (.head _)))))).2.1) (Nat.ne_of_lt q0.2.2.2.1) ?_ ?_
    · rintro i m₁ news₁ h ⟨w, ds, dv, kd, t, hm, rfl, _⟩ _ N
      exact N.get (.tail _ (.head _))
    · clear F2 N2
      rintro i v m₁ news₁ h tk o R1 hR1 hin hv hJ0
      refine ex5 hJ0 fun w ds dv kd t hJ => an6 hJ fun hm e1 hdv hdl hw hdep => ?_
      clear hJ hJ0
      intro hIo F1 N1
      replace hIo := e1 ▸ hIo
      replace N1 := e1 ▸ N1
      clear e1
      refine ex3 (Flg.get _ hfl hv) fun b fA kf hJ => an3 hJ fun hb e1 hfA => ?_
      clear hJ
      subst e1
      skip
      refine an3 hIo fun hI1 hI2 hI3 => ?_
      clear hIo
      replace F1 := fr1 hm F1
      dsimp only [kstB] at F1
      have hfd : NE fA dA := ⟨off_ne hdfl _ hfA⟩
      have hfI : NE fA D' := ⟨off_ne hI3 _ hfA⟩
      have hw2 : w ≤ 1179648 := Nat.le_trans hw (by have := Nat.pow_le_pow_right (show 0 < 2 by decide) (show i ≤ 16 by omega); omega)
      replace N1 : News s.heap L' h ((fA, listOf (List.toArray (b.map Value.bool)) kf) :: (D', o) :: (dA, listOf (List.toArray dv) kd) :: (rowsA, listOf (List.toArray as) k1) :: fl) := fun p hp => by
        rcases List.mem_cons.mp hp with rfl | hp
        · exact N1 _ (.tail _ (.tail _ (.tail _ hfA)))
        · exact N1 _ hp
      k_steps
      unfold Stop
      rename Fr _ _ _ _ => F2
      rename News _ _ _ _ => N2
      with_unfolding_all refine' For_invVF F2 rfl rfl ?_
      k_steps
      unfold Stop
      refine an2 (rowsF_mem (List.mem_of_getElem? hb)) fun hb1 hb2 => ?_
      have htk : takeF b w ≤ ns.length := by rw [← hb2]; exact takeF_le2 b w
      k_dflt (refine' kmk_slice F2 N2 ?zl ?zp ?zq ?_ ?zs ?zt ?zz; (case zl => exact ⟨_, N2.get (.head _), rfl, _, rfl⟩); (case zp => kmk_part); (case zq => kmk_part); (case zs => with_unfolding_all rfl); (case zt => kmk_pure); (case zz => (rw [List.size_toArray, List.length_map, sizeLine_eq]; omega)))
      intro D2 h2 F3 N3 l1
      rw [slicePick_upto', List.toList_toArray, ← List.map_take] at N3
      have l2 : Off D2 _ := off_of fun p hp => Nat.ne_of_lt (l1 p hp)
      skip
      refine an5 l2 fun d1 d2 d3 d4 d5 => ?_
      clear l2
      clear l1
      refine forL (l := D2) (vs := (b.take w).map Value.bool) (k := 0) (ol := listOf (List.toArray ((b.take w).map Value.bool)) 0) (fun i m nx => nx = (D2, listOf (List.toArray ((b.take w).map Value.bool)) 0) :: (D', o) :: (dA, listOf (List.toArray dv) kd) :: (rowsA, listOf (List.toArray as) k1) :: fl ∧
        ∃ t1 t2, Names m [(Str.ofString "taken", .int ((((b.take w).take i).filter id).length : Int) t1), (Str.ofString "depths", .ref dA), (Str.ofString "wanted", .int (w : Int) t2)])
        rfl rfl rfl F3 (nsb N3 (fa (by k_mem) (fa (by k_mem) (fa (by k_mem) (fa (by k_mem) (fun _ hq => by repeat (first | exact hq | refine List.Mem.tail _ ?_))))))) ⟨rfl, _, _, rfl, rfl, rfl, trivial⟩ ?_ ((N3 _ (.head _)).2.1) ?_ ?_
      · rintro i m₁ news₁ h ⟨rfl, _⟩ _ N
        exact N.get (.head _)
      · clear F2 N2 F3 N3
        rintro i v m₁ news₁ h tk I2 o2 R2 hR2 hv hJ0 hIo F1 N1
        refine ex2 hJ0.2 fun t1 t2 hm => ?_
        have e1 := hJ0.1
        clear hJ0
        subst e1
        skip
        refine an5 hIo fun g1 g2 g3 g4 g5 => ?_
        clear hIo
        obtain ⟨fb, hfb, rfl⟩ : ∃ fb, (b.take w)[i]? = some fb ∧ v = .bool fb := by
          rw [List.getElem?_map] at hv
          obtain ⟨fb, x, y⟩ := Option.map_eq_some_iff.mp hv
          exact ⟨fb, x, y.symm⟩
        replace F1 := fr1 hm F1
        dsimp only [kstB] at F1
        k_steps
        rename Fr _ _ _ _ => F4
        rename News _ _ _ _ => N4
        exact hR2 _ _ (lend _ F4 N4 ⟨g1, g2, g3, g4, g5⟩ ⟨rfl, _, _, by rw [cnt_succ hfb]; rfl, rfl, rfl, trivial⟩)
      · clear F2 N2 F3 N3
        rintro m₁ n₁ h tk hJ0 F1 N1
        refine ex2 hJ0.2 fun t1 t2 hm => ?_
        have e1 := hJ0.1
        clear hJ0
        subst e1
        replace F1 := fr0 hm F1
        rw [List.length_map, List.take_length] at F1
        dsimp only [kstB] at F1
        have hcc : ((b.take w).filter id).length ≤ ns.length := htk
        k_steps
        unfold Stop
        rename Fr _ _ _ _ => F2
        rename News _ _ _ _ => N2
        rename IsRange _ _ _ _ _ _ _ _ => hr
        refine forR (n := takeF b w) (fun i m nx => ∃ dv' kd', nx = (D', o) :: (dA, listOf (List.toArray dv') kd') :: (rowsA, listOf (List.toArray as) k1) :: fl ∧ IntsAre dv' (incrF i ds) ∧
          Names m [(Str.ofString "taken", .int (((b.take w).filter id).length : Int) t1), (Str.ofString "depths", .ref dA), (Str.ofString "wanted", .int (w : Int) t2)])
          rfl hr (small_one (by decide) (by decide) (by omega) (by omega)) (by rw [rangeSize_one]; unfold takeF; split <;> omega) F2 (fun p hp => N2 p (List.mem_cons_of_mem _ hp)) ⟨_, _, rfl, hdv, rfl, rfl, rfl, trivial⟩ ?_ ?_
        · clear F2 N2 hr
          intro i t m₁ n₁ h tk I2 o2 R2 hR2 hin hJ0 hIo F1 N1
          refine ex2 hJ0 fun dv' kd' hJ => an3 hJ fun e1 hdv' hm => ?_
          clear hJ hJ0
          replace hIo := e1 ▸ hIo
          replace N1 := e1 ▸ N1
          clear e1
          skip
          refine an4 hIo fun g1 g2 g3 g4 => ?_
          clear hIo
          replace F1 := fr1 hm F1
          dsimp only [kstB] at F1
          have hil : (incrF i ds).length ≤ 10 := by rw [incrF_len]; omega
          have hil2 : i < (incrF i ds).length := by rw [incrF_len]; omega
          k_steps
          rename Fr _ _ _ _ => F4
          rename News _ _ _ _ => N4
          rename IntsAre (List.set _ _ _) _ => hi4
          rw [show (0 + (i : Int)).toNat = i by omega] at N4 hi4
          exact hR2 _ _ (lend _ F4 N4 ⟨g1, g2, g3, g4⟩ (in2 _ _ ⟨rfl, by rw [incr_at i ds (by omega)]; exact hi4, rfl, rfl, rfl, trivial⟩))
        · clear F2 N2 hr
          intro m₁ n₁ h tk hJ0 F1 N1
          refine ex2 hJ0 fun dv' kd' hJ => an3 hJ fun e1 hdv' hm => ?_
          clear hJ hJ0
          replace N1 := e1 ▸ N1
          clear e1
          replace F1 := fr0 hm F1
          dsimp only [kstB] at F1
          have htw := takeF_le b w
          k_steps
          rename Fr _ _ _ _ => F4
          rename News _ _ _ _ => N4
          refine hR1 _ _ (lend _ F4 (fun p hp => N4 p hp) ⟨hI1, hI2, hI3⟩ (in5 (2 * (w - takeF b w)) (incrF (takeF b w) ds) _ _ _ ⟨⟨rfl, by rw [show ((2 * (w - takeF b w) : Nat) : Int) = 2 * ((w : Int) - (((b.take w).filter id).length : Int)) by unfold takeF at htw ⊢; rw [Int.natCast_mul, Int.ofNat_sub htw]; rfl]; rfl, trivial⟩, rfl, hdv', by rw [incrF_len]; exact hdl, by rw [Nat.pow_succ, ← Nat.mul_assoc, Nat.mul_comm 2]; exact Nat.mul_le_mul_right 2 (Nat.le_trans (Nat.sub_le _ _) hw), ?_⟩))
          · have hrl := rowsF_len ns lo
            have hil : i < lo := by rw [← hal]; exact hin
            rw [hal] at hb
            have e1 : (rowsF ns lo).reverse[i]? = some b := by
              rw [List.getElem?_reverse (by rw [hrl]; exact hil), hrl]; exact hb
            obtain ⟨e2, e3⟩ := List.getElem?_eq_some_iff.mp e1
            rw [List.drop_eq_getElem_cons e2, e3, depF] at hdep
            exact hdep
    · clear F2 N2
      rintro m₁ n₁ h tk hJ0
      refine ex5 hJ0 fun w ds dv kd t hJ => an6 hJ fun hm e1 hdv hdl hw hdep => ?_
      clear hJ hJ0
      intro F1 N1
      replace N1 := e1 ▸ N1
      clear e1
      replace F1 := fr0 hm F1
      dsimp only [kstB] at F1
      rw [hal, List.drop_eq_nil_of_le (by rw [List.length_reverse, rowsF_len]; exact Nat.le_refl _), depF] at hdep
      k_steps
      rename Fr _ _ _ _ => F4
      rename News _ _ _ _ => N4
      exact hR _ _ (pend [_] F4 (fun p hp => N4 p (by rw [List.mem_singleton.mp hp]; exact .head _)) (in3 _ _ _ ⟨rfl, rfl, by rw [← hdep]; exact hdv⟩))
end

section
theorem walk_off_E4 : True := by
  w_top off
  trivial
/- pairs of ints stand among these objects -/
noncomputable def Tups (tl : List (Addr × Obj)) : List Value → List (Int × Int) → Prop
  | [], [] => True
  | v :: vs, p :: ps => (∃ a t u, v = .ref a ∧ (a, tupOf #[.int p.1 t, .int p.2 u]) ∈ tl) ∧ Tups tl vs ps
  | _, _ => False
theorem Tups.mono {fl fl' : List (Addr × Obj)} (hs : ∀ p ∈ fl, p ∈ fl') : ∀ {vs : List Value} {bs : List (Int × Int)}, Tups fl vs bs → Tups fl' vs bs
  | [], [], _ => trivial
  | _ :: _, _ :: _, ⟨⟨a, k, u, e, hm⟩, r⟩ => ⟨⟨a, k, u, e, hs _ hm⟩, Tups.mono hs r⟩
theorem Tups.snoc {fl : List (Addr × Obj)} {a : Addr} {x y : Int} {t u : Tok} (hm : (a, tupOf #[.int x t, .int y u]) ∈ fl) : ∀ {vs : List Value} {bs : List (Int × Int)}, Tups fl vs bs → Tups fl (vs ++ [.ref a]) (bs ++ [(x, y)])
  | [], [], _ => ⟨⟨a, t, u, rfl, hm⟩, trivial⟩
  | _ :: _, _ :: _, ⟨x, r⟩ => ⟨x, Tups.snoc hm r⟩
theorem Tups.len {fl : List (Addr × Obj)} : ∀ {vs : List Value} {bs : List (Int × Int)}, Tups fl vs bs → vs.length = bs.length
  | [], [], _ => rfl
  | _ :: _, _ :: _, ⟨_, r⟩ => by simp [Tups.len r]
/- the symbols in use, with their counts -/
noncomputable def usedF (k : Nat) : List Int → List (Int × Int)
  | [] => []
  | c :: r => if 0 < c then (c, (k : Int)) :: usedF (k + 1) r else usedF (k + 1) r
theorem usedF_snoc (c : Int) : ∀ (l : List Int) (k : Nat), usedF k (l ++ [c]) = usedF k l ++ (if 0 < c then [(c, ((k + l.length : Nat) : Int))] else [])
  | [], k => by simp [usedF]
  | d :: r, k => by
    rw [List.cons_append, usedF, usedF, usedF_snoc c r (k + 1), List.length_cons, show k + 1 + r.length = k + (r.length + 1) by omega]
    split <;> simp
theorem usedF_len : ∀ (l : List Int) (k : Nat), (usedF k l).length ≤ l.length
  | [], _ => Nat.le_refl _
  | d :: r, k => by
    have := usedF_len r (k + 1)
    rw [usedF]; split <;> simp <;> omega

noncomputable def keyOf (p : Int × Int) : Int := p.1 * 1000 + p.2
theorem Tups.get {fl : List (Addr × Obj)} : ∀ {vs : List Value} {ps : List (Int × Int)} (i : Nat), Tups fl vs ps → i < ps.length → ∃ a t u, vs.getD i Value.none = .ref a ∧ (a, tupOf #[.int (ps.getD i (0, 0)).1 t, .int (ps.getD i (0, 0)).2 u]) ∈ fl := by
  intro vs
  induction vs with
  | nil =>
    intro ps i hf h
    cases ps with
    | nil => exact absurd h (Nat.not_lt_zero i)
    | cons p ps => exact (show False from hf).elim
  | cons u vs ih =>
    intro ps i hf h
    cases ps with
    | nil => exact (show False from hf).elim
    | cons p ps =>
      cases i with
      | zero =>
        obtain ⟨a, t, u', e, hm⟩ := hf.1
        exact ⟨a, t, u', e, hm⟩
      | succ i => exact ih i hf.2 (Nat.lt_of_succ_lt_succ h)
theorem Tups.firsts {h₀ h : Heap} {L : Addr} {fl : List (Addr × Obj)} (N : News h₀ L h fl) : ∀ {vs : List Value} {ps : List (Int × Int)}, Tups fl vs ps → ∃ fs, KatTups h vs fs ∧ fs.length = vs.length ∧ ∀ v ∈ fs, ∃ n t, v = Value.int n t := by
  intro vs
  induction vs with
  | nil =>
    intro ps hf
    cases ps with
    | nil => exact ⟨[], trivial, rfl, fun _ h => nomatch h⟩
    | cons p ps => exact (show False from hf).elim
  | cons v vs ih =>
    intro ps hf
    cases ps with
    | nil => exact (show False from hf).elim
    | cons p ps =>
      obtain ⟨a, t, u, e, hm⟩ := hf.1
      obtain ⟨fs, h1, h2, h3⟩ := ih hf.2
      exact ⟨.int p.1 t :: fs, ⟨⟨a, _, _, 0, e, (N _ hm).1, rfl, rfl, rfl⟩, h1⟩, by simp [h2], List.forall_mem_cons.mpr ⟨⟨_, _, rfl⟩, h3⟩⟩
theorem Tups.pick {fl : List (Addr × Obj)} {vs : List Value} {ps : List (Int × Int)} (h : Tups fl vs ps) : ∀ l : List Nat, (∀ i ∈ l, i < ps.length) → Tups fl (l.map fun i => vs.getD i Value.none) (l.map fun i => ps.getD i (0, 0))
  | [], _ => trivial
  | i :: l, hl => ⟨by obtain ⟨a, t, u, e, hm⟩ := h.get i (hl i List.mem_cons_self); exact ⟨a, t, u, e, hm⟩, Tups.pick h l fun j hj => hl j (List.mem_cons_of_mem _ hj)⟩
theorem ask_tups {prog : Program} {w : World} {A : Around} {s : Shared} {h₀ : Heap} {L : Addr} {fl : List (Addr × Obj)} {vs : List Value} {ps : List (Int × Int)} (N : News h₀ L s.heap fl) (ht : Tups fl vs ps)
    (hb : ∀ i, i < ps.length → 0 ≤ (ps.getD i (0, 0)).2 ∧ (ps.getD i (0, 0)).2 < 1000) {i j : Nat} (hi : i < ps.length) (hj : j < ps.length) {C : Bool → Shared → Prop}
    (hC : C (decide (keyOf (ps.getD i (0, 0)) < keyOf (ps.getD j (0, 0)))) s) : kas_ask prog w A (tuples' true) vs i j C s := by
  obtain ⟨a, t, u, ea, hma⟩ := ht.get i hi
  obtain ⟨b, t', u', eb, hmb⟩ := ht.get j hj
  have b1 := hb i hi
  have b2 := hb j hj
  unfold kas_ask
  rw [ea, eb]
  generalize ps.getD i (0, 0) = p at *
  generalize ps.getD j (0, 0) = q at *
  refine kat_lt (N _ hma).1 rfl (N _ hmb).1 rfl ?_
  refine kat_cons (wpAny_eqBool_int ?_)
  unfold keyOf at hC
  by_cases h1 : p.1 = q.1
  · rw [show (p.1 == q.1) = true by simpa using h1]
    refine kat_yes (kat_cons (wpAny_eqBool_int ?_))
    by_cases h2 : p.2 = q.2
    · rw [show (p.2 == q.2) = true by simpa using h2]
      refine kat_yes (kat_nil ?_)
      rw [decide_eq_false (by omega)] at hC
      exact hC
    · rw [show (p.2 == q.2) = false by simpa using h2]
      refine kat_no ?_
      refine kat_one _ _ (lt_int ?_)
      show C (decide (p.2 < q.2)) s
      rw [show decide (p.2 < q.2) = decide (p.1 * 1000 + p.2 < q.1 * 1000 + q.2) by rw [decide_eq_decide]; omega]
      exact hC
  · rw [show (p.1 == q.1) = false by simpa using h1]
    refine kat_no (oneLt_int ?_)
    rw [show decide (p.1 < q.1) = decide (p.1 * 1000 + p.2 < q.1 * 1000 + q.2) by rw [decide_eq_decide]; omega]
    exact hC
theorem ints_at {vs : List Value} {ns : List Int} (hi : IntsAre vs ns) {i : Nat} {v : Value} (h : vs[i]? = some v) : ∃ n t, ns[i]? = some n ∧ v = .int n t := by
  obtain ⟨n, t, e, q⟩ := hi.at i v h
  exact ⟨n, t, q, e⟩
theorem usedF_take {ns : List Int} {i : Nat} {x : Int} (h : ns[i]? = some x) : usedF 0 (ns.take (i + 1)) = usedF 0 (ns.take i) ++ (if 0 < x then [(x, (i : Int))] else []) := by
  obtain ⟨hi, _⟩ := List.getElem?_eq_some_iff.mp h
  rw [List.take_add_one, h, Option.toList_some, usedF_snoc, List.length_take, Nat.zero_add, Nat.min_eq_left (Nat.le_of_lt hi)]
theorem usedF_snd : ∀ (l : List Int) (k : Nat), (usedF k l).Pairwise (fun a b => a.2 < b.2) ∧ ∀ p ∈ usedF k l, (k : Int) ≤ p.2 ∧ p.2 < (k : Int) + l.length ∧ 0 < p.1 ∧ p.1 ∈ l
  | [], _ => ⟨.nil, fun _ h => nomatch h⟩
  | d :: r, k => by
    obtain ⟨h1, h2⟩ := usedF_snd r (k + 1)
    rw [usedF]
    have h3 : ∀ p ∈ usedF (k + 1) r, (k : Int) ≤ p.2 ∧ p.2 < (k : Int) + (d :: r).length ∧ 0 < p.1 ∧ p.1 ∈ d :: r := fun p hp => by
      obtain ⟨a, b, c, e⟩ := h2 p hp
      simp only [List.length_cons]
      exact ⟨by omega, by omega, c, List.mem_cons_of_mem _ e⟩
    split
    · refine ⟨List.pairwise_cons.mpr ⟨fun p hp => ?_, h1⟩, fun p hp => ?_⟩
      · have := (h2 p hp).1
        show (k : Int) < p.2
        omega
      · rcases List.mem_cons.mp hp with rfl | hp
        · simp only [List.length_cons]
          exact ⟨by omega, by omega, by assumption, List.mem_cons_self⟩
        · exact h3 p hp
    · exact ⟨h1, h3⟩
theorem key_ne {a b : Int × Int} (h : 0 ≤ a.2) (h1 : a.2 < b.2) (h2 : b.2 < 1000) : keyOf a ≠ keyOf b := by
  obtain ⟨a1, a2⟩ := a
  obtain ⟨b1, b2⟩ := b
  show a1 * 1000 + a2 ≠ b1 * 1000 + b2
  dsimp only at *
  omega
theorem key_le {a b : Int × Int} (h : keyOf a < keyOf b) (h1 : 0 ≤ a.2) (h2 : b.2 < 1000) : a.1 ≤ b.1 := by
  obtain ⟨a1, a2⟩ := a
  obtain ⟨b1, b2⟩ := b
  replace h : a1 * 1000 + a2 < b1 * 1000 + b2 := h
  dsimp only at *
  omega
theorem used_inj {ns : List Int} (hn : ns.length ≤ 20) : ∀ i j, i < (usedF 0 ns).length → j < (usedF 0 ns).length → keyOf ((usedF 0 ns).getD i (0, 0)) = keyOf ((usedF 0 ns).getD j (0, 0)) → i = j := by
  obtain ⟨h1, h2⟩ := usedF_snd ns 0
  have key : ∀ i j, i < j → j < (usedF 0 ns).length → keyOf ((usedF 0 ns).getD i (0, 0)) ≠ keyOf ((usedF 0 ns).getD j (0, 0)) := fun i j hij hj => by
    have hi : i < (usedF 0 ns).length := by omega
    have e1 : (usedF 0 ns).getD i (0, 0) = (usedF 0 ns)[i] := by simp [hi]
    have e2 : (usedF 0 ns).getD j (0, 0) = (usedF 0 ns)[j] := by simp [hj]
    rw [e1, e2]
    have a1 := h2 _ (List.getElem_mem hi)
    have a2 := h2 _ (List.getElem_mem hj)
    have a3 := List.pairwise_iff_getElem.mp h1 i j hi hj hij
    exact key_ne (by omega) a3 (by omega)
  intro i j hi hj e
  rcases Nat.lt_trichotomy i j with h | h | h
  · exact absurd e (key i j h hj)
  · exact h
  · exact absurd e.symm (key j i h hi)
theorem map_getD_range {α : Type} (d : α) (l : List α) : (List.range l.length).map (fun i => l.getD i d) = l := by
  apply List.ext_getElem
  · simp
  · intro i h1 h2
    simp [h2]
theorem used_spec (w : World) {c : Addr} {vs : List Value} {ns : List Int} (hi : IntsAre vs ns) (hn : ns.length ≤ 20) (hc : ∀ c ∈ ns, 0 ≤ c ∧ c ≤ 1000) (h2 : 2 ≤ (usedF 0 ns).length) :
   Spec w 3 54 [.ref c] (fun h => h.IsList c vs.toArray)
    (fun v own => ∃ D k out tl rows, v = .ref D ∧ own = (D, listOf (List.toArray out) k) :: tl ∧ Tups tl out rows ∧ rows.Perm (usedF 0 ns) ∧ rows.Pairwise fun a b => keyOf a < keyOf b) := by
  unfold Spec
  k_fill
  intro dp un gd cn cs a ccd cl outer A₀ base h₀ L m news s Q E mean mg mb hd_B hd_F hd_X hd_N hd_T hd_k hdp hun hp1 hret
  k_dflt (refine' enter (by assumption) (by assumption) (by assumption) (by assumption) (by assumption) rfl rfl (by assumption) ?k6 ?k7 ?k8 ?k9 ?kB ?c2 ?c3 ?c4 ?c5 (by assumption) ?_; (case k6 => k_is); (case k7 => k_is); (case k8 => exact rm0 (by assumption)); (case k9 => exact BindsTo.of_eq rfl); (case c5 => decide); (case kB => exact locs rfl); (case c2 => exact rfl); (case c3 => exact rfl); (case c4 => exact rfl))
  clear hd_B hd_F hd_N hd_X hd_T hret; intro R g₀ d₀ os₀ hR hN L' h' tk' F' N' B' X' T'; (try dsimp only)
  k_steps
  unfold Stop
  refine For_enum s.heap rfl rfl rfl rfl ?_
  k_steps
  unfold Stop
  rename Fr _ _ _ _ => F1
  rename News _ _ _ _ => N1
  rename_i fA _ _ _
  obtain ⟨ol, hol, hoc, ok, hod⟩ := id hp1
  refine enum_start F1 N1 (F1.keep _ _ hol) hoc hod fun h' e t he hit hnes he0 ht0 o1 o2 F2 N2 hk => ?_
  refine in9 e t c vs ol ok _ _
    (fun i m nx => ∃ (fv : List Value) (kf : Nat) (tl : List (Addr × Obj)), nx = (fA, listOf (List.toArray fv) kf) :: tl ∧ Off fA tl ∧ Tups tl fv (usedF 0 (ns.take i)) ∧ Names m [(Str.ofString "found", .ref fA)])
    ⟨rfl, he, hit, hnes, he0, ht0, o1, o2, F2, N2, ⟨[], 0, [], rfl, trivial, trivial, rfl, trivial⟩, hoc, hod, fun _ _ _ h _ hk _ => hk _ _ hol, ?_, ?_⟩
  · clear F1 N1 F2 N2 he hit
    intro i v u m₁ n₁ h tk oe ot R1 hR1 hv hJ0 o1 o2 F1 N1
    refine ex3 hJ0 fun fv kf tl hJ => an4 hJ fun e1 hoff htl hm => ?_
    clear hJ hJ0
    replace o1 := e1 ▸ o1
    replace o2 := e1 ▸ o2
    replace N1 := e1 ▸ N1
    clear e1
    skip
    refine an2 o1 fun e1 e2 => ?_
    clear o1
    refine an2 o2 fun t1 t2 => ?_
    clear o2
    replace F1 := fr2 hm F1
    dsimp only [kstB] at F1
    refine ex2 (ints_at hi hv) fun x tx hJ => an2 hJ fun hx e1 => ?_
    clear hJ
    subst e1
    have hxt := usedF_take hx
    refine an2 (hc x (List.mem_of_getElem? hx)) fun hx0 hx1 => ?_
    have hfl : fv.length ≤ 20 := by
      have h1 := htl.len
      have h2 := usedF_len (ns.take i) 0
      have h3 : (ns.take i).length ≤ ns.length := List.length_take_le' _ _
      omega
    by_cases hpos : 0 < x
    · rw [if_pos hpos] at hxt
      k_steps
      rename Fr _ _ _ _ => F3
      rename News _ _ _ _ => N3
      rename_i TA _ l3 _ 
      refine an4 l3 fun l4 l5 l6 l7 => ?_
      clear l3
      simp only [List.push_toArray] at N3
      refine hR1 _ _ (eend _ F3 (nsb N3 (fa (by k_mem) (fa (by k_mem) (fa (by k_mem) (fa (by k_mem) (fun _ hq => by repeat (first | exact hq | refine List.Mem.tail _ ?_)))))) : News _ _ _ ((e, oe) :: (t, ot) :: (fA, listOf (List.toArray (fv ++ [Value.ref TA])) (kf + 1)) :: (TA, tupOf #[.int x tx, .int (i : Int) u]) :: tl)) ⟨e1, .gt l4, e2⟩ ⟨t1, .gt l5, t2⟩ (in3 _ _ _ ⟨rfl, ⟨.gt l6, hoff⟩, ?_, rfl, trivial⟩))
      rw [hxt]
      exact Tups.snoc (List.mem_cons_self) (htl.mono fun p hp => List.mem_cons_of_mem _ hp)
    · rw [if_neg hpos, List.append_nil] at hxt
      k_steps
      exact hR1 _ _ (eend _ F1 N1 ⟨e1, e2⟩ ⟨t1, t2⟩ (in3 _ _ _ ⟨rfl, hoff, by rw [hxt]; exact htl, rfl, trivial⟩))
  · clear F1 N1 F2 N2 he hit
    intro m₁ n₁ h tk hJ0 F1 N1
    refine ex3 hJ0 fun fv kf tl hJ => an4 hJ fun e1 hoff htl hm => ?_
    clear hJ hJ0
    replace N1 := e1 ▸ N1
    clear e1
    replace F1 := fr0 hm F1
    dsimp only [kstB] at F1
    rw [hi.length, List.take_length] at htl
    have hfl := htl.len
    have hfl2 := usedF_len ns 0
    k_steps
    unfold Stop
    rename Fr _ _ _ _ => F2
    rename News _ _ _ _ => N2
    refine kat_sorted (vs := fv) F2 N2 ⟨_, N2.get (.head _), rfl, _, rfl⟩ (by omega) (by omega) fun D e1 h' F3 N3 hD => ?_
    refine Exists.elim (htl.firsts (fun p hp => N3 p (.tail _ (.tail _ hp)))) fun fs hJ => an3 hJ fun hfs hfsl hfsI => ?_
    clear hJ
    refine kat_kind (T := .type "int") hfs (by omega) (fun v hv => by obtain ⟨n, t, rfl⟩ := hfsI v hv; exact Looks.of_pure rfl) (by decide) ?_
    have hlen : fv.length = (usedF 0 ns).length := hfl
    obtain ⟨_, hb⟩ := usedF_snd ns 0
    have hb2 : ∀ i, i < (usedF 0 ns).length → 0 ≤ ((usedF 0 ns).getD i (0, 0)).2 ∧ ((usedF 0 ns).getD i (0, 0)).2 < 1000 := fun i hi => by
      have e1 : (usedF 0 ns).getD i (0, 0) = (usedF 0 ns)[i] := by simp [hi]
      rw [e1]
      have := hb _ (List.getElem_mem hi)
      omega
    rw [hlen]
    refine Kw.wp (lt := kl fun i => keyOf ((usedF 0 ns).getD i (0, 0))) (Q := fun p => IsP (usedF 0 ns).length p ∧ Srt (fun i => keyOf ((usedF 0 ns).getD i (0, 0))) p (usedF 0 ns).length) ?_ ?_ _ (sort_ (used_inj hn) (by omega))
    · rintro p ⟨hp, hs⟩
      refine KasFin.intro F3 N3 (.head fun q hq => Nat.ne_of_lt (hD q hq)) fun h4 c4 F4 N4 => ?_
      refine hR _ _ (pend ((D, _) :: tl) F4 (fun q hq => N4 q (by rcases List.mem_cons.mp hq with rfl | hq; exact .head _; exact .tail _ (.tail _ hq))) (in5 D c4 _ tl (p.toList.map fun i => (usedF 0 ns).getD i (0, 0)) ⟨rfl, rfl, ?_, ?_, ?_⟩))
      · refine htl.pick _ fun i hi => ?_
        have h3 : i ∈ List.toArray (List.range (usedF 0 ns).length) := (Array.Perm.mem_iff hp.perm).mp (by simpa using hi)
        simpa using h3
      · have h1 : p.toList.Perm (List.range (usedF 0 ns).length) := by simpa using hp.perm.toList
        have h2 := h1.map fun i => (usedF 0 ns).getD i (0, 0)
        rw [map_getD_range] at h2
        exact h2
      · refine List.pairwise_iff_getElem.mpr fun i j hi hj hij => ?_
        have hsz := hp.size
        simp only [List.length_map, Array.length_toList] at hi hj
        have := hs i j hij (by omega)
        simpa [Array.getD, hi, hj] using this
    · intro i j C hi hj hC
      exact ask_tups (fun p hp => N3 p (.tail _ (.tail _ hp))) htl hb2 hi hj hC
end

section
theorem walk_off_E5 : True := by
  w_top off
  trivial
local macro_rules | `(tactic| walk_at "subscriptTail Name Name ref int") => `(tactic| refine stop_ ?_)
-- E5stop
/- pairs of ints stand in this heap -/
noncomputable def HTups (h : Heap) : List Value → List (Int × Int) → Prop
  | [], [] => True
  | v :: vs, p :: ps => (∃ a t u, v = .ref a ∧ h.get? a = some (tupOf #[.int p.1 t, .int p.2 u])) ∧ HTups h vs ps
  | _, _ => False
theorem HTups.len {h : Heap} : ∀ {vs : List Value} {bs : List (Int × Int)}, HTups h vs bs → vs.length = bs.length
  | [], [], _ => rfl
  | _ :: _, _ :: _, ⟨_, r⟩ => by simp [HTups.len r]
theorem HTups.get {h : Heap} : ∀ {vs : List Value} {ps : List (Int × Int)} (i : Nat), HTups h vs ps → i < ps.length → ∃ a t u, vs[i]? = some (.ref a) ∧ h.get? a = some (tupOf #[.int (ps.getD i (0, 0)).1 t, .int (ps.getD i (0, 0)).2 u]) := by
  intro vs
  induction vs with
  | nil =>
    intro ps i hf h
    cases ps with
    | nil => exact absurd h (Nat.not_lt_zero i)
    | cons p ps => exact (show False from hf).elim
  | cons u vs ih =>
    intro ps i hf h
    cases ps with
    | nil => exact (show False from hf).elim
    | cons p ps =>
      cases i with
      | zero =>
        obtain ⟨a, t, u', e, hm⟩ := hf.1
        exact ⟨a, t, u', congrArg some e, hm⟩
      | succ i => exact ih i hf.2 (Nat.lt_of_succ_lt_succ h)
theorem Tups.heap {h₀ h : Heap} {L : Addr} {fl : List (Addr × Obj)} (N : News h₀ L h fl) : ∀ {vs : List Value} {ps : List (Int × Int)}, Tups fl vs ps → HTups h vs ps := by
  intro vs
  induction vs with
  | nil =>
    intro ps hf
    cases ps with
    | nil => exact trivial
    | cons p ps => exact (show False from hf).elim
  | cons v vs ih =>
    intro ps hf
    cases ps with
    | nil => exact (show False from hf).elim
    | cons p ps =>
      obtain ⟨a, t, u, e, hm⟩ := hf.1
      exact ⟨⟨a, t, u, e, (N _ hm).1⟩, ih hf.2⟩
theorem HTups.keeps {h h' : Heap} (hk : ∀ b o, h.get? b = some o → h'.get? b = some o) : ∀ {vs : List Value} {ps : List (Int × Int)}, HTups h vs ps → HTups h' vs ps := by
  intro vs
  induction vs with
  | nil =>
    intro ps hf
    cases ps with
    | nil => exact trivial
    | cons p ps => exact (show False from hf).elim
  | cons v vs ih =>
    intro ps hf
    cases ps with
    | nil => exact (show False from hf).elim
    | cons p ps =>
      obtain ⟨a, t, u, e, hm⟩ := hf.1
      exact ⟨⟨a, t, u, e, hk _ _ hm⟩, ih hf.2⟩

noncomputable def placeF (ps : List (Int × Int)) (ds found : List Int) : List Int := (ps.zip ds).foldl (fun f q => f.set q.1.2.toNat q.2) found
theorem placeF_len (ps : List (Int × Int)) (ds : List Int) : ∀ found, (placeF ps ds found).length = found.length := by
  unfold placeF
  generalize ps.zip ds = l
  induction l with
  | nil => intro f; rfl
  | cons q l ih => intro f; rw [List.foldl_cons, ih]; simp
theorem placeF_step {ps : List (Int × Int)} {ds : List Int} {i : Nat} {d : Int} (found : List Int) (hp : i < ps.length) (hd : ds[i]? = some d) :
    placeF (ps.take (i + 1)) (ds.take (i + 1)) found = (placeF (ps.take i) (ds.take i) found).set (ps.getD i (0, 0)).2.toNat d := by
  unfold placeF
  have e1 : ps.take (i + 1) = ps.take i ++ [ps.getD i (0, 0)] := by rw [List.take_add_one]; simp [hp]
  have e2 : ds.take (i + 1) = ds.take i ++ [d] := by rw [List.take_add_one, hd]; simp
  obtain ⟨hd', _⟩ := List.getElem?_eq_some_iff.mp hd
  rw [e1, e2, List.zip_append (by simp; omega), List.foldl_append]
  rfl

theorem item_list {prog : Program} {w : World} {A : Around} {E : Value → Shared → Prop} {s : Shared} {value slice : PySem.Expr} {l : Addr} {vs : List Value} {k : Int} {u : Tok} {v : Value} {Q : Value → Shared → Prop}
    (hl : s.heap.IsList l vs.toArray) (h0 : 0 ≤ k) (hhi : k < 2 ^ 63) (hx : vs[k.toNat]? = some v)
    (hs : subscripted slice false (.ref l) (.int k u) = operate [.ref l, .int k u] (getItem (.ref l) (.int k u))) (h : Q v s) :
    wpAny (model prog w) A (subscriptTail value slice (.ref l) (.int k u)) Q E s :=
  tail_any hl.typeIs slot_list_getitem.lookup (wpAny_getItem_list hl h0 hhi (by simpa using hx) h) hs

theorem placed_spec (w : World) {r d : Addr} {vs dv : List Value} {ps : List (Int × Int)} {ds : List Int} {n : Nat} {tn : Tok} (hd : IntsAre dv ds) (hl : ds.length = ps.length) (hn : n ≤ 20) (hpn : ps.length ≤ 20)
   (hb : ∀ p ∈ ps, 0 ≤ p.2 ∧ p.2 < (n : Int)) :
   Spec w 3 68 [.int (n : Int) tn, .ref r, .ref d] (fun h => h.IsList r vs.toArray ∧ HTups h vs ps ∧ h.IsList d dv.toArray)
    (fun v own => ∃ D k out, v = .ref D ∧ own = [(D, listOf (List.toArray out) k)] ∧ IntsAre out (placeF ps ds (List.replicate n 0))) := by
  unfold Spec
  k_fill
  intro dp un gd cn cs a ccd cl outer A₀ base h₀ L m news s Q E mean mg mb hd_B hd_F hd_X hd_N hd_T hd_k hdp hun ⟨hp1, hp2, hp3⟩ hret
  k_dflt (refine' enter (by assumption) (by assumption) (by assumption) (by assumption) (by assumption) rfl rfl (by assumption) ?k6 ?k7 ?k8 ?k9 ?kB ?c2 ?c3 ?c4 ?c5 (by assumption) ?_; (case k6 => k_is); (case k7 => k_is); (case k8 => exact rm0 (by assumption)); (case k9 => exact BindsTo.of_eq rfl); (case c5 => decide); (case kB => exact locs rfl); (case c2 => exact rfl); (case c3 => exact rfl); (case c4 => exact rfl))
  clear hd_B hd_F hd_N hd_X hd_T hret; intro R g₀ d₀ os₀ hR hN L' h' tk' F' N' B' X' T'; (try dsimp only)
  k_steps
  unfold Stop
  refine For_enum s.heap rfl rfl rfl rfl ?_
  k_steps
  unfold Stop
  rename Fr _ _ _ _ => F1
  rename News _ _ _ _ => N1
  rename_i lA h6 q6 dA h5 hdI n1 s1 e1 e2 e3 q2 h4
  simp only [Int.toNat_natCast, List.flatten_replicate_singleton] at hdI N1
  have hdl : NE lA dA := .lt q2
  obtain ⟨ol, hol, hoc, ok, hod⟩ := id hp3
  refine enum_start F1 N1 (F1.keep _ _ hol) hoc hod fun h' e t he hit hnes he0 ht0 o1 o2 F2 N2 hk => ?_
  simp only [Off] at o1 o2
  refine in9 e t d dv ol ok _ [(dA, _)]
    (fun i m nx => ∃ (fv : List Value) (kf : Nat), nx = [(dA, listOf (List.toArray fv) kf)] ∧ IntsAre fv (placeF (ps.take i) (ds.take i) (List.replicate n 0)) ∧ Names m [(Str.ofString "found", .ref dA), (Str.ofString "rows", .ref r)])
    ⟨rfl, he, hit, hnes, he0, ht0, ⟨o1.1, trivial⟩, ⟨o2.1, trivial⟩, F2, (fun p hp => N2 p (by rw [List.mem_singleton.mp hp]; exact .head _)), ⟨_, _, rfl, hdI, rfl, rfl, trivial⟩, hoc, hod, fun _ _ _ h _ hk _ => hk _ _ hol, ?_, ?_⟩
  · clear F1 N1 F2 N2 he hit
    intro i v u m₁ n₁ h tk oe ot R1 hR1 hv hJ0 o1 o2 F1 N1
    refine ex2 hJ0 fun fv kf hJ => an3 hJ fun e1 hfi hm => ?_
    clear hJ hJ0
    replace o1 := e1 ▸ o1
    replace o2 := e1 ▸ o2
    replace N1 := e1 ▸ N1
    clear e1
    skip
    refine an2 o1 fun e1 _ => ?_
    clear o1
    refine an2 o2 fun t1 _ => ?_
    clear o2
    replace F1 := fr2 hm F1
    dsimp only [kstB] at F1
    refine ex2 (ints_at hd hv) fun x tx hJ => an2 hJ fun hx e1 => ?_
    clear hJ
    subst e1
    obtain ⟨hi1, _⟩ := List.getElem?_eq_some_iff.mp hx
    have hi2 : i < ps.length := by omega
    refine ex3 (hp2.get i hi2) fun tA tt tu hJ => an2 hJ fun htv htA => ?_
    clear hJ
    have hstep := placeF_step (ps := ps) (ds := ds) (List.replicate n 0) hi2 hx
    have hbi : 0 ≤ (ps.getD i (0, 0)).2 ∧ (ps.getD i (0, 0)).2 < (n : Int) := by
      have e1 : ps.getD i (0, 0) = ps[i] := by simp [hi2]
      rw [e1]; exact hb _ (List.getElem_mem hi2)
    have hpl : (placeF (ps.take i) (ds.take i) (List.replicate n 0)).length = n := by rw [placeF_len]; simp
    generalize placeF (ps.take i) (ds.take i) (List.replicate n 0) = fd at hfi hstep hpl
    generalize ps.getD i (0, 0) = pp at hbi hstep htA
    have htup : s.heap.IsTuple tA #[.int pp.1 tt, .int pp.2 tu] := ⟨_, htA, rfl, 0, rfl⟩
    k_steps
    unfold Stop
    refine item_list (hp1.at fun o x => F1.keep _ o x) (by omega) (by omega) (by rw [Int.toNat_natCast]; exact htv) (by with_unfolding_all rfl) ?_
    k_steps
    rename Fr _ _ _ _ => F3
    rename News _ _ _ _ => N3
    rename IntsAre (List.set _ _ _) _ => hi3
    exact hR1 _ _ (eend _ F3 N3 ⟨e1, trivial⟩ ⟨t1, trivial⟩ (in2 _ _ ⟨rfl, by rw [hstep]; exact hi3, rfl, rfl, trivial⟩))
  · clear F1 N1 F2 N2 he hit
    intro m₁ n₁ h tk hJ0 F1 N1
    refine ex2 hJ0 fun fv kf hJ => an3 hJ fun e1 hfi hm => ?_
    clear hJ hJ0
    replace N1 := e1 ▸ N1
    clear e1
    replace F1 := fr0 hm F1
    dsimp only [kstB] at F1
    rw [hd.length, List.take_length, hl, List.take_length] at hfi
    k_steps
    exact hR _ _ (pend _ F1 N1 (in3 _ _ _ ⟨rfl, rfl, hfi⟩))
end

local macro_rules | `(tactic| walk_at "eval ListComp") => `(tactic| ((fail_if_success (have : (6 : Nat) = 6 := by assumption)); refine stop_ ?_))
section
theorem walk_off_E6 : True := by
  w_top off
  trivial
section
variable {prog : Program} {w : World} {A : Around} {E : Value → Shared → Prop} {s : Shared} {h₀ : Heap} {L : Addr} {m : Str → Option Value} {env : Env}
/- a comprehension over pairs of ints, each of whose items is an int, the ledger as it was -/
theorem comp_pairs {elt : Expr} {x x₂ : Str} {scope : Scope} {cl : List (Str × Addr)} {S : List (Addr × Obj) → Prop} {Fin : List Value → List (Addr × Obj) → Prop} {news : List (Addr × Obj)} {vs : List Value} {ps : List (Int × Int)} (f : Int × Int → Int) (hS : S news) (ht : Tups news vs ps) :
    ∀ (k i : Nat) (ys : List Value) (ns : List Int), IntsAre ys ns → i + k = ps.length →
    (∀ j t u I oI C oC D m₂ h tk (E' : Value → Shared → Prop) ys, j < ps.length → LCg.NsObj oC m₂ → m₂ x = some (.int (ps.getD j (0, 0)).1 t) → m₂ x₂ = some (.int (ps.getD j (0, 0)).2 u) → Fr h₀ L h m → News h₀ L h ((I, oI) :: (C, oC) :: (D, LCg.lst ys) :: news) → LCg.Off3 I C D news → ((@Ne Nat I C) ∧ (@Ne Nat I D) ∧ (@Ne Nat C D)) →
      wpAny (model prog w) A (eval elt (compEnvC scope cl C env)) (OneInt h₀ L m s ((I, oI) :: (C, oC) :: (D, LCg.lst ys) :: news) (f (ps.getD j (0, 0)))) E' { s with heap := h, toks := tk }) →
    (∀ ys, IntsAre ys (ns ++ (ps.drop i).map f) → Fin ys news) →
    LCp.CompRestP prog w A h₀ L m env elt x x₂ scope cl s S (fun i v => vs.toArray[i]? = some v) Fin k i ys news := by
  intro k
  induction k with
  | zero => intro i ys ns hI hk _ fin; exact LCp.CompRestP.zero (fin ys (by rw [List.drop_eq_nil_of_le (by omega)]; simpa using hI))
  | succ k ih =>
    intro i ys ns hI hk step fin
    have hi : i < ps.length := by omega
    refine LCp.CompRestP.succ fun v hv => ?_
    obtain ⟨a, t, u, ea, hm⟩ := ht.get i hi
    have hv' : v = .ref a := by
      rw [← ea]
      have : vs[i]? = some v := by simpa using hv
      simp [this]
    refine ⟨a, _, _, _, 0, hv', hm, rfl, rfl, fun I oI C oC D m₂ h tk E' hC hx hx2 F N off ne => ?_⟩
    refine wpAny_mono (step i t u I oI C oC D m₂ h tk E' ys hi hC hx hx2 F N off ne) (fun y s₂ q => ?_) fun _ _ q => q
    obtain ⟨⟨t, rfl⟩, h', tk', rfl, F', N'⟩ := q
    refine ⟨h', tk', news, rfl, F', N', off, hS, ?_⟩
    refine ih (i + 1) _ (ns ++ [f (ps.getD i (0, 0))]) (hI.append (.cons _ _ .nil)) (by omega) step fun ys hy => fin ys ?_
    rw [List.drop_eq_getElem_cons hi, List.map_cons]
    have e1 : ps.getD i (0, 0) = ps[i] := by simp [hi]
    rw [e1, List.append_assoc] at hy
    exact hy
end

section
theorem room_spec (w : World) {m lo : Nat} {tm tl : Tok} (hm0 : 0 < m) (hm : m ≤ 2 ^ lo) (hlo : 1 ≤ lo ∧ lo ≤ 16) :
   Spec w 3 75 [.int (m : Int) tm, .int (lo : Int) tl] (fun _ => True) (fun v own => v = .none ∧ own = []) := by
  unfold Spec
  k_fill
  intro dp un gd cn cs a ccd cl outer A₀ base h₀ L mm news s Q E mean mg mb hd_B hd_F hd_X hd_N hd_T hd_k hdp hun _ hret
  k_dflt (refine' enter (by assumption) (by assumption) (by assumption) (by assumption) (by assumption) rfl rfl (by assumption) ?k6 ?k7 ?k8 ?k9 ?kB ?c2 ?c3 ?c4 ?c5 (by assumption) ?_; (case k6 => k_is); (case k7 => k_is); (case k8 => exact rm0 (by assumption)); (case k9 => exact BindsTo.of_eq rfl); (case c5 => decide); (case kB => exact locs rfl); (case c2 => exact rfl); (case c3 => exact rfl); (case c4 => exact rfl))
  clear hd_B hd_F hd_N hd_X hd_T hret; intro R g₀ d₀ os₀ hR hN L' h' tk' F' N' B' X' T'; (try dsimp only)
  have hk : ¬ ((1 : Int) * 2 ^ (if (lo : Int) > 0 then (lo : Int) else 0).toNat < ((m : Nat) : Int)) := by
    rw [if_pos (by omega), Int.toNat_natCast, Int.one_mul, Int.not_lt]
    exact_mod_cast hm
  k_steps
  rename Fr _ _ _ _ => F1
  rename News _ _ _ _ => N1
  exact hN _ (pend _ F1 N1 ⟨rfl, rfl⟩)
end

theorem depF_len : ∀ (r : List (List Bool)) (w : Nat) (ds : List Int), (depF r w ds).length = ds.length
  | [], _, _ => rfl
  | f :: r, w, ds => by rw [depF, depF_len r, incrF_len]
theorem packF_len (ws : List Int) (lo : Nat) : (packF ws lo).length = ws.length := by rw [packF, depF_len, List.length_replicate]
section
local macro_rules | `(tactic| walk_at "call builtin:len") => `(tactic| (k_here; (with_reducible show wpAny _ _ (call (Value.builtin "len") [Value.ref _]) _ _ _); (with_unfolding_all refine' PyProof.Rows.len_list (items := List.toArray _) ?k1 ?k3 ?_; (case k1 => is_list); (case k3 => (rw [List.size_toArray]; omega))); (try simp only [List.size_toArray])))
theorem least_spec (w : World) {c : Addr} {vs : List Value} {ns : List Int} {lo : Nat} {tl : Tok} (hi : IntsAre vs ns) (hn : ns.length ≤ 20) (hc : ∀ c ∈ ns, 0 ≤ c ∧ c ≤ 1000) (h2 : 2 ≤ (usedF 0 ns).length) (h10 : (usedF 0 ns).length ≤ 10)
    (hlo : 1 ≤ lo ∧ lo ≤ 16) (hroom : (usedF 0 ns).length ≤ 2 ^ lo) :
   Spec w 8 92 [.ref c, .int (lo : Int) tl] (fun h => h.IsList c vs.toArray)
    (fun v own => ∃ D k out rows, v = .ref D ∧ own = [(D, listOf (List.toArray out) k)] ∧ rows.Perm (usedF 0 ns) ∧ rows.Pairwise (fun a b => keyOf a < keyOf b) ∧ IntsAre out (placeF rows (packF (rows.map (·.1)) lo) (List.replicate ns.length 0))) := by
  unfold Spec
  k_fill
  intro dp un gd cn cs a ccd cl outer A₀ base h₀ L m news s Q E mean mg mb hd_B hd_F hd_X hd_N hd_T hd_k hdp hun hp1 hret
  k_dflt (refine' enter (by assumption) (by assumption) (by assumption) (by assumption) (by assumption) rfl rfl (by assumption) ?k6 ?k7 ?k8 ?k9 ?kB ?c2 ?c3 ?c4 ?c5 (by assumption) ?_; (case k6 => k_is); (case k7 => k_is); (case k8 => exact rm0 (by assumption)); (case k9 => exact BindsTo.of_eq rfl); (case c5 => decide); (case kB => exact locs rfl); (case c2 => exact rfl); (case c3 => exact rfl); (case c4 => exact rfl))
  clear hd_B hd_F hd_N hd_X hd_T hret; intro R g₀ d₀ os₀ hR hN L' h' tk' F' N' B' X' T'; (try dsimp only)
  k_steps
  unfold Stop
  k_dflt (refine Spec.use (used_spec w hi hn hc h2) B' F' X' N' T' (by first | exact rfl | assumption) (by first | exact rm hdp (by decide) | ktr_room) (by first | exact ru hun (by decide) | ktr_units) (hp1.at fun o e => F'.keep _ o e) ?_)
  intro v own h9 tk9 hJ0 happ F9 N9
  refine ex5 hJ0 fun rA rk out tl9 rows hJ => an5 hJ fun e1 e2 htup hperm hpair => ?_
  replace N9 := e2 ▸ N9
  clear hJ hJ0 e2
  subst e1
  have hrl : rows.length = (usedF 0 ns).length := hperm.length_eq
  have hol : out.length = rows.length := htup.len
  clear F' N' happ
  simp only [List.cons_append, List.append_nil] at N9
  have hvl : vs.length = ns.length := hi.length
  k_steps
  unfold Stop
  rename Fr _ _ _ _ => F1
  rename News _ _ _ _ => N1
  k_dflt (refine Spec.use (room_spec w (m := out.length) (lo := lo) (by omega) (by omega) hlo) B' F1 X' N1 T' (by first | exact rfl | assumption) (by first | exact rm hdp (by decide) | ktr_room) (by first | exact ru hun (by decide) | ktr_units) trivial ?_)
  rintro v own h8 tk8 hJ0 happ F8 N8
  refine an2 hJ0 fun e1 e2 => ?_
  clear hJ0
  subst e1
  subst e2
  clear F1 N1 happ
  dsimp only [List.nil_append] at N8
  k_steps
  unfold Stop
  k_dflt (refine LCp.ListComp_P (F₀ := F8) (by with_unfolding_all rfl) (by decide) (by rfl) (by decide) (by rfl) (by rfl) (by decide) ?_)
  k_steps
  unfold Stop
  refine LCp.SrcLP.ledger rfl F8 N8 (List.mem_cons_self) (by rw [List.size_toArray, sizeLine_eq]; omega) fun g => ?_
  have htup2 : Tups ((rA, listOf (List.toArray out) rk) :: tl9) out rows := htup.mono fun p hp => List.mem_cons_of_mem _ hp
  refine comp_pairs (fun p => p.1) (.inr ⟨_, List.mem_cons_self, rfl, _, rfl⟩) htup2 _ 0 [] [] .nil (by rw [List.size_toArray]; omega) ?_ ?_
  · rintro j t u I oI C oC D m₂ h tk E' ys hj hC hx hx2 F N off ne
    k_steps
    exact OneInt.intro rfl (by assumption) (by assumption)
  · intro ys hys
    rw [List.nil_append, List.drop_zero] at hys
    clear F8 N8
    k_steps
    unfold Stop
    rename Fr _ _ _ _ => F1
    rename News _ _ _ _ => N1
    rename_i Dc _ _ _
    have hml : (rows.map fun p : Int × Int => p.1).length = rows.length := by simp
    k_dflt (refine Spec.use (package_depths_spec w (lo := lo) hys (by omega) hlo) B' F1 X' N1 T' (by first | exact rfl | assumption) (by first | exact rm hdp (by decide) | ktr_room) (by first | exact ru hun (by decide) | ktr_units) ⟨_, N1.get (.head _), rfl, _, rfl⟩ ?_)
    intro v own h7 tk7 hJ0 happ F7 N7
    refine ex3 hJ0 fun dA dv dk hJ => an3 hJ fun e1 e2 hdv => ?_
    replace N7 := e2 ▸ N7
    clear hJ hJ0 e2
    subst e1
    clear F1 N1 happ
    dsimp only [List.cons_append, List.nil_append] at N7
    have hpl : (packF (rows.map fun p : Int × Int => p.1) lo).length = rows.length := by rw [packF_len, hml]
    have hht := htup.heap (fun p hp => N7 p (.tail _ (.tail _ (.tail _ hp))))
    obtain ⟨_, hsnd⟩ := usedF_snd ns 0
    k_steps
    unfold Stop
    rename Fr _ _ _ _ => F1
    rename News _ _ _ _ => N1
    k_dflt (refine Spec.use (placed_spec w (n := vs.length) (ps := rows) hdv hpl (by omega) (by omega) (fun p hp => ?_)) B' F1 X' N1 T' (by first | exact rfl | assumption) (by first | exact rm hdp (by decide) | ktr_room) (by first | exact ru hun (by decide) | ktr_units) ⟨⟨_, N1.get (.tail _ (.tail _ (.head _))), rfl, _, rfl⟩, hht, ⟨_, N1.get (.head _), rfl, _, rfl⟩⟩ ?_)
    · have := hsnd p (hperm.mem_iff.mp hp)
      omega
    intro v own h7 tk7 hJ0 happ F6 N6
    refine ex3 hJ0 fun oA ok ov hJ => an3 hJ fun e1 e2 hov => ?_
    replace N6 := e2 ▸ N6
    clear hJ hJ0 e2
    subst e1
    clear F1 N1 happ
    rw [hvl] at hov
    k_steps
    exact hR _ _ (pend [_] F6 (fun p hp => N6 p (by rw [List.mem_singleton.mp hp]; exact .head _)) (in4 _ _ _ _ ⟨rfl, rfl, hperm, hpair, hov⟩))
end
end

local macro_rules | `(tactic| mul_fits) => `(tactic| assumption)
section
theorem walk_off_E7 : True := by
  w_top off
  trivial
/- the product of the counts' own powers -/
noncomputable def pwrF : List Int → Int
  | [] => 1
  | c :: cs => (if 0 < c then c ^ c.toNat else 1) * pwrF cs

theorem bits_of_le {x : Int} {n : Nat} (h0 : 0 ≤ x) (h : x < 2 ^ n) : Builtin.Int.intBits x ≤ n := by
  rw [intBits_le_iff]
  have : ((x.natAbs : Nat) : Int) < ((2 ^ n : Nat) : Int) := by rw [Int.natAbs_of_nonneg h0]; simpa using h
  exact Int.ofNat_lt.mp this
theorem pow_bits (c : Int) (h0 : 0 ≤ c) (h1 : c ≤ 1000) (k : Nat) : Builtin.Int.intBits (c ^ k) ≤ 10 * k + 1 := intBits_pow_le (bits_of_le (n := 10) h0 (by omega)) k
theorem pwrF_take (cs : List Int) (i : Nat) (c : Int) (hc : cs[i]? = some c) : pwrF (cs.take (i + 1)) = pwrF (cs.take i) * (if 0 < c then c ^ c.toNat else 1) := by
  induction cs generalizing i with
  | nil => simp at hc
  | cons c' cs ih =>
    cases i with
    | zero => simp at hc; subst hc; simp [pwrF]
    | succ i =>
      simp only [List.getElem?_cons_succ] at hc
      simp only [List.take_succ_cons, pwrF, ih i hc, Int.mul_assoc]
theorem pwrF_bits : ∀ (cs : List Int), (∀ c ∈ cs, 0 ≤ c ∧ c ≤ 1000) → Builtin.Int.intBits (pwrF cs) ≤ 10 * cs.sum.toNat + cs.length + 1 ∧ 0 ≤ cs.sum
  | [], _ => ⟨by decide, by decide⟩
  | c :: cs, h => by
    obtain ⟨i1, i2⟩ := pwrF_bits cs fun c hc => h c (List.mem_cons_of_mem _ hc)
    obtain ⟨c1, c2⟩ := h c List.mem_cons_self
    simp only [pwrF, List.sum_cons, List.length_cons]
    refine ⟨?_, by omega⟩
    have : Builtin.Int.intBits (if 0 < c then c ^ c.toNat else 1) ≤ 10 * c.toNat + 1 := by
      split
      · exact pow_bits c c1 c2 _
      · exact Nat.le_trans (show Builtin.Int.intBits 1 ≤ 1 by decide) (by omega)
    exact Nat.le_trans (intBits_mul_le this i1) (by rw [Int.toNat_add c1 i2]; generalize c.toNat = x; generalize cs.sum.toNat = y; omega)

theorem bsum {a b c l L : Nat} (h1 : a ≤ 8000) (h2 : b ≤ 400) (h3 : c ≤ 1000) (h4 : l ≤ L) (h5 : L ≤ 20) : 2 * a + 1 + (10 * b + l + 1) + (10 * c + 1) ≤ 134217728 := by omega

theorem zip_sum (ns ls : List Int) (hlen : ns.length = ls.length) (h : ∀ (i : Nat) (c l : Int), ns[i]? = some c → ls[i]? = some l → 0 ≤ c) :
    ∀ k, k ≤ ns.length → ((List.range k).filterMap fun i => some (ns.getD i 0 * ls.getD i 0)).sum = bitsOf (ns.take k) (ls.take k)
  | 0, _ => by simp [bitsOf]
  | k + 1, hk => by
    have e1 : ns[k]? = some (ns.getD k 0) := by simp [show k < ns.length by omega]
    have e2 : ls[k]? = some (ls.getD k 0) := by simp [show k < ls.length by omega]
    rw [range_step, List.sum_append, zip_sum ns ls hlen h k (by omega), bitsOf_take _ _ _ _ _ e1 e2]
    have := h k _ _ e1 e2
    simp only [Option.toList_some, List.sum_cons, List.sum_nil, Int.add_zero]
    split
    · rfl
    · rw [show ns.getD k 0 = 0 by omega, Int.zero_mul]

theorem bitsOf_le : ∀ (ns ls : List Int) (M : Int), 0 ≤ M → (∀ c ∈ ns, 0 ≤ c) → (∀ l ∈ ls, 0 ≤ l ∧ l ≤ M) → 0 ≤ bitsOf ns ls ∧ bitsOf ns ls ≤ M * ns.sum ∧ 0 ≤ ns.sum
  | [], _, M, hM, _, _ => by simp [bitsOf]
  | c :: cs, [], M, hM, h, _ => by
    obtain ⟨_, i2, i3⟩ := bitsOf_le cs [] M hM (fun c hc => h c (List.mem_cons_of_mem _ hc)) (by simp)
    have := h c List.mem_cons_self
    simp only [bitsOf, List.sum_cons]
    exact ⟨by decide, Int.mul_nonneg hM (by omega), by omega⟩
  | c :: cs, l :: ls, M, hM, h, h' => by
    obtain ⟨i1, i2, i3⟩ := bitsOf_le cs ls M hM (fun c hc => h c (List.mem_cons_of_mem _ hc)) (fun l hl => h' l (List.mem_cons_of_mem _ hl))
    have c1 := h c List.mem_cons_self
    obtain ⟨l1, l2⟩ := h' l List.mem_cons_self
    simp only [bitsOf, List.sum_cons]
    have a1 : 0 ≤ c * l := Int.mul_nonneg c1 l1
    have a2 : c * l ≤ M * c := by rw [Int.mul_comm M c]; exact Int.mul_le_mul_of_nonneg_left l2 c1
    have a3 : 0 ≤ M * c := Int.mul_nonneg hM c1
    rw [Int.mul_add]
    split <;> refine ⟨by omega, by omega, by omega⟩

theorem power_spec (w : World) {c l : Addr} {vs ws : List Value} {ns ls : List Int} (hi : IntsAre vs ns) (hj : IntsAre ws ls) (hlen : ns.length = ls.length) (hn: ns.length ≤ 20)
   (hc : ∀ (i : Nat) (c l : Int), ns[i]? = some c → ls[i]? = some l → 0 ≤ c ∧ c ≤ 1000 ∧ (0 < c → 1 ≤ l ∧ l ≤ 20)) (hl : ∀ l ∈ ls, 0 ≤ l ∧ l ≤ 20) (hs : ns.sum ≤ 400) :
   Spec w 6 126 [.ref c, .ref l] (fun h => h.IsList c vs.toArray ∧ h.IsList l ws.toArray) (fun v own => own = [] ∧ ∃ t, v = .int (2 ^ (bitsOf ns ls).toNat * pwrF ns) t) := by
  unfold Spec
  k_fill
  intro dp un gd cn cs a ccd cl outer A₀ base h₀ L m news s Q E mean mg mb hd_B hd_F hd_X hd_N hd_T hd_k hdp hun ⟨hp1, hp2⟩ hret
  k_dflt (refine' enter (by assumption) (by assumption) (by assumption) (by assumption) (by assumption) rfl rfl (by assumption) ?k6 ?k7 ?k8 ?k9 ?kB ?c2 ?c3 ?c4 ?c5 (by assumption) ?_; (case k6 => k_is); (case k7 => k_is); (case k8 => exact rm0 (by assumption)); (case k9 => exact BindsTo.of_eq rfl); (case c5 => decide); (case kB => exact locs rfl); (case c2 => exact rfl); (case c3 => exact rfl); (case c4 => exact rfl))
  clear hd_B hd_F hd_N hd_X hd_T hret; intro R g₀ d₀ os₀ hR hN L' h' tk' F' N' B' X' T'; (try dsimp only)
  k_steps
  unfold Stop
  have hvl := hi.length
  have hwl := hj.length
  have hc0 : ∀ c ∈ ns, 0 ≤ c ∧ c ≤ 1000 := fun c hc' => by
    obtain ⟨i, hi', rfl⟩ := List.getElem_of_mem hc'
    have := hc i _ (ls[i]'(by omega)) (List.getElem?_eq_getElem hi') (List.getElem?_eq_getElem (by omega))
    exact ⟨this.1, this.2.1⟩
  obtain ⟨hb1, hb2, hb3⟩ := bitsOf_le ns ls 20 (by decide) (fun c h => (hc0 c h).1) hl
  have hb4 : bitsOf ns ls ≤ 8000 := by omega
  generalize hT : bitsOf ns ls = T at hb1 hb2 hb4
  refine ListComp_Z F' (by with_unfolding_all rfl) (by decide) (by rfl) (by decide) (by rfl) (by rfl) (by decide) ?_
  k_steps
  unfold Stop
  refine ZSrc.call (fun i => some (ns.getD i 0 * ls.getD i 0)) rfl hp1 hp2 (by rw [sizeLine_eq]; omega) F' N' (fun g => ?_) (fun g ys hys => ?_)
  · clear F' N'
    rintro i x y C oC D ys m₂ h tk own E' hin ⟨e1, e2⟩ hC hxa hxb F N
    rw [hvl, hwl, ← hlen, Nat.min_self] at hin
    obtain ⟨t1, rfl⟩ : ∃ t, x = .int (ns.getD i 0) t := by
      obtain ⟨t, q2⟩ := hi.get i (ns.getD i 0) (by simp [show i < ns.length by omega])
      exact ⟨t, Option.some.inj (e1.symm.trans q2)⟩
    obtain ⟨t2, rfl⟩ : ∃ t, y = .int (ls.getD i 0) t := by
      obtain ⟨t, q2⟩ := hj.get i (ls.getD i 0) (by simp [show i < ls.length by omega])
      exact ⟨t, Option.some.inj (e2.symm.trans q2)⟩
    refine wpAny_tests_nil ⟨⟨_, _, rfl, F, N⟩, ?_⟩
    rw [if_pos rfl]
    refine ⟨_, rfl, ?_⟩
    have hm : IntMulOk (ns.getD i 0) (ls.getD i 0) := by
      refine an3 (hc i (ns.getD i 0) (ls.getD i 0) (by simp [show i < ns.length by omega]) (by simp [show i < ls.length by omega])) fun q1 q2 q3 => ?_
      refine an2 (hl (ls.getD i 0) (by simp [show i < ls.length by omega])) fun q4 q5 => ?_
      exact mulOk_of_bits (bits_of_le (n := 10) q1 (by omega)) (bits_of_le (n := 10) q4 (by omega)) (by decide)
    k_steps
    exact OneInt.intro rfl (by assumption) (by assumption)
  · have hsum := zip_sum ns ls hlen (fun i c l h1 h2 => (hc i c l h1 h2).1) ns.length (Nat.le_refl _)
    rw [hvl, hwl, ← hlen, Nat.min_self] at hys
    rw [List.take_length, hlen, List.take_length, hT, ← hlen] at hsum
    clear F' N'
    k_steps
    unfold Stop
    rename Fr _ _ _ _ => F1
    rename News _ _ _ _ => N1
    rw [hsum] at F1
    k_dflt (refine Spec.use (total_bits_spec w hi hj hlen hn hc) B' F1 X' N1 T' (by first | exact rfl | assumption) (by first | exact rm hdp (by decide) | ktr_room) (by first | exact ru hun (by decide) | ktr_units) ⟨hp1.at fun o e => F1.keep _ o e, hp2.at fun o e => F1.keep _ o e⟩ ?_)
    intro v own h9 tk9 hJ0 happ F9 N9
    refine an2 hJ0 fun e1 hJ => Exists.elim hJ fun t9 e2 => ?_
    replace N9 := e1 ▸ N9
    clear hJ hJ0 e1
    subst e2
    clear F1 N1 happ
    rw [hT]
    dsimp only [List.nil_append] at N9
    k_steps
    try (exfalso; omega)
    unfold Stop
    refine For_invV (h₀ := s.heap) (by rfl) (by rfl) ?_
    k_steps
    unfold Stop
    rename Fr _ _ _ _ => F1

    obtain ⟨ol, hg, hol, kk, hod⟩ := hp1
    refine forL (k := kk) (ol := ol) (fun i m nx => nx = [] ∧ ∃ t, Names m [(Str.ofString "found", .int (2 ^ T.toNat * pwrF (ns.take i)) t)]) rfl hol hod F1 (news := []) (fun p hp => nomatch hp) ?_ ?_ ?_ ?_ ?_
    · exact ⟨rfl, _, by show some (Value.int _ _) = _; simp only [List.take_zero, pwrF, Int.mul_one]; rfl, trivial⟩
    · exact fun _ _ _ _ _ keep _ => keep _ _ hg
    · intro e
      have h2 : s.heap.get? L' = none := Heap.get?_none_of_le F1.above
      have h3 : s.heap.get? L' = some ol := by rw [← show c = L' from e]; exact hg
      rw [h2] at h3
      cases h3
    · clear F1
      rintro i v m₁ n₁ h tk I o R1 hR1 hv ⟨rfl, t, hm⟩ hIo F1 N1
      replace F1 := fr1 hm F1
      dsimp only [kstB] at F1
      obtain ⟨n, hn', t', rfl⟩ : ∃ n, ns[i]? = some n ∧ ∃ t', v = .int n t' := by
        have hil : i < ns.length := by have := (List.getElem?_eq_some_iff.mp hv).1; omega
        obtain ⟨t', q⟩ := hi.get i (ns.getD i 0) (by simp [hil])
        exact ⟨ns.getD i 0, by simp [hil], t', Option.some.inj (hv.symm.trans q)⟩
      refine an2 (hc0 n (List.mem_of_getElem? hn')) fun q1 q2 => ?_
      have hpt := pwrF_take ns i n hn'
      refine an2 (pwrF_bits (ns.take i) fun c hc => hc0 c (List.mem_of_mem_take hc)) fun hpb hpb2 => ?_
      have hsum2 : (ns.take i).sum + (ns.drop i).sum = ns.sum := by rw [← List.sum_append, List.take_append_drop]
      have hsum3 := (pwrF_bits (ns.drop i) fun c hc => hc0 c (List.mem_of_mem_drop hc)).2
      have hlt := List.length_take_le' i ns
      have hm : IntMulOk (2 ^ T.toNat * pwrF (ns.take i)) (n ^ n.toNat) := mulOk_of_bits (intBits_mul_le (intBits_pow_le (m := 2) (by decide) T.toNat) hpb) (pow_bits n q1 q2 _) (bsum (Int.toNat_le.mpr hb4) (Int.toNat_le.mpr (by omega)) (Int.toNat_le.mpr q2) hlt hn)
      by_cases hpos : 0 < n
      · rw [if_pos hpos] at hpt
        k_steps
        rename Fr _ _ _ _ => F2
        rename News _ _ _ _ => N2
        exact hR1 _ _ (lend [] F2 N2 trivial ⟨rfl, _, by rw [hpt, ← Int.mul_assoc]; rfl, trivial⟩)
      · rw [if_neg hpos, Int.mul_one] at hpt
        k_steps
        exact hR1 _ _ (lend [] F1 N1 trivial ⟨rfl, _, by rw [hpt]; rfl, trivial⟩)
    · rintro m₁ n₁ h tk ⟨rfl, t, hm⟩ F2 N2
      clear F1
      have F3 := fr0 hm F2
      k_steps
      exact hR _ _ (pend _ F2 N2 ⟨rfl, t, by show Value.int _ _ = _; rw [List.take_of_length_le (by omega), hT]⟩)
end

section
theorem walk_off_E8 : True := by
  w_top off
  trivial
/- a symbol whose count is no part of the whole by its length -/
noncomputable def unlikeF (N : Int) (ns ls : List Int) (i : Nat) : Option Int := if 0 < ns.getD i 0 ∧ ns.getD i 0 * 2 ^ (ls.getD i 0).toNat ≠ N then some (ns.getD i 0) else none
noncomputable def nbF (ns ls : List Int) (p : Int) : Bool :=
  if (List.range ns.length).filterMap (unlikeF ns.sum ns ls) = [] then decide (p = ns.sum ^ ns.sum.toNat) else decide (p > ns.sum ^ ns.sum.toNat)

theorem not_below_spec (w : World) {c l : Addr} {vs ws : List Value} {ns ls : List Int} {p : Int} {tp : Tok} (hi : IntsAre vs ns) (hj : IntsAre ws ls) (hlen : ns.length = ls.length) (hn: ns.length ≤ 20)
   (hc : ∀ c ∈ ns, 0 ≤ c ∧ c ≤ 1000) (hl : ∀ l ∈ ls, 0 ≤ l ∧ l ≤ 20) (hs : ns.sum ≤ 400) (hs0 : 0 ≤ ns.sum) :
   Spec w 6 131 [.ref c, .ref l, .int p tp] (fun h => h.IsList c vs.toArray ∧ h.IsList l ws.toArray) (fun v own => own = [] ∧ v = .bool (nbF ns ls p)) := by
  unfold Spec
  k_fill
  intro dp un gd cn cs a ccd cl outer A₀ base h₀ L m news s Q E mean mg mb hd_B hd_F hd_X hd_N hd_T hd_k hdp hun ⟨hp1, hp2⟩ hret
  k_dflt (refine' enterC (by assumption) (by assumption) (by assumption) (by assumption) (by assumption) rfl rfl (by assumption) ?k6 ?k7 ?k8 ?k9 ?kB ?kD ?c2 ?c3 ?c4 (by assumption) ?_; (case k6 => k_is); (case k7 => k_is); (case k8 => exact rm0 (by assumption)); (case k9 => exact BindsTo.of_eq rfl); (case kB => exact rfl); (case kD => decide +kernel); (case c2 => exact rfl); (case c3 => exact rfl); (case c4 => exact rfl))
  clear hd_B hd_F hd_N hd_X hd_T hret; intro R g₀ d₀ os₀ hR hN L' h' tk' cells' F' N' Y' B' X' T'; k_cells Y'; (try dsimp only [List.cons_append, List.nil_append] at N'); (try dsimp only)
  have hvl := hi.length
  have hwl := hj.length
  k_steps
  unfold Stop
  rename Fr _ _ _ _ => F1
  rename News _ _ _ _ => N1
  rename_i o1 d1
  refine Assign_ListComp_Z (F₀u := F1) (by with_unfolding_all rfl) (by rfl) (by decide) (by rfl) (by decide) (by rfl) (by rfl) (by decide) (by rfl) (by rfl) ?_
  k_steps
  unfold Stop
  refine ZSrc.call (unlikeF ns.sum ns ls) rfl hp1 hp2 (by rw [sizeLine_eq]; omega) F1 N1 (fun g => ?_) (fun g ys hys => ?_)
  · clear F1 N1
    rintro i x y C oC D ys m₂ h tk own E' hin ⟨e1, e2⟩ hC hxa hxb F N
    rw [hvl, hwl, ← hlen, Nat.min_self] at hin
    obtain ⟨t1, rfl⟩ : ∃ t, x = .int (ns.getD i 0) t := by
      obtain ⟨t, q2⟩ := hi.get i (ns.getD i 0) (by simp [show i < ns.length by omega])
      exact ⟨t, Option.some.inj (e1.symm.trans q2)⟩
    obtain ⟨t2, rfl⟩ : ∃ t, y = .int (ls.getD i 0) t := by
      obtain ⟨t, q2⟩ := hj.get i (ls.getD i 0) (by simp [show i < ls.length by omega])
      exact ⟨t, Option.some.inj (e2.symm.trans q2)⟩
    refine an2 (hc (ns.getD i 0) (by simp [show i < ns.length by omega])) fun q1 q2 => ?_
    refine an2 (hl (ls.getD i 0) (by simp [show i < ls.length by omega])) fun q3 q4 => ?_
    generalize hgn : ns.getD i 0 = n at hxa q1 q2
    generalize hgl : ls.getD i 0 = q at hxb q3 q4
    have hM : IntMulOk n (2 ^ q.toNat) := mulOk_of_bits (bits_of_le (n := 10) q1 (by omega)) (intBits_pow_le (m := 2) (by decide) q.toNat) (by omega)
    have hu : unlikeF ns.sum ns ls i = if 0 < n ∧ n * 2 ^ q.toNat ≠ ns.sum then some n else none := by unfold unlikeF; rw [hgn, hgl]
    clear hgn hgl e1 e2 hi hj hc hl
    generalize ns.sum = S at *
    have N2 : News s.heap L' h ((C, oC) :: (D, LCg.lst ys) :: (L' + 1, o1) :: own) := nsb N (fa (.head _) (fa (.tail _ (.head _)) (fa (.tail _ (.tail _ (List.mem_append_right _ (.head _)))) (fun q hq => .tail _ (.tail _ (List.mem_append_left _ hq))))))
    have back : ∀ h', News s.heap L' h' ((C, oC) :: (D, LCg.lst ys) :: (L' + 1, o1) :: own) → News s.heap L' h' ((C, oC) :: (D, LCg.lst ys) :: (own ++ [(L' + 1, o1)])) := fun h' N' => nsb N' (fa (.head _) (fa (.tail _ (.head _)) (fun q hq => (List.mem_append.mp hq).elim (fun h => .tail _ (.tail _ (.tail _ h))) (fun h => .tail _ (.tail _ (List.mem_singleton.mp h ▸ .head _))))))
    clear N
    refine wpAny_tests_one ?_
    by_cases hpos : 0 < n
    · k_steps
      all_goals try exact F
      all_goals try exact back _ N2
      all_goals try (rw [hu, if_pos ⟨hpos, by assumption⟩])
      all_goals try exact OneInt.intro rfl F (back _ N2)
      all_goals rw [hu, if_neg (fun h => h.2 (by assumption))]
    · k_steps
      all_goals try exact F
      all_goals try exact back _ N2
      all_goals rw [hu, if_neg (fun h => hpos h.1)]
  · rw [hvl, hwl, ← hlen, Nat.min_self] at hys
    clear F1 N1
    have hnil : ∀ b : Bool, decide ((List.range ns.length).filterMap (unlikeF ns.sum ns ls) = []) = b → (b = true → nbF ns ls p = decide (p = ns.sum ^ ns.sum.toNat)) ∧ (b = false → nbF ns ls p = decide (p > ns.sum ^ ns.sum.toNat)) := by
      intro b hb
      unfold nbF
      refine ⟨fun q => ?_, fun q => ?_⟩
      · rw [if_pos (of_decide_eq_true (hb.trans q))]
      · rw [if_neg (of_decide_eq_false (hb.trans q))]
    k_steps
    all_goals (rename Fr _ _ _ _ => F2)
    · exact hR _ _ (pend [] F2 (fun p hp => absurd hp List.not_mem_nil) ⟨rfl, by rw [(hnil true (by assumption)).1 rfl]; rfl⟩)
    · exact hR _ _ (pend [] F2 (fun p hp => absurd hp List.not_mem_nil) ⟨rfl, by rw [(hnil false (by assumption)).2 rfl]⟩)
end

section
theorem walk_off_E9 : True := by
  w_top off
  trivial
/- how many k below 4 have 2^k below many -/
noncomputable def evenF (n : Int) : Int := if 8 < n then 4 else if 4 < n then 3 else if 2 < n then 2 else if 1 < n then 1 else 0

theorem even_len (n : Int) : (((List.range' 0 4).filterMap fun (j : Nat) => if (2 : Int) ^ j < n then some (j : Int) else none).length : Int) = evenF n := by
  rw [show List.range' 0 4 = [0, 1, 2, 3] by decide]
  unfold evenF
  simp only [List.filterMap_cons, List.filterMap_nil, show (2 : Int) ^ 0 = 1 by decide, show (2 : Int) ^ 1 = 2 by decide, show (2 : Int) ^ 2 = 4 by decide, show (2 : Int) ^ 3 = 8 by decide]
  by_cases h1 : 1 < n <;> by_cases h2 : 2 < n <;> by_cases h4 : 4 < n <;> by_cases h8 : 8 < n <;> simp only [h1, h2, h4, h8, if_true, if_false, List.length_cons, List.length_nil] <;> omega

theorem even_spec (w : World) {n : Int} {t : Tok} (hn : 0 ≤ n) (hn2 : n ≤ 1000) :
   Spec w 4 121 [.int n t] (fun h => True) (fun v own => own = [] ∧ ∃ t, v = .int (evenF n) t) := by
  unfold Spec
  k_fill
  intro dp un gd cn cs a ccd cl outer A₀ base h₀ L m news s Q E mean mg mb hd_B hd_F hd_X hd_N hd_T hd_k hdp hun hpre hret
  k_dflt (refine' enterC (by assumption) (by assumption) (by assumption) (by assumption) (by assumption) rfl rfl (by assumption) ?k6 ?k7 ?k8 ?k9 ?kB ?kD ?c2 ?c3 ?c4 (by assumption) ?_; (case k6 => k_is); (case k7 => k_is); (case k8 => exact rm0 (by assumption)); (case k9 => exact BindsTo.of_eq rfl); (case kB => exact rfl); (case kD => decide +kernel); (case c2 => exact rfl); (case c3 => exact rfl); (case c4 => exact rfl))
  clear hd_B hd_F hd_N hd_X hd_T hret; intro R g₀ d₀ os₀ hR hN L' h' tk' cells' F' N' Y' B' X' T'; k_cells Y'; (try dsimp only [List.cons_append, List.nil_append] at N'); (try dsimp only)
  k_steps
  unfold Stop
  refine LCt.ListComp_T (F₀ := by k_asm) (by with_unfolding_all rfl) (by decide) (by rfl) (by decide) (by rfl) ?_
  k_steps
  rename IsRange _ _ _ _ _ _ _ _ => hr
  rename Fr _ _ _ _ => F1
  rename News _ _ _ _ => N1
  refine LCt.CompSrcT.range rfl F1 N1 hr (n := 4) (by decide) (by decide) (by rw [sizeLine_eq]; omega) fun g => ?_
  clear hr
  refine comp_tests (fun j => if (2 : Int) ^ j < n then some (j : Int) else none) trivial _ _ [] [] .nil ?_ ?_
  · clear F1 N1
    rintro j v I oI C oC D m₂ h tk E' ys _ hj ⟨t', rfl⟩ hC hx F N off ne
    rw [Int.zero_add] at hx
    have hj2 : ((j : Int)).toNat = j := by omega
    k_steps
    refine ⟨⟨_, _, rfl, F, N⟩, ?_⟩
    rw [hj2]
    simp only [decide_eq_true_eq]
    by_cases hlt : (2 : Int) ^ j < n
    · rw [if_pos hlt]
      refine ⟨_, if_pos hlt, ?_⟩
      k_steps
      exact OneInt.intro rfl (by assumption) (by assumption)
    · rw [if_neg hlt]
      exact if_neg hlt
  · intro ys hys
    rw [List.nil_append] at hys
    have hl := hys.length
    have hev := even_len n
    clear F1 N1
    have hle : evenF n ≤ 4 := by
      unfold evenF
      repeat' split
      all_goals omega
    k_steps
    rename Fr _ _ _ _ => F2
    rename News _ _ _ _ => N2
    first | rw [hev] | rw [hl, hev]
    exact hR _ _ (pend [] F2 (fun p hp => absurd hp List.not_mem_nil) ⟨rfl, _, rfl⟩)
end

section
theorem walk_off_E10 : True := by
  w_top off
  trivial
local macro_rules | `(tactic| walk_at "binaryOp Pow int int") => `(tactic| ((with_reducible refine pow_int_small ?kb1 ?kb2 ?kb3 ?_); (case kb1 => (first | assumption | decide | omega)); (case kb2 => (first | assumption | decide | omega)); (case kb3 => (first | assumption | decide | omega)); (try dsimp only)))
local macro_rules | `(tactic| walk_at "binaryOp Mult int int") => `(tactic| ((with_reducible refine PyProof.Rows.mul_int ?_ (by assumption)); (try dsimp only)))
local macro_rules | `(tactic| walk_at "exec If BoolOp cons nil") => `(tactic| ((fail_if_success (have : (3 : Nat) = 3 := by assumption)); refine stop_ ?_))
local macro_rules | `(tactic| walk_at "compareOp GtE int int") => `(tactic| ((fail_if_success (have : (5 : Nat) = 5 := by assumption)); refine stop_ ?_))

theorem used_len : ∀ (ns : List Int) (k : Nat), (usedF k ns).length = (ns.filter (fun c => decide (0 < c))).length
  | [], _ => rfl
  | c :: cs, k => by
    have ih := used_len cs (k + 1)
    unfold usedF
    by_cases h : 0 < c
    · simp [h, ih]
    · simp [h, ih]

theorem range_getD (ns : List Int) : (List.range ns.length).map (fun j => ns.getD j 0) = ns := by
  apply List.ext_getElem (by simp)
  intro i h1 h2
  simp [h2]
theorem filt_eq : ∀ ns : List Int, ns.filterMap (fun c => if 0 < c then some c else none) = ns.filter (fun c => decide (0 < c))
  | [] => rfl
  | c :: cs => by
    by_cases h : 0 < c
    · simp [h, filt_eq cs]
    · simp [h, filt_eq cs]
theorem filt_range (ns : List Int) : (List.range' 0 ns.length).filterMap (fun j => if 0 < ns.getD j 0 then some (ns.getD j 0) else none) = ns.filter (fun c => decide (0 < c)) := by
  rw [← filt_eq, ← List.range_eq_range']
  conv => rhs; rw [← range_getD ns]
  rw [List.filterMap_map]
  rfl

/- what the law tells of a row of lengths -/
noncomputable def toldF (ns : List Int) (lo : Nat) (out : List Int) : Int :=
  let N := ns.sum
  let pw := 2 ^ (bitsOf ns out).toNat * pwrF ns
  let many : Int := (usedF 0 ns).length
  let over : Int := lo - evenF many
  if nbF ns out pw = false then 0
  else if 0 < over ∧ pw * (2 ^ over.toNat - 1) ^ N.toNat ≥ 2 ^ (over * N + N).toNat * N ^ N.toNat then 0
  else if (lo : Int) ≥ many - 1 ∧ pw ≥ 2 ^ N.toNat * N ^ N.toNat then 0
  else bitsOf ns out

/- lengths that a row of counts may have -/
structure Fit (ns out : List Int) : Prop where
  len : out.length = ns.length
  le : ∀ l ∈ out, 0 ≤ l ∧ l ≤ 20
  pos : ∀ (i : Nat) (c l : Int), ns[i]? = some c → out[i]? = some l → 0 < c → 1 ≤ l

theorem ite_dec {p : Prop} {_ : Decidable p} {A B : Prop} (h1 : p → A) (h2 : ¬ p → B) : if decide p = true then A else B := by
  by_cases h : p
  · rw [if_pos (decide_eq_true h)]; exact h1 h
  · rw [if_neg (by simp [h])]; exact h2 h

/- an if that goes on to the next statement only with P, the frame and the ledger as they were -/
noncomputable def CutP (b : Heap) (L : Addr) (m : Str → Option Value) (l : List (Addr × Obj)) (P : Prop) (R : Flow → Shared → Prop) (g : Array GenState) (d : Drawn) (os : OsState) (fl : Flow) (s' : Shared) : Prop :=
  match fl with
  | .ret v => R (.ret v) s'
  | .next => P ∧ ∃ h' tk, s' = ⟨h', g, d, tk, os⟩ ∧ Fr b L h' m ∧ News b L h' l
  | _ => False
theorem cutN {prog : Program} {w : World} {A : Around} {E : Value → Shared → Prop} {p : Sem Flow} {Q R : Flow → Shared → Prop} {b hp : Heap} {L : Addr} {m : Str → Option Value} {l : List (Addr × Obj)} {g : Array GenState} {d : Drawn} {tk₀ : Nat} {os : OsState} (P : Prop)
    (F : Fr b L hp m) (N : News b L hp l) (h : wpAny (model prog w) A p (CutP b L m l P R g d os) E ⟨hp, g, d, tk₀, os⟩) (hQ : ∀ v s', R (.ret v) s' → Q (.ret v) s')
    (k : P → ∀ h' tk, Fr b L h' m → News b L h' l → Q .next ⟨h', g, d, tk, os⟩) : wpAny (model prog w) A p Q E ⟨hp, g, d, tk₀, os⟩ :=
  wpAny_mono h (fun fl s' q => by
    cases fl with
    | ret v => exact hQ v s' q
    | next =>
      obtain ⟨hP, h', tk, rfl, F', N'⟩ := q
      exact k hP h' tk F' N'
    | brk => exact q.elim
    | cont => exact q.elim) fun _ _ e => e

theorem bs2 {a b l : Nat} (h1 : a ≤ 8000) (h2 : b ≤ 400) (h3 : l ≤ 20) : 2 * a + 1 + (10 * b + l + 1) ≤ 30000 := by omega

theorem told_spec (w : World) {c : Addr} {vs : List Value} {ns : List Int} {lo : Nat} {tl : Tok} (hi : IntsAre vs ns) (hn : ns.length ≤ 20) (hc : ∀ c ∈ ns, 0 ≤ c ∧ c ≤ 1000) (hs : ns.sum ≤ 400) (h2 : 2 ≤ (usedF 0 ns).length) (h10 : (usedF 0 ns).length ≤ 10)
    (hlo : 1 ≤ lo ∧ lo ≤ 16) (hroom : (usedF 0 ns).length ≤ 2 ^ lo)
    (hfit : ∀ rows : List (Int × Int), rows.Perm (usedF 0 ns) → rows.Pairwise (fun a b => keyOf a < keyOf b) → Fit ns (placeF rows (packF (rows.map (·.1)) lo) (List.replicate ns.length 0))) :
   Spec w 10 136 [.ref c, .int (lo : Int) tl] (fun h => h.IsList c vs.toArray)
    (fun v own => own = [] ∧ ∃ rows t, rows.Perm (usedF 0 ns) ∧ rows.Pairwise (fun a b => keyOf a < keyOf b) ∧ v = .int (toldF ns lo (placeF rows (packF (rows.map (·.1)) lo) (List.replicate ns.length 0))) t) := by
  unfold Spec
  k_fill
  intro dp un gd cn cs a ccd cl outer A₀ base h₀ L m news s Q E mean mg mb hd_B hd_F hd_X hd_N hd_T hd_k hdp hun hp1 hret
  k_dflt (refine' enter (by assumption) (by assumption) (by assumption) (by assumption) (by assumption) rfl rfl (by assumption) ?k6 ?k7 ?k8 ?k9 ?kB ?c2 ?c3 ?c4 ?c5 (by assumption) ?_; (case k6 => k_is); (case k7 => k_is); (case k8 => exact rm0 (by assumption)); (case k9 => exact BindsTo.of_eq rfl); (case c5 => decide); (case kB => exact locs rfl); (case c2 => exact rfl); (case c3 => exact rfl); (case c4 => exact rfl))
  clear hd_B hd_F hd_N hd_X hd_T hret; intro R g₀ d₀ os₀ hR hN L' h' tk' F' N' B' X' T'; (try dsimp only)
  k_steps
  unfold Stop
  k_dflt (refine Spec.use (least_spec w hi hn hc h2 h10 hlo hroom) B' F' X' N' T' (by first | exact rfl | assumption) (by first | exact rm hdp (by decide) | ktr_room) (by first | exact ru hun (by decide) | ktr_units) (hp1.at fun o e => F'.keep _ o e) ?_)
  intro v own h9 tk9 hJ0 happ F9 N9
  refine ex4 hJ0 fun D k out rows hJ => an5 hJ fun e1 e2 hperm hpair hout => ?_
  replace N9 := e2 ▸ N9
  clear hJ hJ0 e2
  subst e1
  obtain ⟨f1, f2, f3⟩ := hfit rows hperm hpair
  clear F' N' happ
  dsimp only [List.cons_append, List.nil_append] at N9
  have hvl := hi.length
  k_steps
  unfold Stop
  rename Fr _ _ _ _ => F1
  rename News _ _ _ _ => N1
  refine LCt.ListComp_T (F₀ := F1) (by with_unfolding_all rfl) (by decide) (by rfl) (by decide) (by rfl) ?_
  k_steps
  refine LCt.CompSrcT.base rfl F1 N1 hp1 (by rw [List.size_toArray, sizeLine_eq]; omega) fun g => ?_
  refine comp_tests (fun j => if 0 < ns.getD j 0 then some (ns.getD j 0) else none) (.inl hp1) _ _ [] [] .nil ?_ ?_
  · clear F1 N1
    rintro j v I oI C oC D m₂ h tk E' ys _ hj hv hC hx F N off ne
    obtain ⟨t1, rfl⟩ : ∃ t, v = .int (ns.getD j 0) t := by
      obtain ⟨t, q2⟩ := hi.get j (ns.getD j 0) (by rw [List.size_toArray] at hj; simp [show j < ns.length by omega])
      exact ⟨t, by rw [List.getElem?_toArray] at hv; exact Option.some.inj (hv.symm.trans q2)⟩
    generalize ns.getD j 0 = n at hx
    k_steps
    refine ⟨⟨_, _, rfl, F, N⟩, ?_⟩
    simp only [decide_eq_true_eq]
    by_cases hlt : 0 < n
    · rw [if_pos hlt]
      refine ⟨_, if_pos hlt, ?_⟩
      k_steps
      exact OneInt.intro rfl (by assumption) (by assumption)
    · rw [if_neg hlt]
      exact if_neg hlt
  · intro ys hys
    rw [List.nil_append, List.size_toArray, hvl, filt_range] at hys
    have hfl := used_len ns 0
    generalize hM : ns.filter (fun c => decide (0 < c)) = fl at hys hfl
    have hfl10 : fl.length ≤ 10 := by omega
    clear F1 N1
    k_steps
    unfold Stop
    rename Fr _ _ _ _ => F1
    rename News _ _ _ _ => N1
    have hcl : ∀ (i : Nat) (c l : Int), ns[i]? = some c → (placeF rows (packF (rows.map (·.1)) lo) (List.replicate ns.length 0))[i]? = some l → 0 ≤ c ∧ c ≤ 1000 ∧ (0 < c → 1 ≤ l ∧ l ≤ 20) := fun i c l e1 e2 => by
      have q1 := hc c (List.mem_of_getElem? e1)
      have q2 := f2 l (List.mem_of_getElem? e2)
      exact ⟨q1.1, q1.2, fun hp => ⟨f3 i c l e1 e2 hp, q2.2⟩⟩
    generalize hP : placeF rows (packF (rows.map (·.1)) lo) (List.replicate ns.length 0) = P at hout f1 f2 f3 hcl
    k_dflt (refine Spec.use (power_spec w hi hout f1.symm hn hcl f2 hs) B' F1 X' N1 T' (by first | exact rfl | assumption) (by first | exact rm hdp (by decide) | ktr_room) (by first | exact ru hun (by decide) | ktr_units) ⟨hp1.at fun o e => F1.keep _ o e, ?_⟩ ?_)
    · exact ⟨_, N1.get (.tail _ (.tail _ (.head _))), rfl, _, rfl⟩
    intro v own h8 tk8 hJ0 happ F8 N8
    refine an2 hJ0 fun e1 hJ => Exists.elim hJ fun t8 e2 => ?_
    replace N8 := e1 ▸ N8
    clear hJ hJ0 e1
    subst e2
    clear F1 N1 happ
    dsimp only [List.nil_append] at N8
    have hb := bitsOf_le ns P 20 (by decide) (fun c h => (hc c h).1) f2
    refine an3 hb fun hb1 hb2 hN0 => ?_
    clear hb
    have hpb0 : Builtin.Int.intBits (2 ^ (bitsOf ns P).toNat * pwrF ns) ≤ 30000 := by
      have := (pwrF_bits ns hc).1
      exact Nat.le_trans (intBits_mul_le (intBits_pow_le (m := 2) (by decide) _) this) (bs2 (Int.toNat_le.mpr (by omega)) (Int.toNat_le.mpr hs) hn)
    generalize hPW : 2 ^ (bitsOf ns P).toNat * pwrF ns = pw at hpb0
    k_steps
    unfold Stop
    rename Fr _ _ _ _ => F1
    rename News _ _ _ _ => N1
    k_dflt (refine Spec.use (even_spec w (n := (fl.length : Int)) (by omega) (by omega)) B' F1 X' N1 T' (by first | exact rfl | assumption) (by first | exact rm hdp (by decide) | ktr_room) (by first | exact ru hun (by decide) | ktr_units) trivial ?_)
    intro v own h7 tk7 hJ0 happ F7 N7
    refine an2 hJ0 fun e1 hJ => Exists.elim hJ fun t7 e2 => ?_
    replace N7 := e1 ▸ N7
    clear hJ hJ0 e1
    subst e2
    clear F1 N1 happ
    dsimp only [List.nil_append] at N7
    have hev : 0 ≤ evenF (fl.length : Int) ∧ evenF (fl.length : Int) ≤ 4 := by
      unfold evenF
      repeat' split
      all_goals omega
    generalize hEV : evenF (fl.length : Int) = ev at hev
    k_steps
    unfold Stop
    rename Fr _ _ _ _ => F1
    rename News _ _ _ _ => N1
    k_dflt (refine Spec.use (not_below_spec w (p := pw) hi hout f1.symm hn hc f2 hs hN0) B' F1 X' N1 T' (by first | exact rfl | assumption) (by first | exact rm hdp (by decide) | ktr_room) (by first | exact ru hun (by decide) | ktr_units) ⟨hp1.at fun o e => F1.keep _ o e, ?_⟩ ?_)
    · exact ⟨_, N1.get (.tail _ (.tail _ (.tail _ (.head _)))), rfl, _, rfl⟩
    intro v own h6 tk6 hJ0 happ F6 N6
    refine an2 hJ0 fun e1 e2 => ?_
    replace N6 := e1 ▸ N6
    clear hJ0 e1
    subst e2
    clear F1 N1 happ
    dsimp only [List.nil_append] at N6
    obtain ⟨ov, hov⟩ : ∃ ov, (lo : Int) - ev = ov := ⟨_, rfl⟩
    rw [hov] at F6
    have htold : toldF ns lo P = if nbF ns P pw = false then 0
        else if 0 < ov ∧ pw * (2 ^ ov.toNat - 1) ^ ns.sum.toNat ≥ 2 ^ (ov * ns.sum + ns.sum).toNat * ns.sum ^ ns.sum.toNat then 0
        else if (lo : Int) ≥ (fl.length : Int) - 1 ∧ pw ≥ 2 ^ ns.sum.toNat * ns.sum ^ ns.sum.toNat then 0 else bitsOf ns P := by
      unfold toldF
      dsimp only
      rw [hPW, hfl, hEV, hov]
    clear hPW hfl hEV
    have h16 : 0 < ov → 1 ≤ (2 : Int) ^ ov.toNat ∧ (2 : Int) ^ ov.toNat ≤ 65536 := fun h => by
      have a1 : 2 ^ ov.toNat ≤ 2 ^ 16 := Nat.pow_le_pow_right (by decide) (by omega)
      have a2 : 0 < 2 ^ ov.toNat := Nat.two_pow_pos _
      have a3 : (2 : Int) ^ ov.toNat = ((2 ^ ov.toNat : Nat) : Int) := by simp
      rw [a3]
      omega
    have hNb : Builtin.Int.intBits (ns.sum ^ ns.sum.toNat) ≤ 4001 := Nat.le_trans (pow_bits _ hN0 (by omega) _) (by omega)
    have m4 : IntMulOk (2 ^ ns.sum.toNat) (ns.sum ^ ns.sum.toNat) := mulOk_of_bits (intBits_pow_le (m := 2) (by decide) _) hNb (by omega)
    generalize hNN : ns.sum = S at *
    have hov1 : ov ≤ 16 := by omega
    cases hnb : nbF ns P pw with
    | false =>
      rw [hnb, if_pos rfl] at htold
      k_steps
      rename Fr _ _ _ _ => F1
      exact hR _ _ (pend [] F1 (fun p hp => absurd hp List.not_mem_nil) ⟨rfl, rows, _, hperm, hpair, by rw [hP, htold]⟩)
    | true =>
      rw [hnb, if_neg (by decide)] at htold
      k_steps
      unfold Stop
      rename Fr _ _ _ _ => F1
      rename News _ _ _ _ => N1
      refine cutN (¬ (0 < ov ∧ pw * (2 ^ ov.toNat - 1) ^ S.toNat ≥ 2 ^ (ov * S + S).toNat * S ^ S.toNat)) F1 N1 ?_ (fun _ _ q => q) fun hP2 h5 tk5 F5 N5 => ?_
      · have mk3 : (3 : Nat) = 3 := rfl
        by_cases h0 : 0 < ov
        · obtain ⟨p1, p2⟩ := h16 h0
          have m1 : IntMulOk pw ((2 ^ ov.toNat - 1) ^ S.toNat) := mulOk_of_bits hpb0 (intBits_pow_le (m := 17) (bits_of_le (by omega) (by omega)) _) (by omega)
          have m2 : IntMulOk ov S := mulOk_of_bits (bits_of_le (n := 10) (by omega) (by omega)) (bits_of_le (n := 10) hN0 (by omega)) (by decide)
          have hoS : 0 ≤ ov * S ∧ ov * S ≤ 6400 := ⟨Int.mul_nonneg (by omega) hN0, by
            have q1 : ov * S ≤ 16 * S := Int.mul_le_mul_of_nonneg_right hov1 hN0
            omega⟩
          have m3 : IntMulOk (2 ^ (ov * S + S).toNat) (S ^ S.toNat) := mulOk_of_bits (intBits_pow_le (m := 2) (by decide) _) hNb (by omega)
          have he1 : 0 ≤ ov * S + S := by omega
          have he2 : ov * S + S ≤ 1000000 := by omega
          have hab : ((2 : Int) ^ ov.toNat - 1).natAbs < 2 ^ 64 := by omega
          have hov0 : 0 ≤ ov := by omega
          have hov6 : ov ≤ 1000000 := by omega
          have hS6 : S ≤ 1000000 := by omega
          k_steps
          unfold Stop
          have mk : (5 : Nat) = 5 := rfl
          have mk7 : (7 : Nat) = 7 := rfl
          (first | (k_unfold; (try dsimp only)) | (k_end; wrow_close) | walk1 | (dsimp only; walk1) | (leave1; walk_say "STEP leave1"; try dsimp only) | fail "no step")
          (first | (k_unfold; (try dsimp only)) | (k_end; wrow_close) | walk1 | (dsimp only; walk1) | (leave1; walk_say "STEP leave1"; try dsimp only) | fail "no step")
          refine ite_dec (fun z1 => ?_) (fun z1 => ?_)
          · rw [if_pos ⟨h0, z1⟩] at htold
            clear z1 p1 p2 m1 m2 m3 hoS he1 he2 hab hov0 hov6 hS6 mk mk7 m4 h16 hNb
            k_steps
            rename Fr _ _ _ _ => F1
            exact hR _ _ (pend [] F1 (fun p hp => absurd hp List.not_mem_nil) ⟨rfl, rows, _, hperm, hpair, by rw [hP, htold]⟩)
          · clear p1 p2 m1 m2 m3 hoS he1 he2 hab hov0 hov6 hS6 h16 hNb
            k_steps
            rename Fr _ _ _ _ => F2
            rename News _ _ _ _ => N2
            exact ⟨fun h => z1 h.2, _, _, rfl, F2, N2⟩
        · k_steps
          exact ⟨fun h => h0 h.1, _, _, rfl, F1, N1⟩
      · rw [if_neg hP2] at htold
        clear F1 N1 h16 hNb hP2
        (try dsimp only)
        k_steps
        unfold Stop
        refine cutN (¬ ((lo : Int) ≥ (fl.length : Int) - 1 ∧ pw ≥ 2 ^ S.toNat * S ^ S.toNat)) F5 N5 ?_ (fun _ _ q => q) fun hP3 h4 tk4 F4 N4 => ?_
        · have mk3 : (3 : Nat) = 3 := rfl
          have mk : (5 : Nat) = 5 := rfl
          have mk7 : (7 : Nat) = 7 := rfl
          k_steps
          · rename Fr _ _ _ _ => F1
            exact hR _ _ (pend [] F1 (fun p hp => absurd hp List.not_mem_nil) ⟨rfl, rows, _, hperm, hpair, by rw [hP, htold, if_pos (by constructor <;> assumption)]⟩)
          all_goals
            rename Fr _ _ _ _ => F1
            rename News _ _ _ _ => N1
            exact ⟨(by rintro ⟨z1, z2⟩; first | exact absurd z1 (by assumption) | exact absurd z2 (by assumption)), _, _, rfl, F1, N1⟩
        · rw [if_neg hP3] at htold
          clear F5 N5 hP3
          (try dsimp only)
          k_steps
          unfold Stop
          rename Fr _ _ _ _ => F1
          rename News _ _ _ _ => N1
          k_dflt (refine Spec.use (total_bits_spec w hi hout f1.symm hn hcl) B' F1 X' N1 T' (by first | exact rfl | assumption) (by first | exact rm hdp (by decide) | ktr_room) (by first | exact ru hun (by decide) | ktr_units) ⟨hp1.at fun o e => F1.keep _ o e, ?_⟩ ?_)
          · exact ⟨_, N1.get (.tail _ (.tail _ (.tail _ (.head _)))), rfl, _, rfl⟩
          intro v own h5 tk5 hJ0 happ F5 N5
          refine an2 hJ0 fun e1 hJ => Exists.elim hJ fun t5 e2 => ?_
          replace N5 := e1 ▸ N5
          clear hJ hJ0 e1
          subst e2
          exact hR _ _ (pend [] F5 (fun p hp => absurd hp List.not_mem_nil) ⟨rfl, rows, t5, hperm, hpair, by rw [hP, htold]⟩)
end

section
/- the heap without one object -/
theorem without (h : Heap) (J : Addr) : ∃ b : Heap, b.objs.size = h.objs.size ∧ b.get? J = none ∧ ∀ a, @Ne Nat a J → b.get? a = h.get? a := by
  refine ⟨h.update J fun o => ⟨o.cls, o.dict, .freed, o.slots⟩, Heap.size_after_update .., ?_, fun a ha => Heap.get?_update_other h _ (Ne.symm ha)⟩
  cases e : (h.update J fun o => ⟨o.cls, o.dict, .freed, o.slots⟩).get? J with
  | none => rfl
  | some o =>
    exfalso
    obtain ⟨e1, e2⟩ := Heap.get?_some_iff.mp e
    cases h with
    | mk objs l =>
    simp only [Heap.update, Array.getElem?_modify, if_true] at e1
    cases hq : objs[J]? with
    | none => rw [hq] at e1; cases e1
    | some x =>
      rw [hq] at e1
      have e3 := Option.some.inj e1
      rw [← e3] at e2
      cases e2

/- what stands is in the smaller heap too -/
structure Wo (b h : Heap) (J : Addr) : Prop where
  size : b.objs.size = h.objs.size
  none : b.get? J = none
  same : ∀ a, @Ne Nat a J → b.get? a = h.get? a
theorem Wo.up {b h : Heap} {J : Addr} (x : Wo b h J) : ∀ a o, b.get? a = some o → h.get? a = some o := fun a o e => by
  by_cases hj : a = J
  · rw [hj, x.none] at e; cases e
  · rw [← x.same a hj]; exact e
theorem Wo.down {b h h₀ : Heap} {J : Addr} (x : Wo b h J) (hj : h₀.get? J = Option.none) (k : ∀ a o, h₀.get? a = some o → h.get? a = some o) : ∀ a o, h₀.get? a = some o → b.get? a = some o := fun a o e => by
  by_cases hj' : a = J
  · rw [hj', hj] at e; cases e
  · rw [x.same a hj']; exact k a o e
theorem Wo.fr {b h h₀ : Heap} {J L : Addr} {m : Str → Option Value} (x : Wo b h J) (hj : h₀.get? J = Option.none) (hL : @Ne Nat J L) (F : Fr h₀ L h m) : Fr h₀ L b m := by
  obtain ⟨oL, es, ep, hL', hLd, hLk, hLf⟩ := F.ns
  exact ⟨⟨oL, es, ep, (x.same L hL.symm).trans hL', hLd, hLk, hLf⟩, x.down hj F.keep, F.above⟩

/- a def that changes the object at J, and nothing else that stood -/
noncomputable def SpecM (w : World) (k : Nat) (f : Addr) (J : Addr) (args : List Value) (Pre : Obj → Heap → Prop) (Post : Value → List (Addr × Obj) → Prop) : Prop :=
  ∀ (dp un : Nat) (gd : Option (List Code)) (cn : Str) (cs : Scope) (a : Addr) (ccd : Value) (cl : List (Str × Addr)) (outer : List Env) (A₀ : Around) (base h₀ : Heap) (L : Addr) (m : Str → Option Value)
    (news news' : List (Addr × Obj)) (jo : Obj) (s : Shared) (Q E : Value → Shared → Prop) (mean : ExcName → Option Value) (mg mb : Str → Option Value),
    Below A₀ base outer h₀ → Fr h₀ L s.heap m → (hd.heap_39 w.params).In h₀ → News h₀ L s.heap news → Top hd.view_39 LO mean mg mb h₀ → cs.kind = .function →
    dp + k < recursionLimit → un + 20 * k < cLine → (J, jo) ∈ news → Pre jo s.heap → News h₀ L s.heap news' → Off J news' →
    (∀ v own h' tk', Post v own → (∀ p ∈ own, p.1 = J ∨ Off p.1 news) → Fr h₀ L h' m → News h₀ L h' (own ++ news') → Q v { s with heap := h', toks := tk' }) →
    wpAny (model PySem.Challenge.rw_tg0029_01.row.prog w) (ktrTop dp un gd cn cs L a ccd cl outer) (call (.ref f) args) Q E s

theorem SpecM.use {w : World} {k : Nat} {f : Addr} {J : Addr} {args : List Value} {Pre : Obj → Heap → Prop} {Post : Value → List (Addr × Obj) → Prop} (C : SpecM w k f J args Pre Post)
    {dp un : Nat} {gd : Option (List Code)} {cn : Str} {cs : Scope} {a : Addr} {ccd : Value} {cl : List (Str × Addr)} {outer : List Env} {A₀ : Around} {base h₀ : Heap} {L : Addr} {m : Str → Option Value}
    {news news' : List (Addr × Obj)} {jo : Obj} {hp : Heap} {g : Array GenState} {d : Drawn} {tk₀ : Nat} {os : OsState} {Q E : Value → Shared → Prop} {mean : ExcName → Option Value} {mg mb : Str → Option Value}
    (B : Below A₀ base outer h₀) (F : Fr h₀ L hp m) (X : (hd.heap_39 w.params).In h₀) (N : News h₀ L hp news) (T : Top hd.view_39 LO mean mg mb h₀) (hk : cs.kind = .function)
    (hd : dp + k < recursionLimit) (hu : un + 20 * k < cLine) (hJ : (J, jo) ∈ news) (hpre : Pre jo hp) (N₂ : News h₀ L hp news') (hO : Off J news')
    (hret : ∀ v own h' tk', Post v own → (∀ p ∈ own, p.1 = J ∨ Off p.1 news) → Fr h₀ L h' m → News h₀ L h' (own ++ news') → Q v ⟨h', g, d, tk', os⟩) :
    wpAny (model PySem.Challenge.rw_tg0029_01.row.prog w) (ktrTop dp un gd cn cs L a ccd cl outer) (call (.ref f) args) Q E ⟨hp, g, d, tk₀, os⟩ :=
  C _ _ _ _ _ _ _ _ _ _ _ _ _ _ _ _ _ ⟨hp, g, d, tk₀, os⟩ _ _ _ _ _ B F X N T hk hd hu hJ hpre N₂ hO hret

section
variable {prog : Program} {w : World} {A₀ A : Around} {s : Shared} {base h₀ : Heap} {outer : List Env} {L J : Addr} {jo : Obj} {m : Str → Option Value} {env : Env} {news news' : List (Addr × Obj)}
    {Q E : Value → Shared → Prop} {name qual : Str} {params : Arguments} {body : List Stmt} {scope : Scope} {dV kV doc pm cdv ct oc : Value} {an od : Option Addr} {osl : Array (Option Value)} {f : Addr} {args : List Value} {binds : List (Str × Value)}
    {K : Frag} {p : Program} {loose : List Str} {mean : ExcName → Option Value} {mg mb : Str → Option Value} {Post : Value → List (Addr × Obj) → Prop}

theorem backM {b : Heap} (W : Wo b s.heap J) (F : Fr h₀ L s.heap m) (N : News h₀ L s.heap news) (hJ : (J, jo) ∈ news) (N₂ : News h₀ L s.heap news') (hO : Off J news')
    (hret : ∀ v own h' tk', Post v own → (∀ p ∈ own, p.1 = J ∨ Off p.1 news) → Fr h₀ L h' m → News h₀ L h' (own ++ news') → Q v { s with heap := h', toks := tk' })
    {v : Value} {s' : Shared} (hl : PEnd b Post s.gens s.drawn s.os v s') : Q v s' := by
  obtain ⟨h', tk, L', m', own, rfl, F', N', hP⟩ := hl
  obtain ⟨_, hjL, hj0⟩ := N _ hJ
  have hj0 : h₀.get? J = none := hj0
  have F₀ := W.fr hj0 hjL F
  obtain ⟨oL, es, ep, hL, hLd, hLk, hLf⟩ := F₀.ns
  have fresh : ∀ p ∈ own, h₀.get? p.1 = none := fun p hp => by
    cases z : h₀.get? p.1 with
    | none => rfl
    | some o => have := (N' p hp).2.2; rw [F₀.keep _ _ z] at this; cases this
  refine hret v own h' tk hP (fun p hp => ?_) ⟨⟨oL, es, ep, F'.keep L oL hL, hLd, hLk, hLf⟩, fun b o e => F'.keep b o (F₀.keep b o e), F.above⟩ fun p hp => ?_
  · by_cases hpj : p.1 = J
    · exact .inl hpj
    · refine .inr (off_of fun q hq e => ?_)
      have h1 := (N' p hp).2.2
      rw [W.same _ hpj, ← e, (N q hq).1] at h1
      cases h1
  · rcases List.mem_append.mp hp with q | q
    · refine ⟨(N' p q).1, fun e => ?_, fresh p q⟩
      have := (N' p q).2.2; rw [e, hL] at this; cases this
    · refine ⟨F'.keep _ _ ?_, (N₂ p q).2.1, (N₂ p q).2.2⟩
      rw [W.same _ (off_ne hO p q)]
      exact (N₂ p q).1

theorem enterM 
    (B : Below A₀ base outer h₀) (F : Fr h₀ L s.heap m) (X : K.In h₀) (N : News h₀ L s.heap news) (T : Top p loose mean mg mb h₀) (hA : A.frames = some (env :: outer)) (hf : env.frame = some L) (hke : env.scope.kind = .function)
    (ho : K.lookup f = some ⟨oc, od, .func (fnOf name qual params body scope dV kV doc pm an cdv ct), osl⟩) (hcd : codeIn K cdv qual = true) (hroom : A.depth < recursionLimit)
    (hbind : BindsTo s (fnOf name qual params body scope dV kV doc pm an cdv ct) ⟨args, []⟩ binds) (hloc : ∀ y ∈ binds, scope.names.lookup y.1 = some .local)
    (hco : scope.isCoroutine = false) (hgen : scope.isGenerator = false) (hk : scope.kind = .function)
    (hcell : ∀ x ∈ scope.names, x.2 ≠ .cell) (hJ : (J, jo) ∈ news) (N₂ : News h₀ L s.heap news') (hO : Off J news')
    (hret : ∀ v own h' tk', Post v own → (∀ p ∈ own, p.1 = J ∨ Off p.1 news) → Fr h₀ L h' m → News h₀ L h' (own ++ news') → Q v { s with heap := h', toks := tk' })
    (h : ∀ b (R : Flow → Shared → Prop) (g : Array GenState) (d : Drawn) (os : OsState), (∀ v s', PEnd b Post g d os v s' → R (.ret v) s') → (∀ s', PEnd b Post g d os .none s' → R .next s') → ∀ L' h₁ tk, Wo b s.heap J → Fr b L' h₁ (fun y => binds.reverse.lookup y) → News b L' h₁ [(J, jo)] → Below A base (env :: outer) b → K.In b → Top p loose mean mg mb b →
      wpAny (model prog w) (A.deeper (envOf qual scope L' f cdv)) (execs body (envOf qual scope L' f cdv))
        R
        (fun _ _ => False)
        ⟨h₁, g, d, tk, os⟩) :
    wpAny (model prog w) A (call (.ref f) args) Q E s := by
  obtain ⟨b, w1, w2, w3⟩ := without s.heap J
  have W : Wo b s.heap J := ⟨w1, w2, w3⟩
  obtain ⟨hj1, hjL, hj0⟩ := N _ hJ
  have hj0 : h₀.get? J = none := hj0
  have F₀ := W.fr hj0 hjL F
  refine wpAny_call ?_
  have B₁ := pushX B F₀ hf hke
  have B₂ : Below A base (env :: outer) b := ⟨hA, B₁.stays, B₁.frames⟩
  refine codeAny_call_def (fd := fnOf name qual params body scope dV kV doc pm an cdv ct) (body := body) (binds := binds) hroom ((X.keeps F.keep) _ _ ho) rfl (T.nolimit.keeps F.keep) (codeRec_of (X.keeps F.keep) hcd) rfl hbind hcell hloc (fun h₁ hns hk₁ => ?_) hco hgen hk
  refine wpAny_mono (h b (fun fl s' => PEnd b Post s.gens s.drawn s.os (match fl with | .ret v => v | _ => .none) s') s.gens s.drawn s.os (fun _ _ q => q) (fun _ q => q) _ h₁ _ W ⟨hns, fun a o e => hk₁ a o (W.up a o e), Nat.le_of_eq w1⟩ (fun p hp => ?_) B₂ (X.keeps F₀.keep) (T.keeps F₀.keep)) (fun fl s' hl => ?_) fun _ _ y => y.elim
  · rw [List.mem_singleton.mp hp]
    exact ⟨hk₁ _ _ hj1, Nat.ne_of_lt (Heap.lt_size hj1), w2⟩
  · exact backM W F N hJ N₂ hO hret hl

theorem enterMC 
    (B : Below A₀ base outer h₀) (F : Fr h₀ L s.heap m) (X : K.In h₀) (N : News h₀ L s.heap news) (T : Top p loose mean mg mb h₀) (hA : A.frames = some (env :: outer)) (hf : env.frame = some L) (hke : env.scope.kind = .function)
    (ho : K.lookup f = some ⟨oc, od, .func (fnOf name qual params body scope dV kV doc pm an cdv ct), osl⟩) (hcd : codeIn K cdv qual = true) (hroom : A.depth < recursionLimit)
    (hbind : BindsTo s (fnOf name qual params body scope dV kV doc pm an cdv ct) ⟨args, []⟩ binds)
    (hkind : (binds.all fun y => scope.names.lookup y.1 == some .local || scope.names.lookup y.1 == some .cell) = true)
    (hnd : ((cellsFrom 0 scope.names []).map (·.1)).Nodup)
    (hco : scope.isCoroutine = false) (hgen : scope.isGenerator = false) (hk : scope.kind = .function)
    (hJ : (J, jo) ∈ news) (N₂ : News h₀ L s.heap news') (hO : Off J news')
    (hret : ∀ v own h' tk', Post v own → (∀ p ∈ own, p.1 = J ∨ Off p.1 news) → Fr h₀ L h' m → News h₀ L h' (own ++ news') → Q v { s with heap := h', toks := tk' })
    (h : ∀ b (R : Flow → Shared → Prop) (g : Array GenState) (d : Drawn) (os : OsState), (∀ v s', PEnd b Post g d os v s' → R (.ret v) s') → (∀ s', PEnd b Post g d os .none s' → R .next s') → ∀ L' h₁ tk cells, Wo b s.heap J → @LT.lt Nat _ J L' → Fr b L' h₁ (bindL (envOfC qual scope L' f cdv).kindOf binds fun _ => none) → News b L' h₁ (cells ++ [(J, jo)]) →
      CellsAre (bindC (envOfC qual scope L' f cdv).kindOf binds fun _ => none) (cellsFrom (L' + 1) scope.names []) cells → Below A base (env :: outer) b → K.In b → Top p loose mean mg mb b →
      wpAny (model prog w) (A.deeper (envOfC qual scope L' f cdv)) (execs body (envOfC qual scope L' f cdv))
        R
        (fun _ _ => False)
        ⟨h₁, g, d, tk, os⟩) :
    wpAny (model prog w) A (call (.ref f) args) Q E s := by
  obtain ⟨b, w1, w2, w3⟩ := without s.heap J
  have W : Wo b s.heap J := ⟨w1, w2, w3⟩
  obtain ⟨hj1, hjL, hj0⟩ := N _ hJ
  have hj0 : h₀.get? J = none := hj0
  have F₀ := W.fr hj0 hjL F
  refine wpAny_call ?_
  have B₁ := pushX B F₀ hf hke
  have B₂ : Below A base (env :: outer) b := ⟨hA, B₁.stays, B₁.frames⟩
  refine codeAny_call_function (fd := fnOf name qual params body scope dV kV doc pm an cdv ct) hroom ((X.keeps F.keep) _ _ ho) rfl hco hgen rfl (codeRec_of (X.keeps F.keep) hcd) (hbind _ _ _ _ ?_)
  refine wpAny_newFunctionEnv_cells hk (kindsX hkind _) fun env' he s' x => ?_
  subst he
  refine ⟨(T.nolimit.keeps F.keep).keeps x.toInCall.keep, codeAny_func ?_⟩
  obtain ⟨h₁, tk, rfl, _⟩ := x.done
  have hk₁ := x.toInCall.keep
  obtain ⟨cells, NC, Y⟩ := Cl.news (h₀ := s.heap) (Nat.le_refl _) fun n c hm => ⟨x.cell n c (lookup_of_mem_nodup (cellsFrom_names scope.names 0 (s.heap.objs.size + 1) [] [] rfl ▸ hnd) hm), x.above n c hm⟩
  refine wpAny_mono (h b (fun fl s' => PEnd b Post s.gens s.drawn s.os (match fl with | .ret v => v | _ => .none) s') s.gens s.drawn s.os (fun _ _ q => q) (fun _ q => q) s.heap.objs.size h₁ tk cells W (Heap.lt_size hj1) ⟨x.toInCall.ns, fun a o e => hk₁ a o (W.up a o e), Nat.le_of_eq w1⟩ (fun p hp => ?_) Y B₂ (X.keeps F₀.keep) (T.keeps F₀.keep)) (fun fl s' hl => ?_) fun _ _ y => y.elim
  · rcases List.mem_append.mp hp with hp | hp
    · refine ⟨(NC p hp).1, (NC p hp).2.1, ?_⟩
      cases z : b.get? p.1 with
      | none => rfl
      | some o => have := (NC p hp).2.2; rw [W.up _ _ z] at this; cases this
    · rw [List.mem_singleton.mp hp]
      exact ⟨hk₁ _ _ hj1, Nat.ne_of_lt (Heap.lt_size hj1), w2⟩
  · exact backM W F N hJ N₂ hO hret hl
end
end

section
theorem walk_off_E11 : True := by
  w_top off
  trivial
local macro_rules | `(tactic| walk_at "binaryOp Pow int int") => `(tactic| refine stop_ ?_)
/- the law's jar: a number, a list, a counter -/
noncomputable def Jar (r : Addr) (c : Int) (jo : Obj) : Prop := ∃ A C t1 t2 k, jo = listOf (List.toArray [.int A t1, .ref r, .int C t2]) k ∧ 0 ≤ A ∧ 0 ≤ C ∧ C ≤ c

local macro_rules | `(tactic| walk_at "eval IfExp") => `(tactic| ((fail_if_success (have : (9 : Nat) = 9 := by assumption)); refine stop_ ?_))

section
variable {prog : Program} {w : World} {A : Around} {E : Value → Shared → Prop} {s : Shared}
theorem sq_int {X : Int} {t u : Tok} {Q : Value → Shared → Prop} (h1 : 0 ≤ X) (h2 : X ≤ 10000000) (h : ∀ Y, 0 ≤ Y → Q (.int Y s.toks) { s with toks := s.toks + 1 }) :
    wpAny (model prog w) A (binaryOp .Pow (.int X t) (.int 2 u)) Q E s :=
  pow_int_small (by decide) (by decide) (by omega) (h _ (by rw [show (2 : Int).toNat = 2 by decide, Int.pow_succ, Int.pow_succ, Int.pow_zero, Int.one_mul]; exact Int.mul_nonneg h1 h1))
end

/- an int within bounds, the frame and the ledger as they were -/
noncomputable def IntIn (b : Heap) (L : Addr) (m : Str → Option Value) (l : List (Addr × Obj)) (lo hi : Int) (s : Shared) (v : Value) (s' : Shared) : Prop :=
  ∃ X t h' tk, v = .int X t ∧ lo ≤ X ∧ X ≤ hi ∧ s' = { s with heap := h', toks := tk } ∧ Fr b L h' m ∧ News b L h' l
theorem int_in {prog : Program} {w : World} {A : Around} {E : Value → Shared → Prop} {s : Shared} {p : Sem Value} {Q : Value → Shared → Prop} {b : Heap} {L : Addr} {m : Str → Option Value} {l : List (Addr × Obj)} (lo hi : Int) (F : Fr b L s.heap m) (N : News b L s.heap l)
    (h : wpAny (model prog w) A p (IntIn b L m l lo hi s) E s) (k : ∀ X t h' tk, lo ≤ X → X ≤ hi → Fr b L h' m → News b L h' l → Q (.int X t) { s with heap := h', toks := tk }) : wpAny (model prog w) A p Q E s :=
  wpAny_mono h (fun v s' q => by
    obtain ⟨X, t, h', tk, rfl, h1, h2, rfl, F', N'⟩ := q
    exact k X t h' tk h1 h2 F' N') fun _ _ e => e

theorem sum_le_len : ∀ (ns : List Int) (b : Int), (∀ x ∈ ns, 0 ≤ x ∧ x ≤ b) → 0 ≤ ns.sum ∧ ns.sum ≤ ns.length * b
  | [], _, _ => by simp
  | x :: xs, b, h => by
    have h1 := h x List.mem_cons_self
    have h2 := sum_le_len xs b fun y hy => h y (List.mem_cons_of_mem _ hy)
    rw [List.sum_cons, List.length_cons, show (((xs.length + 1 : Nat)) : Int) * b = (xs.length : Int) * b + b by rw [Int.natCast_add, Int.add_mul]; simp]
    omega

theorem take_spec (w : World) {J r : Addr} {vs : List Value} {ns : List Int} {c many : Int} {tm : Tok} (hi : IntsAre vs ns) (hn : ns.length ≤ 24) (hc : ∀ x ∈ ns, 1 ≤ x ∧ x ≤ 1009) (hm : 1 ≤ many ∧ many ≤ 1000) (hc2 : c ≤ 1000) :
   SpecM w 4 104 J [.ref J, .int many tm] (fun jo h => Jar r c jo ∧ h.IsList r vs.toArray ∧ NE J r)
    (fun v own => ∃ d t jo, v = .int d t ∧ own = [(J, jo)] ∧ 0 ≤ d ∧ d < many ∧ Jar r (c + 1) jo) := by
  unfold SpecM
  k_fill
  intro dp un gd cn cs a ccd cl outer A₀ base h₀ L m news news' jo s Q E mean mg mb hd_B hd_F hd_X hd_N hd_T hd_k hdp hun hd_J hp1 hd_N2 hd_O hret
  obtain ⟨⟨A, C, t1, t2, k, rfl, hA, hC0, hC⟩, hr, hrJ⟩ := hp1
  k_dflt (refine' enterM (by assumption) (by assumption) (by assumption) ?kN (by assumption) rfl rfl (by assumption) ?k6 ?k7 ?k8 ?k9 ?kB ?c2 ?c3 ?c4 ?c5 ?kJ ?kN2 ?kO ?kR ?_; (case k6 => k_is); (case k7 => k_is); (case k8 => exact rm0 (by assumption)); (case k9 => exact BindsTo.of_eq rfl); (case c5 => decide); (case kB => exact locs rfl); (case c2 => exact rfl); (case c3 => exact rfl); (case c4 => exact rfl); (case kJ => assumption); (case kN => assumption); (case kO => assumption); (case kN2 => assumption); (case kR => assumption))
  clear hd_B hd_F hd_N hd_X hd_T hret hd_J hd_N2 hd_O; intro b R g₀ d₀ os₀ hR hN L' h' tk' W F' N' B' X' T'; (try dsimp only)
  have hrb : b.IsList r vs.toArray := by
    obtain ⟨o, q1, q2⟩ := hr
    exact ⟨o, (W.same _ hrJ.symm.out).trans q1, q2⟩
  clear W hr
  have hsum := sum_le_len ns 1009 fun x hx => ⟨by have := hc x hx; omega, (hc x hx).2⟩
  have fmod_ok : ∀ x y : Int, 0 ≤ x → 0 < y → 0 ≤ x.fmod y ∧ x.fmod y < y := fun x y h1 h2 => ⟨Int.fmod_nonneg h1 (by omega), Int.fmod_lt_of_pos _ h2⟩
  have fdiv_ok : ∀ x y : Int, 0 ≤ x → 0 < y → 0 ≤ x.fdiv y := fun x y h1 h2 => Int.fdiv_nonneg h1 (by omega)
  by_cases hA0 : 0 < A
  · k_steps
    rename Fr _ _ _ _ => F1
    rename News _ _ _ _ => N1
    refine hR _ _ (pend _ F1 N1 (in3 _ _ _ ⟨rfl, rfl, (fmod_ok _ _ hA (by omega)).1, (fmod_ok _ _ hA (by omega)).2, ?_⟩))
    exact in5 _ _ _ _ _ ⟨rfl, fdiv_ok _ _ hA (by omega), hC0, by omega⟩
  have hown : ∀ i, 0 ≤ ns.getD i 0 ∧ ns.getD i 0 ≤ 1009 := fun i => by
    by_cases hi : i < ns.length
    · have := hc (ns[i]) (List.getElem_mem hi)
      simp [hi]
      omega
    · simp [List.getElem?_eq_none (Nat.le_of_not_lt hi)]
  k_steps
  unfold Stop
  rename Fr _ _ _ _ => F1
  rename News _ _ _ _ => N1
  refine int_in 0 1009 F1 N1 ?_ fun X tX h9 tk9 hX0 hX1 F9 N9 => ?_
  · have mk : (9 : Nat) = 9 := rfl
    by_cases hne : ns = []
    · k_steps
      rename Fr _ _ _ _ => F2
      rename News _ _ _ _ => N2
      exact in4 _ _ _ _ ⟨rfl, by omega, by omega, rfl, F2, fun p hp => N2 p (.tail _ hp)⟩
    · have hlen : 0 < ns.length := List.length_pos_iff.mpr hne
      k_steps
      rename Fr _ _ _ _ => F2
      rename News _ _ _ _ => N2
      exact in4 _ _ _ _ ⟨rfl, (hown _).1, (hown _).2, rfl, F2, fun p hp => N2 p (.tail _ hp)⟩
  clear F1 N1 hown
  (try dsimp only)
  k_steps
  unfold Stop
  dsimp only
  refine sq_int (by omega) (by omega) fun Y hY => ?_
  dsimp only
  k_steps
  dsimp only
  rename Fr _ _ _ _ => F1
  rename News _ _ _ _ => N1
  have h7 := fmod_ok _ 1013 hY (by omega)
  have h8 := fmod_ok _ many (fdiv_ok _ 2 h7.1 (by omega)) (by omega)
  refine hR _ _ (pend _ F1 N1 (in3 _ _ _ ⟨rfl, rfl, h8.1, h8.2, ?_⟩))
  exact in5 _ _ _ _ _ ⟨rfl, hA, by omega, by omega⟩
end

section
theorem walk_off_E12 : True := by
  w_top off
  trivial
theorem fm_nonneg : ∀ (l : List Nat) (f : Nat → Option Int), (∀ j x, f j = some x → 0 ≤ x) → 0 ≤ (l.filterMap f).sum
  | [], _, _ => by simp
  | j :: l, f, h => by
    have ih := fm_nonneg l f h
    cases e : f j with
    | none => simpa [List.filterMap_cons, e] using ih
    | some x => have := h j x e; simp [List.filterMap_cons, e]; omega
theorem fm_len : ∀ (l : List Nat) (f : Nat → Option Int), (l.filterMap f).length ≤ l.length := fun l f => List.length_filterMap_le f l

theorem jar_spec (w : World) {c : Addr} {vs : List Value} {ns : List Int} (hi : IntsAre vs ns) (hn : ns.length ≤ 63) :
   Spec w 4 97 [.ref c] (fun h => h.IsList c vs.toArray)
    (fun v own => ∃ J r k ys zs jo, v = .ref J ∧ own = [(J, jo), (r, listOf (List.toArray ys) k)] ∧ IntsAre ys zs ∧ zs.length ≤ 24 ∧ (∀ z ∈ zs, 1 ≤ z ∧ z ≤ 1009) ∧ Jar r 0 jo ∧ NE J r) := by
  unfold Spec
  k_fill
  intro dp un gd cn cs a ccd cl outer A₀ base h₀ L m news s Q E mean mg mb hd_B hd_F hd_X hd_N hd_T hd_k hdp hun hp1 hret
  k_dflt (refine' enter (by assumption) (by assumption) (by assumption) (by assumption) (by assumption) rfl rfl (by assumption) ?k6 ?k7 ?k8 ?k9 ?kB ?c2 ?c3 ?c4 ?c5 (by assumption) ?_; (case k6 => k_is); (case k7 => k_is); (case k8 => exact rm0 (by assumption)); (case k9 => exact BindsTo.of_eq rfl); (case c5 => decide); (case kB => exact locs rfl); (case c2 => exact rfl); (case c3 => exact rfl); (case c4 => exact rfl))
  clear hd_B hd_F hd_N hd_X hd_T hret; intro R g₀ d₀ os₀ hR hN L' h' tk' F' N' B' X' T'; (try dsimp only)
  have mk8 : (8 : Nat) = 8 := rfl
  k_steps
  unfold Stop
  rename IntsAre _ _ => hI
  rename Fr _ _ _ _ => F1
  rename News _ _ _ _ => N1
  have hrs : ∀ x ∈ List.map (fun k' : Int => if k' < 0 then -k' else k') (List.take 24 ns), 0 ≤ x := fun x hx => by
    obtain ⟨y, _, rfl⟩ := List.mem_map.mp hx
    split <;> omega
  have hlen : (List.map (fun k' : Int => if k' < 0 then -k' else k') (List.take 24 ns)).length ≤ 24 := by
    rw [List.length_map, List.length_take]; omega
  generalize List.map (fun k' : Int => if k' < 0 then -k' else k') (List.take 24 ns) = rs at hI hrs hlen
  have hrg : ∀ j, 0 ≤ rs.getD j 0 := fun j => by
    by_cases hj : j < rs.length
    · have := hrs (rs[j]) (List.getElem_mem hj)
      simpa [hj] using this
    · simp [List.getElem?_eq_none (Nat.le_of_not_lt hj)]
  have hl := hI.length
  refine LCt.ListComp_T (F₀ := F1) (by with_unfolding_all rfl) (by decide) (by rfl) (by decide) (by rfl) ?_
  k_steps
  refine LCt.CompSrcT.ledger rfl F1 N1 (.head _) (by rw [List.size_toArray, sizeLine_eq]; omega) fun g => ?_
  refine comp_tests (fun j => if (10 : Int) ^ Int.toNat 18 ≤ rs.getD j 0 then some (rs.getD j 0 - 10 ^ Int.toNat 18) else none) (.inr ⟨_, .head _, rfl, _, rfl⟩) _ _ [] [] .nil ?_ ?_
  · clear F1 N1
    rintro j v I oI C oC D m₂ h tk E' ys _ hj hv hC hx F N off ne
    obtain ⟨t1, rfl⟩ : ∃ t, v = .int (rs.getD j 0) t := by
      obtain ⟨t, q2⟩ := hI.get j (rs.getD j 0) (by rw [List.size_toArray] at hj; simp [show j < rs.length by omega])
      exact ⟨t, by rw [List.getElem?_toArray] at hv; exact Option.some.inj (hv.symm.trans q2)⟩
    have hx0 := hrg j
    generalize rs.getD j 0 = n at hx hx0
    k_steps
    refine ⟨⟨_, _, rfl, F, N⟩, ?_⟩
    simp only [decide_eq_true_eq]
    by_cases hlt : (10 : Int) ^ Int.toNat 18 ≤ n
    · rw [if_pos hlt]
      refine ⟨_, if_pos hlt, ?_⟩
      k_steps
      exact OneInt.intro rfl (by assumption) (by assumption)
    · rw [if_neg hlt]
      exact if_neg hlt
  · intro ys hys
    rw [List.nil_append, List.size_toArray, hl] at hys
    have hs0 := fm_nonneg (List.range' 0 rs.length) (fun j => if (10 : Int) ^ Int.toNat 18 ≤ rs.getD j 0 then some (rs.getD j 0 - 10 ^ Int.toNat 18) else none) (fun j x e => by
      by_cases hlt : (10 : Int) ^ Int.toNat 18 ≤ rs.getD j 0
      · rw [if_pos hlt] at e; have e2 := Option.some.inj e; clear e; omega
      · rw [if_neg hlt] at e; cases e)
    generalize List.filterMap (fun j => if (10 : Int) ^ Int.toNat 18 ≤ rs.getD j 0 then some (rs.getD j 0 - 10 ^ Int.toNat 18) else none) (List.range' 0 rs.length) = bs at hys hs0
    clear F1 N1
    k_steps
    unfold Stop
    clear hys
    rename Fr _ _ _ _ => F1
    rename News _ _ _ _ => N1
    refine LCt.ListComp_T (F₀ := F1) (by with_unfolding_all rfl) (by decide) (by rfl) (by decide) (by rfl) ?_
    k_steps
    refine LCt.CompSrcT.ledger rfl F1 N1 (.tail _ (.head _)) (by rw [List.size_toArray, sizeLine_eq]; omega) fun g => ?_
    refine comp_tests (fun j => if rs.getD j 0 < (10 : Int) ^ Int.toNat 18 then some (1 + (rs.getD j 0).fmod 1009) else none) (.inr ⟨_, .tail _ (.head _), rfl, _, rfl⟩) _ _ [] [] .nil ?_ ?_
    · clear F1 N1
      rintro j v I oI C oC D m₂ h tk E' ys _ hj hv hC hx F N off ne
      obtain ⟨t1, rfl⟩ : ∃ t, v = .int (rs.getD j 0) t := by
        obtain ⟨t, q2⟩ := hI.get j (rs.getD j 0) (by rw [List.size_toArray] at hj; simp [show j < rs.length by omega])
        exact ⟨t, by rw [List.getElem?_toArray] at hv; exact Option.some.inj (hv.symm.trans q2)⟩
      have hx0 := hrg j
      generalize rs.getD j 0 = n at hx hx0
      k_steps
      refine ⟨⟨_, _, rfl, F, N⟩, ?_⟩
      simp only [decide_eq_true_eq]
      by_cases hlt : n < (10 : Int) ^ Int.toNat 18
      · rw [if_pos hlt]
        refine ⟨_, if_pos hlt, ?_⟩
        k_steps
        exact OneInt.intro rfl (by assumption) (by assumption)
      · rw [if_neg hlt]
        exact if_neg hlt
    · intro zs hzs
      rw [List.nil_append, List.size_toArray, hl] at hzs
      have hz1 : ∀ z ∈ List.filterMap (fun j => if rs.getD j 0 < (10 : Int) ^ Int.toNat 18 then some (1 + (rs.getD j 0).fmod 1009) else none) (List.range' 0 rs.length), 1 ≤ z ∧ z ≤ 1009 := fun z hz => by
        obtain ⟨j, _, e⟩ := List.mem_filterMap.mp hz
        have h0 := hrg j
        by_cases hlt : rs.getD j 0 < (10 : Int) ^ Int.toNat 18
        · rw [if_pos hlt] at e
          have e2 := Option.some.inj e
          clear e
          have a1 := Int.fmod_nonneg h0 (show (0 : Int) ≤ 1009 by decide)
          have a2 := Int.fmod_lt_of_pos (rs.getD j 0) (show (0 : Int) < 1009 by decide)
          omega
        · rw [if_neg hlt] at e; cases e
      have hz2 := fm_len (List.range' 0 rs.length) (fun j => if rs.getD j 0 < (10 : Int) ^ Int.toNat 18 then some (1 + (rs.getD j 0).fmod 1009) else none)
      rw [List.length_range'] at hz2
      generalize List.filterMap (fun j => if rs.getD j 0 < (10 : Int) ^ Int.toNat 18 then some (1 + (rs.getD j 0).fmod 1009) else none) (List.range' 0 rs.length) = zl at hzs hz1 hz2
      clear F1 N1
      k_steps
      dsimp only
      rename Fr _ _ _ _ => F1
      rename News _ _ _ _ => N1
      refine hR _ _ (pend _ F1 (fun p hp => N1 p (by rcases List.mem_cons.mp hp with rfl | hp; exact .head _; rw [List.mem_singleton.mp hp]; exact .tail _ (.head _))) (in6 _ _ _ _ _ _ ⟨rfl, rfl, hzs, by omega, hz1, (in5 _ _ _ _ _ ⟨rfl, hs0, by omega, by omega⟩), ⟨fun e => ?_⟩⟩))
      have a := (N1 _ (.head _)).1
      have b := (N1 _ (.tail _ (.head _))).1
      rw [e] at a
      have c := Option.some.inj (a.symm.trans b)
      have c2 := congrArg Obj.data c
      injection c2 with c3 c4
      have c5 := congrArg Array.size c3
      simp at c5 c4
      omega
end

local macro_rules | `(tactic| kmk_sign) => `(tactic| first | assumption | omega)
local macro_rules | `(tactic| kmk_size) => `(tactic| exact kmk_sz (by assumption) (by rw [sizeLine_eq]; omega))
section
theorem walk_off_E13 : True := by
  w_top off
  trivial
/- what splitting leaves makes of one leaf -/
inductive CodeOk : List Int → Prop
  | one : CodeOk [0]
  | split {xs : List Int} (s : Nat) : CodeOk xs → s < xs.length → CodeOk (xs.take s ++ [xs.getD s 0 + 1, xs.getD s 0 + 1] ++ xs.drop (s + 1))

theorem code_spec (w : World) {J r : Addr} {vs : List Value} {ns : List Int} {c : Int} (hi : IntsAre vs ns) (hn : ns.length ≤ 24) (hc : ∀ x ∈ ns, 1 ≤ x ∧ x ≤ 1009) (hc2 : 0 ≤ c ∧ c ≤ 900) :
   SpecM w 6 111 J [.ref J] (fun jo h => Jar r c jo ∧ h.IsList r vs.toArray ∧ NE J r)
    (fun v own => ∃ D k ys zs jo, v = .ref D ∧ own = [(D, listOf (List.toArray ys) k), (J, jo)] ∧ IntsAre ys zs ∧ CodeOk zs ∧ 2 ≤ zs.length ∧ zs.length ≤ 8 ∧ Jar r (c + 8) jo ∧ NE D J) := by
  unfold SpecM
  k_fill
  intro dp un gd cn cs a ccd cl outer A₀ base h₀ L m news news' jo s Q E mean mg mb hd_B hd_F hd_X hd_N hd_T hd_k hdp hun hd_J hp1 hd_N2 hd_O hret
  obtain ⟨hjar, hr, hrJ⟩ := hp1
  k_dflt (refine' enterM (by assumption) (by assumption) (by assumption) ?kN (by assumption) rfl rfl (by assumption) ?k6 ?k7 ?k8 ?k9 ?kB ?c2 ?c3 ?c4 ?c5 ?kJ ?kN2 ?kO ?kR ?_; (case k6 => k_is); (case k7 => k_is); (case k8 => exact rm0 (by assumption)); (case k9 => exact BindsTo.of_eq rfl); (case c5 => decide); (case kB => exact locs rfl); (case c2 => exact rfl); (case c3 => exact rfl); (case c4 => exact rfl); (case kJ => assumption); (case kN => assumption); (case kO => assumption); (case kN2 => assumption); (case kR => assumption))
  clear hd_B hd_F hd_N hd_X hd_T hret hd_J hd_N2 hd_O; intro b R g₀ d₀ os₀ hR hN L' h' tk' W F' N' B' X' T'; (try dsimp only)
  have hrb : b.IsList r vs.toArray := by
    obtain ⟨o, q1, q2⟩ := hr
    exact ⟨o, (W.same _ hrJ.symm.out).trans q1, q2⟩
  clear W hr
  k_steps
  unfold Stop
  rename Fr _ _ _ _ => F1
  rename News _ _ _ _ => N1
  rename_i D0 _ hlt _
  have hne : NE J D0 := .lt hlt
  clear hlt
  k_dflt (refine SpecM.use (take_spec w hi hn hc (many := 7) (by omega) (by omega)) B' F1 X' N1 T' (by first | exact rfl | assumption) (by first | exact rm hdp (by decide) | ktr_room) (by first | exact ru hun (by decide) | ktr_units) (.tail _ (.head _)) ⟨hjar, hrb.at fun o e => F1.keep _ o e, hrJ⟩ (news' := [(D0, _)]) (fun p hp => N1 p (by rw [List.mem_singleton.mp hp]; exact .head _)) ⟨hne.symm, trivial⟩ ?_)
  clear hjar
  intro v own h9 tk9 hJ0 happ F9 N9
  refine ex3 hJ0 fun d td jo' hJ => an5 hJ fun e1 e2 hd0 hd7 hjar => Exists.elim (Int.eq_ofNat_of_zero_le hd0) fun dn hdn => ?_
  replace N9 := e2 ▸ N9
  clear hJ hJ0 hd0 e2
  subst e1
  subst hdn
  clear F1 N1 happ
  dsimp only [List.cons_append, List.nil_append] at N9
  k_steps
  unfold Stop
  rename Fr _ _ _ _ => F1
  rename News _ _ _ _ => N1
  rename IsRange _ _ _ _ _ _ _ _ => hr
  refine forR (n := 1 + dn) (fun i m nx => ∃ (D : Addr) (ys : List Value) (zs : List Int) (k : Nat) (jo : Obj), Names m [(Str.ofString "found", .ref D), (Str.ofString "jar", .ref J)] ∧
    nx = [(D, listOf (List.toArray ys) k), (J, jo)] ∧ IntsAre ys zs ∧ CodeOk zs ∧ zs.length = i + 1 ∧ Jar r (c + 1 + i) jo ∧ NE J D) rfl hr (small_one (by decide) (by decide) (by omega) (by omega)) (by rw [rangeSize_one]; split <;> omega) F1 (news := [(D0, listOf (List.toArray [.int 0 tk']) 0), (J, jo')]) (nsb N1 (fa (by k_mem) (fa (by k_mem) fan))) ?_ ?_ ?_
  · exact ⟨_, [.int 0 _], _, _, _, ⟨rfl, rfl, trivial⟩, rfl, .cons _ _ .nil, .one, rfl, by simpa using hjar, hne⟩
  · clear F1 N1 hr hjar
    rintro i t m₁ n₁ h tk I o R1 hR1 hin hJ0
    refine ex5 hJ0 fun D ys zs k jo hJ => an7 hJ fun hm e1 hI hco hlen hjar hne => ?_
    clear hJ hJ0
    intro hIo F1 N1
    replace hIo := e1 ▸ hIo
    replace N1 := e1 ▸ N1
    clear e1
    skip
    refine an3 hIo fun hI1 hI2 hI3 => ?_
    clear hIo
    replace F1 := fr1 hm F1
    dsimp only [kstB] at F1
    have hl := hI.length
    k_steps
    unfold Stop
    rename Fr _ _ _ _ => F1
    rename News _ _ _ _ => N1
    k_dflt (refine SpecM.use (take_spec w hi hn hc (many := (zs.length : Int)) (by omega) (by omega)) B' F1 X' N1 T' (by first | exact rfl | assumption) (by first | exact rm hdp (by decide) | ktr_room) (by first | exact ru hun (by decide) | ktr_units) (.tail _ (.tail _ (.head _))) ⟨hjar, hrb.at fun o e => F1.keep _ o e, hrJ⟩ (news' := [(I, o), (D, listOf (List.toArray ys) k)]) (nsb N1 (fa (by k_mem) (fa (by k_mem) fan))) ⟨hI2.symm, hne.symm, trivial⟩ ?_)
    clear hjar
    intro v own h8 tk8 hJ0 happ F8 N8
    refine ex3 hJ0 fun sp td jo' hJ => an5 hJ fun e1 e2 hs0 hs1 hjar => Exists.elim (Int.eq_ofNat_of_zero_le hs0) fun sn hsn => ?_
    replace N8 := e2 ▸ N8
    clear hJ hJ0 e2
    subst e1
    subst hsn
    have hsn : sn ≤ zs.length := by omega
    clear F1 N1 happ
    dsimp only [List.cons_append, List.nil_append] at N8
    k_steps
    unfold Stop
    dsimp only
    rename Fr _ _ _ _ => F1
    rename News _ _ _ _ => N1
    rename IntsAre (List.flatten _) _ => i1
    replace i1 : IntsAre _ [zs.getD ((sn : Nat) : Int).toNat 0 + 1, zs.getD ((sn : Nat) : Int).toNat 0 + 1] := i1
    rename IntsAre _ (List.take _ _) => i2
    refine kmk_add_ints F1 N1 ⟨_, N1.get (.tail _ (.tail _ (.head _))), rfl, _, rfl⟩ ⟨_, N1.get (.head _), rfl, _, rfl⟩ i2 i1 (fun D3 us3 h3 F3 N3 hlt3 i3 => ?_) (by rw [List.length_take, Int.toNat_natCast, Nat.min_eq_left hsn, sizeLine_eq]; simp only [List.length_cons, List.length_nil]; omega)
    replace hlt3 : Off D3 _ := off_of fun p hp => Nat.ne_of_lt (hlt3 p hp)
    replace N3 : News b L' h3 [(D3, listOf us3.toArray 0), (J, jo'), (I, o), (D, listOf (List.toArray ys) k)] := nsb N3 (fa (by k_mem) (fa (by k_mem) (fa (by k_mem) (fa (by k_mem) fan))))
    skip
    refine an7 hlt3 fun _ _ _ o4 o5 o6 _ => ?_
    clear hlt3
    clear F1 N1 i1 i2
    have hsp1 : 0 ≤ (sn : Int) + 1 := by omega
    k_steps
    unfold Stop
    dsimp only
    rename Fr _ _ _ _ => F1
    rename News _ _ _ _ => N1
    rename IntsAre _ (List.drop _ _) => i4
    refine kmk_add_ints F1 N1 ⟨_, N1.get (.tail _ (.head _)), rfl, _, rfl⟩ ⟨_, N1.get (.head _), rfl, _, rfl⟩ i3 i4 (fun D5 us5 h5 F5 N5 hlt5 i5 => ?_) (by rw [List.length_append, List.length_take, List.length_drop, Int.toNat_natCast, Nat.min_eq_left hsn, sizeLine_eq, show ((sn : Int) + 1).toNat = sn + 1 from rfl]; simp only [List.length_cons, List.length_nil]; rw [splitlen (Int.ofNat_lt.mp hs1)]; omega)
    replace hlt5 : Off D5 _ := off_of fun p hp => Nat.ne_of_lt (hlt5 p hp)
    replace N5 : News b L' h5 [(D5, listOf us5.toArray 0), (J, jo'), (I, o)] := nsb N5 (fa (by k_mem) (fa (by k_mem) (fa (by k_mem) fan)))
    skip
    refine an5 hlt5 fun _ _ q1 q2 _ => ?_
    clear hlt5
    clear F1 N1 i4
    have hJ5 : NE J D5 := q1
    k_steps
    rename Fr _ _ _ _ => F6
    rename News _ _ _ _ => N6
    refine hR1 _ _ (lend [(D5, listOf us5.toArray 0), (J, jo')] F6 (nsb N6 (fa (by k_mem) (fa (by k_mem) (fa (by k_mem) fan)))) ⟨q2.symm, hI2, trivial⟩ (in5 D5 us5 _ 0 jo' ⟨⟨rfl, rfl, trivial⟩, rfl, i5, ?_, ?_, ?_, q1⟩))
    · rw [show ((sn : Int) + 1).toNat = ((sn : Nat) : Int).toNat + 1 from rfl]
      exact .split _ hco (by rw [Int.toNat_natCast]; omega)
    · rw [List.length_append, List.length_append, List.length_take, List.length_drop, Int.toNat_natCast, Nat.min_eq_left hsn, show ((sn : Int) + 1).toNat = sn + 1 from rfl]
      simp only [List.length_cons, List.length_nil]
      rw [splitlen (Int.ofNat_lt.mp hs1), hlen]
    · rw [show c + 1 + ((i + 1 : Nat) : Int) = c + 1 + i + 1 by omega]
      exact hjar
  · clear F1 N1 hr hjar
    rintro m₁ n₁ h tk hJ0
    refine ex5 hJ0 fun D ys zs k jo hJ => an7 hJ fun hm e1 hI hco hlen hjar hne => ?_
    clear hJ hJ0
    intro F1 N1
    replace N1 := e1 ▸ N1
    clear e1
    replace F1 := fr0 hm F1
    dsimp only [kstB] at F1
    k_steps
    rename Fr _ _ _ _ => F6
    rename News _ _ _ _ => N6
    refine ex5 hjar fun A C t1 t2 k2 hJ => an4 hJ fun e1 hA hC0 hC => ?_
    clear hJ hjar
    subst e1
    exact hR _ _ (pend _ F6 N6 (in5 _ _ _ _ _ ⟨rfl, rfl, hI, hco, by omega, by omega, (in5 A C t1 t2 k2 ⟨rfl, hA, hC0, by omega⟩), hne.symm⟩))
end

section
open LCg
/- what a turn brings that may change the object at J -/
noncomputable def OneJ (h₀ : Heap) (L : Addr) (m : Str → Option Value) (s : Shared) (led : List (Addr × Obj)) (J : Addr) (rest : List (Addr × Obj)) (Inv : Obj → Prop) (R : Int → Prop) (y : Value) (s₂ : Shared) : Prop :=
  ∃ n t h' tk' jo', y = .int n t ∧ s₂ = { s with heap := h', toks := tk' } ∧ Fr h₀ L h' m ∧ News h₀ L h' (led ++ (J, jo') :: rest) ∧ Inv jo' ∧ R n
section
variable {prog : Program} {w : World} {A : Around} {E : Value → Shared → Prop} {s : Shared} {h₀ : Heap} {L : Addr} {m : Str → Option Value} {env : Env}
/- a comprehension each of whose items is an int, and each of whose turns may change the object at J -/
theorem comp_J {elt : Expr} {x : Str} {scope : Scope} {cl : List (Str × Addr)} {S : List (Addr × Obj) → Prop} {P : Nat → Value → Prop} {Fin : List Value → List (Addr × Obj) → Prop} {J : Addr} {rest : List (Addr × Obj)} (Inv : Nat → Obj → Prop) (R : Int → Prop) (hS : ∀ nw, S nw) :
    ∀ (k i : Nat) (ys : List Value) (ns : List Int) (jo : Obj), IntsAre ys ns → (∀ n ∈ ns, R n) → ns.length = i → Inv i jo →
    (∀ j v I oI C oC D m₂ h tk (E' : Value → Shared → Prop) ys jo, i ≤ j → j < i + k → Inv j jo → P j v → NsObj oC m₂ → m₂ x = some v → Fr h₀ L h m → News h₀ L h ((I, oI) :: (C, oC) :: (D, lst ys) :: (J, jo) :: rest) → Off3 I C D ((J, jo) :: rest) → ((@Ne Nat I C) ∧ (@Ne Nat I D) ∧ (@Ne Nat C D)) →
      wpAny (model prog w) A (eval elt (compEnvC scope cl C env)) (OneJ h₀ L m s [(I, oI), (C, oC), (D, lst ys)] J rest (Inv (j + 1)) R) E' { s with heap := h, toks := tk }) →
    (∀ ys ns jo, IntsAre ys ns → (∀ n ∈ ns, R n) → ns.length = i + k → Inv (i + k) jo → Fin ys ((J, jo) :: rest)) →
    CompRest prog w A h₀ L m env elt x scope cl s S P Fin k i ys ((J, jo) :: rest) := by
  intro k
  induction k with
  | zero => intro i ys ns jo hI hR hl hv _ fin; exact CompRest.zero (fin ys ns jo hI hR hl hv)
  | succ k ih =>
    intro i ys ns jo hI hR hl hv step fin
    refine CompRest.succ fun v I oI C oC D m₂ h tk E' hP hC hx F N off ne => ?_
    refine wpAny_mono (step i v I oI C oC D m₂ h tk E' ys jo (Nat.le_refl _) (by omega) hv hP hC hx F N off ne) (fun y s₂ q => ?_) fun _ _ q => q
    obtain ⟨n, t, h', tk', jo', rfl, rfl, F', N', hv', hn⟩ := q
    refine ⟨h', tk', (J, jo') :: rest, rfl, F', N', ⟨off.1, off.2⟩, hS _, ?_⟩
    refine ih (i + 1) _ (ns ++ [n]) jo' (hI.append (.cons _ _ .nil)) (fun z hz => ?_) (by simp [hl]) hv' (fun j v I oI C oC D m₂ h tk E' ys jo h1 h2 => step j v I oI C oC D m₂ h tk E' ys jo (by omega) (by omega)) fun ys ns jo a b c d => fin ys ns jo a b (by omega) (by rw [show i + (k + 1) = i + 1 + k by omega]; exact d)
    rcases List.mem_append.mp hz with hz | hz
    · exact hR z hz
    · rw [List.mem_singleton.mp hz]; exact hn
end
end

section
theorem walk_off_E14 : True := by
  w_top off
  trivial
local macro_rules | `(tactic| walk_at $s:str) => if ["CompSrc", "binaryOp Pow int int"].contains s.getString then `(tactic| refine stop_ ?_) else Lean.Macro.throwUnsupported
theorem CodeOk.max {zs : List Int} (h : CodeOk zs) : ∃ M ∈ zs, ∀ x ∈ zs, x ≤ M := by
  have key : ∀ l : List Int, l ≠ [] → ∃ M ∈ l, ∀ x ∈ l, x ≤ M := by
    intro l
    induction l with
    | nil => intro h; exact absurd rfl h
    | cons a l ih =>
      intro _
      by_cases hl : l = []
      · subst hl; exact ⟨a, List.mem_cons_self, fun x hx => by rw [List.mem_singleton.mp hx]; exact Int.le_refl _⟩
      · obtain ⟨M, hM, hall⟩ := ih hl
        by_cases h : a ≤ M
        · exact ⟨M, List.mem_cons_of_mem _ hM, fun x hx => by rcases List.mem_cons.mp hx with rfl | hx; exact h; exact hall x hx⟩
        · exact ⟨a, List.mem_cons_self, fun x hx => by rcases List.mem_cons.mp hx with rfl | hx; exact Int.le_refl _; have := hall x hx; omega⟩
  exact key zs (by cases h <;> simp)
theorem bs3 {t : Nat} (h : t ≤ 7) : 10 + (2 * t + 1) ≤ 134217728 := by omega
theorem CodeOk.le {zs : List Int} (h : CodeOk zs) : ∀ x ∈ zs, 0 ≤ x ∧ x ≤ zs.length - 1 := by
  induction h with
  | one => intro x hx; rw [List.mem_singleton.mp hx]; decide
  | @split xs s h hs ih =>
    intro x hx
    have hl : (xs.take s ++ [xs.getD s 0 + 1, xs.getD s 0 + 1] ++ xs.drop (s + 1)).length = xs.length + 1 := by
      rw [List.length_append, List.length_append, List.length_take, List.length_drop, Nat.min_eq_left (Nat.le_of_lt hs)]
      exact splitlen hs
    rw [hl]
    have h1 : ∀ y ∈ xs, 0 ≤ y ∧ y ≤ ((xs.length + 1 : Nat) : Int) - 1 := fun y hy => by have := ih y hy; omega
    have h2 : xs.getD s 0 ∈ xs := by simp [hs]
    have h3 := ih _ h2
    rcases List.mem_append.mp hx with hx | hx
    · rcases List.mem_append.mp hx with hx | hx
      · exact h1 x (List.mem_of_mem_take hx)
      · have : x = xs.getD s 0 + 1 := by simpa using hx
        omega
    · exact h1 x (List.mem_of_mem_drop hx)
/- the sum of the shares of the leaves is the whole -/
theorem CodeOk.kraft {zs : List Int} (h : CodeOk zs) (K : Nat) (hK : ∀ x ∈ zs, x ≤ K) : (zs.map fun x => (2 : Int) ^ ((K : Int) - x).toNat).sum = 2 ^ K := by
  induction h with
  | one => simp
  | @split xs s h hs ih =>
    have h2 : xs.getD s 0 ∈ xs := by simp [hs]
    have h3 := (h.le _ h2).1
    have hs1 : xs.getD s 0 + 1 ≤ K := hK _ (by simp)
    have ih := ih fun x hx => by
      have e : xs = xs.take s ++ xs.getD s 0 :: xs.drop (s + 1) := by
        rw [show xs.getD s 0 = xs[s] by simp [hs], ← List.drop_eq_getElem_cons hs, List.take_append_drop]
      rw [e] at hx
      rcases List.mem_append.mp hx with hx | hx
      · exact hK x (List.mem_append_left _ (List.mem_append_left _ hx))
      · rcases List.mem_cons.mp hx with rfl | hx
        · omega
        · exact hK x (List.mem_append_right _ hx)
    have e : xs = xs.take s ++ xs.getD s 0 :: xs.drop (s + 1) := by
      rw [show xs.getD s 0 = xs[s] by simp [hs], ← List.drop_eq_getElem_cons hs, List.take_append_drop]
    rw [← ih]
    conv => rhs; rw [e]
    simp only [List.map_append, List.map_cons, List.map_nil, List.sum_append, List.sum_cons, List.sum_nil]
    have e2 : (2 : Int) ^ ((K : Int) - xs.getD s 0).toNat = 2 ^ ((K : Int) - (xs.getD s 0 + 1)).toNat + 2 ^ ((K : Int) - (xs.getD s 0 + 1)).toNat := by
      rw [show (K : Int) - xs.getD s 0 = ((K : Int) - (xs.getD s 0 + 1)) + 1 by omega, Int.toNat_add (Int.sub_nonneg_of_le hs1) (by decide), show (1 : Int).toNat = 1 from rfl, Int.pow_succ]
      omega
    rw [e2, Int.add_zero, Int.add_assoc, Int.add_assoc]

theorem sub2 {α : Type} {p a b : α} {r : List α} (h : p ∈ [a, b]) : p ∈ a :: b :: r := by
  rcases List.mem_cons.mp h with rfl | h
  · exact .head _
  · rw [List.mem_singleton.mp h]; exact .tail _ (.head _)
theorem swap2 {α : Type} {p a b : α} {r : List α} (h : p ∈ b :: a :: r) : p ∈ a :: b :: r := by
  rcases List.mem_cons.mp h with rfl | h
  · exact .tail _ (.head _)
  · rcases List.mem_cons.mp h with rfl | h
    · exact .head _
    · exact .tail _ (.tail _ h)
theorem drop3 {h₀ h : Heap} {L : Addr} {a b c d : Addr × Obj} {r : List (Addr × Obj)} (N : News h₀ L h (a :: b :: c :: d :: r)) : News h₀ L h (a :: b :: c :: r) := fun p hp => N p (by
  rcases List.mem_cons.mp hp with rfl | hp
  · exact .head _
  · rcases List.mem_cons.mp hp with rfl | hp
    · exact .tail _ (.head _)
    · rcases List.mem_cons.mp hp with rfl | hp
      · exact .tail _ (.tail _ (.head _))
      · exact .tail _ (.tail _ (.tail _ (.tail _ hp))))
theorem ins3 {h₀ h : Heap} {L : Addr} {a b c d : Addr × Obj} {r : List (Addr × Obj)} (N : News h₀ L h (d :: a :: b :: c :: r)) : News h₀ L h (a :: b :: c :: d :: r) := fun p hp => N p (by
  rcases List.mem_cons.mp hp with rfl | hp
  · exact .tail _ (.head _)
  · rcases List.mem_cons.mp hp with rfl | hp
    · exact .tail _ (.tail _ (.head _))
    · rcases List.mem_cons.mp hp with rfl | hp
      · exact .tail _ (.tail _ (.tail _ (.head _)))
      · rcases List.mem_cons.mp hp with rfl | hp
        · exact .head _
        · exact .tail _ (.tail _ (.tail _ (.tail _ hp))))
theorem drop1 {h₀ h : Heap} {L : Addr} {a b : Addr × Obj} {r : List (Addr × Obj)} (N : News h₀ L h (a :: b :: r)) : News h₀ L h (a :: r) := fun p hp => N p (by
  rcases List.mem_cons.mp hp with rfl | hp
  · exact .head _
  · exact .tail _ (.tail _ hp))
theorem swap2' {h₀ h : Heap} {L : Addr} {a b : Addr × Obj} {r : List (Addr × Obj)} (N : News h₀ L h (a :: b :: r)) : News h₀ L h (b :: a :: r) := fun p hp => N p (swap2 hp)
theorem ne_jar {h₀ h : Heap} {L D J r : Addr} {c : Int} {jo : Obj} {k : Nat} {ys : List Value} {zs : List Int} {news : List (Addr × Obj)} (N : News h₀ L h news) (h1 : (D, listOf (List.toArray ys) k) ∈ news) (h2 : (J, jo) ∈ news) (hj : Jar r c jo) (hi : IntsAre ys zs) : NE D J := by
  refine ⟨fun e => ?_⟩
  obtain ⟨A, C, t1, t2, k2, rfl, _⟩ := hj
  have a := (N _ h1).1
  have b := (N _ h2).1
  rw [e] at a
  have c := Option.some.inj (a.symm.trans b)
  have c2 := congrArg Obj.data c
  injection c2 with c3 c4
  have c5 : ys = [.int A t1, .ref r, .int C t2] := by simpa using c3
  obtain ⟨n, t, q⟩ := hi.all (.ref r) (by rw [c5]; simp)
  cases q

theorem comp_range (cz : List Int) (f : Int → Int) : (List.range' 0 cz.length).map (fun j => f (cz.getD j 0)) = cz.map f := by
  rw [← List.range_eq_range']
  conv => rhs; rw [← range_getD cz]
  rw [List.map_map]
  rfl
theorem sum_mul (g : Int → Int) (a : Int) : ∀ l : List Int, (l.map fun x => a * g x).sum = a * (l.map g).sum
  | [] => by simp
  | x :: l => by simp only [List.map_cons, List.sum_cons, sum_mul g a l, Int.mul_add]
theorem pow_int_le {a b : Nat} (h : a ≤ b) : (2 : Int) ^ a ≤ 2 ^ b := by
  have h1 : 2 ^ a ≤ 2 ^ b := Nat.pow_le_pow_right (by decide) h
  have e1 : (2 : Int) ^ a = ((2 ^ a : Nat) : Int) := by simp
  have e2 : (2 : Int) ^ b = ((2 ^ b : Nat) : Int) := by simp
  rw [e1, e2]; exact_mod_cast h1
theorem base_cnt {cz : List Int} (hcode : CodeOk cz) (hl8 : cz.length ≤ 8) (M : Int) (hM1 : M ∈ cz) (hM2 : ∀ x ∈ cz, x ≤ M) (mo : Int) (hmo : 0 ≤ mo ∧ mo < 2) :
    (cz.map fun l => (1 + mo) * 2 ^ (M - l).toNat).length = cz.length ∧ (∀ z ∈ cz.map fun l => (1 + mo) * 2 ^ (M - l).toNat, 1 ≤ z ∧ z ≤ 300) ∧ (cz.map fun l => (1 + mo) * 2 ^ (M - l).toNat).sum ≤ 256 := by
  have hM3 := hcode.le M hM1
  have h7 : M.toNat ≤ 7 := by omega
  have hp7 : (2 : Int) ^ M.toNat ≤ 128 := pow_int_le h7
  refine ⟨by simp, fun z hz => ?_, ?_⟩
  · obtain ⟨l, hl, rfl⟩ := List.mem_map.mp hz
    have a1 := hcode.le l hl
    have a2 := hM2 l hl
    have h1 : (1 : Int) ≤ 2 ^ (M - l).toNat := pow_int_le (a := 0) (Nat.zero_le _)
    have h2 : (2 : Int) ^ (M - l).toNat ≤ 2 ^ 7 := pow_int_le (by omega)
    rcases (by omega : mo = 0 ∨ mo = 1) with rfl | rfl <;> omega
  · rw [sum_mul (fun l => 2 ^ (M - l).toNat)]
    have := hcode.kraft M.toNat fun x hx => by have := hM2 x hx; omega
    rw [show ((M.toNat : Nat) : Int) = M by omega] at this
    rw [this]
    rcases (by omega : mo = 0 ∨ mo = 1) with rfl | rfl <;> omega
theorem sum_set : ∀ (l : List Int) (i : Nat) (v : Int), i < l.length → (l.set i v).sum = l.sum - l.getD i 0 + v
  | x :: l, 0, v, _ => by simp; omega
  | x :: l, i + 1, v, h => by
    have := sum_set l i v (by simpa using h)
    simp at this ⊢; omega
theorem set_cnt {l : List Int} {n : Nat} {A B : Int} (h1 : l.length = n) (h2 : ∀ z ∈ l, 1 ≤ z ∧ z ≤ A) (h3 : l.sum ≤ B) {i : Nat} (hi : i < l.length) (e : Int) (he : 0 ≤ e) :
    (l.set i (l.getD i 0 + e)).length = n ∧ (∀ z ∈ l.set i (l.getD i 0 + e), 1 ≤ z ∧ z ≤ A + e) ∧ (l.set i (l.getD i 0 + e)).sum ≤ B + e := by
  refine ⟨by simpa using h1, fun z hz => ?_, by rw [sum_set l i _ hi]; omega⟩
  rcases List.mem_or_eq_of_mem_set hz with hz | rfl
  · have := h2 z hz; omega
  · have := h2 (l.getD i 0) (by simp [hi]); omega

/- what the law knows of its counts -/
structure CntOk (n : Nat) (zs : List Int) : Prop where
  len : zs.length = n
  le : ∀ z ∈ zs, 1 ≤ z ∧ z ≤ 1000
  sum : zs.sum ≤ 400

theorem counts_spec (w : World) {J r cA : Addr} {vs cv : List Value} {ns cz : List Int} {c : Int} (hi : IntsAre vs ns) (hn : ns.length ≤ 24) (hc : ∀ x ∈ ns, 1 ≤ x ∧ x ≤ 1009) (hc2 : 0 ≤ c ∧ c ≤ 900)
    (hcz : IntsAre cv cz) (hcode : CodeOk cz) (hl2 : 2 ≤ cz.length) (hl8 : cz.length ≤ 8) :
   SpecM w 6 116 J [.ref J, .ref cA] (fun jo h => Jar r c jo ∧ h.IsList r vs.toArray ∧ NE J r ∧ h.IsList cA cv.toArray ∧ NE J cA)
    (fun v own => ∃ D k ys zs jo, v = .ref D ∧ own = [(D, listOf (List.toArray ys) k), (J, jo)] ∧ IntsAre ys zs ∧ CntOk cz.length zs ∧ Jar r (c + 20) jo ∧ NE D J) := by
  unfold SpecM
  k_fill
  intro dp un gd cn cs a ccd cl outer A₀ base h₀ L m news news' jo s Q E mean mg mb hd_B hd_F hd_X hd_N hd_T hd_k hdp hun hd_J hp1 hd_N2 hd_O hret
  refine an5 hp1 fun hjar hr hrJ hcL hcJ => ?_
  clear hp1
  k_dflt (refine' enterMC (by assumption) (by assumption) (by assumption) ?kN (by assumption) rfl rfl (by assumption) ?k6 ?k7 ?k8 ?k9 ?kB ?kD ?c2 ?c3 ?c4 ?kJ ?kN2 ?kO ?kR ?_; (case k6 => k_is); (case k7 => k_is); (case k8 => exact rm0 (by assumption)); (case k9 => exact BindsTo.of_eq rfl); (case kB => exact rfl); (case kD => decide +kernel); (case c2 => exact rfl); (case c3 => exact rfl); (case c4 => exact rfl); (case kJ => assumption); (case kN => assumption); (case kO => assumption); (case kN2 => assumption); (case kR => assumption))
  clear hd_B hd_F hd_N hd_X hd_T hret hd_J hd_N2 hd_O; intro b R g₀ d₀ os₀ hR hN L' h' tk' cells' W hJL F' N' Y' B' X' T'; k_cells Y'; (try dsimp only [List.cons_append, List.nil_append] at N'); (try dsimp only)
  have hrb : b.IsList r vs.toArray := by
    obtain ⟨o, q1, q2⟩ := hr
    exact ⟨o, (W.same _ hrJ.symm.out).trans q1, q2⟩
  have hcb : b.IsList cA cv.toArray := by
    obtain ⟨o, q1, q2⟩ := hcL
    exact ⟨o, (W.same _ hcJ.symm.out).trans q1, q2⟩
  clear W hr hcL
  k_steps
  unfold Stop
  have hn1 : NE (L' + 1) J := .gt (Nat.lt_succ_of_lt hJL)
  have hn2 : NE (L' + 1 + 1) J := .gt (Nat.lt_succ_of_lt (Nat.lt_succ_of_lt hJL))
  have hn3 : NE (L' + 1 + 1 + 1) J := .gt (Nat.lt_succ_of_lt (Nat.lt_succ_of_lt (Nat.lt_succ_of_lt hJL)))
  clear hJL
  have hcl := hcz.length
  have mem3 : ∀ (p a b c d : Addr × Obj), p ∈ [a, b, c] → p ∈ [d, a, b, c] := fun p a b c d hp => .tail _ hp
  rename_i o1 o2 o3 d1 d2 d3
  k_dflt (refine SpecM.use (take_spec w hi hn hc (many := 3) (by omega) (by omega)) B' F' X' N' T' (by first | exact rfl | assumption) (by first | exact rm hdp (by decide) | ktr_room) (by first | exact ru hun (by decide) | ktr_units) (.tail _ (.tail _ (.tail _ (.head _)))) ⟨hjar, hrb.at fun o e => F'.keep _ o e, hrJ⟩ (news' := [(L' + 1 + 1 + 1, o1), (L' + 1 + 1, o2), (L' + 1, o3)]) (nsb N' (fa (by k_mem) (fa (by k_mem) (fa (by k_mem) fan)))) ⟨hn3, hn2, hn1, trivial⟩ ?_)
  clear hjar
  intro v own h9 tk9 hJ0 happ F9 N9
  refine ex3 hJ0 fun way td jo' hJ => an5 hJ fun e1 e2 hw0 hw3 hjar => ?_
  replace N9 := e2 ▸ N9
  clear hJ hJ0 e2
  subst e1
  clear F' N' happ
  dsimp only [List.cons_append, List.nil_append] at N9
  k_steps
  unfold Stop
  rename Fr _ _ _ _ => F1
  rename News _ _ _ _ => N1
  k_dflt (refine SpecM.use (take_spec w hi hn hc (many := 2) (by omega) (by omega)) B' F1 X' N1 T' (by first | exact rfl | assumption) (by first | exact rm hdp (by decide) | ktr_room) (by first | exact ru hun (by decide) | ktr_units) (.head _) ⟨hjar, hrb.at fun o e => F1.keep _ o e, hrJ⟩ (news' := [(L' + 1 + 1 + 1, o1), (L' + 1 + 1, o2), (L' + 1, o3)]) (fun p hp => N1 p (.tail _ hp)) ⟨hn3, hn2, hn1, trivial⟩ ?_)
  clear hjar
  intro v own h8 tk8 hJ0 happ F8 N8
  refine ex3 hJ0 fun mo td2 jo2 hJ => an5 hJ fun e1 e2 hm0 hm2 hjar => ?_
  replace N8 := e2 ▸ N8
  clear hJ hJ0 e2
  subst e1
  clear F1 N1 happ
  dsimp only [List.cons_append, List.nil_append] at N8
  k_steps
  unfold Stop
  rename Fr _ _ _ _ => F1
  rename News _ _ _ _ => N1
  k_dflt (refine SpecM.use (take_spec w hi hn hc (many := (cz.length : Int)) (by omega) (by omega)) B' F1 X' N1 T' (by first | exact rfl | assumption) (by first | exact rm hdp (by decide) | ktr_room) (by first | exact ru hun (by decide) | ktr_units) (.head _) ⟨hjar, hrb.at fun o e => F1.keep _ o e, hrJ⟩ (news' := [(L' + 1 + 1 + 1, o1), (L' + 1 + 1, o2), (L' + 1, o3)]) (fun p hp => N1 p (.tail _ hp)) ⟨hn3, hn2, hn1, trivial⟩ ?_)
  clear hjar
  intro v own h7 tk7 hJ0 happ F7 N7
  refine ex3 hJ0 fun sp td3 jo3 hJ => an5 hJ fun e1 e2 hs0 hs1 hjar => ?_
  replace N7 := e2 ▸ N7
  clear hJ hJ0 e2
  subst e1
  clear F1 N1 happ
  dsimp only [List.cons_append, List.nil_append] at N7
  k_steps
  unfold Stop
  rename Fr _ _ _ _ => F1
  rename News _ _ _ _ => N1
  rename_i D0 _ hlt _ _ _ o4 d4 _
  replace hlt : NE J D0 := .lt hlt.1
  replace N1 : News b L' _ [(J, jo3), (L' + 1 + 1 + 1, o4), (L' + 1 + 1, o2), (L' + 1, o3)] := fun p hp => N1 p (.tail _ hp)
  refine Exists.elim (hcode.max) fun M hJ => an2 hJ fun hM1 hM2 => ?_
  clear hJ
  have hM3 := hcode.le M hM1
  have hcz2 : ∀ j, j < cz.length → cz.getD j 0 ∈ cz := fun j hj => by simp [hj]
  refine LCg.Assign_ListComp_U (F₀ := F1) rfl (by with_unfolding_all rfl) (by rfl) (by decide) (by rfl) (by decide) (by rfl) (by rfl) (by rfl) ?_
  k_steps
  unfold Stop
  refine LCg.CompSrc.base rfl F1 N1 hcb (by rw [List.size_toArray, sizeLine_eq]; omega) fun g => ?_
  refine comp_ints (fun j => (1 + mo) * 2 ^ (M - cz.getD j 0).toNat) (.inl hcb) _ _ _ [] .nil ?_ ?_
  · clear F1 N1
    rintro j v I oI C oC D m₂ h tk E' ys _ hj hv hC hx F N off ne
    rw [List.size_toArray] at hj
    obtain ⟨t1, rfl⟩ : ∃ t, v = .int (cz.getD j 0) t := by
      obtain ⟨t, q2⟩ := hcz.get j (cz.getD j 0) (by simp [show j < cz.length by omega])
      exact ⟨t, by rw [List.getElem?_toArray] at hv; exact Option.some.inj (hv.symm.trans q2)⟩
    have hjz := hcz2 j (by omega)
    k_steps
    unfold Stop
    rename_i h1 M1 t2 k2 F2 N2 a2 b2
    have eM : M1 = M := by
      have q1 := b2 M hM1
      have q2 := hM2 _ a2
      omega
    rw [eM]
    clear a2 b2
    have q3 := hM2 _ hjz
    have q4 := hcode.le _ hjz
    refine pow_int_small (by omega) (by omega) (by decide) ?_
    dsimp only
    refine PyProof.Rows.mul_int ?_ (mulOk_of_bits (bits_of_le (n := 10) (by omega) (by omega)) (intBits_pow_le (m := 2) (by decide) _) (bs3 (Int.toNat_le.mpr (by omega))))
    exact OneInt.intro rfl F2 N2
  · intro ys hys
    rw [List.nil_append, List.size_toArray, hcl, comp_range cz (fun l => (1 + mo) * 2 ^ (M - l).toNat)] at hys
    have hcnt := base_cnt hcode hl8 M hM1 hM2 mo (by omega)
    generalize cz.map (fun l => (1 + mo) * 2 ^ (M - l).toNat) = bz at hys hcnt
    refine an3 hcnt fun hb1 hb2 hb3 => ?_
    clear hcnt
    clear F1 N1
    have hsp : sp.toNat < bz.length := by omega
    have hset := set_cnt hb1 hb2 hb3 hsp 1 (by decide)
    k_steps
    try (exfalso; omega)
    · rename Fr _ _ _ _ => F1
      rename News _ _ _ _ => N1
      rename IntsAre _ (List.set _ _ _) => hii
      refine an3 hset fun s1 s2 s3 => ?_
      clear hset
      refine ex5 hjar fun A C t1 t2 k2 hJ => an4 hJ fun e1 hA hC0 hC => ?_
      clear hJ hjar
      subst e1
      exact hR _ _ (pend _ F1 (fun p hp => N1 p (sub2 hp)) (in5 _ _ _ _ _ ⟨rfl, rfl, hii, ⟨s1, fun z hz => ⟨(s2 z hz).1, by have := (s2 z hz).2; omega⟩, by omega⟩, (in5 A C t1 t2 k2 ⟨rfl, hA, hC0, by omega⟩), ne_jar N1 (.head _) (.tail _ (.head _)) (in5 A C t1 t2 k2 ⟨rfl, hA, hC0, hC⟩) hii⟩))
    · unfold Stop
      rename Fr _ _ _ _ => F1
      rename News _ _ _ _ => N1
      have N2 : News _ _ _ (_ :: _ :: _) := fun p hp => N1 p (swap2 hp)
      have hne9 := ne_jar N1 (.head _) (.tail _ (.head _)) hjar hys
      clear N1
      refine LCg.Assign_ListComp_U (F₀ := F1) rfl (by with_unfolding_all rfl) (by rfl) (by decide) (by rfl) (by decide) (by rfl) (by rfl) (by rfl) ?_
      k_steps
      unfold Stop
      refine LCg.CompSrc.base rfl F1 N2 hcb (by rw [List.size_toArray, sizeLine_eq]; omega) fun g => ?_
      refine comp_J (fun i jo => Jar r (c + 3 + i) jo) (fun n => 1 ≤ n ∧ n ≤ 9) (fun _ => .inl hcb) _ _ [] [] jo3 .nil (fun n hn => absurd hn List.not_mem_nil) rfl (by rw [show c + 3 + ((0 : Nat) : Int) = c + 1 + 1 + 1 by omega]; exact hjar) ?_ ?_
      · clear F1 N2 hjar
        rintro j v I oI C oC D m₂ h tk E' ys2 jo4 _ hj hjar hv hC hx F N off ne
        rw [List.size_toArray] at hj
        refine an6 off fun qa qb qc qe qf _ => an3 qa fun a1 a2 a3 => an3 qb fun b1 b2 b3 => an3 qc fun c1 c2 c3 => an3 qe fun e1 e2 e3 => an3 qf fun f1 f2 f3 => ?_
        clear off qa qb qc qe qf
        replace a1 : NE J I := ⟨a1⟩
        replace a2 : NE J C := ⟨a2⟩
        replace a3 : NE J D := ⟨a3⟩
        clear b1 b2 b3 c1 c2 c3 e1 e2 e3 f1 f2 f3 ne
        k_steps
        unfold Stop
        rename Fr _ _ _ _ => F3
        rename News _ _ _ _ => N3
        k_dflt (refine SpecM.use (take_spec w hi hn hc (many := 9) (by omega) (by omega)) B' F3 X' N3 T' (by first | exact rfl | assumption) (by first | exact rm hdp (by decide) | ktr_room) (by first | exact ru hun (by decide) | ktr_units) (.tail _ (.tail _ (.tail _ (.head _)))) ⟨hjar, hrb.at fun o e => F3.keep _ o e, hrJ⟩ (drop3 N3) ⟨a1.symm, a2.symm, a3.symm, hne9, hn3, hn2, hn1, trivial⟩ ?_)
        clear hjar
        intro v own h8 tk8 hJ0 happ F8 N8
        refine ex3 hJ0 fun d td jo' hJ => an5 hJ fun e1 e2 hd0 hd1 hjar => ?_
        replace N8 := e2 ▸ N8
        clear hJ hJ0 e2
        subst e1
        clear happ
        dsimp only [List.cons_append, List.nil_append] at N8
        k_steps
        rename Fr _ _ _ _ => F5
        rename News _ _ _ _ => N5
        exact in5 _ _ _ _ jo' ⟨rfl, rfl, F5, ins3 N5, by rw [show c + 3 + ((j + 1 : Nat) : Int) = c + 3 + j + 1 by omega]; exact hjar, by omega, by omega⟩
      · clear F1 N2 hjar
        intro ys3 zs3 jo5 hI3 hR3 hl3 hjar
        rw [List.size_toArray, hcl] at hl3 hjar
        have hb2 : ∀ z ∈ zs3, 1 ≤ z ∧ z ≤ 9 := hR3
        have hb3 := sum_le_len zs3 9 fun z hz => ⟨by have := hR3 z hz; omega, (hR3 z hz).2⟩
        have hl4 := hI3.length
        k_steps
        unfold Stop
        rename Fr _ _ _ _ => F3
        rename News _ _ _ _ => N3
        have hneD := ne_jar N3 (.head _) (.tail _ (.head _)) hjar hI3
        k_dflt (refine SpecM.use (take_spec w hi hn hc (many := 3) (by omega) (by omega)) B' F3 X' N3 T' (by first | exact rfl | assumption) (by first | exact rm hdp (by decide) | ktr_room) (by first | exact ru hun (by decide) | ktr_units) (.tail _ (.head _)) ⟨hjar, hrb.at fun o e => F3.keep _ o e, hrJ⟩ (drop1 N3) ⟨hneD, hne9, hn3, hn2, hn1, trivial⟩ ?_)
        clear hjar
        intro v own h8 tk8 hJ0 happ F8 N8
        refine ex3 hJ0 fun d td jo' hJ => an5 hJ fun e1 e2 hd0 hd1 hjar => ?_
        replace N8 := e2 ▸ N8
        clear hJ hJ0 e2
        subst e1
        clear F3 N3 happ
        dsimp only [List.cons_append, List.nil_append] at N8
        have hset2 := set_cnt (n := cz.length) (by omega) hb2 hb3.2 (show sp.toNat < zs3.length by omega) (40 * d) (by omega)
        refine an3 hset2 fun s1 s2 s3 => ?_
        clear hset2
        k_steps
        rename Fr _ _ _ _ => F1
        rename News _ _ _ _ => N1
        rename IntsAre _ (List.set _ _ _) => hii
        have N1 := swap2' N1
        refine ex5 hjar fun A C t1 t2 k2 hJ => an4 hJ fun e1 hA hC0 hC => ?_
        clear hJ hjar
        subst e1
        exact hR _ _ (pend _ F1 (fun p hp => N1 p (sub2 hp)) (in5 _ _ _ _ _ ⟨rfl, rfl, hii, ⟨s1, fun z hz => ⟨(s2 z hz).1, by have := (s2 z hz).2; omega⟩, by omega⟩, (in5 A C t1 t2 k2 ⟨rfl, hA, hC0, by omega⟩), ne_jar N1 (.head _) (.tail _ (.head _)) (in5 A C t1 t2 k2 ⟨rfl, hA, hC0, hC⟩) hii⟩))
    · rename Fr _ _ _ _ => F1
      rename News _ _ _ _ => N1
      refine ex5 hjar fun A C t1 t2 k2 hJ => an4 hJ fun e1 hA hC0 hC => ?_
      clear hJ hjar
      subst e1
      exact hR _ _ (pend _ F1 (fun p hp => N1 p (sub2 hp)) (in5 _ _ _ _ _ ⟨rfl, rfl, hys, ⟨hb1, fun z hz => ⟨(hb2 z hz).1, by have := (hb2 z hz).2; omega⟩, by omega⟩, (in5 A C t1 t2 k2 ⟨rfl, hA, hC0, by omega⟩), ne_jar N1 (.head _) (.tail _ (.head _)) (in5 A C t1 t2 k2 ⟨rfl, hA, hC0, hC⟩) hys⟩))
end

section
noncomputable def lenF (ns : List Int) (lo : Nat) (rows : List (Int × Int)) : List Int := placeF rows (packF (rows.map (·.1)) lo) (List.replicate ns.length 0)
noncomputable def RowsOf (ns : List Int) (rows : List (Int × Int)) : Prop := rows.Perm (usedF 0 ns) ∧ rows.Pairwise (fun a b => keyOf a < keyOf b)
/- two lists with noughts put in at the same places -/
inductive Ins (zs cz : List Int) : Nat → List Int → List Int → Prop
  | refl : Ins zs cz 0 zs cz
  | ins {k : Nat} {ns ls : List Int} (s : Nat) : Ins zs cz k ns ls → s ≤ ns.length → Ins zs cz (k + 1) (ns.take s ++ [0] ++ ns.drop s) (ls.take s ++ [0] ++ ls.drop s)
theorem zip_ins {ns ls : List Int} (s : Nat) (h : ns.length = ls.length) : (ns.take s ++ [0] ++ ns.drop s).zip (ls.take s ++ [0] ++ ls.drop s) = (ns.zip ls).take s ++ [(0, 0)] ++ (ns.zip ls).drop s := by
  have e1 : (ns.zip ls).take s = (ns.take s).zip (ls.take s) := by simp [List.zip_eq_zipWith, List.take_zipWith]
  have e2 : (ns.zip ls).drop s = (ns.drop s).zip (ls.drop s) := by simp [List.zip_eq_zipWith, List.drop_zipWith]
  rw [e1, e2, List.zip_append (by simp [h]), List.zip_append (by simp [h])]
  rfl
theorem ins_len (l : List Int) (s : Nat) (x : Int) : (l.take s ++ [x] ++ l.drop s).length = l.length + 1 := by
  have := congrArg List.length (List.take_append_drop s l)
  simp only [List.length_append, List.length_cons, List.length_nil] at this ⊢
  omega
theorem Ins.len {zs cz ns ls : List Int} {k : Nat} (h : Ins zs cz k ns ls) (hz : zs.length = cz.length) : ns.length = cz.length + k ∧ ls.length = cz.length + k := by
  induction h with
  | refl => exact ⟨hz, rfl⟩
  | ins s h hs ih => rw [ins_len, ins_len, ih.1, ih.2]; exact ⟨rfl, rfl⟩
theorem Ins.zip {zs cz ns ls : List Int} {k : Nat} (h : Ins zs cz k ns ls) (hz : zs.length = cz.length) :
    (ns.zip ls).filter (fun p => decide (0 < p.1)) = (zs.zip cz).filter (fun p => decide (0 < p.1)) ∧ ∀ p ∈ ns.zip ls, p ∈ zs.zip cz ∨ p = (0, 0) := by
  induction h with
  | refl => exact ⟨rfl, fun p hp => .inl hp⟩
  | @ins k ns ls s h hs ih =>
    have hl := h.len hz
    rw [zip_ins s (by omega)]
    obtain ⟨i1, i2⟩ := ih
    constructor
    · rw [List.filter_append, List.filter_append, ← i1]
      conv => rhs; rw [← List.take_append_drop s (ns.zip ls), List.filter_append]
      simp
    · intro p hp
      rcases List.mem_append.mp hp with hp | hp
      · rcases List.mem_append.mp hp with hp | hp
        · exact i2 p (List.mem_of_mem_take hp)
        · exact .inr (List.mem_singleton.mp hp)
      · exact i2 p (List.mem_of_mem_drop hp)
theorem Ins.sum {zs cz ns ls : List Int} {k : Nat} (h : Ins zs cz k ns ls) : ns.sum = zs.sum ∧ (ns.filter (fun c => decide (0 < c))) = (zs.filter (fun c => decide (0 < c))) := by
  induction h with
  | refl => exact ⟨rfl, rfl⟩
  | @ins k ns ls s h hs ih =>
    obtain ⟨i1, i2⟩ := ih
    constructor
    · rw [← i1, List.sum_append, List.sum_append]
      conv => rhs; rw [← List.take_append_drop s ns, List.sum_append]
      simp
    · rw [← i2, List.filter_append, List.filter_append]
      conv => rhs; rw [← List.take_append_drop s ns, List.filter_append]
      simp
theorem CodeOk.pos {zs : List Int} (h : CodeOk zs) (h2 : 2 ≤ zs.length) : ∀ x ∈ zs, 1 ≤ x := by
  induction h with
  | one => simp at h2
  | @split xs s h hs ih =>
    intro x hx
    have h2 : xs.getD s 0 ∈ xs := by simp [hs]
    have h3 := (h.le _ h2).1
    have key : ∀ y ∈ xs.take s ++ xs.drop (s + 1), 1 ≤ y := by
      intro y hy
      by_cases hl : 2 ≤ xs.length
      · rcases List.mem_append.mp hy with hy | hy
        · exact ih hl y (List.mem_of_mem_take hy)
        · exact ih hl y (List.mem_of_mem_drop hy)
      · have : s = 0 := by omega
        subst this
        rw [List.take_zero, List.nil_append, List.drop_eq_nil_of_le (by omega)] at hy
        exact absurd hy List.not_mem_nil
    rcases List.mem_append.mp hx with hx | hx
    · rcases List.mem_append.mp hx with hx | hx
      · exact key x (List.mem_append_left _ hx)
      · have : x = xs.getD s 0 + 1 := by simpa using hx
        omega
    · exact key x (List.mem_append_right _ hx)
structure Drawn (n : Nat) (ns ls : List Int) : Prop where
  len : ns.length = ls.length
  len2 : ns.length ≤ n + 2
  le : ∀ c ∈ ns, 0 ≤ c ∧ c ≤ 1000
  lle : ∀ l ∈ ls, 0 ≤ l ∧ l ≤ 20
  sum : ns.sum ≤ 400
  used : (usedF 0 ns).length = n
  pos : ∀ (i : Nat) (c l : Int), ns[i]? = some c → ls[i]? = some l → 0 ≤ c ∧ c ≤ 1000 ∧ (0 < c → 1 ≤ l ∧ l ≤ 20)
theorem Ins.drawn {zs cz ns ls : List Int} {k : Nat} (h : Ins zs cz k ns ls) (hz : CntOk cz.length zs) (hc : CodeOk cz) (h2 : 2 ≤ cz.length) (h8 : cz.length ≤ 8) (hk : k ≤ 2) : Drawn cz.length ns ls := by
  have hl := h.len hz.len
  obtain ⟨z1, z2⟩ := h.zip hz.len
  obtain ⟨s1, s2⟩ := h.sum
  have key : ∀ p ∈ ns.zip ls, (0 ≤ p.1 ∧ p.1 ≤ 1000) ∧ (0 ≤ p.2 ∧ p.2 ≤ 20) ∧ (0 < p.1 → 1 ≤ p.2) := by
    intro p hp
    rcases z2 p hp with hp | rfl
    · have a1 := hz.le _ (List.of_mem_zip hp).1
      have a2 := hc.le _ (List.of_mem_zip hp).2
      have a3 := hc.pos h2 _ (List.of_mem_zip hp).2
      exact ⟨⟨by omega, by omega⟩, ⟨by omega, by omega⟩, fun _ => a3⟩
    · exact ⟨⟨by decide, by decide⟩, ⟨by decide, by decide⟩, fun h => absurd h (by decide)⟩
  have at_ : ∀ (i : Nat) (c l : Int), ns[i]? = some c → ls[i]? = some l → (c, l) ∈ ns.zip ls := fun i c l e1 e2 => by
    refine List.mem_of_getElem? (i := i) ?_
    rw [List.getElem?_zip_eq_some]
    exact ⟨e1, e2⟩
  refine ⟨by omega, by omega, fun c hc' => ?_, fun l hl' => ?_, by rw [s1]; exact hz.sum, ?_, fun i c l e1 e2 => ?_⟩
  · obtain ⟨i, hi, rfl⟩ := List.getElem_of_mem hc'
    exact (key _ (at_ i _ _ (List.getElem?_eq_getElem hi) (List.getElem?_eq_getElem (by omega)))).1
  · obtain ⟨i, hi, rfl⟩ := List.getElem_of_mem hl'
    exact (key _ (at_ i _ _ (List.getElem?_eq_getElem (by omega)) (List.getElem?_eq_getElem hi))).2.1
  · rw [used_len, s2, List.filter_eq_self.mpr fun c hc => ?_, hz.len]
    have := hz.le c hc
    simp; omega
  · have := key _ (at_ i c l e1 e2)
    exact ⟨this.1.1, this.1.2, fun hp => ⟨this.2.2 hp, this.2.1.2⟩⟩
structure CountsFit (ns : List Int) (lo : Nat) : Prop where
  len : ns.length ≤ 20
  le : ∀ c ∈ ns, 0 ≤ c ∧ c ≤ 1000
  u2 : 2 ≤ (usedF 0 ns).length
  u10 : (usedF 0 ns).length ≤ 10
  lo1 : 1 ≤ lo ∧ lo ≤ 16
  room : (usedF 0 ns).length ≤ 2 ^ lo
noncomputable def prods (few : List Int) : List Int := few.flatMap fun a => few.map (a * ·)
end

section
/- Bernoulli -/
theorem bern (q d : Int) (hq : 0 ≤ q) (hp : 0 ≤ q + d) : ∀ n : Nat, q ^ n * (q + (n + 1) * d) ≤ (q + d) ^ (n + 1) ∧ (1 ≤ n → d ≠ 0 → q ^ n * (q + (n + 1) * d) < (q + d) ^ (n + 1))
  | 0 => by simp [Int.pow_succ]
  | n + 1 => by
    obtain ⟨ih, _⟩ := bern q d hq hp n
    have h1 := Int.mul_le_mul_of_nonneg_right ih hp
    have hqn : 0 ≤ q ^ n := Int.pow_nonneg hq
    have e1 : q ^ n * (q + (n + 1) * d) * (q + d) = q ^ (n + 1) * (q + ((n + 1 : Nat) + 1) * d) + q ^ n * ((n + 1) * (d * d)) := by
      rw [Int.pow_succ]; push_cast; grind
    have hdd : 0 ≤ d * d := by
      rcases Int.le_total 0 d with h | h
      · exact Int.mul_nonneg h h
      · exact Int.mul_nonneg_of_nonpos_of_nonpos h h
    have h2 : 0 ≤ q ^ n * ((n + 1) * (d * d)) := Int.mul_nonneg hqn (Int.mul_nonneg (by omega) hdd)
    rw [Int.pow_succ (q + d) (n + 1)]
    refine ⟨Int.le_trans (Int.le_add_of_nonneg_right h2) (e1 ▸ h1), fun _ hd => ?_⟩
    by_cases hq0 : q = 0
    · subst hq0
      rw [Int.zero_pow (by omega), Int.zero_mul]
      have : 0 < 0 + d := by omega
      exact Int.mul_pos (Int.pow_pos this) this
    · have hqn : 0 < q ^ n := Int.pow_pos (by omega)
      have hdd : 0 < d * d := by
        rcases Int.lt_or_gt_of_ne hd with h | h
        · exact Int.mul_pos_of_neg_of_neg h h
        · exact Int.mul_pos h h
      have h3 : 0 < q ^ n * ((n + 1) * (d * d)) := Int.mul_pos hqn (Int.mul_pos (by omega) hdd)
      omega

/- one more number in a mean -/
theorem step_nat (m x S : Nat) (hm : 1 ≤ m) : (m + 1) ^ (m + 1) * x * S ^ m ≤ m ^ m * (S + x) ^ (m + 1) ∧ (m * x ≠ S → (m + 1) ^ (m + 1) * x * S ^ m < m ^ m * (S + x) ^ (m + 1)) := by
  have key := bern ((m + 1) * S : Int) (m * x - S) (Int.mul_nonneg (by omega) (by omega)) (by
    have : (0 : Int) ≤ m * S + m * x := Int.add_nonneg (Int.mul_nonneg (by omega) (by omega)) (Int.mul_nonneg (by omega) (by omega))
    grind) m
  have e1 : ((m + 1) * S : Int) + (m * x - S) = m * (S + x) := by grind
  have e2 : ((m + 1) * S : Int) + (m + 1) * (m * x - S) = (m + 1) * (m * x) := by grind
  rw [e1, e2, Int.mul_pow, Int.mul_pow] at key
  have e3 : ((m : Int) + 1) ^ m * (S : Int) ^ m * ((m + 1) * (m * x)) = m * (((m + 1) ^ (m + 1) * x * S ^ m : Nat) : Int) := by
    push_cast
    rw [Int.pow_succ]; grind
  have e4 : (m : Int) ^ (m + 1) * ((S : Int) + x) ^ (m + 1) = m * ((m ^ m * (S + x) ^ (m + 1) : Nat) : Int) := by
    push_cast
    rw [Int.pow_succ (m : Int)]; grind
  rw [e3, e4] at key
  have hm' : (0 : Int) < m := by omega
  constructor
  · have := Int.le_of_mul_le_mul_left key.1 hm'
    exact_mod_cast this
  · intro hne
    have := Int.lt_of_mul_lt_mul_left (key.2 hm (fun h => hne (by have : (m : Int) * x = S := by omega
                                                                  exact_mod_cast this))) (Int.le_of_lt hm')
    exact_mod_cast this

/- the mean of numbers and their product -/
theorem amgm : ∀ l : List Nat, l.length ^ l.length * l.prod ≤ l.sum ^ l.length ∧ ((∃ y ∈ l, l.length * y ≠ l.sum) → l.length ^ l.length * l.prod < l.sum ^ l.length)
  | [] => by simp
  | [x] => by simp
  | x :: z :: l => by
    obtain ⟨ih1, ih2⟩ := amgm (z :: l)
    obtain ⟨m, hm⟩ : ∃ m, (z :: l).length = m := ⟨_, rfl⟩
    have hm1 : 1 ≤ m := by rw [← hm]; simp
    have hlen : (x :: z :: l).length = m + 1 := by rw [List.length_cons, hm]
    obtain ⟨S, hS⟩ : ∃ S, (z :: l).sum = S := ⟨_, rfl⟩
    obtain ⟨P, hP⟩ : ∃ P, (z :: l).prod = P := ⟨_, rfl⟩
    rw [hm, hS, hP] at ih1
    rw [List.sum_cons, List.prod_cons, hlen, hS, hP]
    obtain ⟨s1, s2⟩ := step_nat m x S hm1
    have hmm : 0 < m ^ m := Nat.pow_pos hm1
    have c1 : m ^ m * ((m + 1) ^ (m + 1) * (x * P)) = (m + 1) ^ (m + 1) * x * (m ^ m * P) := by grind
    have c2 : (m + 1) ^ (m + 1) * x * (m ^ m * P) ≤ (m + 1) ^ (m + 1) * x * S ^ m := Nat.mul_le_mul_left _ ih1
    rw [Nat.add_comm x S]
    refine ⟨Nat.le_of_mul_le_mul_left (Nat.le_trans (c1 ▸ c2) s1) hmm, ?_⟩
    rintro ⟨y, hy, hne⟩
    refine Nat.lt_of_mul_lt_mul_left (a := m ^ m) ?_
    rw [c1]
    by_cases hx : m * x = S
    · have hy2 : y ∈ z :: l := by
        rcases List.mem_cons.mp hy with rfl | hy
        · exfalso; apply hne; rw [← hx]; grind
        · exact hy
      have hlt := ih2 ⟨y, hy2, fun h => by
        rw [hm, hS, ← hx] at h
        have : y = x := Nat.eq_of_mul_eq_mul_left hm1 h
        apply hne; rw [← hx, this]; grind⟩
      rw [hm, hS, hP] at hlt
      have hx0 : 0 < x := by
        rcases Nat.eq_zero_or_pos x with h0 | h0
        · exfalso
          rw [h0, Nat.mul_zero] at hx
          rw [← hx, Nat.zero_pow hm1] at hlt
          exact Nat.not_lt_zero _ hlt
        · exact h0
      refine Nat.lt_of_lt_of_le ?_ s1
      exact Nat.mul_lt_mul_of_pos_left hlt (Nat.mul_pos (Nat.pow_pos (by omega)) hx0)
    · exact Nat.lt_of_le_of_lt c2 (s2 hx)

theorem prod_replicate (n x : Nat) : (List.replicate n x).prod = x ^ n := by
  induction n with
  | zero => rfl
  | succ n ih => rw [List.replicate_succ, List.prod_cons, ih, Nat.pow_succ, Nat.mul_comm]

/- two terms -/
theorem two (a b X Y : Nat) (ha : 1 ≤ a) (hb : 1 ≤ b) : X ^ a * Y ^ b * (a + b) ^ (a + b) ≤ a ^ a * b ^ b * (X + Y) ^ (a + b) ∧ (X * b ≠ Y * a → X ^ a * Y ^ b * (a + b) ^ (a + b) < a ^ a * b ^ b * (X + Y) ^ (a + b)) := by
  have key := amgm (List.replicate a (X * b) ++ List.replicate b (Y * a))
  have el : (List.replicate a (X * b) ++ List.replicate b (Y * a)).length = a + b := by simp
  have es : (List.replicate a (X * b) ++ List.replicate b (Y * a)).sum = a * b * (X + Y) := by simp; grind
  have ep : (List.replicate a (X * b) ++ List.replicate b (Y * a)).prod = (X * b) ^ a * (Y * a) ^ b := by
    rw [List.prod_append, prod_replicate, prod_replicate]
  rw [el, es, ep] at key
  have e1 : (a + b) ^ (a + b) * ((X * b) ^ a * (Y * a) ^ b) = (a ^ b * b ^ a) * (X ^ a * Y ^ b * (a + b) ^ (a + b)) := by
    rw [Nat.mul_pow, Nat.mul_pow]; generalize (a + b) ^ (a + b) = z; grind
  have e2 : (a * b * (X + Y)) ^ (a + b) = (a ^ b * b ^ a) * (a ^ a * b ^ b * (X + Y) ^ (a + b)) := by
    rw [Nat.mul_pow, Nat.mul_pow]; generalize (X + Y) ^ (a + b) = z; rw [Nat.pow_add, Nat.pow_add]; grind
  rw [e1, e2] at key
  have hpos : 0 < a ^ b * b ^ a := Nat.mul_pos (Nat.pow_pos ha) (Nat.pow_pos hb)
  refine ⟨Nat.le_of_mul_le_mul_left key.1 hpos, fun hne => Nat.lt_of_mul_lt_mul_left (a := a ^ b * b ^ a) (key.2 ⟨X * b, by simp; left; omega, fun h => hne ?_⟩)⟩
  have h2 : b * (X * b) = b * (Y * a) := by grind
  exact Nat.eq_of_mul_eq_mul_left hb h2

/- products over pairs -/
noncomputable def yPow : List (Nat × Nat) → Nat
  | [] => 1
  | p :: r => p.2 ^ p.1 * yPow r
noncomputable def cPow : List (Nat × Nat) → Nat
  | [] => 1
  | p :: r => p.1 ^ p.1 * cPow r
noncomputable def cSum (l : List (Nat × Nat)) : Nat := (l.map (·.1)).sum
noncomputable def ySum (l : List (Nat × Nat)) : Nat := (l.map (·.2)).sum

theorem gibbs : ∀ l : List (Nat × Nat), (∀ p ∈ l, 1 ≤ p.1) → yPow l * cSum l ^ cSum l ≤ ySum l ^ cSum l * cPow l ∧ ((∃ p ∈ l, p.2 * cSum l ≠ p.1 * ySum l) → yPow l * cSum l ^ cSum l < ySum l ^ cSum l * cPow l)
  | [], _ => by simp [yPow, cPow, cSum, ySum]
  | [p], _ => by simp [yPow, cPow, cSum, ySum, Nat.mul_comm]
  | p :: z :: l, hl => by
    obtain ⟨ih1, ih2⟩ := gibbs (z :: l) fun q hq => hl q (List.mem_cons_of_mem _ hq)
    have hp := hl p List.mem_cons_self
    have hz := hl z (by simp)
    obtain ⟨M, hM⟩ : ∃ M, cSum (z :: l) = M := ⟨_, rfl⟩
    obtain ⟨S, hS⟩ : ∃ S, ySum (z :: l) = S := ⟨_, rfl⟩
    obtain ⟨W, hW⟩ : ∃ W, yPow (z :: l) = W := ⟨_, rfl⟩
    obtain ⟨C, hC⟩ : ∃ C, cPow (z :: l) = C := ⟨_, rfl⟩
    have hM1 : 1 ≤ M := by rw [← hM]; simp [cSum]; omega
    have e1 : cSum (p :: z :: l) = p.1 + M := by rw [← hM]; simp [cSum]
    have e2 : ySum (p :: z :: l) = p.2 + S := by rw [← hS]; simp [ySum]
    have e3 : yPow (p :: z :: l) = p.2 ^ p.1 * W := by rw [yPow, hW]
    have e4 : cPow (p :: z :: l) = p.1 ^ p.1 * C := by rw [cPow, hC]
    rw [hM, hS, hW, hC] at ih1 ih2
    rw [e1, e2, e3, e4]
    obtain ⟨t1, t2⟩ := two p.1 M p.2 S hp hM1
    obtain ⟨a, y⟩ := p
    dsimp only at *
    generalize hZ : (a + M) ^ (a + M) = Z at *
    generalize hV : (y + S) ^ (a + M) = V at *
    have hMM : 0 < M ^ M := Nat.pow_pos hM1
    have c1 : M ^ M * (y ^ a * W * Z) = (y ^ a * Z) * (W * M ^ M) := by grind
    have c2 : M ^ M * (V * (a ^ a * C)) = (a ^ a * M ^ M * V) * C := by grind
    have c3 : (y ^ a * Z) * (S ^ M * C) = (y ^ a * S ^ M * Z) * C := by grind
    have d1 : (y ^ a * Z) * (W * M ^ M) ≤ (y ^ a * Z) * (S ^ M * C) := Nat.mul_le_mul_left _ ih1
    have d2 : (y ^ a * S ^ M * Z) * C ≤ (a ^ a * M ^ M * V) * C := Nat.mul_le_mul_right _ t1
    refine ⟨Nat.le_of_mul_le_mul_left (show M ^ M * (y ^ a * W * Z) ≤ M ^ M * (V * (a ^ a * C)) by rw [c1, c2]; exact Nat.le_trans d1 (c3 ▸ d2)) hMM, ?_⟩
    rintro ⟨q, hq, hne⟩
    refine Nat.lt_of_mul_lt_mul_left (a := M ^ M) ?_
    rw [c1, c2]
    have hCpos : 0 < C := by
      rw [← hC]
      have : ∀ r : List (Nat × Nat), (∀ p ∈ r, 1 ≤ p.1) → 0 < cPow r := by
        intro r
        induction r with
        | nil => intro _; decide
        | cons p r ih => intro h; exact Nat.mul_pos (Nat.pow_pos (h p List.mem_cons_self)) (ih fun q hq => h q (List.mem_cons_of_mem _ hq))
      exact this _ fun q hq => hl q (List.mem_cons_of_mem _ hq)
    by_cases hpr : y * M = S * a
    · have hq2 : q ∈ z :: l := by
        rcases List.mem_cons.mp hq with rfl | hq
        · exfalso; apply hne; dsimp only; grind
        · exact hq
      have hlt := ih2 ⟨q, hq2, fun h => hne (by
        have h2 : M * (q.2 * (a + M)) = M * (q.1 * (y + S)) := by
          have : q.1 * (y + S) * M = q.1 * S * (a + M) := by
            have : q.1 * (y * M) = q.1 * (S * a) := by rw [hpr]
            grind
          have h3 : q.2 * M * (a + M) = q.1 * S * (a + M) := by rw [h]
          grind
        exact Nat.eq_of_mul_eq_mul_left hM1 h2)⟩
      have hy : 0 < y := by
        rcases Nat.eq_zero_or_pos y with h0 | h0
        · exfalso
          rw [h0, Nat.zero_mul] at hpr
          have hS0 : S = 0 := by
            rcases Nat.mul_eq_zero.mp hpr.symm with h | h
            · exact h
            · omega
          rw [hS0, Nat.zero_pow hM1, Nat.zero_mul] at hlt
          exact Nat.not_lt_zero _ hlt
        · exact h0
      have hZpos : 0 < Z := by rw [← hZ]; exact Nat.pow_pos (by omega)
      refine Nat.lt_of_lt_of_le (Nat.mul_lt_mul_of_pos_left hlt (Nat.mul_pos (Nat.pow_pos hy) hZpos)) (c3 ▸ d2)
    · exact Nat.lt_of_le_of_lt (c3 ▸ d1) (Nat.mul_lt_mul_of_pos_right (t2 hpr) hCpos)

/- where all are alike, the two sides are one -/
theorem gibbs_eq (N Y : Nat) (hN : 1 ≤ N) : ∀ l : List (Nat × Nat), (∀ p ∈ l, p.2 * N = p.1 * Y) → yPow l * N ^ cSum l = Y ^ cSum l * cPow l
  | [], _ => by simp [yPow, cPow, cSum]
  | p :: l, h => by
    have ih := gibbs_eq N Y hN l fun q hq => h q (List.mem_cons_of_mem _ hq)
    have e1 : cSum (p :: l) = p.1 + cSum l := by simp [cSum]
    rw [e1, yPow, cPow, Nat.pow_add, Nat.pow_add]
    have hp := h p List.mem_cons_self
    have h2 : (p.2 * N) ^ p.1 = (p.1 * Y) ^ p.1 := by rw [hp]
    rw [Nat.mul_pow, Nat.mul_pow] at h2
    grind
end

section
noncomputable def SortedI (l : List Int) : Prop := l.Pairwise (· ≤ ·)

theorem takeF_zero (fs : List Bool) : takeF fs 0 = 0 := by simp [takeF]
theorem takeF_true (fs : List Bool) (m : Nat) : takeF (true :: fs) (m + 1) = takeF fs m + 1 := by simp [takeF]
theorem takeF_false (fs : List Bool) (m : Nat) : takeF (false :: fs) (m + 1) = takeF fs m := by simp [takeF]

/- the first m of a merge: the first leaves and the first pairs -/
theorem merge_take : ∀ (m : Nat) (ws ps : List Int), m ≤ ws.length + ps.length →
    (((mergeF ws ps).map (·.1)).take m).sum = (ws.take (takeF ((mergeF ws ps).map (·.2)) m)).sum + (ps.take (m - takeF ((mergeF ws ps).map (·.2)) m)).sum ∧
    takeF ((mergeF ws ps).map (·.2)) m ≤ ws.length ∧ m - takeF ((mergeF ws ps).map (·.2)) m ≤ ps.length := by
  intro m
  induction m with
  | zero => intro ws ps _; simp [takeF_zero]
  | succ m ihm =>
    intro ws ps h
    cases ps with
    | nil =>
      cases ws with
      | nil => simp at h
      | cons w ws =>
        have ih := ihm ws [] (by simpa using h)
        rw [mergeF] at ih ⊢
        simp only [List.map_cons, takeF_true, List.take_succ_cons, List.sum_cons, List.take_nil, List.sum_nil, List.length_cons, List.length_nil] at ih ⊢
        omega
    | cons p ps =>
      cases ws with
      | nil =>
        have e : (mergeF [] (p :: ps)).map (·.1) = p :: (mergeF [] ps).map (·.1) ∧ (mergeF [] (p :: ps)).map (·.2) = false :: (mergeF [] ps).map (·.2) := by
          cases ps <;> simp [mergeF]
        have ih := ihm [] ps (by simpa using h)
        have hle := takeF_le ((mergeF [] ps).map (·.2)) m
        rw [e.1, e.2, takeF_false, List.take_succ_cons, List.sum_cons, show m + 1 - takeF ((mergeF [] ps).map (·.2)) m = (m - takeF ((mergeF [] ps).map (·.2)) m) + 1 from Nat.succ_sub hle, List.take_succ_cons, List.sum_cons]
        simp only [List.length_cons, List.take_nil, List.sum_nil, List.length_nil] at ih ⊢
        exact ⟨by rw [ih.1, Int.zero_add, Int.zero_add], ih.2.1, Nat.succ_le_succ ih.2.2⟩
      | cons w ws =>
        by_cases hwp : w ≤ p
        · have ih := ihm ws (p :: ps) (by simp at h ⊢; omega)
          rw [mg_le hwp]
          simp only [List.map_cons, takeF_true, List.take_succ_cons, List.sum_cons, List.length_cons] at ih ⊢
          generalize takeF (List.map (fun x => x.snd) (mergeF ws (p :: ps))) m = k at ih ⊢
          rw [show m + 1 - (k + 1) = m - k from Nat.succ_sub_succ m k]
          exact ⟨by rw [ih.1, Int.add_assoc], Nat.succ_le_succ ih.2.1, ih.2.2⟩
        · have ih := ihm (w :: ws) ps (by simp at h ⊢; omega)
          have hle := takeF_le ((mergeF (w :: ws) ps).map (·.2)) m
          rw [mg_gt hwp]
          simp only [List.map_cons, takeF_false, List.take_succ_cons, List.sum_cons, List.length_cons] at ih ⊢
          generalize takeF (List.map (fun x => x.snd) (mergeF (w :: ws) ps)) m = k at ih hle ⊢
          rw [show m + 1 - k = (m - k) + 1 from Nat.succ_sub hle, List.take_succ_cons, List.sum_cons]
          exact ⟨by rw [ih.1, Int.add_left_comm], ih.2.1, Nat.succ_le_succ ih.2.2⟩

theorem take_last {l : List Int} {x : Int} (hx : ∀ y ∈ l, x ≤ y) {b : Nat} (hb : b < l.length) : x + (l.take b).sum ≤ (l.take (b + 1)).sum := by
  rw [List.take_add_one, List.sum_append, List.getElem?_eq_getElem hb]
  have := hx _ (List.getElem_mem hb)
  simp
  omega

/- no choice is below the first m of a merge -/
theorem merge_min : ∀ (ws ps : List Int) (a b : Nat), SortedI ws → SortedI ps → a ≤ ws.length → b ≤ ps.length → (((mergeF ws ps).map (·.1)).take (a + b)).sum ≤ (ws.take a).sum + (ps.take b).sum := by
  refine mg_ind (fun ws a b _ _ ha hb => ?_) (fun p ps a b _ _ ha hb => ?_) (fun w ws p ps hwp ihr a b hs1 hs2 ha hb => ?_) fun w ws p ps hwp ihr a b hs1 hs2 ha hb => ?_
  · have : b = 0 := by simpa using hb
    subst this
    rw [mg_nil]; simp [Function.comp_def]
  · have : a = 0 := by simpa using ha
    subst this
    have e : (mergeF [] (p :: ps)).map (·.1) = p :: ps := by rw [mg_nil']; simp [Function.comp_def]
    rw [e]; simp
  · rw [mg_le hwp]
    have hw := List.pairwise_cons.mp hs1
    have hp := List.pairwise_cons.mp hs2
    cases a with
    | succ a =>
      have ih := ihr a b hw.2 hs2 (by simpa using ha) hb
      rw [show a + 1 + b = (a + b) + 1 by omega]
      simp only [List.map_cons, List.take_succ_cons, List.sum_cons]
      omega
    | zero =>
      cases b with
      | zero => simp
      | succ b =>
        have ih := ihr 0 b hw.2 hs2 (Nat.zero_le _) (by omega)
        have := take_last (l := p :: ps) (x := w) (fun y hy => by
          rcases List.mem_cons.mp hy with rfl | hy
          · exact hwp
          · have := hp.1 y hy; omega) (b := b) (by omega)
        simp only [Nat.zero_add, List.take_zero, List.sum_nil, Int.zero_add] at ih ⊢
        rw [List.map_cons, List.take_succ_cons, List.sum_cons]
        dsimp only
        omega
  · rw [mg_gt hwp]
    have hw := List.pairwise_cons.mp hs1
    have hp := List.pairwise_cons.mp hs2
    cases b with
    | succ b =>
      have ih := ihr a b hs1 hp.2 ha (by simpa using hb)
      rw [show a + (b + 1) = (a + b) + 1 by omega]
      simp only [List.map_cons, List.take_succ_cons, List.sum_cons]
      omega
    | zero =>
      cases a with
      | zero => simp
      | succ a =>
        have ih := ihr a 0 hs1 hp.2 (by omega) (Nat.zero_le _)
        have := take_last (l := w :: ws) (x := p) (fun y hy => by
          rcases List.mem_cons.mp hy with rfl | hy
          · omega
          · have := hw.1 y hy; omega) (b := a) (by omega)
        simp only [Nat.add_zero, List.take_zero, List.sum_nil, Int.add_zero] at ih ⊢
        rw [List.map_cons, List.take_succ_cons, List.sum_cons]
        dsimp only
        omega

theorem merge_mem : ∀ (ws ps : List Int) (x : Int), x ∈ (mergeF ws ps).map (·.1) → x ∈ ws ∨ x ∈ ps := by
  refine mg_ind (fun ws x h => ?_) (fun p ps x h => ?_) (fun w ws p ps hwp ih x h => ?_) fun w ws p ps hwp ih x h => ?_
  · rw [mg_nil] at h; simpa using h
  · rw [mg_nil'] at h; right; simpa using h
  · rw [mg_le hwp] at h
    exact (List.mem_cons.mp h).elim (fun e => .inl (e ▸ List.mem_cons_self)) fun h => (ih x h).imp (List.mem_cons_of_mem _) id
  · rw [mg_gt hwp] at h
    exact (List.mem_cons.mp h).elim (fun e => .inr (e ▸ List.mem_cons_self)) fun h => (ih x h).imp id (List.mem_cons_of_mem _)
theorem merge_sorted : ∀ (ws ps : List Int), SortedI ws → SortedI ps → SortedI ((mergeF ws ps).map (·.1)) := by
  refine mg_ind (fun ws h _ => ?_) (fun p ps _ h => ?_) (fun w ws p ps hwp ih h1 h2 => ?_) fun w ws p ps hwp ih h1 h2 => ?_
  · rw [mg_nil]; simpa [List.map_map, Function.comp_def] using h
  · rw [mg_nil']; simpa [List.map_map, Function.comp_def] using h
  · rw [mg_le hwp]
    have hw := List.pairwise_cons.mp h1
    have hp := List.pairwise_cons.mp h2
    refine List.pairwise_cons.mpr ⟨fun x hx => (merge_mem _ _ _ hx).elim (hw.1 x) fun hx => ?_, ih hw.2 h2⟩
    rcases List.mem_cons.mp hx with rfl | hx
    · exact hwp
    · exact Int.le_trans hwp (hp.1 x hx)
  · rw [mg_gt hwp]
    have hw := List.pairwise_cons.mp h1
    have hp := List.pairwise_cons.mp h2
    have hpw := Int.le_of_lt (Int.not_le.mp hwp)
    refine List.pairwise_cons.mpr ⟨fun x hx => (merge_mem _ _ _ hx).elim (fun hx => ?_) (hp.1 x), ih h1 hp.2⟩
    rcases List.mem_cons.mp hx with rfl | hx
    · exact hpw
    · exact Int.le_trans hpw (hw.1 x hx)

theorem pairsF_mem : ∀ (l : List Int) (y x : Int), (∀ z ∈ l, y ≤ z) → 0 ≤ y → x ∈ pairsF l → ∃ a ∈ l, ∃ b ∈ l, x = a + b
  | a :: b :: r, y, x, h, hy, hx => by
    rw [pairsF] at hx
    rcases List.mem_cons.mp hx with rfl | hx
    · exact ⟨a, by simp, b, by simp, rfl⟩
    · obtain ⟨c, hc, d, hd, e⟩ := pairsF_mem r y x (fun z hz => h z (by simp [hz])) hy hx
      exact ⟨c, by simp [hc], d, by simp [hd], e⟩
  | [], _, _, _, _, hx => by simp [pairsF] at hx
  | [_], _, _, _, _, hx => by simp [pairsF] at hx
theorem pairsF_sorted : ∀ (l : List Int), SortedI l → (∀ z ∈ l, 0 ≤ z) → SortedI (pairsF l)
  | a :: b :: r, h, h0 => by
    rw [pairsF]
    have h1 := List.pairwise_cons.mp h
    have h2 := List.pairwise_cons.mp h1.2
    refine List.pairwise_cons.mpr ⟨fun x hx => ?_, pairsF_sorted r h2.2 fun z hz => h0 z (by simp [hz])⟩
    obtain ⟨c, hc, d, hd, rfl⟩ := pairsF_mem r 0 x (fun z hz => h0 z (by simp [hz])) (by omega) hx
    have q1 := h1.1 c (by simp [hc])
    have q2 := h2.1 d hd
    omega
  | [], _, _ => by simp [pairsF, SortedI]
  | [_], _, _ => by simp [pairsF, SortedI]
theorem pairsF_nonneg (l : List Int) (h0 : ∀ z ∈ l, 0 ≤ z) : ∀ z ∈ pairsF l, 0 ≤ z := fun z hz => by
  obtain ⟨a, ha, b, hb, rfl⟩ := pairsF_mem l 0 z h0 (by omega) hz
  have := h0 a ha
  have := h0 b hb
  omega
theorem pairsF_take : ∀ (l : List Int) (q : Nat), q ≤ (pairsF l).length → ((pairsF l).take q).sum = (l.take (2 * q)).sum
  | _, 0, _ => by simp
  | a :: b :: r, q + 1, h => by
    have ih := pairsF_take r q (by simpa [pairsF] using h)
    rw [pairsF, List.take_succ_cons, List.sum_cons, ih, show 2 * (q + 1) = 2 * q + 1 + 1 by omega, List.take_succ_cons, List.take_succ_cons, List.sum_cons, List.sum_cons]
    omega
  | [], q + 1, h => by simp [pairsF] at h
  | [_], q + 1, h => by simp [pairsF] at h

/- the values of a row -/
noncomputable def valsF (ws : List Int) (k : Nat) : List Int := (rowF ws k).map (·.1)
theorem valsF_succ (ws : List Int) (k : Nat) : valsF ws (k + 1) = (mergeF ws (pairsF (valsF ws k))).map (·.1) := rfl
theorem valsF_ok (ws : List Int) (hs : SortedI ws) (h0 : ∀ z ∈ ws, 0 ≤ z) : ∀ k, SortedI (valsF ws k) ∧ ∀ z ∈ valsF ws k, 0 ≤ z
  | 0 => by simp [valsF, rowF, SortedI]
  | k + 1 => by
    obtain ⟨i1, i2⟩ := valsF_ok ws hs h0 k
    rw [valsF_succ]
    refine ⟨merge_sorted _ _ hs (pairsF_sorted _ i1 i2), fun z hz => ?_⟩
    rcases merge_mem _ _ _ hz with h | h
    · exact h0 z h
    · exact pairsF_nonneg _ i2 z h
theorem valsF_len (ws : List Int) (k : Nat) : (valsF ws (k + 1)).length = ws.length + (valsF ws k).length / 2 := by
  rw [valsF_succ, List.length_map, mergeF_len, pairsF_len]
noncomputable def SF (ws : List Int) (k m : Nat) : Int := ((valsF ws k).take m).sum
theorem take_nonneg {l : List Int} (h0 : ∀ z ∈ l, 0 ≤ z) : ∀ a b, a ≤ b → (l.take a).sum ≤ (l.take b).sum := by
  have nn : ∀ l : List Int, (∀ z ∈ l, 0 ≤ z) → 0 ≤ l.sum := by
    intro l
    induction l with
    | nil => intro _; simp
    | cons x l ih => intro h; have := h x (by simp); have := ih fun z hz => h z (by simp [hz]); rw [List.sum_cons]; omega
  intro a b hab
  have e : l.take b = l.take a ++ (l.drop a).take (b - a) := by
    rw [show b = a + (b - a) by omega, List.take_add]
    simp
  rw [e, List.sum_append]
  have := nn ((l.drop a).take (b - a)) fun z hz => h0 z (List.mem_of_mem_drop (List.mem_of_mem_take hz))
  omega

/- numbers of leaves for each row: what they are worth, and what they cost -/
noncomputable def worthF (x : Nat → Nat) : Nat → Nat
  | 0 => 0
  | k + 1 => worthF x k + x (k + 1) * 2 ^ (k + 1)
noncomputable def costF (ws : List Int) (x : Nat → Nat) : Nat → Int
  | 0 => 0
  | k + 1 => costF ws x k + (ws.take (x (k + 1))).sum

theorem pack_min (ws : List Int) (hs : SortedI ws) (h0 : ∀ z ∈ ws, 0 ≤ z) (x : Nat → Nat) (hx : ∀ j, x j ≤ ws.length) : ∀ (k m : Nat), m * 2 ^ k ≤ worthF x k → m ≤ (valsF ws k).length ∧ SF ws k m ≤ costF ws x k ∧ 0 ≤ costF ws x k
  | 0, m, h => by
    simp [worthF] at h
    subst h
    simp [SF, costF]
  | k + 1, m, h => by
    rw [worthF] at h
    have hP0 : 0 ≤ (ws.take (x (k + 1))).sum := by
      have := take_nonneg h0 0 (x (k + 1)) (Nat.zero_le _)
      simpa using this
    have hx1 := hx (k + 1)
    obtain ⟨v1, v2⟩ := valsF_ok ws hs h0 k
    by_cases hm : m ≤ x (k + 1)
    · obtain ⟨_, _, i3⟩ := pack_min ws hs h0 x hx k 0 (by simp)
      have q := merge_min ws (pairsF (valsF ws k)) m 0 hs (pairsF_sorted _ v1 v2) (by omega) (Nat.zero_le _)
      have q2 := take_nonneg h0 m (x (k + 1)) hm
      refine ⟨by rw [valsF_len]; omega, ?_, by rw [costF]; omega⟩
      unfold SF
      rw [costF, valsF_succ]
      simp only [Nat.add_zero, List.take_zero, List.sum_nil] at q
      omega
    · have e : (2 * (m - x (k + 1))) * 2 ^ k ≤ worthF x k := by
        have e1 : m * 2 ^ (k + 1) = (m - x (k + 1)) * 2 ^ (k + 1) + x (k + 1) * 2 ^ (k + 1) := by
          rw [← Nat.add_mul, Nat.sub_add_cancel (Nat.le_of_not_le hm)]
        have e2 : (2 * (m - x (k + 1))) * 2 ^ k = (m - x (k + 1)) * 2 ^ (k + 1) := by rw [Nat.pow_succ]; grind
        rw [e2]
        exact Nat.le_of_add_le_add_right (e1 ▸ h)
      obtain ⟨i1, i2, i3⟩ := pack_min ws hs h0 x hx k _ e
      have hb : m - x (k + 1) ≤ (pairsF (valsF ws k)).length := by rw [pairsF_len]; omega
      have q := merge_min ws (pairsF (valsF ws k)) (x (k + 1)) (m - x (k + 1)) hs (pairsF_sorted _ v1 v2) hx1 hb
      rw [pairsF_take _ _ hb] at q
      refine ⟨by rw [valsF_len]; omega, ?_, by rw [costF]; omega⟩
      unfold SF at i2 ⊢
      rw [costF, valsF_succ]
      rw [show x (k + 1) + (m - x (k + 1)) = m by omega] at q
      omega
end

section
/- sums over the numbers below n -/
noncomputable def sumN : Nat → (Nat → Int) → Int
  | 0, _ => 0
  | n + 1, f => sumN n f + f n
theorem sumN_congr {f g : Nat → Int} : ∀ n, (∀ i, i < n → f i = g i) → sumN n f = sumN n g
  | 0, _ => rfl
  | n + 1, h => by rw [sumN, sumN, sumN_congr n fun i hi => h i (by omega), h n (by omega)]
theorem sumN_le {f g : Nat → Int} : ∀ n, (∀ i, i < n → f i ≤ g i) → sumN n f ≤ sumN n g
  | 0, _ => Int.le_refl _
  | n + 1, h => by
    have := sumN_le n fun i hi => h i (by omega)
    have := h n (by omega)
    rw [sumN, sumN]; omega
theorem sumN_add (f g : Nat → Int) : ∀ n, sumN n (fun i => f i + g i) = sumN n f + sumN n g
  | 0 => rfl
  | n + 1 => by rw [sumN, sumN, sumN, sumN_add f g n]; omega
theorem sumN_mul (c : Int) (f : Nat → Int) : ∀ n, sumN n (fun i => c * f i) = c * sumN n f
  | 0 => by simp [sumN]
  | n + 1 => by rw [sumN, sumN, sumN_mul c f n, Int.mul_add]
theorem sumN_const (c : Int) : ∀ n : Nat, sumN n (fun _ => c) = n * c
  | 0 => by simp [sumN]
  | n + 1 => by rw [sumN, sumN_const c n, Int.natCast_add, Int.add_mul]; simp
theorem sumN_lt (c : Int) (t : Nat) : ∀ n : Nat, sumN n (fun i => if i < t then c else 0) = (min t n : Nat) * c
  | 0 => by simp [sumN]
  | n + 1 => by
    rw [sumN, sumN_lt c t n]
    by_cases h : n < t
    · rw [if_pos h, show min t (n + 1) = n + 1 from Nat.min_eq_right h, show min t n = n from Nat.min_eq_right (Nat.le_of_lt h), Int.natCast_add, Int.add_mul]; simp
    · rw [if_neg h, Nat.min_eq_left (Nat.le_of_not_lt h), Nat.min_eq_left (Nat.le_succ_of_le (Nat.le_of_not_lt h))]; simp
theorem sumN_take (ws : List Int) (t : Nat) : ∀ n, n ≤ ws.length → sumN n (fun i => if i < t then ws.getD i 0 else 0) = ((ws.take n).take t).sum
  | 0, _ => by simp [sumN]
  | n + 1, h => by
    rw [sumN, sumN_take ws t n (by omega), List.take_take, List.take_take]
    have e : ws.getD n 0 = ws[n] := by simp [show n < ws.length by omega]
    by_cases hn : n < t
    · have e2 : (ws.take (n + 1)).sum = (ws.take n).sum + ws[n] := by
        rw [List.take_add_one, List.getElem?_eq_getElem (by omega), List.sum_append]; simp
      rw [if_pos hn, Nat.min_eq_right (by omega), Nat.min_eq_right (by omega), e, e2]
    · rw [if_neg hn, Nat.min_eq_left (by omega), Nat.min_eq_left (by omega)]; simp
theorem sumN_take' (ws : List Int) (t : Nat) : sumN ws.length (fun i => if i < t then ws.getD i 0 else 0) = (ws.take t).sum := by
  rw [sumN_take ws t _ (Nat.le_refl _), List.take_length]

/- how often a leaf is taken -/
noncomputable def depN : List (List Bool) → Nat → Nat → Nat
  | [], _, _ => 0
  | f :: r, w, i => (if i < takeF f w then 1 else 0) + depN r (2 * (w - takeF f w)) i

theorem incrF_get : ∀ (t : Nat) (ds : List Int) (i : Nat), i < ds.length → (incrF t ds).getD i 0 = ds.getD i 0 + (if i < t then 1 else 0)
  | 0, ds, i, _ => by simp [incrF]
  | t + 1, [], i, h => by simp at h
  | t + 1, d :: ds, 0, _ => by simp [incrF]
  | t + 1, d :: ds, i + 1, h => by
    have := incrF_get t ds i (by simpa using h)
    simpa [incrF] using this
theorem depF_get : ∀ (r : List (List Bool)) (w : Nat) (ds : List Int) (i : Nat), i < ds.length → (depF r w ds).getD i 0 = ds.getD i 0 + (depN r w i : Nat)
  | [], _, _, _, _ => by simp [depF, depN]
  | f :: r, w, ds, i, h => by
    rw [depF, depF_get r _ _ i (by rw [incrF_len]; exact h), incrF_get _ _ _ h, depN]
    split <;> (push_cast; omega)
theorem rowsF_rev (ws : List Int) (k : Nat) : (rowsF ws (k + 1)).reverse = (rowF ws (k + 1)).map (·.2) :: (rowsF ws k).reverse := by
  unfold rowsF
  rw [List.range_succ, List.map_append, List.reverse_append]
  rfl

/- the numbers in a row's first items -/
theorem row_take (ws : List Int) (k w : Nat) (h : w ≤ (valsF ws (k + 1)).length) :
    SF ws (k + 1) w = (ws.take (takeF ((rowF ws (k + 1)).map (·.2)) w)).sum + SF ws k (2 * (w - takeF ((rowF ws (k + 1)).map (·.2)) w)) ∧ takeF ((rowF ws (k + 1)).map (·.2)) w ≤ ws.length ∧
    2 * (w - takeF ((rowF ws (k + 1)).map (·.2)) w) ≤ (valsF ws k).length := by
  have hl : (valsF ws (k + 1)).length = ws.length + (pairsF (valsF ws k)).length := by rw [valsF_len, pairsF_len]
  obtain ⟨h1, h2, h3⟩ := merge_take w ws (pairsF (valsF ws k)) (by omega)
  have e : (rowF ws (k + 1)).map (·.2) = (mergeF ws (pairsF (valsF ws k))).map (·.2) := rfl
  rw [e]
  refine ⟨?_, h2, ?_⟩
  · unfold SF
    rw [valsF_succ, h1, pairsF_take _ _ h3]
  · rw [pairsF_len] at h3; omega

/- what the depths cost -/
theorem dep_cost (ws : List Int) : ∀ (k w : Nat), w ≤ (valsF ws k).length → sumN ws.length (fun i => ws.getD i 0 * (depN (rowsF ws k).reverse w i : Nat)) = SF ws k w
  | 0, w, h => by
    have : w = 0 := by simpa [valsF, rowF] using h
    subst this
    simp [rowsF, depN, SF, sumN_const]
  | k + 1, w, h => by
    obtain ⟨h1, h2, h3⟩ := row_take ws k w h
    have ih := dep_cost ws k _ h3
    rw [rowsF_rev, h1, ← ih, ← sumN_take', ← sumN_add]
    refine sumN_congr _ fun i _ => ?_
    rw [depN]
    split
    · push_cast; rw [Int.mul_add]; omega
    · push_cast; rw [Int.mul_add]; omega
theorem dep_le (ws : List Int) : ∀ (k w i : Nat), depN (rowsF ws k).reverse w i ≤ k
  | 0, w, i => by simp [rowsF, depN]
  | k + 1, w, i => by
    have := dep_le ws k (2 * (w - takeF ((rowF ws (k + 1)).map (·.2)) w)) i
    rw [rowsF_rev, depN]
    split <;> omega
/- the shares of the depths -/
theorem dep_kraft (ws : List Int) : ∀ (k w : Nat), w ≤ (valsF ws k).length → sumN ws.length (fun i => ((2 ^ (k + 1 - depN (rowsF ws k).reverse w i) : Nat) : Int)) + (w : Int) * (2 ^ k : Nat) ≤ ws.length * (2 ^ (k + 1) : Nat)
  | 0, w, h => by
    have : w = 0 := by simpa [valsF, rowF] using h
    subst this
    simp [rowsF, depN, sumN_const]
  | k + 1, w, h => by
    obtain ⟨_, h2, h3⟩ := row_take ws k w h
    have ih := dep_kraft ws k _ h3
    have hle := takeF_le ((rowF ws (k + 1)).map (·.2)) w
    have hd := dep_le ws k (2 * (w - takeF ((rowF ws (k + 1)).map (·.2)) w))
    rw [rowsF_rev]
    generalize ht : takeF ((rowF ws (k + 1)).map (·.2)) w = t at *
    have step : sumN ws.length (fun i => ((2 ^ (k + 1 + 1 - depN ((rowF ws (k + 1)).map (·.2) :: (rowsF ws k).reverse) w i) : Nat) : Int)) ≤
        sumN ws.length (fun i => ((2 ^ (k + 1 - depN (rowsF ws k).reverse (2 * (w - t)) i) : Nat) : Int) + ((2 ^ (k + 1) : Nat) + -1 * (if i < t then ((2 ^ (k + 1) : Nat) : Int) else 0))) := by
      refine sumN_le _ fun i _ => ?_
      rw [depN, ht]
      have hdi := hd i
      generalize depN (rowsF ws k).reverse (2 * (w - t)) i = e at hdi
      by_cases hi : i < t
      · rw [if_pos hi, if_pos hi, show k + 1 + 1 - (1 + e) = k + 1 - e by rw [Nat.add_comm (k + 1) 1, Nat.add_sub_add_left]]; omega
      · rw [if_neg hi, if_neg hi, show k + 1 + 1 - (0 + e) = (k + 1 - e) + 1 by rw [Nat.zero_add, Nat.succ_sub (by omega)], Nat.pow_succ]
        have : 2 ^ (k + 1 - e) ≤ 2 ^ (k + 1) := Nat.pow_le_pow_right (by decide) (Nat.sub_le _ _)
        push_cast at this ⊢
        have : ((2 ^ (k + 1 - e) : Nat) : Int) ≤ ((2 ^ (k + 1) : Nat) : Int) := by exact_mod_cast this
        push_cast at this
        omega
    rw [sumN_add, sumN_add, sumN_const, sumN_mul, sumN_lt, Nat.min_eq_left h2] at step
    generalize sumN ws.length (fun i => ((2 ^ (k + 1 + 1 - depN ((rowF ws (k + 1)).map (·.2) :: (rowsF ws k).reverse) w i) : Nat) : Int)) = S1 at *
    generalize sumN ws.length (fun i => ((2 ^ (k + 1 - depN (rowsF ws k).reverse (2 * (w - t)) i) : Nat) : Int)) = S2 at *
    have e1 : ((2 * (w - t) : Nat) : Int) * ((2 ^ k : Nat) : Int) = ((w : Int) - t) * ((2 ^ (k + 1) : Nat) : Int) := by
      have : ((2 * (w - t) : Nat) : Int) = 2 * ((w : Int) - t) := by rw [Int.natCast_mul, Int.ofNat_sub hle]; rfl
      rw [this, Nat.pow_succ]; push_cast; grind
    rw [e1] at ih
    have e2 : ((2 ^ (k + 1 + 1) : Nat) : Int) = 2 * ((2 ^ (k + 1) : Nat) : Int) := by rw [Nat.pow_succ 2 (k + 1)]; push_cast; grind
    rw [e2]
    generalize ((2 ^ (k + 1) : Nat) : Int) = Z at *
    have e3 : (ws.length : Int) * (2 * Z) = ws.length * Z + ws.length * Z := by grind
    have e4 : ((w : Int) - t) * Z = w * Z - t * Z := by grind
    rw [e3]; rw [e4] at ih
    omega

/- a row is long enough -/
theorem row_long (ws : List Int) : ∀ k, 2 * ws.length ≤ (valsF ws (k + 1)).length + (ws.length + 2 ^ k - 1) / 2 ^ k
  | 0 => by rw [valsF_len]; simp [valsF, rowF]; omega
  | k + 1 => by
    have ih := row_long ws k
    rw [valsF_len]
    have e : (ws.length + 2 ^ (k + 1) - 1) / 2 ^ (k + 1) = ((ws.length + 2 ^ k - 1) / 2 ^ k + 1) / 2 := by
      have hp : 0 < 2 ^ k := Nat.two_pow_pos k
      rw [Nat.pow_succ]
      generalize 2 ^ k = p at hp
      rw [← Nat.div_div_eq_div_mul, ← Nat.add_div_right _ hp]
      congr 2
      rw [Nat.mul_two, ← Nat.add_assoc, Nat.sub_add_comm (Nat.le_trans hp (Nat.le_add_left _ _))]
    rw [e]
    omega
theorem row_room (ws : List Int) {lo : Nat} (hlo : 1 ≤ lo) (h : ws.length ≤ 2 ^ lo) : 2 * ws.length - 2 ≤ (valsF ws lo).length := by
  obtain ⟨k, rfl⟩ : ∃ k, lo = k + 1 := ⟨lo - 1, by omega⟩
  have := row_long ws k
  have h2 : (ws.length + 2 ^ k - 1) / 2 ^ k ≤ 2 := by
    have hp : 0 < 2 ^ k := Nat.two_pow_pos k
    rw [Nat.pow_succ] at h
    have : (ws.length + 2 ^ k - 1) / 2 ^ k < 3 := by
      rw [Nat.div_lt_iff_lt_mul hp]
      exact Nat.lt_of_lt_of_le (Nat.sub_lt (Nat.lt_of_lt_of_le hp (Nat.le_add_left _ _)) Nat.one_pos) (by omega)
    exact Nat.le_of_lt_succ this
  exact Nat.sub_le_of_le_add (Nat.le_trans this (Nat.add_le_add_left h2 _))
end

section
noncomputable def cntN (p : Nat → Bool) : Nat → Nat
  | 0 => 0
  | n + 1 => cntN p n + if p n = true then 1 else 0
theorem cntN_le (p : Nat → Bool) : ∀ n, cntN p n ≤ n
  | 0 => Nat.le_refl _
  | n + 1 => by have := cntN_le p n; rw [cntN]; split <;> omega
theorem cntN_sum (p : Nat → Bool) (c : Int) : ∀ n, sumN n (fun i => if p i = true then c else 0) = cntN p n * c
  | 0 => by simp [sumN, cntN]
  | n + 1 => by
    rw [sumN, cntN, cntN_sum p c n]
    split
    · push_cast; rw [Int.add_mul]; simp
    · simp
/- the least leaves cost the least -/
theorem take_sel (ws : List Int) (hs : SortedI ws) (p : Nat → Bool) : ∀ n, n ≤ ws.length → (ws.take (cntN p n)).sum ≤ sumN n (fun i => if p i = true then ws.getD i 0 else 0)
  | 0, _ => by simp [sumN, cntN]
  | n + 1, h => by
    have ih := take_sel ws hs p n (by omega)
    have hc := cntN_le p n
    rw [sumN, cntN]
    by_cases hp : p n = true
    · rw [if_pos hp, if_pos hp]
      have e2 : (ws.take (cntN p n + 1)).sum = (ws.take (cntN p n)).sum + ws[cntN p n] := by
        rw [List.take_add_one, List.getElem?_eq_getElem (by omega), List.sum_append]; simp
      have e3 : ws[cntN p n]'(by omega) ≤ ws[n] := by
        by_cases e : cntN p n = n
        · simp [e]
        · exact (List.pairwise_iff_getElem.mp hs) _ _ _ _ (by omega)
      have e4 : ws.getD n 0 = ws[n] := by simp [show n < ws.length by omega]
      rw [e2, e4]; omega
    · rw [if_neg hp, if_neg hp]; simpa using ih

theorem sub_le1 {lo li k : Nat} (h : lo < li + (k + 1)) : lo - li ≤ k := Nat.sub_le_of_le_add (by rw [Nat.add_comm]; exact Nat.le_of_lt_succ h)
theorem le_sub1 {lo li k : Nat} (h : ¬ lo < li + (k + 1)) : k + 1 ≤ lo - li := Nat.le_sub_of_add_le (by rw [Nat.add_comm]; exact Nat.not_lt.mp h)

section
variable (ws : List Int) (l : Nat → Nat) (lo : Nat)
/- how many leaves a row has for these lengths -/
noncomputable def rowN (j : Nat) : Nat := cntN (fun i => decide (lo < l i + j)) ws.length
theorem worth_row : ∀ k, k ≤ lo → ((worthF (rowN ws l lo) k : Nat) : Int) + sumN ws.length (fun i => ((2 ^ (min k (lo - l i) + 1) : Nat) : Int)) = ws.length * (2 ^ (k + 1) : Nat)
  | 0, _ => by simp [worthF, sumN_const]
  | k + 1, h => by
    have ih := worth_row k (by omega)
    have hc := cntN_sum (fun i => decide (lo < l i + (k + 1))) ((2 ^ (k + 1) : Nat) : Int) ws.length
    have e1 : sumN ws.length (fun i => ((2 ^ (min (k + 1) (lo - l i) + 1) : Nat) : Int) + (if decide (lo < l i + (k + 1)) = true then ((2 ^ (k + 1) : Nat) : Int) else 0)) = sumN ws.length (fun i => ((2 ^ (min k (lo - l i) + 1) : Nat) : Int) + ((2 ^ (k + 1) : Nat) : Int)) := by
      refine sumN_congr _ fun i _ => ?_
      by_cases hi : lo < l i + (k + 1)
      · rw [if_pos (by simpa using hi), Nat.min_eq_right (Nat.le_succ_of_le (sub_le1 hi)), Nat.min_eq_right (sub_le1 hi)]
      · rw [if_neg (by simpa using hi), Nat.min_eq_left (le_sub1 hi), Nat.min_eq_left (Nat.le_of_succ_le (le_sub1 hi)), Nat.pow_succ 2 (k + 1)]
        push_cast; omega
    rw [sumN_add, sumN_add, sumN_const, hc] at e1
    rw [worthF]
    have e2 : ((rowN ws l lo (k + 1) * 2 ^ (k + 1) : Nat) : Int) = (cntN (fun i => decide (lo < l i + (k + 1))) ws.length : Nat) * ((2 ^ (k + 1) : Nat) : Int) := by
      unfold rowN; push_cast; rfl
    rw [Int.natCast_add, e2]
    have e3 : (ws.length : Int) * ((2 ^ (k + 1 + 1) : Nat) : Int) = ws.length * ((2 ^ (k + 1) : Nat) : Int) + ws.length * ((2 ^ (k + 1) : Nat) : Int) := by
      rw [Nat.pow_succ 2 (k + 1)]; push_cast; grind
    rw [e3, Int.add_assoc, Int.add_comm ((cntN _ _ : Nat) * _ : Int), e1, ← Int.add_assoc, ih]
theorem cost_row (hs : SortedI ws) : ∀ k, k ≤ lo → costF ws (rowN ws l lo) k ≤ sumN ws.length (fun i => ws.getD i 0 * ((k - (lo - l i) : Nat) : Int))
  | 0, _ => by simp [costF, sumN_const]
  | k + 1, h => by
    have ih := cost_row hs k (by omega)
    have hc := take_sel ws hs (fun i => decide (lo < l i + (k + 1))) ws.length (Nat.le_refl _)
    rw [costF]
    have e1 : sumN ws.length (fun i => ws.getD i 0 * ((k + 1 - (lo - l i) : Nat) : Int)) = sumN ws.length (fun i => ws.getD i 0 * ((k - (lo - l i) : Nat) : Int)) + sumN ws.length (fun i => if decide (lo < l i + (k + 1)) = true then ws.getD i 0 else 0) := by
      rw [← sumN_add]
      refine sumN_congr _ fun i _ => ?_
      by_cases hi : lo < l i + (k + 1)
      · rw [if_pos (by simpa using hi), Nat.succ_sub (sub_le1 hi)]
        push_cast; rw [Int.mul_add]; omega
      · rw [if_neg (by simpa using hi), Nat.sub_eq_zero_of_le (le_sub1 hi), Nat.sub_eq_zero_of_le (Nat.le_of_succ_le (le_sub1 hi))]; simp
    rw [e1]
    unfold rowN at ih ⊢
    exact Int.add_le_add ih hc

/- no lengths are cheaper -/
theorem pack_best (hs : SortedI ws) (h0 : ∀ z ∈ ws, 0 ≤ z) (h1 : 1 ≤ ws.length) (hl : ∀ i, i < ws.length → l i ≤ lo) (hk : sumN ws.length (fun i => ((2 ^ (lo - l i) : Nat) : Int)) ≤ (2 ^ lo : Nat)) :
    SF ws lo (2 * ws.length - 2) ≤ sumN ws.length (fun i => ws.getD i 0 * (l i : Nat)) := by
  have hw := worth_row ws l lo lo (Nat.le_refl _)
  have hc := cost_row ws l lo hs lo (Nat.le_refl _)
  have e1 : sumN ws.length (fun i => ((2 ^ (min lo (lo - l i) + 1) : Nat) : Int)) = 2 * sumN ws.length (fun i => ((2 ^ (lo - l i) : Nat) : Int)) := by
    rw [← sumN_mul]
    refine sumN_congr _ fun i _ => ?_
    rw [Nat.min_eq_right (Nat.sub_le _ _), Nat.pow_succ]; push_cast; omega
  rw [e1] at hw
  have e2 : (2 * ws.length - 2) * 2 ^ lo ≤ worthF (rowN ws l lo) lo := by
    have q : (((2 * ws.length - 2) * 2 ^ lo : Nat) : Int) ≤ ((worthF (rowN ws l lo) lo : Nat) : Int) := by
      have q1 : (((2 * ws.length - 2) * 2 ^ lo : Nat) : Int) = 2 * (ws.length * ((2 ^ lo : Nat) : Int)) - 2 * ((2 ^ lo : Nat) : Int) := by
        rw [Int.natCast_mul, show ((2 * ws.length - 2 : Nat) : Int) = 2 * (ws.length : Int) - 2 by omega]; grind
      have q2 : (ws.length : Int) * ((2 ^ (lo + 1) : Nat) : Int) = 2 * (ws.length * ((2 ^ lo : Nat) : Int)) := by
        rw [Nat.pow_succ]; push_cast; grind
      rw [q1]; rw [q2] at hw
      omega
    exact_mod_cast q
  obtain ⟨_, i2, _⟩ := pack_min ws hs h0 (rowN ws l lo) (fun j => cntN_le _ _) lo _ e2
  have e3 : sumN ws.length (fun i => ws.getD i 0 * ((lo - (lo - l i) : Nat) : Int)) = sumN ws.length (fun i => ws.getD i 0 * (l i : Nat)) := sumN_congr _ fun i hi => by
    rw [Nat.sub_sub_self (hl i hi)]
  omega
end
end

section
noncomputable def tSum (ps : List (Nat × Nat)) : Nat := (ps.map fun p => p.1 * p.2).sum
noncomputable def kSum (K : Nat) (ps : List (Nat × Nat)) : Nat := (ps.map fun p => 2 ^ (K - p.2)).sum
noncomputable def ypairs (K : Nat) (ps : List (Nat × Nat)) : List (Nat × Nat) := ps.map fun p => (p.1, 2 ^ (K - p.2))
theorem yp_c (K : Nat) : ∀ ps, cSum (ypairs K ps) = cSum ps ∧ cPow (ypairs K ps) = cPow ps ∧ ySum (ypairs K ps) = kSum K ps
  | [] => ⟨rfl, rfl, rfl⟩
  | p :: ps => by
    obtain ⟨a, b, c⟩ := yp_c K ps
    unfold cSum ySum kSum ypairs at *
    simp only [List.map_cons, List.sum_cons, cPow] at *
    exact ⟨by omega, by rw [b], by omega⟩
theorem yp_pow (K : Nat) : ∀ ps : List (Nat × Nat), (∀ p ∈ ps, p.2 ≤ K) → yPow (ypairs K ps) * 2 ^ tSum ps = (2 ^ K) ^ cSum ps
  | [], _ => rfl
  | p :: ps, h => by
    have ih := yp_pow K ps fun q hq => h q (List.mem_cons_of_mem _ hq)
    have hp := h p List.mem_cons_self
    have e1 : tSum (p :: ps) = p.1 * p.2 + tSum ps := by simp [tSum]
    have e2 : cSum (p :: ps) = p.1 + cSum ps := by simp [cSum]
    have e3 : yPow (ypairs K (p :: ps)) = (2 ^ (K - p.2)) ^ p.1 * yPow (ypairs K ps) := rfl
    have e4 : (2 ^ (K - p.2)) ^ p.1 * 2 ^ (p.1 * p.2) = (2 ^ K) ^ p.1 := by
      rw [← Nat.pow_mul, ← Nat.pow_mul, ← Nat.pow_add]
      congr 1
      rw [Nat.mul_comm p.1 p.2, ← Nat.add_mul]
      congr 1
      omega
    rw [e1, e2, e3, Nat.pow_add, Nat.pow_add, ← ih, ← e4]
    grind

theorem cPow_pos : ∀ r : List (Nat × Nat), (∀ p ∈ r, 1 ≤ p.1) → 0 < cPow r
  | [], _ => by decide
  | p :: r, h => Nat.mul_pos (Nat.pow_pos (h p List.mem_cons_self)) (cPow_pos r fun q hq => h q (List.mem_cons_of_mem _ hq))
theorem cSum_pos {r : List (Nat × Nat)} (h : ∀ p ∈ r, 1 ≤ p.1) (hne : r ≠ []) : 1 ≤ cSum r := by
  cases r with
  | nil => exact absurd rfl hne
  | cons p r => have := h p List.mem_cons_self; simp [cSum]; omega

/- no code is below the entropy -/
theorem nb_main (K : Nat) (ps : List (Nat × Nat)) (hc : ∀ p ∈ ps, 1 ≤ p.1) (hK : ∀ p ∈ ps, p.2 ≤ K) (hne : ps ≠ []) (kraft : kSum K ps ≤ 2 ^ K) :
    cSum ps ^ cSum ps ≤ 2 ^ tSum ps * cPow ps ∧ ((∃ p ∈ ps, p.1 * 2 ^ p.2 ≠ cSum ps) → cSum ps ^ cSum ps < 2 ^ tSum ps * cPow ps) ∧ ((∀ p ∈ ps, p.1 * 2 ^ p.2 = cSum ps) → cSum ps ^ cSum ps = 2 ^ tSum ps * cPow ps) := by
  obtain ⟨y1, y2, y3⟩ := yp_c K ps
  have yp := yp_pow K ps hK
  have hcy : ∀ p ∈ ypairs K ps, 1 ≤ p.1 := fun p hp => by
    obtain ⟨q, hq, rfl⟩ := List.mem_map.mp hp
    exact hc q hq
  obtain ⟨g1, g2⟩ := gibbs (ypairs K ps) hcy
  rw [y1, y2, y3] at g1
  rw [y1, y2, y3] at g2
  have hN := cSum_pos hc hne
  have hP := cPow_pos ps hc
  have hpos : 0 < (2 ^ K) ^ cSum ps := Nat.pow_pos (Nat.two_pow_pos K)
  have hT : 0 < 2 ^ tSum ps := Nat.two_pow_pos _
  have hS : kSum K ps ^ cSum ps ≤ (2 ^ K) ^ cSum ps := Nat.pow_le_pow_left kraft _
  have c1 : (2 ^ K) ^ cSum ps * cSum ps ^ cSum ps = 2 ^ tSum ps * (yPow (ypairs K ps) * cSum ps ^ cSum ps) := by rw [← yp]; grind
  have c2 : (2 ^ K) ^ cSum ps * (2 ^ tSum ps * cPow ps) = 2 ^ tSum ps * ((2 ^ K) ^ cSum ps * cPow ps) := by grind
  have c3 : kSum K ps ^ cSum ps * cPow ps ≤ (2 ^ K) ^ cSum ps * cPow ps := Nat.mul_le_mul_right _ hS
  refine ⟨Nat.le_of_mul_le_mul_left (show (2 ^ K) ^ cSum ps * cSum ps ^ cSum ps ≤ (2 ^ K) ^ cSum ps * (2 ^ tSum ps * cPow ps) by rw [c1, c2]; exact Nat.mul_le_mul_left _ (Nat.le_trans g1 c3)) hpos, ?_, ?_⟩
  · rintro ⟨p, hp, hpne⟩
    refine Nat.lt_of_mul_lt_mul_left (a := (2 ^ K) ^ cSum ps) ?_
    rw [c1, c2]
    refine Nat.mul_lt_mul_of_pos_left ?_ hT
    by_cases hk : kSum K ps = 2 ^ K
    · rw [hk] at g2
      refine g2 ⟨(p.1, 2 ^ (K - p.2)), List.mem_map.mpr ⟨p, hp, rfl⟩, fun h => hpne ?_⟩
      dsimp only at h
      have e : 2 ^ K = 2 ^ (K - p.2) * 2 ^ p.2 := by rw [← Nat.pow_add]; congr 1; have := hK p hp; omega
      rw [e] at h
      have h2 : 2 ^ (K - p.2) * cSum ps = 2 ^ (K - p.2) * (p.1 * 2 ^ p.2) := by rw [h]; grind
      exact (Nat.eq_of_mul_eq_mul_left (Nat.two_pow_pos _) h2).symm
    · have hlt : kSum K ps ^ cSum ps < (2 ^ K) ^ cSum ps := Nat.pow_lt_pow_left (by omega) (by omega)
      exact Nat.lt_of_le_of_lt g1 (Nat.mul_lt_mul_of_pos_right hlt hP)
  · intro hall
    have := gibbs_eq (cSum ps) (2 ^ K) hN (ypairs K ps) fun q hq => by
      obtain ⟨p, hp, rfl⟩ := List.mem_map.mp hq
      dsimp only
      have e : 2 ^ K = 2 ^ (K - p.2) * 2 ^ p.2 := by rw [← Nat.pow_add]; congr 1; have := hK p hp; omega
      rw [← hall p hp, e]; grind
    rw [y1, y2] at this
    exact Nat.eq_of_mul_eq_mul_left hpos (by rw [c1, c2, this])

/- a bound for each, and for their product -/
theorem prod_lt (A B : Nat) : ∀ ps : List (Nat × Nat), (∀ p ∈ ps, 1 ≤ p.1) → (∀ p ∈ ps, p.1 * A * 2 ^ p.2 < B) → cPow ps * A ^ cSum ps * 2 ^ tSum ps ≤ B ^ cSum ps ∧ (ps ≠ [] → cPow ps * A ^ cSum ps * 2 ^ tSum ps < B ^ cSum ps)
  | [], _, _ => by simp [cPow, cSum, tSum]
  | p :: ps, hc, h => by
    obtain ⟨ih, _⟩ := prod_lt A B ps (fun q hq => hc q (List.mem_cons_of_mem _ hq)) fun q hq => h q (List.mem_cons_of_mem _ hq)
    have hp := h p List.mem_cons_self
    have hp1 := hc p List.mem_cons_self
    have e1 : tSum (p :: ps) = p.1 * p.2 + tSum ps := by simp [tSum]
    have e2 : cSum (p :: ps) = p.1 + cSum ps := by simp [cSum]
    have hlt : (p.1 * A * 2 ^ p.2) ^ p.1 < B ^ p.1 := Nat.pow_lt_pow_left hp (by omega)
    have e3 : cPow (p :: ps) * A ^ cSum (p :: ps) * 2 ^ tSum (p :: ps) = (p.1 * A * 2 ^ p.2) ^ p.1 * (cPow ps * A ^ cSum ps * 2 ^ tSum ps) := by
      rw [e1, e2, cPow, Nat.pow_add, Nat.pow_add, Nat.mul_pow, Nat.mul_pow, ← Nat.pow_mul, Nat.mul_comm p.2 p.1]
      generalize 2 ^ (p.1 * p.2) = z
      grind
    rw [e3, e2, Nat.pow_add]
    have hB : 0 < B ^ cSum ps := Nat.pow_pos (by omega)
    have key : (p.1 * A * 2 ^ p.2) ^ p.1 * (cPow ps * A ^ cSum ps * 2 ^ tSum ps) < B ^ p.1 * B ^ cSum ps := Nat.lt_of_le_of_lt (Nat.mul_le_mul_left _ ih) (Nat.mul_lt_mul_of_pos_right hlt hB)
    exact ⟨Nat.le_of_lt key, fun _ => key⟩

/- the least length that has room -/
theorem least_len (A B : Nat) : ∀ lo, B ≤ A * 2 ^ lo → ∃ l, l ≤ lo ∧ B ≤ A * 2 ^ l ∧ (l = 0 ∨ A * 2 ^ l < 2 * B)
  | 0, h => ⟨0, Nat.le_refl _, h, .inl rfl⟩
  | lo + 1, h => by
    by_cases h2 : B ≤ A * 2 ^ lo
    · obtain ⟨l, a, b, c⟩ := least_len A B lo h2
      exact ⟨l, by omega, b, c⟩
    · refine ⟨lo + 1, Nat.le_refl _, h, .inr ?_⟩
      rw [Nat.pow_succ]
      have : A * (2 ^ lo * 2) = 2 * (A * 2 ^ lo) := by grind
      omega

theorem sum_le_map {α : Type} (f g : α → Nat) : ∀ l : List α, (∀ x ∈ l, f x ≤ g x) → (l.map f).sum ≤ (l.map g).sum
  | [], _ => Nat.le_refl _
  | x :: l, h => by
    have := sum_le_map f g l fun y hy => h y (List.mem_cons_of_mem _ hy)
    have := h x List.mem_cons_self
    simp only [List.map_cons, List.sum_cons]; omega
theorem sum_mul_map {α : Type} (c : Nat) (f : α → Nat) : ∀ l : List α, (l.map fun x => c * f x).sum = c * (l.map f).sum
  | [] => by simp
  | x :: l => by simp only [List.map_cons, List.sum_cons, sum_mul_map c f l, Nat.mul_add]

/- k bits over the even length -/
theorem over_code (k e : Nat) (cs : List Nat) (hN : 1 ≤ cs.sum) (hn : cs.length ≤ 2 ^ e) (hle : ∀ c ∈ cs, c ≤ cs.sum) : ∃ g : Nat → Nat, (∀ c, g c ≤ k + e) ∧ (cs.map fun c => 2 ^ (k + e - g c)).sum ≤ 2 ^ (k + e) ∧ ∀ c ∈ cs, c * (2 ^ k - 1) * 2 ^ g c < 2 ^ (k + 1) * cs.sum := by
  obtain ⟨N, hNe⟩ : ∃ N, cs.sum = N := ⟨_, rfl⟩
  rw [hNe] at hN hle ⊢
  have h1 : ∀ c : Nat, ∃ l, l ≤ k + e ∧ N * 2 ^ (k + e) ≤ ((2 ^ k - 1) * c * 2 ^ e + N) * 2 ^ l ∧ (l = 0 ∨ ((2 ^ k - 1) * c * 2 ^ e + N) * 2 ^ l < 2 * (N * 2 ^ (k + e))) := fun c =>
    least_len _ _ (k + e) (Nat.mul_le_mul_right _ (Nat.le_add_left _ _))
  obtain ⟨g, hg⟩ := Classical.axiomOfChoice h1
  refine ⟨g, fun c => (hg c).1, ?_, fun c hc => ?_⟩
  · have q1 : (cs.map fun c => N * 2 ^ (k + e - g c)).sum ≤ (cs.map fun c => ((2 ^ k - 1) * 2 ^ e) * c + N).sum := by
      refine sum_le_map _ _ cs fun c _ => ?_
      have e1 : N * 2 ^ (k + e) = (N * 2 ^ (k + e - g c)) * 2 ^ g c := by
        rw [Nat.mul_assoc, ← Nat.pow_add, Nat.sub_add_cancel (hg c).1]
      have q := (hg c).2.1
      rw [e1] at q
      have := Nat.le_of_mul_le_mul_right q (Nat.two_pow_pos _)
      rwa [Nat.mul_right_comm] at this
    rw [sum_mul_map] at q1
    have q2 : ∀ (a : Nat) (l : List Nat), (l.map fun c => a * c + N).sum = a * l.sum + l.length * N := by
      intro a l
      induction l with
      | nil => simp
      | cons x l ih => simp only [List.map_cons, List.sum_cons, ih, List.length_cons]; grind
    rw [q2, hNe] at q1
    have q3 : cs.length * N ≤ 2 ^ e * N := Nat.mul_le_mul_right _ hn
    have q4 : (2 ^ k - 1) * 2 ^ e * N + 2 ^ e * N = N * 2 ^ (k + e) := by
      have : 2 ^ k = (2 ^ k - 1) + 1 := (Nat.sub_add_cancel (Nat.two_pow_pos k)).symm
      rw [Nat.pow_add]
      conv => rhs; rw [this]
      grind
    exact Nat.le_of_mul_le_mul_left (Nat.le_trans q1 (q4 ▸ Nat.add_le_add_left q3 _) : N * (cs.map fun c => 2 ^ (k + e - g c)).sum ≤ N * 2 ^ (k + e)) hN
  · rcases (hg c).2.2 with h0 | h0
    · rw [h0, Nat.pow_zero, Nat.mul_one]
      have q1 : c * (2 ^ k - 1) ≤ N * (2 ^ k - 1) := Nat.mul_le_mul_right _ (hle c hc)
      have q2 : N * (2 ^ k - 1) < N * 2 ^ (k + 1) := Nat.mul_lt_mul_of_pos_left (by rw [Nat.pow_succ]; exact Nat.lt_of_lt_of_le (Nat.sub_lt (Nat.two_pow_pos k) Nat.one_pos) (Nat.le_mul_of_pos_right _ (by decide))) hN
      rw [Nat.mul_comm (2 ^ (k + 1)) N]; exact Nat.lt_of_le_of_lt q1 q2
    · refine Nat.lt_of_mul_lt_mul_left (a := 2 ^ e) ?_
      have e1 : 2 ^ e * (c * (2 ^ k - 1) * 2 ^ g c) ≤ ((2 ^ k - 1) * c * 2 ^ e + N) * 2 ^ g c := by
        rw [Nat.add_mul]
        have : 2 ^ e * (c * (2 ^ k - 1) * 2 ^ g c) = (2 ^ k - 1) * c * 2 ^ e * 2 ^ g c := by grind
        rw [this]; exact Nat.le_add_right _ _
      have e2 : 2 ^ e * (2 ^ (k + 1) * N) = 2 * (N * 2 ^ (k + e)) := by
        rw [Nat.pow_succ, Nat.pow_add]; grind
      rw [e2]; exact Nat.lt_of_le_of_lt e1 h0
end

section
noncomputable def ksL (K : Nat) (ls : List Nat) : Nat := (ls.map fun l => 2 ^ (K - l)).sum
theorem ksL_dvd (K x : Nat) : ∀ ls : List Nat, (∀ l ∈ ls, l ≤ x) → 2 ^ (K - x) ∣ ksL K ls
  | [], _ => by simp [ksL]
  | l :: ls, h => by
    have ih := ksL_dvd K x ls fun y hy => h y (List.mem_cons_of_mem _ hy)
    have hl := h l List.mem_cons_self
    unfold ksL at *
    rw [List.map_cons, List.sum_cons]
    exact Nat.dvd_add (Nat.pow_dvd_pow 2 (Nat.sub_le_sub_left hl K)) ih

/- shares below the whole leave a share of their number -/
theorem dyadic (K : Nat) : ∀ ls : List Nat, ls.Pairwise (fun a b => b ≤ a) → (∀ l ∈ ls, l ≤ K) → ls.length ≤ K → ksL K ls < 2 ^ K → ksL K ls + 2 ^ (K - ls.length) ≤ 2 ^ K
  | [], _, _, _, _ => by simp [ksL]
  | x :: r, hs, hK, hlen, h => by
    have hp := List.pairwise_cons.mp hs
    have hxK := hK x List.mem_cons_self
    have e1 : ksL K (x :: r) = 2 ^ (K - x) + ksL K r := by simp [ksL]
    rw [List.length_cons] at hlen ⊢
    by_cases hx : x ≤ r.length + 1
    · have hd : 2 ^ (K - x) ∣ ksL K (x :: r) := ksL_dvd K x _ fun l hl => by
        rcases List.mem_cons.mp hl with rfl | hl
        · exact Nat.le_refl _
        · exact hp.1 l hl
      obtain ⟨q, hq⟩ := hd
      have e2 : 2 ^ K = 2 ^ (K - x) * 2 ^ x := by rw [← Nat.pow_add, Nat.sub_add_cancel hxK]
      rw [hq, e2] at h
      have hlt := Nat.lt_of_mul_lt_mul_left h
      have h2 : 2 ^ (K - x) * (q + 1) ≤ 2 ^ (K - x) * 2 ^ x := Nat.mul_le_mul_left _ hlt
      have h3 : 2 ^ (K - (r.length + 1)) ≤ 2 ^ (K - x) := Nat.pow_le_pow_right (by decide) (Nat.sub_le_sub_left hx K)
      rw [hq]
      rw [Nat.mul_add, Nat.mul_one] at h2
      rw [e2]; exact Nat.le_trans (Nat.add_le_add_left h3 _) h2
    · have hz : ksL K r ≤ ksL K (x :: r) := by rw [e1]; exact Nat.le_add_left _ _
      have ih := dyadic K r hp.2 (fun l hl => hK l (List.mem_cons_of_mem _ hl)) (Nat.le_of_succ_le hlen) (Nat.lt_of_le_of_lt hz h)
      rw [e1]
      have h3 : 2 ^ (K - x) ≤ 2 ^ (K - (r.length + 1)) := Nat.pow_le_pow_right (by decide) (Nat.sub_le_sub_left (Nat.le_of_lt (Nat.lt_of_not_le hx)) K)
      have h4 : 2 ^ (K - r.length) = 2 ^ (K - (r.length + 1)) * 2 := by rw [← Nat.pow_succ, ← Nat.succ_sub hlen, Nat.succ_sub_succ]
      omega

theorem lt_two (a : Nat) (h : 1 ≤ a) : a ≤ 2 ^ (a - 1) := by
  exact Nat.le_of_pred_lt (@Nat.lt_two_pow_self (a - 1))

theorem sub_in {A B m : Nat} (h : m ≤ B) (h2 : B ≤ A) : (A - B) + (B - m) = A - m := by
  obtain ⟨x, rfl⟩ := Nat.exists_eq_add_of_le h
  obtain ⟨y, rfl⟩ := Nat.exists_eq_add_of_le h2
  rw [Nat.add_sub_cancel_left, Nat.add_sub_cancel_left, Nat.add_assoc, Nat.add_sub_cancel_left, Nat.add_comm]

/- cut at one less than their number, the shares stay within the whole -/
theorem cut_kraft (K n : Nat) (ls : List Nat) (hs : ls.Pairwise (fun a b => b ≤ a)) (hK : ∀ l ∈ ls, l ≤ K) (hn : ls.length = n) (hnK : n ≤ K + 1) (h1 : 1 ≤ n) (h : ksL K ls ≤ 2 ^ K) : ksL K (ls.map fun l => min l (n - 1)) ≤ 2 ^ K := by
  -- the long ones stand first
  have split : ∀ (l : List Nat), l.Pairwise (fun a b => b ≤ a) → ∃ a b, l = a ++ b ∧ (∀ x ∈ a, n - 1 ≤ x) ∧ (∀ x ∈ b, x < n - 1) := by
    intro l
    induction l with
    | nil => intro _; exact ⟨[], [], rfl, by simp, by simp⟩
    | cons x r ih =>
      intro hp
      have hp := List.pairwise_cons.mp hp
      by_cases hx : n - 1 ≤ x
      · obtain ⟨a, b, e, h1, h2⟩ := ih hp.2
        refine ⟨x :: a, b, by rw [e]; rfl, fun y hy => ?_, h2⟩
        rcases List.mem_cons.mp hy with rfl | hy
        · exact hx
        · exact h1 y hy
      · refine ⟨[], x :: r, rfl, by simp, fun y hy => ?_⟩
        rcases List.mem_cons.mp hy with rfl | hy
        · omega
        · have := hp.1 y hy; omega
  obtain ⟨a, b, rfl, ha, hb⟩ := split ls hs
  have e1 : ksL K ((a ++ b).map fun l => min l (n - 1)) = a.length * 2 ^ (K - (n - 1)) + ksL K b := by
    unfold ksL
    rw [List.map_append, List.map_append, List.sum_append]
    congr 1
    · have : ∀ a : List Nat, (∀ x ∈ a, n - 1 ≤ x) → (List.map (fun l => 2 ^ (K - l)) (List.map (fun l => min l (n - 1)) a)).sum = a.length * 2 ^ (K - (n - 1)) := by
        intro a
        induction a with
        | nil => simp
        | cons x a ih =>
          intro h
          have := ih fun y hy => h y (List.mem_cons_of_mem _ hy)
          have hx := h x List.mem_cons_self
          simp only [List.map_cons, List.sum_cons, List.length_cons] at this ⊢
          rw [this, Nat.min_eq_right hx, Nat.add_mul]; omega
      exact this a ha
    · congr 1
      rw [List.map_map]
      refine List.map_congr_left fun x hx => ?_
      have := hb x hx
      simp only [Function.comp]
      rw [Nat.min_eq_left (by omega)]
  rw [e1]
  rw [List.length_append] at hn
  have e2 : ksL K (a ++ b) = ksL K a + ksL K b := by simp [ksL]
  rw [e2] at h
  by_cases ha0 : a = []
  · subst ha0; simp; omega
  · have hal : 1 ≤ a.length := List.length_pos_iff.mpr ha0
    have hapos : 0 < ksL K a := by
      cases a with
      | nil => exact absurd rfl ha0
      | cons x a => simp only [ksL, List.map_cons, List.sum_cons]; have := Nat.two_pow_pos (K - x); omega
    have hbs := (List.pairwise_append.mp hs).2.1
    have hd := dyadic K b hbs (fun l hl => hK l (List.mem_append_right _ hl)) (by omega) (Nat.lt_of_lt_of_le (Nat.lt_add_of_pos_left hapos) h)
    have h5 : a.length * 2 ^ (K - (n - 1)) ≤ 2 ^ (K - b.length) := by
      have e3 : 2 ^ (K - b.length) = 2 ^ (a.length - 1) * 2 ^ (K - (n - 1)) := by
        have e5 : n - 1 = b.length + (a.length - 1) := by rw [← hn, Nat.add_comm, Nat.add_sub_assoc hal]
        have e6 : a.length - 1 ≤ K - b.length := Nat.le_sub_of_add_le (by rw [Nat.add_comm, ← e5]; exact Nat.sub_le_of_le_add hnK)
        rw [← Nat.pow_add, e5, ← Nat.sub_sub, Nat.add_sub_cancel' e6]
      rw [e3]
      exact Nat.mul_le_mul_right _ (lt_two _ hal)
    exact Nat.le_trans (Nat.add_le_add_right h5 _) (by rw [Nat.add_comm]; exact hd)

/- Shannon's code, cut at one less than the leaves -/
theorem shannon_code (cs : List Nat) (hs : cs.Pairwise (fun a b => a ≤ b)) (h1 : ∀ c ∈ cs, 1 ≤ c) (hn : 1 ≤ cs.length) (lo : Nat) (hlo : cs.length - 1 ≤ lo) :
    ∃ g : Nat → Nat, (∀ c, g c ≤ lo) ∧ (cs.map fun c => 2 ^ (lo - g c)).sum ≤ 2 ^ lo ∧ ∀ c ∈ cs, c * 2 ^ g c < 2 * cs.sum := by
  obtain ⟨N, hNe⟩ : ∃ N, cs.sum = N := ⟨_, rfl⟩
  have hN : 1 ≤ N := by
    cases cs with
    | nil => simp at hn
    | cons c r => have := h1 c List.mem_cons_self; rw [← hNe, List.sum_cons]; omega
  have hmem : ∀ c ∈ cs, c ≤ N := by
    rw [← hNe]
    intro c hc
    have : ∀ l : List Nat, ∀ c ∈ l, c ≤ l.sum := by
      intro l
      induction l with
      | nil => simp
      | cons x l ih =>
        intro c hc
        rw [List.sum_cons]
        rcases List.mem_cons.mp hc with rfl | hc
        · omega
        · have := ih c hc; omega
    exact this cs c hc
  obtain ⟨n, hne⟩ : ∃ n, cs.length = n := ⟨_, rfl⟩
  rw [hNe]
  rw [hne] at hn hlo
  have h2 : ∀ c : Nat, ∃ l, 1 ≤ c → l ≤ N ∧ N ≤ c * 2 ^ l ∧ (l = 0 ∨ c * 2 ^ l < 2 * N) := fun c => by
    by_cases hc : 1 ≤ c
    · obtain ⟨l, a, b, d⟩ := least_len c N N (by
        have := @Nat.lt_two_pow_self N
        have : 1 * 2 ^ N ≤ c * 2 ^ N := Nat.mul_le_mul_right _ hc
        omega)
      exact ⟨l, fun _ => ⟨a, b, d⟩⟩
    · exact ⟨0, fun h => absurd h hc⟩
  obtain ⟨f, hf⟩ := Classical.axiomOfChoice h2
  have hup : ∀ c ∈ cs, c * 2 ^ f c < 2 * N := fun c hc => by
    rcases (hf c (h1 c hc)).2.2 with h | h
    · rw [h]; have := hmem c hc; omega
    · exact h
  have hdesc : (cs.map f).Pairwise (fun a b => b ≤ a) := by
    rw [List.pairwise_map]
    refine List.Pairwise.imp_of_mem (fun {a b} ha hb hab => ?_) hs
    rcases Nat.lt_or_ge (f a) (f b) with h | h
    · exfalso
      have q1 := (hf a (h1 a ha)).2.1
      have q2 := hup b hb
      have q3 : a * 2 ^ (f a + 1) ≤ b * 2 ^ f b := Nat.mul_le_mul hab (Nat.pow_le_pow_right (by decide) (by omega))
      rw [Nat.pow_succ] at q3
      have : a * (2 ^ f a * 2) = 2 * (a * 2 ^ f a) := by grind
      omega
    · exact h
  have hk : ksL (N + n) (cs.map f) ≤ 2 ^ (N + n) := by
    have q1 : (cs.map fun c => N * 2 ^ (N + n - f c)).sum ≤ (cs.map fun c => 2 ^ (N + n) * c).sum := by
      refine sum_le_map _ _ cs fun c hc => ?_
      have q := (hf c (h1 c hc)).2.1
      have e1 : 2 ^ (N + n) = 2 ^ (N + n - f c) * 2 ^ f c := by rw [← Nat.pow_add]; congr 1; have := (hf c (h1 c hc)).1; omega
      have : 2 ^ (N + n - f c) * N ≤ 2 ^ (N + n - f c) * (c * 2 ^ f c) := Nat.mul_le_mul_left _ q
      rw [e1, Nat.mul_comm N]
      have e2 : 2 ^ (N + n - f c) * 2 ^ f c * c = 2 ^ (N + n - f c) * (c * 2 ^ f c) := by grind
      omega
    rw [sum_mul_map, sum_mul_map (2 ^ (N + n)) (fun c => c)] at q1
    simp only [List.map_id'] at q1
    rw [hNe, Nat.mul_comm (2 ^ (N + n)) N] at q1
    have := Nat.le_of_mul_le_mul_left q1 hN
    unfold ksL
    rw [List.map_map]
    exact this
  have hcut := cut_kraft (N + n) n (cs.map f) hdesc (fun l hl => by
    obtain ⟨c, hc, rfl⟩ := List.mem_map.mp hl
    have := (hf c (h1 c hc)).1; omega) (by simpa using hne) (by omega) hn hk
  refine ⟨fun c => min (f c) (n - 1), fun c => (by show min (f c) (n - 1) ≤ lo; omega), ?_, fun c hc => ?_⟩
  · have e1 : ksL (N + n) ((cs.map f).map fun l => min l (n - 1)) = 2 ^ (N + n - (n - 1)) * (cs.map fun c => 2 ^ (n - 1 - min (f c) (n - 1))).sum := by
      unfold ksL
      rw [List.map_map, List.map_map, ← sum_mul_map]
      congr 1
      refine List.map_congr_left fun c _ => ?_
      simp only [Function.comp]
      rw [← Nat.pow_add, sub_in (Nat.min_le_right _ _) (Nat.le_trans (Nat.sub_le _ _) (Nat.le_add_left _ _))]
    have e2 : 2 ^ (N + n) = 2 ^ (N + n - (n - 1)) * 2 ^ (n - 1) := by rw [← Nat.pow_add]; congr 1; omega
    rw [e1, e2] at hcut
    have q := Nat.le_of_mul_le_mul_left hcut (Nat.two_pow_pos _)
    have e3 : (cs.map fun c => 2 ^ (lo - min (f c) (n - 1))).sum = 2 ^ (lo - (n - 1)) * (cs.map fun c => 2 ^ (n - 1 - min (f c) (n - 1))).sum := by
      rw [← sum_mul_map]
      congr 1
      refine List.map_congr_left fun c _ => ?_
      rw [← Nat.pow_add, sub_in (Nat.min_le_right _ _) hlo]
    rw [e3]
    have e4 : 2 ^ lo = 2 ^ (lo - (n - 1)) * 2 ^ (n - 1) := by rw [← Nat.pow_add]; congr 1; omega
    rw [e4]
    exact Nat.mul_le_mul_left _ q
  · have := hup c hc
    have q : c * 2 ^ min (f c) (n - 1) ≤ c * 2 ^ f c := Nat.mul_le_mul_left _ (Nat.pow_le_pow_right (by decide) (Nat.min_le_left _ _))
    dsimp only
    omega
end

section
/- the used counts and their lengths -/
noncomputable def upF : List Int → List Int → List (Nat × Nat)
  | c :: cs, l :: ls => if 0 < c then (c.toNat, l.toNat) :: upF cs ls else upF cs ls
  | _, _ => []

theorem up_bits : ∀ (ns ls : List Int), (∀ l ∈ ls, 0 ≤ l) → bitsOf ns ls = (tSum (upF ns ls) : Nat)
  | [], _, _ => by simp [bitsOf, upF, tSum]
  | c :: cs, [], _ => by simp [bitsOf, upF, tSum]
  | c :: cs, l :: ls, h => by
    have ih := up_bits cs ls fun x hx => h x (List.mem_cons_of_mem _ hx)
    have hl := h l List.mem_cons_self
    rw [bitsOf, upF, ih]
    split
    · unfold tSum
      rw [List.map_cons, List.sum_cons]
      push_cast
      rw [Int.toNat_of_nonneg hl, Int.toNat_of_nonneg (by omega)]
    · simp
theorem up_pow : ∀ (ns ls : List Int), ns.length = ls.length → pwrF ns = (cPow (upF ns ls) : Nat)
  | [], [], _ => rfl
  | c :: cs, l :: ls, h => by
    have ih := up_pow cs ls (by simpa using h)
    rw [pwrF, upF, ih]
    split
    · rw [cPow]
      push_cast
      rw [Int.toNat_of_nonneg (by omega)]
    · simp
theorem up_sum : ∀ (ns ls : List Int), ns.length = ls.length → (∀ c ∈ ns, 0 ≤ c) → ns.sum = (cSum (upF ns ls) : Nat)
  | [], [], _, _ => rfl
  | c :: cs, l :: ls, h, h0 => by
    have ih := up_sum cs ls (by simpa using h) fun x hx => h0 x (List.mem_cons_of_mem _ hx)
    have hc := h0 c List.mem_cons_self
    rw [List.sum_cons, upF, ih]
    split
    · unfold cSum
      rw [List.map_cons, List.sum_cons]
      push_cast
      rw [Int.toNat_of_nonneg hc]
    · omega
theorem mem_up : ∀ (ns ls : List Int) (p : Nat × Nat), ns.length = ls.length → (p ∈ upF ns ls ↔ ∃ i, i < ns.length ∧ 0 < ns.getD i 0 ∧ p = ((ns.getD i 0).toNat, (ls.getD i 0).toNat))
  | [], [], p, _ => by simp [upF]
  | c :: cs, l :: ls, p, h => by
    have ih := mem_up cs ls p (by simpa using h)
    rw [upF]
    constructor
    · intro hp
      split at hp
      · next hc =>
        rcases List.mem_cons.mp hp with rfl | hp
        · exact ⟨0, by simp, by simpa using hc, by simp⟩
        · obtain ⟨i, a, b, e⟩ := ih.mp hp
          exact ⟨i + 1, by simpa using a, by simpa using b, by simpa using e⟩
      · obtain ⟨i, a, b, e⟩ := ih.mp hp
        exact ⟨i + 1, by simpa using a, by simpa using b, by simpa using e⟩
    · rintro ⟨i, a, b, e⟩
      cases i with
      | zero =>
        have hc : 0 < c := by simpa using b
        rw [if_pos hc, e]
        simp
      | succ i =>
        have := ih.mpr ⟨i, by simpa using a, by simpa using b, by simpa using e⟩
        split
        · exact List.mem_cons_of_mem _ this
        · exact this
theorem up_zip : ∀ (ns ls : List Int), upF ns ls = ((ns.zip ls).filter (fun p => decide (0 < p.1))).map fun p => (p.1.toNat, p.2.toNat)
  | [], _ => by simp [upF]
  | _ :: _, [] => by simp [upF]
  | c :: cs, l :: ls => by
    rw [upF, up_zip cs ls]
    by_cases h : 0 < c <;> simp [h]
theorem up_used (out : List Int) : ∀ (cs : List Int) (k : Nat), out.length = k + cs.length → (usedF k cs).map (fun p => (p.1.toNat, (out.getD p.2.toNat 0).toNat)) = upF cs (out.drop k)
  | [], k, _ => by simp [usedF, upF]
  | c :: cs, k, h => by
    have hk : k < out.length := by rw [h]; simp
    have ih := up_used out cs (k + 1) (by rw [h]; simp; omega)
    rw [List.drop_eq_getElem_cons hk, usedF, upF, ← ih]
    split
    · simp [hk]
    · rfl

theorem perm_sum {l l' : List Nat} (h : l.Perm l') : l.sum = l'.sum := by
  induction h with
  | nil => rfl
  | cons x _ ih => simp [ih]
  | swap x y l => simp; omega
  | trans _ _ i1 i2 => omega
theorem perm_cPow {l l' : List (Nat × Nat)} (h : l.Perm l') : cPow l = cPow l' := by
  induction h with
  | nil => rfl
  | cons x _ ih => simp [cPow, ih]
  | swap x y l => simp only [cPow]; grind
  | trans _ _ i1 i2 => rw [i1, i2]
theorem perm_all {l l' : List (Nat × Nat)} (h : l.Perm l') (K : Nat) : tSum l = tSum l' ∧ cSum l = cSum l' ∧ cPow l = cPow l' ∧ kSum K l = kSum K l' :=
  ⟨perm_sum (h.map _), perm_sum (h.map _), perm_cPow h, perm_sum (h.map _)⟩

theorem nb_true {ns ls : List Int} (K : Nat) (hlen : ns.length = ls.length) (hc : ∀ c ∈ ns, 0 ≤ c) (hl : ∀ l ∈ ls, 0 ≤ l) (hK : ∀ p ∈ upF ns ls, p.2 ≤ K) (hne : upF ns ls ≠ []) (kraft : kSum K (upF ns ls) ≤ 2 ^ K) :
    nbF ns ls (2 ^ (bitsOf ns ls).toNat * pwrF ns) = true := by
  have hpos : ∀ p ∈ upF ns ls, 1 ≤ p.1 := fun p hp => by
    obtain ⟨i, _, b, rfl⟩ := (mem_up ns ls p hlen).mp hp
    dsimp only; omega
  obtain ⟨_, m2, m3⟩ := nb_main K (upF ns ls) hpos hK hne kraft
  have eN := up_sum ns ls hlen hc
  have eT := up_bits ns ls hl
  have eP := up_pow ns ls hlen
  have ep : 2 ^ (bitsOf ns ls).toNat * pwrF ns = ((2 ^ tSum (upF ns ls) * cPow (upF ns ls) : Nat) : Int) := by
    rw [eT, eP, Int.toNat_natCast]; push_cast; rfl
  have eNN : ns.sum ^ ns.sum.toNat = ((cSum (upF ns ls) ^ cSum (upF ns ls) : Nat) : Int) := by
    rw [eN, Int.toNat_natCast]; push_cast; rfl
  have eq1 : ∀ i, i < ns.length → 0 < ns.getD i 0 → (ns.getD i 0 * 2 ^ (ls.getD i 0).toNat = ns.sum ↔ (ns.getD i 0).toNat * 2 ^ (ls.getD i 0).toNat = cSum (upF ns ls)) := fun i _ h => by
    rw [eN]
    have e : ns.getD i 0 * 2 ^ (ls.getD i 0).toNat = (((ns.getD i 0).toNat * 2 ^ (ls.getD i 0).toNat : Nat) : Int) := by
      push_cast; rw [Int.toNat_of_nonneg (by omega)]
    rw [e]
    exact_mod_cast Iff.rfl
  unfold nbF
  rw [ep, eNN]
  split
  · next h =>
    have hall := m3 fun p hp => by
      obtain ⟨i, a, b, rfl⟩ := (mem_up ns ls p hlen).mp hp
      refine (eq1 i a b).mp ?_
      have h2 := List.filterMap_eq_nil_iff.mp h i (List.mem_range.mpr a)
      unfold unlikeF at h2
      split at h2
      · cases h2
      · next h3 => exact Classical.byContradiction fun h4 => h3 ⟨b, h4⟩
    rw [hall]; simp
  · next h =>
    have hlt := m2 (by
      obtain ⟨z, hz⟩ := List.exists_mem_of_ne_nil _ h
      obtain ⟨i, hi, e⟩ := List.mem_filterMap.mp hz
      have hi := List.mem_range.mp hi
      unfold unlikeF at e
      split at e
      · next h3 => exact ⟨_, (mem_up ns ls _ hlen).mpr ⟨i, hi, h3.1, rfl⟩, fun h4 => h3.2 ((eq1 i hi h3.1).mpr h4)⟩
      · cases e)
    have : ((cSum (upF ns ls) ^ cSum (upF ns ls) : Nat) : Int) < ((2 ^ tSum (upF ns ls) * cPow (upF ns ls) : Nat) : Int) := by exact_mod_cast hlt
    simpa using this

theorem tn20 {x : Int} (h : 0 ≤ x) : (((20 : Nat) : Int) - x).toNat = 20 - x.toNat := by
  obtain ⟨n, rfl⟩ := Int.eq_ofNat_of_zero_le h
  exact Int.toNat_sub 20 n

theorem drawn_ok {zs cz ns ls : List Int} {k : Nat} (hz : CntOk cz.length zs) (hc : CodeOk cz) (h2 : 2 ≤ cz.length) (h8 : cz.length ≤ 8) (hk2 : k ≤ 2) (hI : Ins zs cz k ns ls) : nbF ns ls (2 ^ (bitsOf ns ls).toNat * pwrF ns) = true := by
  have hd := hI.drawn hz hc h2 h8 hk2
  have e1 : upF ns ls = upF zs cz := by rw [up_zip, up_zip, (hI.zip hz.len).1]
  have e2 : upF zs cz = (zs.zip cz).map fun p => (p.1.toNat, p.2.toNat) := by
    rw [up_zip, List.filter_eq_self.mpr fun p hp => ?_]
    have := hz.le _ (List.of_mem_zip hp).1
    simp; omega
  refine nb_true 20 hd.len (fun c hc => (hd.le c hc).1) (fun l hl => (hd.lle l hl).1) (fun p hp => ?_) ?_ ?_
  · obtain ⟨i, a, b, rfl⟩ := (mem_up ns ls p hd.len).mp hp
    have := hd.lle (ls.getD i 0) (by have := hd.len; simp [show i < ls.length by omega])
    dsimp only; omega
  · rw [e1, e2]
    intro h
    have := congrArg List.length h
    have hl := hz.len
    rw [List.length_map, List.length_zip, List.length_nil] at this
    omega
  · rw [e1, e2]
    have hkr := hc.kraft 20 fun x hx => by have := hc.le x hx; omega
    have e3 : kSum 20 ((zs.zip cz).map fun p => (p.1.toNat, p.2.toNat)) = (cz.map fun x => 2 ^ (20 - x.toNat)).sum := by
      unfold kSum
      rw [List.map_map]
      have : ∀ (a b : List Int), a.length = b.length → ((a.zip b).map ((fun p : Nat × Nat => 2 ^ (20 - p.2)) ∘ fun p => (p.1.toNat, p.2.toNat))) = b.map fun x => 2 ^ (20 - x.toNat) := by
        intro a
        induction a with
        | nil => intro b h; cases b with
          | nil => rfl
          | cons => simp at h
        | cons x a ih => intro b h; cases b with
          | nil => simp at h
          | cons y b => simp at h; simp [ih b h]
      rw [this zs cz hz.len]
    rw [e3]
    have e4 : (((cz.map fun x => 2 ^ (20 - x.toNat)).sum : Nat) : Int) = (cz.map fun x => (2 : Int) ^ (((20 : Nat) : Int) - x).toNat).sum := by
      have : ∀ l : List Int, (∀ x ∈ l, 0 ≤ x) → (((l.map fun x => 2 ^ (20 - x.toNat)).sum : Nat) : Int) = (l.map fun x => (2 : Int) ^ (((20 : Nat) : Int) - x).toNat).sum := by
        intro l
        induction l with
        | nil => intro _; rfl
        | cons x l ih =>
          intro h
          have hx := h x List.mem_cons_self
          simp only [List.map_cons, List.sum_cons]
          rw [Int.natCast_add, ih fun y hy => h y (List.mem_cons_of_mem _ hy)]
          congr 1
          rw [show (((20 : Nat) : Int) - x).toNat = 20 - x.toNat from tn20 hx]
          push_cast; rfl
      exact this cz fun x hx => (hc.le x hx).1
    have : (((cz.map fun x => 2 ^ (20 - x.toNat)).sum : Nat) : Int) = ((2 ^ 20 : Nat) : Int) := by rw [e4, hkr]; rfl
    have := Int.ofNat_inj.mp this
    omega
end

section
theorem sumN_list (f : Nat → Nat) : ∀ n, sumN n (fun i => (f i : Int)) = ((((List.range n).map f).sum : Nat) : Int)
  | 0 => rfl
  | n + 1 => by
    rw [sumN, sumN_list f n, List.range_succ, List.map_append, List.sum_append]
    simp
theorem sumN_map {α : Type} (d : α) (f : α → Nat) (l : List α) : sumN l.length (fun i => (f (l.getD i d) : Int)) = (((l.map f).sum : Nat) : Int) := by
  rw [sumN_list]
  congr 2
  apply List.ext_getElem (by simp)
  intro i h1 h2
  simp at h1
  simp [h1]

theorem usedF_mem : ∀ (cs : List Int) (k : Nat) (p : Int × Int), p ∈ usedF k cs → ∃ i, i < cs.length ∧ p.2 = ((k + i : Nat) : Int) ∧ p.1 = cs.getD i 0 ∧ 0 < p.1
  | [], _, _, h => by simp [usedF] at h
  | c :: cs, k, p, h => by
    rw [usedF] at h
    have ih := usedF_mem cs (k + 1) p
    split at h
    · next hc =>
      rcases List.mem_cons.mp h with rfl | h
      · exact ⟨0, by simp, by simp, by simp, hc⟩
      · obtain ⟨i, a, b, d, e⟩ := ih h
        exact ⟨i + 1, by simpa using a, by rw [b]; congr 1; omega, by simpa using d, e⟩
    · obtain ⟨i, a, b, d, e⟩ := ih h
      exact ⟨i + 1, by simpa using a, by rw [b]; congr 1; omega, by simpa using d, e⟩
theorem usedF_inc : ∀ (cs : List Int) (k : Nat), (usedF k cs).Pairwise (fun a b => a.2 < b.2)
  | [], _ => by simp [usedF]
  | c :: cs, k => by
    rw [usedF]
    split
    · refine List.pairwise_cons.mpr ⟨fun p hp => ?_, usedF_inc cs (k + 1)⟩
      obtain ⟨i, a, b, _⟩ := usedF_mem cs (k + 1) p hp
      rw [b]; dsimp only; omega
    · exact usedF_inc cs (k + 1)

theorem placeF_cons (p : Int × Int) (ps : List (Int × Int)) (d : Int) (ds found : List Int) : placeF (p :: ps) (d :: ds) found = placeF ps ds (found.set p.2.toNat d) := rfl
theorem placeF_other (s : Nat) : ∀ (ps : List (Int × Int)) (ds found : List Int), (∀ p ∈ ps, p.2.toNat ≠ s) → (placeF ps ds found).getD s 0 = found.getD s 0
  | [], _, _, _ => rfl
  | _ :: _, [], _, _ => rfl
  | p :: ps, d :: ds, found, h => by
    rw [placeF_cons, placeF_other s ps ds _ fun q hq => h q (List.mem_cons_of_mem _ hq)]
    have := h p List.mem_cons_self
    simp [List.getElem?_set, this]
theorem placeF_get : ∀ (ps : List (Int × Int)) (ds found : List Int) (i : Nat), ps.length = ds.length → (ps.map fun p => p.2.toNat).Nodup → (∀ p ∈ ps, p.2.toNat < found.length) → i < ps.length →
    (placeF ps ds found).getD (ps.getD i (0, 0)).2.toNat 0 = ds.getD i 0
  | [], _, _, _, _, _, _, h => by simp at h
  | p :: ps, [], _, _, h, _, _, _ => by simp at h
  | p :: ps, d :: ds, found, i, h, hn, hb, hi => by
    have hn2 := List.nodup_cons.mp hn
    rw [placeF_cons]
    cases i with
    | zero =>
      have := hb p List.mem_cons_self
      rw [show ((p :: ps).getD 0 (0, 0)) = p from rfl, placeF_other _ ps ds _ fun q hq e => hn2.1 (List.mem_map.mpr ⟨q, hq, e⟩)]
      simp [this]
    | succ i =>
      have := placeF_get ps ds (found.set p.2.toNat d) i (by simpa using h) hn2.2 (fun q hq => by rw [List.length_set]; exact hb q (List.mem_cons_of_mem _ hq)) (by simpa using hi)
      simpa using this
theorem placeF_mem (x : Int) : ∀ (ps : List (Int × Int)) (ds found : List Int), x ∈ placeF ps ds found → x ∈ ds ∨ x ∈ found
  | [], _, _, h => .inr h
  | _ :: _, [], _, h => .inr h
  | p :: ps, d :: ds, found, h => by
    rw [placeF_cons] at h
    rcases placeF_mem x ps ds _ h with h | h
    · exact .inl (List.mem_cons_of_mem _ h)
    · rcases List.mem_or_eq_of_mem_set h with h | rfl
      · exact .inr h
      · exact .inl List.mem_cons_self

theorem packF_get (ws : List Int) (lo i : Nat) (h : i < ws.length) : (packF ws lo).getD i 0 = ((depN (rowsF ws lo).reverse (2 * ws.length - 2) i : Nat) : Int) := by
  rw [packF, depF_get _ _ _ _ (by simpa using h)]
  simp [h]

section
variable {ns : List Int} {lo : Nat} {rows : List (Int × Int)}
/- what is known of the rows -/
structure RowFacts (ns : List Int) (lo : Nat) (rows : List (Int × Int)) : Prop where
  mem : ∀ p ∈ rows, 1 ≤ p.1 ∧ p.1 ≤ 1000 ∧ p.2.toNat < ns.length ∧ 0 ≤ p.2 ∧ ns.getD p.2.toNat 0 = p.1
  nodup : (rows.map fun p => p.2.toNat).Nodup
  len : rows.length = (usedF 0 ns).length
  sorted : SortedI (rows.map (·.1))
theorem row_facts (h : CountsFit ns lo) (hr : RowsOf ns rows) : RowFacts ns lo rows := by
  obtain ⟨hp, hw⟩ := hr
  have hm : ∀ p ∈ rows, 1 ≤ p.1 ∧ p.1 ≤ 1000 ∧ p.2.toNat < ns.length ∧ 0 ≤ p.2 ∧ ns.getD p.2.toNat 0 = p.1 := fun p hp' => by
    obtain ⟨i, a, b, d, e⟩ := usedF_mem ns 0 p (hp.mem_iff.mp hp')
    rw [Nat.zero_add] at b
    have e2 : p.2.toNat = i := by rw [b]; exact Int.toNat_natCast i
    have := h.le p.1 (by rw [d]; simp [a])
    exact ⟨by omega, by omega, by omega, by omega, by rw [e2, d]⟩
  refine ⟨hm, ?_, hp.length_eq, ?_⟩
  · have h1 : ((usedF 0 ns).map fun p => p.2.toNat).Nodup := by
      rw [List.nodup_iff_pairwise_ne, List.pairwise_map]
      refine List.Pairwise.imp_of_mem (fun {a b} ha hb hab => ?_) (usedF_inc ns 0)
      obtain ⟨_, _, ea, _⟩ := usedF_mem ns 0 a ha
      obtain ⟨_, _, eb, _⟩ := usedF_mem ns 0 b hb
      omega
    exact (hp.map _).nodup_iff.mpr h1
  · unfold SortedI
    rw [List.pairwise_map]
    refine List.Pairwise.imp_of_mem (fun {a b} ha hb hab => ?_) hw
    have qa := hm a ha
    have qb := hm b hb
    have := h.len
    exact key_le hab qa.2.2.2.1 (by omega)

noncomputable def depR (lo : Nat) (rows : List (Int × Int)) (i : Nat) : Nat := depN (rowsF (rows.map (·.1)) lo).reverse (2 * rows.length - 2) i
theorem out_get (h : CountsFit ns lo) (hr : RowsOf ns rows) (i : Nat) (hi : i < rows.length) : (lenF ns lo rows).getD (rows.getD i (0, 0)).2.toNat 0 = (depR lo rows i : Nat) := by
  have hf := row_facts h hr
  unfold lenF depR
  rw [placeF_get rows _ _ i (by rw [packF_len, List.length_map]) hf.nodup (fun p hp => by rw [List.length_replicate]; exact (hf.mem p hp).2.2.1) hi, packF_get _ _ _ (by simpa using hi), List.length_map]

theorem dep_facts (h : CountsFit ns lo) (hr : RowsOf ns rows) : (∀ i, depR lo rows i ≤ lo) ∧ sumN rows.length (fun i => ((2 ^ (lo + 1 - depR lo rows i) : Nat) : Int)) ≤ (2 ^ (lo + 1) : Nat) ∧
    sumN rows.length (fun i => (rows.map (·.1)).getD i 0 * (depR lo rows i : Nat)) = SF (rows.map (·.1)) lo (2 * rows.length - 2) ∧ (∀ i, i < rows.length → 1 ≤ depR lo rows i) := by
  have hf := row_facts h hr
  have hl := hf.len
  have h2 := h.u2
  have hroom := row_room (rows.map (·.1)) h.lo1.1 (by rw [List.length_map, hl]; exact h.room)
  rw [List.length_map] at hroom
  have k1 := dep_kraft (rows.map (·.1)) lo (2 * rows.length - 2) hroom
  have k2 := dep_cost (rows.map (·.1)) lo (2 * rows.length - 2) hroom
  rw [List.length_map] at k1 k2
  have k3 : sumN rows.length (fun i => ((2 ^ (lo + 1 - depR lo rows i) : Nat) : Int)) ≤ (2 ^ (lo + 1) : Nat) := by
    have e1 : ((2 * rows.length - 2 : Nat) : Int) * ((2 ^ lo : Nat) : Int) = rows.length * ((2 ^ (lo + 1) : Nat) : Int) - ((2 ^ (lo + 1) : Nat) : Int) := by
      rw [show ((2 * rows.length - 2 : Nat) : Int) = 2 * (rows.length : Int) - 2 by omega, Nat.pow_succ]; push_cast; grind
    rw [e1] at k1
    unfold depR
    omega
  refine ⟨fun i => dep_le _ _ _ _, k3, k2, fun i hi => ?_⟩
  rcases Nat.eq_zero_or_pos (depR lo rows i) with h0 | h0
  · exfalso
    have k4 : sumN rows.length (fun j => (if j = i then ((2 ^ (lo + 1) : Nat) : Int) - 1 else 0) + 1) ≤ sumN rows.length (fun i => ((2 ^ (lo + 1 - depR lo rows i) : Nat) : Int)) := by
      refine sumN_le _ fun j hj => ?_
      by_cases hji : j = i
      · subst hji
        rw [if_pos rfl, h0, Nat.sub_zero]; omega
      · rw [if_neg hji]
        have := Nat.two_pow_pos (lo + 1 - depR lo rows j)
        omega
    have one : ∀ (c : Int) (n : Nat), i < n → sumN n (fun j => if j = i then c else 0) = c := by
      intro c n
      induction n with
      | zero => intro h; omega
      | succ n ih =>
        intro h
        rw [sumN]
        by_cases hin : n = i
        · subst hin
          have z : sumN n (fun j => if j = n then c else 0) = 0 := by
            rw [sumN_congr (g := fun _ => 0) n fun j hj => if_neg (by omega), sumN_const]; simp
          rw [z]; simp
        · rw [ih (by omega), if_neg hin]; simp
    rw [sumN_add, one _ _ hi, sumN_const] at k4
    omega
  · exact h0

/- the used counts with what was told for each -/
noncomputable def pdF (ns : List Int) (lo : Nat) (rows : List (Int × Int)) : List (Nat × Nat) := rows.map fun p => (p.1.toNat, ((lenF ns lo rows).getD p.2.toNat 0).toNat)
theorem lenF_len (ns : List Int) (lo : Nat) (rows : List (Int × Int)) : (lenF ns lo rows).length = ns.length := by
  unfold lenF; rw [placeF_len, List.length_replicate]
theorem pd_perm (hr : RowsOf ns rows) : (pdF ns lo rows).Perm (upF ns (lenF ns lo rows)) := by
  have e := up_used (lenF ns lo rows) ns 0 (by rw [lenF_len]; simp)
  rw [List.drop_zero] at e
  rw [← e]
  exact hr.1.map _

theorem told_fit (h : CountsFit ns lo) (hr : RowsOf ns rows) : Fit ns (lenF ns lo rows) := by
  have hf := row_facts h hr
  obtain ⟨d1, _, _, d4⟩ := dep_facts h hr
  refine ⟨lenF_len _ _ _, fun l hl => ?_, fun i c l e1 e2 hc => ?_⟩
  · unfold lenF at hl
    rcases placeF_mem l _ _ _ hl with hl | hl
    · obtain ⟨i, hi', rfl⟩ := List.getElem_of_mem hl
      have hi := hi'
      rw [packF_len] at hi
      have e : (packF (rows.map (·.1)) lo).getD i 0 = (packF (rows.map (·.1)) lo)[i]'hi' := by simp [hi']
      rw [← e, packF_get _ _ _ hi]
      have := dep_le (rows.map (·.1)) lo (2 * (rows.map (·.1)).length - 2) i
      have := h.lo1.2
      omega
    · rw [List.eq_of_mem_replicate hl]; decide
  · have hi : i < ns.length := (List.getElem?_eq_some_iff.mp e1).1
    have ec : ns.getD i 0 = c := by simp [e1]
    have hmem : (c, (i : Int)) ∈ usedF 0 ns := by
      have : ∀ (cs : List Int) (k j : Nat), j < cs.length → 0 < cs.getD j 0 → (cs.getD j 0, ((k + j : Nat) : Int)) ∈ usedF k cs := by
        intro cs
        induction cs with
        | nil => intro k j h; simp at h
        | cons x cs ih =>
          intro k j h hp
          rw [usedF]
          cases j with
          | zero =>
            have hx : 0 < x := by simpa using hp
            rw [if_pos hx]
            simp
          | succ j =>
            have := ih (k + 1) j (by simpa using h) (by simpa using hp)
            have e : ((x :: cs).getD (j + 1) 0, ((k + (j + 1) : Nat) : Int)) = (cs.getD j 0, ((k + 1 + j : Nat) : Int)) := by
              rw [show k + (j + 1) = k + 1 + j by omega]; simp
            rw [e]
            split
            · exact List.mem_cons_of_mem _ this
            · exact this
      have := this ns 0 i hi (by rw [ec]; exact hc)
      rw [ec, Nat.zero_add] at this
      exact this
    obtain ⟨j, hj, ej⟩ := List.getElem_of_mem (hr.1.mem_iff.mpr hmem)
    have := out_get h hr j hj
    have e3 : rows.getD j (0, 0) = (c, (i : Int)) := by simp [hj, ej]
    rw [e3] at this
    dsimp only at this
    rw [Int.toNat_natCast] at this
    have e4 : (lenF ns lo rows).getD i 0 = l := by simp [e2]
    rw [e4] at this
    have := d4 j hj
    omega
end
end

section
section
variable {ns : List Int} {lo : Nat} {rows : List (Int × Int)}
theorem ws_get (rows : List (Int × Int)) (i : Nat) : (rows.map (·.1)).getD i 0 = (rows.getD i (0, 0)).1 := by
  by_cases h : i < rows.length <;> simp [h]
theorem pd_facts (h : CountsFit ns lo) (hr : RowsOf ns rows) : (∀ p ∈ pdF ns lo rows, 1 ≤ p.1 ∧ 1 ≤ p.2 ∧ p.2 ≤ lo) ∧ kSum (lo + 1) (pdF ns lo rows) ≤ 2 ^ (lo + 1) ∧
    ((tSum (pdF ns lo rows) : Nat) : Int) = SF (rows.map (·.1)) lo (2 * rows.length - 2) := by
  have hf := row_facts h hr
  obtain ⟨d1, d2, d3, d4⟩ := dep_facts h hr
  refine ⟨fun p hp => ?_, ?_, ?_⟩
  · obtain ⟨q, hq, rfl⟩ := List.mem_map.mp hp
    obtain ⟨i, hi, rfl⟩ := List.getElem_of_mem hq
    have e : rows.getD i (0, 0) = rows[i] := by simp [hi]
    have := out_get h hr i hi
    rw [e] at this
    have q1 := (hf.mem _ hq).1
    have q2 := d1 i
    have q3 := d4 i hi
    dsimp only
    rw [this, Int.toNat_natCast]
    omega
  · have e := sumN_map (0, 0) (fun p : Int × Int => 2 ^ (lo + 1 - ((lenF ns lo rows).getD p.2.toNat 0).toNat)) rows
    have e2 : kSum (lo + 1) (pdF ns lo rows) = (rows.map fun p : Int × Int => 2 ^ (lo + 1 - ((lenF ns lo rows).getD p.2.toNat 0).toNat)).sum := by
      unfold kSum pdF; rw [List.map_map]; rfl
    have e3 : sumN rows.length (fun i => ((2 ^ (lo + 1 - ((lenF ns lo rows).getD (rows.getD i (0, 0)).2.toNat 0).toNat) : Nat) : Int)) = sumN rows.length (fun i => ((2 ^ (lo + 1 - depR lo rows i) : Nat) : Int)) := sumN_congr _ fun i hi => by
      rw [out_get h hr i hi, Int.toNat_natCast]
    rw [e3] at e
    rw [e2]
    rw [e] at d2
    exact_mod_cast d2
  · have e := sumN_map (0, 0) (fun p : Int × Int => p.1.toNat * ((lenF ns lo rows).getD p.2.toNat 0).toNat) rows
    have e2 : tSum (pdF ns lo rows) = (rows.map fun p : Int × Int => p.1.toNat * ((lenF ns lo rows).getD p.2.toNat 0).toNat).sum := by
      unfold tSum pdF; rw [List.map_map]; rfl
    rw [e2, ← e, ← d3]
    refine sumN_congr _ fun i hi => ?_
    have q : 1 ≤ (rows.getD i (0, 0)).1 := (hf.mem _ (by simp [hi])).1
    rw [out_get h hr i hi, Int.toNat_natCast, ws_get]
    push_cast
    rw [Int.toNat_of_nonneg (by omega)]

theorem rows_best (h : CountsFit ns lo) (hr : RowsOf ns rows) (G : Int × Int → Nat) (hG : ∀ p ∈ rows, G p ≤ lo) (hk : (rows.map fun p => 2 ^ (lo - G p)).sum ≤ 2 ^ lo) :
    tSum (pdF ns lo rows) ≤ (rows.map fun p => p.1.toNat * G p).sum := by
  have hf := row_facts h hr
  obtain ⟨_, _, p3⟩ := pd_facts h hr
  have h2 := h.u2
  have hl := hf.len
  have key := pack_best (rows.map (·.1)) (fun i => G (rows.getD i (0, 0))) lo hf.sorted (fun z hz => by
    obtain ⟨p, hp, rfl⟩ := List.mem_map.mp hz
    have := (hf.mem p hp).1; omega) (by rw [List.length_map]; omega) (fun i hi => by
    rw [List.length_map] at hi
    exact hG _ (by simp [hi])) (by
    rw [List.length_map, sumN_map (0, 0) (fun p : Int × Int => 2 ^ (lo - G p)) rows]
    exact_mod_cast hk)
  rw [List.length_map] at key
  have e := sumN_map (0, 0) (fun p : Int × Int => p.1.toNat * G p) rows
  have e2 : sumN rows.length (fun i => (rows.map (·.1)).getD i 0 * ((G (rows.getD i (0, 0)) : Nat) : Int)) = sumN rows.length (fun i => ((((rows.getD i (0, 0)).1.toNat * G (rows.getD i (0, 0)) : Nat)) : Int)) := sumN_congr _ fun i hi => by
    have q : 1 ≤ (rows.getD i (0, 0)).1 := (hf.mem _ (by simp [hi])).1
    rw [ws_get]
    push_cast
    rw [Int.toNat_of_nonneg (by omega)]
  rw [← p3, e2, e] at key
  exact_mod_cast key

theorem cPow_map (f g : Int × Int → Nat) : ∀ l : List (Int × Int), cPow (l.map fun p => (p.1.toNat, f p)) = cPow (l.map fun p => (p.1.toNat, g p))
  | [] => rfl
  | p :: l => by simp only [List.map_cons, cPow, cPow_map f g l]
theorem cSum_map (f : Int × Int → Nat) (l : List (Int × Int)) : cSum (l.map fun p => (p.1.toNat, f p)) = (l.map fun p => p.1.toNat).sum := by
  unfold cSum; rw [List.map_map]; rfl

/- what a code for the rows gives -/
theorem rows_lt (h : CountsFit ns lo) (hr : RowsOf ns rows) (g : Nat → Nat) (A B : Nat) (hg : ∀ c, g c ≤ lo) (hk : ((rows.map fun p => p.1.toNat).map fun c => 2 ^ (lo - g c)).sum ≤ 2 ^ lo)
    (hlt : ∀ c ∈ rows.map fun p => p.1.toNat, c * A * 2 ^ g c < B) : 2 ^ tSum (pdF ns lo rows) * cPow (pdF ns lo rows) * A ^ cSum (pdF ns lo rows) < B ^ cSum (pdF ns lo rows) := by
  have hf := row_facts h hr
  have hT := rows_best h hr (fun p => g p.1.toNat) (fun p _ => hg _) (by rw [List.map_map] at hk; exact hk)
  have hP : cPow (rows.map fun p => (p.1.toNat, g p.1.toNat)) = cPow (pdF ns lo rows) := cPow_map (fun p => g p.1.toNat) (fun p => ((lenF ns lo rows).getD p.2.toNat 0).toNat) rows
  have hS : cSum (rows.map fun p => (p.1.toNat, g p.1.toNat)) = cSum (pdF ns lo rows) := (cSum_map (fun p => g p.1.toNat) rows).trans (cSum_map (fun p => ((lenF ns lo rows).getD p.2.toNat 0).toNat) rows).symm
  have hTt : tSum (rows.map fun p => (p.1.toNat, g p.1.toNat)) = (rows.map fun p => p.1.toNat * g p.1.toNat).sum := by
    unfold tSum; rw [List.map_map]; rfl
  have hne : rows.map (fun p => (p.1.toNat, g p.1.toNat)) ≠ [] := by
    have h2 := h.u2
    have hl := hf.len
    intro e
    have := congrArg List.length e
    rw [List.length_map, List.length_nil] at this
    omega
  have key := (prod_lt A B (rows.map fun p => (p.1.toNat, g p.1.toNat)) (fun p hp => by
    obtain ⟨q, hq, rfl⟩ := List.mem_map.mp hp
    have := (hf.mem q hq).1
    dsimp only; omega) (fun p hp => by
    obtain ⟨q, hq, rfl⟩ := List.mem_map.mp hp
    exact hlt _ (List.mem_map.mpr ⟨q, hq, rfl⟩))).2 hne
  rw [hP, hS, hTt] at key
  refine Nat.lt_of_le_of_lt ?_ key
  have : 2 ^ tSum (pdF ns lo rows) ≤ 2 ^ (rows.map fun p => p.1.toNat * g p.1.toNat).sum := Nat.pow_le_pow_right (by decide) hT
  have q1 := Nat.mul_le_mul_right (cPow (pdF ns lo rows) * A ^ cSum (pdF ns lo rows)) this
  have e1 : 2 ^ tSum (pdF ns lo rows) * cPow (pdF ns lo rows) * A ^ cSum (pdF ns lo rows) = 2 ^ tSum (pdF ns lo rows) * (cPow (pdF ns lo rows) * A ^ cSum (pdF ns lo rows)) := Nat.mul_assoc _ _ _
  have e2 : cPow (pdF ns lo rows) * A ^ cSum (pdF ns lo rows) * 2 ^ (rows.map fun p => p.1.toNat * g p.1.toNat).sum = 2 ^ (rows.map fun p => p.1.toNat * g p.1.toNat).sum * (cPow (pdF ns lo rows) * A ^ cSum (pdF ns lo rows)) := Nat.mul_comm _ _
  rw [e1, e2]; exact q1

theorem even_ex (n : Nat) (h : n < 11) (h2 : 2 ≤ n) : ∃ e : Nat, evenF (n : Int) = (e : Int) ∧ n ≤ 2 ^ e := by
  have : ∀ n, n < 11 → 2 ≤ n → evenF ((n : Nat) : Int) = (((evenF ((n : Nat) : Int)).toNat : Nat) : Int) ∧ n ≤ 2 ^ (evenF ((n : Nat) : Int)).toNat := by decide +kernel
  exact ⟨_, this n h h2⟩
theorem told_pos (h : CountsFit ns lo) (hr : RowsOf ns rows) : toldF ns lo (lenF ns lo rows) = bitsOf ns (lenF ns lo rows) ∧ 0 < bitsOf ns (lenF ns lo rows) := by
  have hf := row_facts h hr
  have hfit := told_fit h hr
  obtain ⟨p1, p2, p3⟩ := pd_facts h hr
  obtain ⟨a1, a2, a3, a4⟩ := perm_all (pd_perm (lo := lo) hr) (lo + 1)
  have hc0 : ∀ c ∈ ns, 0 ≤ c := fun c hc => (h.le c hc).1
  have hl0 : ∀ l ∈ lenF ns lo rows, 0 ≤ l := fun l hl => (hfit.le l hl).1
  have eT := up_bits ns _ hl0
  have eP := up_pow ns _ hfit.len.symm
  have eN := up_sum ns _ hfit.len.symm hc0
  rw [← a1] at eT
  rw [← a3] at eP
  rw [← a2] at eN
  have hpm : ∀ p ∈ upF ns (lenF ns lo rows), p ∈ pdF ns lo rows := fun p hp => (pd_perm hr).mem_iff.mpr hp
  have h2 := h.u2
  have hl := hf.len
  have hnepd : pdF ns lo rows ≠ [] := by
    intro e
    have := congrArg List.length e
    unfold pdF at this
    rw [List.length_map, List.length_nil] at this
    omega
  have hne : upF ns (lenF ns lo rows) ≠ [] := fun e => hnepd (by have := pd_perm (lo := lo) hr; rw [e] at this; exact this.eq_nil)
  have hnb := nb_true (lo + 1) hfit.len.symm hc0 hl0 (fun p hp => by have := p1 p (hpm p hp); omega) hne (by rw [← a4]; exact p2)
  have hN1 : 1 ≤ cSum (pdF ns lo rows) := cSum_pos (fun p hp => (p1 p hp).1) hnepd
  obtain ⟨N, hNe⟩ : ∃ N, cSum (pdF ns lo rows) = N := ⟨_, rfl⟩
  obtain ⟨T, hTe⟩ : ∃ T, tSum (pdF ns lo rows) = T := ⟨_, rfl⟩
  obtain ⟨P, hPe⟩ : ∃ P, cPow (pdF ns lo rows) = P := ⟨_, rfl⟩
  have hcs : (rows.map fun p => p.1.toNat).sum = N := by rw [← hNe]; exact (cSum_map _ rows).symm
  have hT1 : 1 ≤ T := by
    rw [← hTe]
    cases hpd : pdF ns lo rows with
    | nil => exact absurd hpd hnepd
    | cons p r =>
      have := p1 p (by rw [hpd]; simp)
      have q : 1 * 1 ≤ p.1 * p.2 := Nat.mul_le_mul this.1 this.2.1
      simp [tSum]; omega
  have hcn : (rows.map fun p => p.1.toNat).length = (usedF 0 ns).length := by rw [List.length_map]; exact hl
  have hle : ∀ c ∈ rows.map fun p => p.1.toNat, 1 ≤ c ∧ c ≤ N := fun c hc => by
    constructor
    · obtain ⟨p, hp, rfl⟩ := List.mem_map.mp hc
      have := (hf.mem p hp).1; omega
    · rw [← hcs]
      have : ∀ l : List Nat, ∀ c ∈ l, c ≤ l.sum := by
        intro l
        induction l with
        | nil => simp
        | cons x l ih =>
          intro c hc
          rw [List.sum_cons]
          rcases List.mem_cons.mp hc with rfl | hc
          · omega
          · have := ih c hc; omega
      exact this _ c hc
  rw [hNe] at eN hN1
  rw [hTe] at eT
  rw [hPe] at eP
  refine ⟨?_, by rw [eT]; omega⟩
  have ep : 2 ^ (bitsOf ns (lenF ns lo rows)).toNat * pwrF ns = ((2 ^ T * P : Nat) : Int) := by
    rw [eT, eP, Int.toNat_natCast]; push_cast; rfl
  unfold toldF
  dsimp only
  rw [hnb, if_neg (by decide), ep, eN, Int.toNat_natCast]
  have n1 : ¬ (0 < (lo : Int) - evenF ((usedF 0 ns).length : Nat) ∧ ((2 ^ T * P : Nat) : Int) * (2 ^ ((lo : Int) - evenF ((usedF 0 ns).length : Nat)).toNat - 1) ^ N ≥ 2 ^ (((lo : Int) - evenF ((usedF 0 ns).length : Nat)) * (N : Int) + N).toNat * (N : Int) ^ N) := by
    rintro ⟨hk, hge⟩
    have h10 := h.u10
    obtain ⟨e, he, hne2⟩ : ∃ e : Nat, evenF ((usedF 0 ns).length : Nat) = (e : Int) ∧ (usedF 0 ns).length ≤ 2 ^ e := by
      exact even_ex _ (by omega) h2
    rw [he] at hk hge
    obtain ⟨k, hke⟩ : ∃ k : Nat, (lo : Int) - e = (k : Int) := ⟨((lo : Int) - e).toNat, by omega⟩
    rw [hke, Int.toNat_natCast] at hge
    have hlo : lo = k + e := by omega
    obtain ⟨g, g1, g2, g3⟩ := over_code k e (rows.map fun p => p.1.toNat) (by omega) (by rw [hcn]; exact hne2) (fun c hc => by rw [hcs]; exact (hle c hc).2)
    rw [← hlo] at g2
    have key := rows_lt h hr g (2 ^ k - 1) (2 ^ (k + 1) * N) (fun c => by rw [hlo]; exact g1 c) g2 (fun c hc => by rw [hcs] at g3; exact g3 c hc)
    rw [hNe, hTe, hPe] at key
    have e1 : ((2 : Int) ^ k - 1) = ((2 ^ k - 1 : Nat) : Int) := by
      have := Nat.two_pow_pos k
      rw [Int.natCast_sub (by omega)]; push_cast; rfl
    have e2 : ((k : Int) * (N : Int) + N).toNat = (k + 1) * N := by
      rw [show (k : Int) * (N : Int) + N = (((k + 1) * N : Nat) : Int) by push_cast; grind]; exact Int.toNat_natCast _
    have e3 : (2 ^ (k + 1) * N) ^ N = 2 ^ ((k + 1) * N) * N ^ N := by rw [Nat.mul_pow, ← Nat.pow_mul]
    rw [e3] at key
    rw [e1, e2] at hge
    have : ((2 ^ ((k + 1) * N) * N ^ N : Nat) : Int) ≤ ((2 ^ T * P * (2 ^ k - 1) ^ N : Nat) : Int) := by
      push_cast at hge ⊢
      exact hge
    exact absurd key (Nat.not_lt.mpr (Int.ofNat_le.mp this))
  have n2 : ¬ ((lo : Int) ≥ ((usedF 0 ns).length : Nat) - 1 ∧ ((2 ^ T * P : Nat) : Int) ≥ 2 ^ N * (N : Int) ^ N) := by
    rintro ⟨hk, hge⟩
    have hs : (rows.map fun p => p.1.toNat).Pairwise (fun a b => a ≤ b) := by
      have := hf.sorted
      unfold SortedI at this
      rw [List.pairwise_map] at this ⊢
      exact this.imp fun hab => Int.toNat_le_toNat hab
    obtain ⟨g, g1, g2, g3⟩ := shannon_code (rows.map fun p => p.1.toNat) hs (fun c hc => (hle c hc).1) (by omega) lo (by omega)
    have key := rows_lt h hr g 1 (2 * N) g1 g2 (fun c hc => by rw [Nat.mul_one]; rw [hcs] at g3; exact g3 c hc)
    rw [hNe, hTe, hPe, Nat.one_pow, Nat.mul_one, Nat.mul_pow] at key
    have : ((2 ^ N * N ^ N : Nat) : Int) ≤ ((2 ^ T * P : Nat) : Int) := by
      push_cast at hge ⊢
      exact hge
    exact absurd key (Nat.not_lt.mpr (Int.ofNat_le.mp this))
  rw [if_neg n1, if_neg n2]
end
end

section
theorem used_all : ∀ (ns : List Int), (∀ c ∈ ns, 1 ≤ c) → (usedF 0 ns).length = ns.length := fun ns h => by
  rw [used_len, List.filter_eq_self.mpr fun c hc => ?_]
  have := h c hc
  simp; omega
theorem few_fit {few : List Int} (h : 2 ≤ few.length ∧ few.length ≤ 3) (h5 : ∀ z ∈ few, 1 ≤ z ∧ z ≤ 5) (lo : Nat) (hlo : 2 ≤ lo) (hlo2 : lo ≤ 16) : CountsFit few lo := by
  have hu := used_all few fun c hc => (h5 c hc).1
  have h4 : 2 ^ 2 ≤ 2 ^ lo := Nat.pow_le_pow_right (by decide) hlo
  exact ⟨by omega, fun c hc => by have := h5 c hc; omega, by omega, by omega, ⟨by omega, by omega⟩, by omega⟩
theorem prods_fit {few : List Int} (h : 2 ≤ few.length ∧ few.length ≤ 3) (h5 : ∀ z ∈ few, 1 ≤ z ∧ z ≤ 5) : CountsFit (prods few) 8 ∧ (prods few).sum ≤ 400 ∧ ∀ z ∈ prods few, 1 ≤ z ∧ z ≤ 25 := by
  have hm : ∀ z ∈ prods few, 1 ≤ z ∧ z ≤ 25 := fun z hz => by
    obtain ⟨a, ha, hz⟩ := List.mem_flatMap.mp hz
    obtain ⟨b, hb, rfl⟩ := List.mem_map.mp hz
    have q1 := h5 a ha
    have q2 := h5 b hb
    constructor
    · have : 1 * 1 ≤ a * b := Int.mul_le_mul q1.1 q2.1 (by decide) (by omega)
      omega
    · have : a * b ≤ 5 * 5 := Int.mul_le_mul q1.2 q2.2 (by omega) (by decide)
      omega
  have hl : (prods few).length = few.length * few.length := by
    unfold prods
    have : ∀ (l k : List Int), (l.flatMap fun a => k.map (a * ·)).length = l.length * k.length := by
      intro l k
      induction l with
      | nil => simp
      | cons x l ih => simp [List.flatMap_cons, Nat.add_mul] at ih ⊢; omega
    exact this few few
  have hb : 4 ≤ few.length * few.length ∧ few.length * few.length ≤ 9 := by
    rcases (by omega : few.length = 2 ∨ few.length = 3) with e | e <;> rw [e] <;> decide
  have hu := used_all (prods few) fun c hc => (hm c hc).1
  have hs := sum_le_len (prods few) 25 fun x hx => ⟨by have := hm x hx; omega, (hm x hx).2⟩
  exact ⟨⟨by omega, fun c hc => by have := hm c hc; omega, by omega, by omega, ⟨by decide, by decide⟩, by omega⟩, by omega, hm⟩

theorem perm_map_sum (f : Int × Int → Nat) {l l' : List (Int × Int)} (h : l.Perm l') : (l.map f).sum = (l'.map f).sum := perm_sum (h.map f)
theorem pairs_main {few : List Int} (hcf2 : CountsFit few 2) (hcf8 : CountsFit (prods few) 8) {r1 r2 : List (Int × Int)} (hr1 : RowsOf few r1) (hr2 : RowsOf (prods few) r2) (o : Nat → Nat)
    (ho : ∀ i, o i ≤ 4) (V : Nat) (hk : ((usedF 0 (prods few)).map fun p => 2 ^ (8 - (o (p.2.toNat / few.length) + o (p.2.toNat % few.length)))).sum ≤ 2 ^ 8)
    (hV : ((usedF 0 (prods few)).map fun p => p.1.toNat * (o (p.2.toNat / few.length) + o (p.2.toNat % few.length))).sum ≤ V) : bitsOf (prods few) (lenF (prods few) 8 r2) ≤ (V : Nat) := by
  have hfit := told_fit hcf8 hr2
  have key := rows_best hcf8 hr2 (fun p => o (p.2.toNat / few.length) + o (p.2.toNat % few.length)) (fun p _ => by have := ho (p.2.toNat / few.length); have := ho (p.2.toNat % few.length); omega)
    (by rw [perm_map_sum _ hr2.1]; exact hk)
  rw [perm_map_sum _ hr2.1] at key
  rw [up_bits _ _ fun l hl => (hfit.le l hl).1, ← (perm_all (pd_perm (lo := 8) hr2) 8).1]
  exact_mod_cast Nat.le_trans key hV

/- what is known of the lengths told for few -/
theorem few_out {few : List Int} (hcf2 : CountsFit few 2) {r1 : List (Int × Int)} (hr1 : RowsOf few r1) : (lenF few 2 r1).length = few.length ∧ bitsOf few (lenF few 2 r1) = (tSum (upF few (lenF few 2 r1)) : Nat) ∧
    (∀ p ∈ upF few (lenF few 2 r1), 1 ≤ p.2 ∧ p.2 ≤ 2) ∧ kSum 3 (upF few (lenF few 2 r1)) ≤ 8 := by
  have hfit := told_fit hcf2 hr1
  obtain ⟨p1, p2, _⟩ := pd_facts hcf2 hr1
  refine ⟨hfit.len, up_bits _ _ fun l hl => (hfit.le l hl).1, fun p hp => (p1 p ((pd_perm hr1).mem_iff.mpr hp)).2, ?_⟩
  rw [← (perm_all (pd_perm (lo := 2) hr1) 3).2.2.2]
  exact p2

theorem used4 {u1 u2 u3 u4 : Nat} (r1 : 0 < u1) (r2 : 0 < u2) (r3 : 0 < u3) (r4 : 0 < u4) : usedF 0 [((u1 : Nat) : Int), ((u2 : Nat) : Int), ((u3 : Nat) : Int), ((u4 : Nat) : Int)] = [(((u1 : Nat) : Int), 0), (((u2 : Nat) : Int), 1), (((u3 : Nat) : Int), 2), (((u4 : Nat) : Int), 3)] := by
  simp [usedF, r1, r2, r3, r4]
theorem used9 {u1 u2 u3 u4 u5 u6 u7 u8 u9 : Nat} (r1 : 0 < u1) (r2 : 0 < u2) (r3 : 0 < u3) (r4 : 0 < u4) (r5 : 0 < u5) (r6 : 0 < u6) (r7 : 0 < u7) (r8 : 0 < u8) (r9 : 0 < u9) : usedF 0 [((u1 : Nat) : Int), ((u2 : Nat) : Int), ((u3 : Nat) : Int), ((u4 : Nat) : Int), ((u5 : Nat) : Int), ((u6 : Nat) : Int), ((u7 : Nat) : Int), ((u8 : Nat) : Int), ((u9 : Nat) : Int)] = [(((u1 : Nat) : Int), 0), (((u2 : Nat) : Int), 1), (((u3 : Nat) : Int), 2), (((u4 : Nat) : Int), 3), (((u5 : Nat) : Int), 4), (((u6 : Nat) : Int), 5), (((u7 : Nat) : Int), 6), (((u8 : Nat) : Int), 7), (((u9 : Nat) : Int), 8)] := by
  simp [usedF, r1, r2, r3, r4, r5, r6, r7, r8, r9]
theorem k2 {X Y : Nat} (hX : X = 1 ∨ X = 2) (hY : Y = 1 ∨ Y = 2) : 2 ^ (8 - (X + X)) + (2 ^ (8 - (X + Y)) + (2 ^ (8 - (Y + X)) + (2 ^ (8 - (Y + Y)) + 0))) ≤ 2 ^ 8 := by
  rcases hX with rfl | rfl <;> rcases hY with rfl | rfl <;> decide
theorem k3 {X Y Z : Nat} (hX : X = 1 ∨ X = 2) (hY : Y = 1 ∨ Y = 2) (hZ : Z = 1 ∨ Z = 2) (o4 : 2 ^ (3 - X) + (2 ^ (3 - Y) + (2 ^ (3 - Z) + 0)) ≤ 8) : 2 ^ (8 - (X + X)) + (2 ^ (8 - (X + Y)) + (2 ^ (8 - (X + Z)) + (2 ^ (8 - (Y + X)) + (2 ^ (8 - (Y + Y)) + (2 ^ (8 - (Y + Z)) + (2 ^ (8 - (Z + X)) + (2 ^ (8 - (Z + Y)) + (2 ^ (8 - (Z + Z)) + 0)))))))) ≤ 2 ^ 8 := by
  revert o4
  rcases hX with rfl | rfl <;> rcases hY with rfl | rfl <;> rcases hZ with rfl | rfl <;> decide
theorem len2 {l : List Int} (h : l.length = 2) : ∃ a b, l = [a, b] := by
  match l, h with
  | [a, b], _ => exact ⟨a, b, rfl⟩
theorem len3 {l : List Int} (h : l.length = 3) : ∃ a b c, l = [a, b, c] := by
  match l, h with
  | [a, b, c], _ => exact ⟨a, b, c, rfl⟩
theorem pairs_le {few : List Int} (h2 : 2 ≤ few.length) (h3 : few.length ≤ 3) (hf : ∀ c ∈ few, 1 ≤ c ∧ c ≤ 5) {r1 r2 : List (Int × Int)} (hr1 : RowsOf few r1) (hr2 : RowsOf (prods few) r2) :
   bitsOf (prods few) (lenF (prods few) 8 r2) ≤ 2 * few.sum * bitsOf few (lenF few 2 r1) := by
  have hcf2 : CountsFit few 2 := few_fit ⟨h2, h3⟩ hf 2 (by decide) (by omega)
  obtain ⟨hcf8, _, _⟩ := prods_fit ⟨h2, h3⟩ hf
  obtain ⟨o1, o2, o3, o4⟩ := few_out hcf2 hr1
  rw [o2]
  generalize lenF few 2 r1 = out at o1 o2 o3 o4
  clear o2
  rcases (by omega : few.length = 2 ∨ few.length = 3) with e | e
  · rw [e] at o1
    obtain ⟨x, y, rfl⟩ := len2 o1
    obtain ⟨a, b, rfl⟩ := len2 e
    clear o1 e h2 h3
    · have ha := hf a (by simp)
      have hb := hf b (by simp)
      obtain ⟨a, rfl⟩ := Int.eq_ofNat_of_zero_le (show 0 ≤ a by omega)
      obtain ⟨b, rfl⟩ := Int.eq_ofNat_of_zero_le (show 0 ≤ b by omega)
      have hu : upF [(a : Int), (b : Int)] [x, y] = [(a, x.toNat), (b, y.toNat)] := by
        simp [upF, show 0 < a by omega, show 0 < b by omega]
      rw [hu] at o3 o4 ⊢
      have hx := o3 (a, x.toNat) (by simp)
      have hy := o3 (b, y.toNat) (by simp)
      dsimp only at hx hy
      obtain ⟨X, hX⟩ : ∃ X, x.toNat = X := ⟨_, rfl⟩
      obtain ⟨Y, hY⟩ : ∃ Y, y.toNat = Y := ⟨_, rfl⟩
      rw [hX, hY] at o4 ⊢
      rw [hX] at hx
      rw [hY] at hy
      have q1 : ((a : Int) * a) = ((a * a : Nat) : Int) := by push_cast; rfl
      have q2 : ((a : Int) * b) = ((a * b : Nat) : Int) := by push_cast; rfl
      have q3 : ((b : Int) * a) = ((b * a : Nat) : Int) := by push_cast; rfl
      have q4 : ((b : Int) * b) = ((b * b : Nat) : Int) := by push_cast; rfl
      have ap : 0 < a := by omega
      have bp : 0 < b := by omega
      have hul : usedF 0 (prods [(a : Int), (b : Int)]) = [(((a * a : Nat) : Int), 0), (((a * b : Nat) : Int), 1), (((b * a : Nat) : Int), 2), (((b * b : Nat) : Int), 3)] := by
        have e : prods [(a : Int), (b : Int)] = [((a * a : Nat) : Int), ((a * b : Nat) : Int), ((b * a : Nat) : Int), ((b * b : Nat) : Int)] := by
          simp [prods]
        rw [e]
        exact used4 (Nat.mul_pos ap ap) (Nat.mul_pos ap bp) (Nat.mul_pos bp ap) (Nat.mul_pos bp bp)
      refine Int.le_trans (pairs_main hcf2 hcf8 hr1 hr2 (fun i => [X, Y].getD i 0) (fun i => ?_) (2 * (a + b) * (a * X + b * Y)) ?_ ?_) ?_
      · rcases i with _ | _ | i <;> simp <;> omega
      · rw [hul]
        simp only [List.map_cons, List.map_nil, List.sum_cons, List.sum_nil, List.length_cons, List.length_nil]
        show 2 ^ (8 - (X + X)) + (2 ^ (8 - (X + Y)) + (2 ^ (8 - (Y + X)) + (2 ^ (8 - (Y + Y)) + 0))) ≤ 2 ^ 8
        exact k2 (by omega) (by omega)
      · rw [hul]
        simp only [List.map_cons, List.map_nil, List.sum_cons, List.sum_nil, Int.toNat_natCast, List.length_cons, List.length_nil]
        refine Nat.le_of_eq ?_
        show a * a * (X + X) + (a * b * (X + Y) + (b * a * (Y + X) + (b * b * (Y + Y) + 0))) = _
        grind
      · simp [tSum]
  · rw [e] at o1
    obtain ⟨x, y, z, rfl⟩ := len3 o1
    obtain ⟨a, b, c, rfl⟩ := len3 e
    clear o1 e h2 h3
    · have ha := hf a (by simp)
      have hb := hf b (by simp)
      have hc := hf c (by simp)
      obtain ⟨a, rfl⟩ := Int.eq_ofNat_of_zero_le (show 0 ≤ a by omega)
      obtain ⟨b, rfl⟩ := Int.eq_ofNat_of_zero_le (show 0 ≤ b by omega)
      obtain ⟨c, rfl⟩ := Int.eq_ofNat_of_zero_le (show 0 ≤ c by omega)
      have hu : upF [(a : Int), (b : Int), (c : Int)] [x, y, z] = [(a, x.toNat), (b, y.toNat), (c, z.toNat)] := by
        simp [upF, show 0 < a by omega, show 0 < b by omega, show 0 < c by omega]
      rw [hu] at o3 o4 ⊢
      have hx := o3 (a, x.toNat) (by simp)
      have hy := o3 (b, y.toNat) (by simp)
      have hz := o3 (c, z.toNat) (by simp)
      dsimp only at hx hy hz
      obtain ⟨X, hX⟩ : ∃ X, x.toNat = X := ⟨_, rfl⟩
      obtain ⟨Y, hY⟩ : ∃ Y, y.toNat = Y := ⟨_, rfl⟩
      obtain ⟨Z, hZ⟩ : ∃ Z, z.toNat = Z := ⟨_, rfl⟩
      rw [hX, hY, hZ] at o4 ⊢
      rw [hX] at hx
      rw [hY] at hy
      rw [hZ] at hz
      have ap : 0 < a := by omega
      have bp : 0 < b := by omega
      have cp : 0 < c := by omega
      have hul : usedF 0 (prods [(a : Int), (b : Int), (c : Int)]) = [(((a * a : Nat) : Int), 0), (((a * b : Nat) : Int), 1), (((a * c : Nat) : Int), 2), (((b * a : Nat) : Int), 3), (((b * b : Nat) : Int), 4), (((b * c : Nat) : Int), 5), (((c * a : Nat) : Int), 6), (((c * b : Nat) : Int), 7), (((c * c : Nat) : Int), 8)] := by
        have e : prods [(a : Int), (b : Int), (c : Int)] = [((a * a : Nat) : Int), ((a * b : Nat) : Int), ((a * c : Nat) : Int), ((b * a : Nat) : Int), ((b * b : Nat) : Int), ((b * c : Nat) : Int), ((c * a : Nat) : Int), ((c * b : Nat) : Int), ((c * c : Nat) : Int)] := by
          simp [prods]
        rw [e]
        exact used9 (Nat.mul_pos ap ap) (Nat.mul_pos ap bp) (Nat.mul_pos ap cp) (Nat.mul_pos bp ap) (Nat.mul_pos bp bp) (Nat.mul_pos bp cp) (Nat.mul_pos cp ap) (Nat.mul_pos cp bp) (Nat.mul_pos cp cp)
      refine Int.le_trans (pairs_main hcf2 hcf8 hr1 hr2 (fun i => [X, Y, Z].getD i 0) (fun i => ?_) (2 * (a + b + c) * (a * X + b * Y + c * Z)) ?_ ?_) ?_
      · rcases i with _ | _ | _ | i <;> simp <;> omega
      · rw [hul]
        simp only [List.map_cons, List.map_nil, List.sum_cons, List.sum_nil, List.length_cons, List.length_nil]
        show 2 ^ (8 - (X + X)) + (2 ^ (8 - (X + Y)) + (2 ^ (8 - (X + Z)) + (2 ^ (8 - (Y + X)) + (2 ^ (8 - (Y + Y)) + (2 ^ (8 - (Y + Z)) + (2 ^ (8 - (Z + X)) + (2 ^ (8 - (Z + Y)) + (2 ^ (8 - (Z + Z)) + 0)))))))) ≤ 2 ^ 8
        exact k3 (by omega) (by omega) (by omega) o4
      · rw [hul]
        simp only [List.map_cons, List.map_nil, List.sum_cons, List.sum_nil, Int.toNat_natCast, List.length_cons, List.length_nil]
        refine Nat.le_of_eq ?_
        show a * a * (X + X) + (a * b * (X + Y) + (a * c * (X + Z) + (b * a * (Y + X) + (b * b * (Y + Y) + (b * c * (Y + Z) + (c * a * (Z + X) + (c * b * (Z + Y) + (c * c * (Z + Z) + 0)))))))) = _
        grind
      · simp [tSum]
        refine Int.le_of_eq ?_
        grind
end

section
open LCg
/- a comprehension with two for clauses over names -/
abbrev dbl (elt : Expr) (x y : Str) (px py : Pos) (iter1 iter2 : Expr) (scope : Scope) (pos : Pos) : Expr := .ListComp elt [⟨.Name x px, iter1, [], 0⟩, ⟨.Name y py, iter2, [], 0⟩] scope pos

theorem turn_d0 (elt : Expr) (x y : Str) (px py : Pos) (iter1 iter2 : Expr) (scope : Scope) (pos : Pos) (it acc : Value) (env : Env) :
    compTurn (dbl elt x y px py iter1 iter2 scope pos) 0 it acc env = (standAt iter1.pos >>= fun _ => pyNext it >>= fun r => match r with
      | none => pure (.done .next)
      | some v => letOwnedTupleGo (.Name x px) it v >>= fun _ => assign (.Name x px) env v >>= fun _ =>
        eval iter2 env >>= fun x' => standAt iter2.pos >>= fun _ => foldedSetIterable iter2 env x' >>= fun x'' => holding [x''] (pyIter x'') >>= fun it2 =>
          runOwn (.compStart (dbl elt x y px py iter1 iter2 scope pos) 1 it2 acc env) env >>= fun _ =>
          again (.compLoop (dbl elt x y px py iter1 iter2 scope pos) 0 it acc env)) := by rfl

theorem turn_d1 (elt : Expr) (x y : Str) (px py : Pos) (iter1 iter2 : Expr) (scope : Scope) (pos : Pos) (it acc : Value) (env : Env) :
    compTurn (dbl elt x y px py iter1 iter2 scope pos) 1 it acc env = (standAt iter2.pos >>= fun _ => pyNext it >>= fun r => match r with
      | none => pure (.done .next)
      | some v => letOwnedTupleGo (.Name y py) it v >>= fun _ => assign (.Name y py) env v >>= fun _ =>
        (eval elt env >>= fun x' => call (.builtin "list.append") [acc, x'] >>= fun _ => pure ()) >>= fun _ =>
          again (.compLoop (dbl elt x y px py iter1 iter2 scope pos) 1 it acc env)) := by rfl
section
variable {prog : Program} {w : World} {A : Around} {E : Value → Shared → Prop} {s : Shared} {h₀ : Heap} {L : Addr} {m : Str → Option Value} {env : Env} {R : Result → Shared → Prop}
variable {elt iter1 iter2 : Expr} {x y : Str} {px py : Pos} {scope : Scope} {pos : Pos}

theorem start_d1 {it acc : Value} {env : Env} (h0 : codeAny (model prog w) A (.compLoop (dbl elt x y px py iter1 iter2 scope pos) 1 it acc env) R s)
    (h : wpAny (model prog w) A (pyIter it) (fun it' s' => codeAny (model prog w) A (.compLoop (dbl elt x y px py iter1 iter2 scope pos) 1 it' acc env) R s')
      (notedBy (model prog w) A env fun x s' => R (.error x) s') s) :
    codeAny (model prog w) A (.compStart (dbl elt x y px py iter1 iter2 scope pos) 1 it acc env) R s := by
  refine codeAny_of_tree ?_
  show wpAny _ _ ((compStart (dbl elt x y px py iter1 iter2 scope pos) 1 it acc env).onRaise (fun x => do noteFrame x env; standAt theWindowsPlace)) _ _ s
  refine wpAny_notedAt ?_
  unfold compStart
  show wpAny _ _ (ask >>= _) _ _ s
  refine wpAny_bind (wpAny_askSetting (wpAny_ite ?_))
  split
  · first
      | exact wpAny_bind (wpAny_pure (wpAny_pure (And.intro rfl h0)))
      | exact wpAny_pure (And.intro rfl h0)
  · first
      | exact wpAny_bind (wpAny_rule (wpAny_bind (wpAny_standAt (wpAny_bind (wpAny_mono h (fun it' s' h' => wpAny_pure (And.intro rfl h')) fun _ _ x => x)))))
      | (refine wpAny_bind (wpAny_rule ?_); show wpAny _ _ (standAt iter2.pos >>= _) _ _ s; exact wpAny_bind (wpAny_standAt (wpAny_bind (wpAny_mono h (fun it' s' h' => wpAny_pure (And.intro rfl h')) fun _ _ x => x))))

theorem loop_d1 {it acc : Value} {env : Env} (I : Nat → Shared → Prop)
    (turn : ∀ n s, I n s → wpAny (model prog w) A (pyNext it) (fun r s₁ => match r with
      | none => R (.ok .next) s₁
      | some v => wpAny (model prog w) A (assign (.Name y py) env v) (fun _ s₂ =>
          wpAny (model prog w) A (eval elt env) (fun x s₄ =>
            wpAny (model prog w) A (call (.builtin "list.append") [acc, x]) (fun _ s₅ => ∃ m, m < n ∧ I m s₅) (notedBy (model prog w) A env fun e s' => R (.error e) s') s₄) (notedBy (model prog w) A env fun e s' => R (.error e) s') s₂)
          (notedBy (model prog w) A env fun e s' => R (.error e) s') s₁) (notedBy (model prog w) A env fun e s' => R (.error e) s') s)
    (n : Nat) (h : I n s) (ht : ∀ v, letOwnedTupleGo (.Name y py) it v = pure () := by intro _; rfl) :
    codeAny (model prog w) A (.compLoop (dbl elt x y px py iter1 iter2 scope pos) 1 it acc env) R s := by
  refine codeAny_loop rfl I (fun n s hI => ?_) n h
  show wpAny _ A ((compTurn (dbl elt x y px py iter1 iter2 scope pos) 1 it acc env).onRaise (fun x => do noteFrame x env; theTreesLotGoes x)) _ _ s
  refine wpAny_noted ?_
  rw [turn_d1]
  refine wpAny_bind (wpAny_standAt (wpAny_bind (wpAny_mono (turn n s hI) (fun r s₁ h₁ => ?_) fun _ _ h' => h')))
  cases r with
  | none => exact wpAny_pure h₁
  | some v =>
    refine wpAny_bind (wpAny_of_eq (ht v) ?_)
    refine wpAny_bind (wpAny_mono h₁ (fun _ s₂ h₂ => ?_) fun _ _ h' => h')
    exact wpAny_bind (wpAny_bind (wpAny_mono h₂ (fun x s₄ h₄ => wpAny_bind (wpAny_mono h₄ (fun _ s₅ h₅ => wpAny_pure (wpAny_pure ⟨rfl, h₅⟩)) fun _ _ h' => h')) fun _ _ h' => h'))

theorem loop_d0 {it acc : Value} {env : Env} (I : Nat → Shared → Prop)
    (turn : ∀ n s, I n s → wpAny (model prog w) A (pyNext it) (fun r s₁ => match r with
      | none => R (.ok .next) s₁
      | some v => wpAny (model prog w) A (assign (.Name x px) env v) (fun _ s₂ =>
          wpAny (model prog w) A (eval iter2 env) (fun x' s₃ =>
            wpAny (model prog w) A (pyIter x') (fun it2 s₄ =>
              codeAny (model prog w) A (.compStart (dbl elt x y px py iter1 iter2 scope pos) 1 it2 acc env) (fun r s₅ => match r with | .ok _ => ∃ m, m < n ∧ I m s₅ | .error e => cameBackBy (model prog w) A env (notedBy (model prog w) A env fun e s' => R (.error e) s') e s₅) s₄)
              (notedBy (model prog w) A env fun e s' => R (.error e) s') s₃) (notedBy (model prog w) A env fun e s' => R (.error e) s') s₂)
          (notedBy (model prog w) A env fun e s' => R (.error e) s') s₁) (notedBy (model prog w) A env fun e s' => R (.error e) s') s)
    (n : Nat) (h : I n s) (hs2 : ∀ v, foldedSetIterable iter2 env v = pure v) (ht : ∀ v, letOwnedTupleGo (.Name x px) it v = pure () := by intro _; rfl) :
    codeAny (model prog w) A (.compLoop (dbl elt x y px py iter1 iter2 scope pos) 0 it acc env) R s := by
  refine codeAny_loop rfl I (fun n s hI => ?_) n h
  show wpAny _ A ((compTurn (dbl elt x y px py iter1 iter2 scope pos) 0 it acc env).onRaise (fun x => do noteFrame x env; theTreesLotGoes x)) _ _ s
  refine wpAny_noted ?_
  rw [turn_d0]
  refine wpAny_bind (wpAny_standAt (wpAny_bind (wpAny_mono (turn n s hI) (fun r s₁ h₁ => ?_) fun _ _ h' => h')))
  cases r with
  | none => exact wpAny_pure h₁
  | some v =>
    refine wpAny_bind (wpAny_of_eq (ht v) ?_)
    refine wpAny_bind (wpAny_mono h₁ (fun _ s₂ h₂ => ?_) fun _ _ h' => h')
    refine wpAny_bind (wpAny_mono h₂ (fun x' s₃ h₃ => ?_) fun _ _ h' => h')
    refine wpAny_bind (wpAny_standAt (wpAny_bind (wpAny_of_eq (hs2 x') ?_)))
    refine wpAny_bind (wpAny_holding (wpAny_mono h₃ (fun it2 s₄ h₄ => ?_) fun _ _ h' => h'))
    refine wpAny_bind (wpAny_runOwn (codeAny_mono h₄ (fun r s₅ h₅ => ?_)))
    cases r with
    | ok f => exact wpAny_pure ⟨rfl, h₅⟩
    | error e => exact h₅

/- the source of a double comprehension: one list of the ledger, gone over twice -/
noncomputable def SrcD (prog : Program) (w : World) (A : Around) (h₀ : Heap) (L : Addr) (m : Str → Option Value) (env : Env) (elt iter2 : Expr) (x y : Str) (scope : Scope) (cl : List (Str × Addr)) (Q : Value → Shared → Prop) (xv : Value) (s₁ : Shared) : Prop :=
  ∃ (l : Addr) (vs : List Value) (k : Nat) (news : List (Addr × Obj)) (f : Nat → Nat → Int), xv = .ref l ∧ A.handled = none ∧ Fr h₀ L s₁.heap m ∧ News h₀ L s₁.heap news ∧ (l, listOf (List.toArray vs) k) ∈ news ∧ vs.length * vs.length ≤ sizeLine ∧
    (∀ C oC D ys I oI m₂ h tk (E' : Value → Shared → Prop), NsObj oC m₂ → Fr h₀ L h m → News h₀ L h ((C, oC) :: (D, lst ys) :: (I, oI) :: news) →
      wpAny (model prog w) A (eval iter2 (compEnvC scope cl C env)) (fun v s₂ => v = .ref l ∧ s₂ = { s₁ with heap := h, toks := tk }) E' { s₁ with heap := h, toks := tk }) ∧
    (∀ i j v u C oC D ys I oI I2 oI2 m₂ h tk (E' : Value → Shared → Prop), vs[i]? = some v → vs[j]? = some u → NsObj oC m₂ → m₂ x = some v → m₂ y = some u → Fr h₀ L h m → News h₀ L h ((C, oC) :: (D, lst ys) :: (I, oI) :: (I2, oI2) :: news) →
      wpAny (model prog w) A (eval elt (compEnvC scope cl C env)) (OneInt h₀ L m s₁ ((C, oC) :: (D, lst ys) :: (I, oI) :: (I2, oI2) :: news) (f i j)) E' { s₁ with heap := h, toks := tk }) ∧
    (∀ ys D h' tk, IntsAre ys ((List.range vs.length).flatMap fun i => (List.range vs.length).map (f i)) → Fr h₀ L h' m → News h₀ L h' ((D, lst ys) :: news) → Off D news → Q (.ref D) { s₁ with heap := h', toks := tk })

/- between two turns of the outer loop -/
noncomputable def OutI (h₀ : Heap) (L : Addr) (m : Str → Option Value) (s₁ : Shared) (l I D C : Addr) (n : Nat) (f : Nat → Nat → Int) (news : List (Addr × Obj)) (k : Nat) (s' : Shared) : Prop :=
  ∃ h' tk i ys m', s' = { s₁ with heap := h', toks := tk } ∧ i ≤ n ∧ k = n + 1 - i ∧ ys.length = i * n ∧ IntsAre ys ((List.range i).flatMap fun i => (List.range n).map (f i)) ∧
    h'.IsListIter I l i ∧ Fr h₀ L h' m ∧ h'.Ns C m' ∧ News h₀ L h' ((D, lst ys) :: news)
/- between two turns of the inner loop -/
noncomputable def InnI (h₀ : Heap) (L : Addr) (m : Str → Option Value) (s₁ : Shared) (l I I2 D C : Addr) (n i : Nat) (x : Str) (v : Value) (f : Nat → Nat → Int) (news : List (Addr × Obj)) (k : Nat) (s' : Shared) : Prop :=
  ∃ h' tk j zs m', s' = { s₁ with heap := h', toks := tk } ∧ j ≤ n ∧ k = n + 1 - j ∧ zs.length = i * n + j ∧ IntsAre zs (((List.range i).flatMap fun i => (List.range n).map (f i)) ++ (List.range j).map (f i)) ∧
    h'.IsListIter I l (i + 1) ∧ h'.IsListIter I2 l j ∧ Fr h₀ L h' m ∧ h'.Ns C m' ∧ m' x = some v ∧ News h₀ L h' ((D, lst zs) :: news)

theorem ListComp_D {cl : List (Str × Addr)} {Q : Value → Shared → Prop} (F₀ : Fr h₀ L s.heap m)
    (hclos : closureFor scope env = pure cl) (hcell : ∀ y ∈ scope.names, y.2 ≠ .cell) (hkind : scope.kind = .function)
    (hnames : ∀ y ∈ scope.names, y.2 = .local → scope.names.lookup y.1 = some .local) (hx : scope.names.lookup x = some .local) (hy : scope.names.lookup y = some .local) (hxy : ¬ x = y)
    (hs2 : ∀ C v, foldedSetIterable iter2 (compEnvC scope cl C env) v = pure v)
    (h : wpAny (model prog w) A (eval iter1 env) (SrcD prog w A h₀ L m env elt iter2 x y scope cl Q) E s)
    (hs : ∀ x, foldedSetIterable iter1 env x = pure x := by intro _; rfl) :
    wpAny (model prog w) A (eval (dbl elt x y px py iter1 iter2 scope pos) env) Q E s := by
  rw [eval_ListComp]
  refine wpAny_comprehension_free (use := none) rfl hs hclos hkind hnames (wpAny_mono h (fun xv s₁ h₁ => ?_) fun _ _ e => e)
  refine ex5 h₁ fun l vs k news f hJ => an9 hJ fun e1 hh F N hl hsz hit2 hturn hfin => ?_
  clear hJ h₁
  subst e1
  have hls : s₁.heap.IsList l vs.toArray := ⟨_, (N _ hl).1, rfl, _, rfl⟩
  have hlt : l < s₁.heap.objs.size := Heap.lt_size (N _ hl).1
  have hlL : l ≠ L := (N _ hl).2.1
  refine wpAny_pyIter_list hls ?_
  obtain ⟨I, hI⟩ : ∃ I : Nat, s₁.heap.objs.size = I := ⟨_, rfl⟩
  obtain ⟨H1, hH1⟩ : ∃ H1, s₁.heap.push { cls := .type "list_iterator", data := .fields #[.ref l, .int 0 0] } = H1 := ⟨_, rfl⟩
  have up1 : ∀ b o, s₁.heap.get? b = some o → H1.get? b = some o := fun b o e => hH1 ▸ Heap.get?_push_of_some _ e
  have hIit : H1.IsListIter I l 0 := by rw [← hH1, ← hI]; exact ⟨_, Heap.get?_push_size _ rfl, rfl, rfl⟩
  have hs1 : H1.objs.size = I + 1 := by rw [← hH1, Heap.size_push, hI]
  have F1 : Fr h₀ L H1 m := F.keeps up1
  have N1 : News h₀ L H1 news := N.grown up1
  have hI₀ : h₀.get? I = none := hI ▸ next_is_new F
  have hIL : L ≠ I := hI ▸ Nat.ne_of_lt F.ns.lt
  have hIn : ∀ p ∈ news, p.1 ≠ I := fun p hp => hI ▸ Nat.ne_of_lt (Heap.lt_size (N p hp).1)
  have hlI : l ≠ I := hIn _ hl
  rw [hI, hH1]
  refine wpAny_newObj_type (wpAny_newFunctionEnv hcell (by intro y hy; simp at hy) (fun h₁ hns₁ hsb₁ => ?_) hkind)
  dsimp only at hns₁ hsb₁ ⊢
  generalize hH2 : H1.push { cls := .type "list", dict := none, data := .seq ([] : List Value).toArray } = H2 at hns₁ hsb₁ ⊢
  obtain ⟨D, hD⟩ : ∃ D : Nat, H1.objs.size = D := ⟨_, rfl⟩
  obtain ⟨C, hC⟩ : ∃ C : Nat, H2.objs.size = C := ⟨_, rfl⟩
  rw [hD]
  rw [hC] at hns₁ hsb₁ ⊢
  have hDI : @Eq Nat D (I + 1) := by omega
  have hCD : @Eq Nat C (I + 2) := by rw [← hC, ← hH2, Heap.size_push]; omega
  have old : ∀ b o, H1.get? b = some o → h₁.get? b = some o := fun b o e => hsb₁.extBut b o (by have q : @LT.lt Nat _ b H1.objs.size := Heap.lt_size e; (show @Ne Nat _ _; omega)) (Heap.get?_push_of_some _ (hH2 ▸ Heap.get?_push_of_some _ e))
  have hacc : h₁.get? D = some (lst []) := hsb₁.extBut _ _ (by (show @Ne Nat _ _; omega)) (Heap.get?_push_of_some _ (by rw [← hH2, ← hD]; exact Heap.get?_push_size _ rfl))
  have fresh₀ : ∀ a : Nat, @LT.lt Nat _ I a → h₀.get? a = none := fun a ha => by
    cases e : h₀.get? a with
    | none => rfl
    | some o' => have q : @LT.lt Nat _ a s₁.heap.objs.size := Heap.lt_size (F.keep a o' e); omega
  have hD₀ := fresh₀ D (by omega)
  have hC₀ := fresh₀ C (by omega)
  have hLlt : @LT.lt Nat _ L I := hI ▸ F.ns.lt
  have hnlt : ∀ p ∈ news, @LT.lt Nat _ p.1 I := fun p hp => hI ▸ Heap.lt_size (N p hp).1
  have hCL : @Ne Nat C L := by omega
  have hDL : @Ne Nat D L := by omega
  have loop : ∀ s₃ : Shared, s₃ = { s₁ with heap := h₁, toks := s₁.toks + ([] : List (Str × Value)).length } →
      codeAny (model prog w) A (.compLoop (dbl elt x y px py iter1 iter2 scope pos) 0 (.ref I) (.ref D) (compEnvC scope cl C env)) (compPost (model prog w) A E none Q (.ref D) C) s₃ := by
    rintro s₃ rfl
    have W := Walks.list (prog := prog) (w := w) hh I l hlI vs.toArray
    refine loop_d0 (OutI h₀ L m s₁ l I D C vs.length f news) ?_ (vs.length + 1)
      (in5 h₁ _ 0 [] _ ⟨rfl, Nat.zero_le _, rfl, by simp, .nil, hIit.at fun o e => old _ o e, F1.keeps old, hns₁, nwc hacc hDL hD₀ (N1.grown old)⟩) (hs2 C)
    · intro k' s' hJ0
      refine ex5 hJ0 fun h' tk i ys m' hJ => an9 hJ fun e1 hi e2 hyl hIn' hst' F' hn' N' => ?_
      clear hJ hJ0
      subst e1
      subst e2
      have hl' : h'.IsList l vs.toArray := ⟨_, (N' _ (List.mem_cons_of_mem _ hl)).1, rfl, _, rfl⟩
      by_cases hlt' : i < vs.length
      · refine W.item i _ _ _ (by simpa using hlt') ⟨hst', hl'⟩ fun v h₂ tk₂ hPv hst₂ hk₂ => ?_
        have hv : vs[i]? = some v := by simpa using hPv
        refine wpAny_assign_Name (wpAny_storeName_local (lookup_relabel_local hx) (hn'.at' fun o e => hk₂ _ o (by simp; (show @Ne Nat _ _; omega)) e) (fun h₃ hn₃ hs₃ => ?_) (by simp [compEnvC, relabel, hkind]))
        have up : ∀ b o, b ≠ I → b ≠ C → h'.get? b = some o → h₃.get? b = some o := fun b o h1 h2 e => hs₃.extBut b o h2 (hk₂ b o (by simpa using h1) e)
        have F₃ : Fr h₀ L h₃ m := (fr_but F' hk₂ hIL hI₀).change hs₃ hCL hC₀
        have hst₃ : h₃.IsListIter I l (i + 1) := hst₂.1.at fun o e => hs₃.extBut _ _ (show @Ne Nat I C by omega) e
        refine Exists.elim hst₃ fun oI hI3 => ?_
        have heI := hI3.1
        refine ex_ns (ns_obj hn₃) fun oC heC hoC => ?_
        have zD := up D _ (by (show @Ne Nat _ _; omega)) (by (show @Ne Nat _ _; omega)) (N' _ (.head _)).1
        have N₃ : News h₀ L h₃ news := fun p hp => ⟨up _ _ (hIn p hp) (by have := hnlt p hp; (show @Ne Nat _ _; omega)) (N' p (.tail _ hp)).1, (N' p (.tail _ hp)).2⟩
        have N₃' : News h₀ L h₃ ((C, oC) :: (D, lst ys) :: (I, oI) :: news) := nwc heC hCL hC₀ (nwc zD hDL hD₀ (nwc heI (Ne.symm hIL) hI₀ N₃))
        refine wpAny_mono (hit2 C oC D ys I oI _ h₃ _ _ hoC F₃ N₃') (fun x' s₄ q => ?_) fun _ _ e => e
        obtain ⟨rfl, rfl⟩ := q
        have hl₃ : h₃.IsList l vs.toArray := ⟨_, (N₃ _ hl).1, rfl, _, rfl⟩
        refine wpAny_pyIter_list hl₃ ?_
        dsimp only
        obtain ⟨I2, hI2⟩ : ∃ I2 : Nat, h₃.objs.size = I2 := ⟨_, rfl⟩
        obtain ⟨H3, hH3⟩ : ∃ H3, h₃.push { cls := .type "list_iterator", data := .fields #[.ref l, .int 0 0] } = H3 := ⟨_, rfl⟩
        rw [hI2, hH3]
        have up3 : ∀ b o, h₃.get? b = some o → H3.get? b = some o := fun b o e => hH3 ▸ Heap.get?_push_of_some _ e
        have hit3 : H3.IsListIter I2 l 0 := by rw [← hH3, ← hI2]; exact ⟨_, Heap.get?_push_size _ rfl, rfl, rfl⟩
        have hI2₀ : h₀.get? I2 = none := hI2 ▸ next_is_new F₃
        have hI2L : L ≠ I2 := hI2 ▸ Nat.ne_of_lt F₃.ns.lt
        have hI2I : @LT.lt Nat _ I I2 := hI2 ▸ Heap.lt_size heI
        have hI2C : @LT.lt Nat _ C I2 := hI2 ▸ Heap.lt_size heC
        have hlI2 : l ≠ I2 := by have := hnlt _ hl; dsimp only at this; (show @Ne Nat _ _; omega)
        have W2 := Walks.list (prog := prog) (w := w) hh I2 l hlI2 vs.toArray
        have inner : ∀ s₄ : Shared, s₄ = { s₁ with heap := H3, toks := tk₂ + 1 } → codeAny (model prog w) A (.compLoop (dbl elt x y px py iter1 iter2 scope pos) 1 (.ref I2) (.ref D) (compEnvC scope cl C env))
            (fun r s₅ => match r with | .ok _ => ∃ m₁, m₁ < vs.length + 1 - i ∧ OutI h₀ L m s₁ l I D C vs.length f news m₁ s₅ | .error e => cameBackBy (model prog w) A (compEnvC scope cl C env) (notedBy (model prog w) A (compEnvC scope cl C env) fun e s' => compPost (model prog w) A E none Q (.ref D) C (.error e) s') e s₅) s₄ := by
          rintro s₄ rfl
          refine loop_d1 (InnI h₀ L m s₁ l I I2 D C vs.length i x v f news) ?_ (vs.length + 1)
            (in5 H3 _ 0 ys _ ⟨rfl, Nat.zero_le _, rfl, by simp [hyl], by simpa using hIn', hst₃.at fun o e => up3 _ o e, hit3, F₃.keeps up3, hn₃.at' fun o e => up3 _ o e, by simp, (nwc zD hDL hD₀ N₃).grown up3⟩)
          intro k'' s' hJ0
          refine ex5 hJ0 fun h' tk j zs m' hJ => an11 hJ fun e1 hj e2 hzl hzs hstI hstJ F' hn' hmx N' => ?_
          clear hJ hJ0
          subst e1
          subst e2
          have hl' : h'.IsList l vs.toArray := ⟨_, (N' _ (List.mem_cons_of_mem _ hl)).1, rfl, _, rfl⟩
          by_cases hjlt : j < vs.length
          · refine W2.item j _ _ _ (by simpa using hjlt) ⟨hstJ, hl'⟩ fun u h₄ tk₄ hPu hst₄ hk₄ => ?_
            have hu : vs[j]? = some u := by simpa using hPu
            refine wpAny_assign_Name (wpAny_storeName_local (lookup_relabel_local hy) (hn'.at' fun o e => hk₄ _ o (by simp; (show @Ne Nat _ _; omega)) e) (fun h₅ hn₅ hs₅ => ?_) (by simp [compEnvC, relabel, hkind]))
            have up5 : ∀ b o, b ≠ I2 → b ≠ C → h'.get? b = some o → h₅.get? b = some o := fun b o h1 h2 e => hs₅.extBut b o h2 (hk₄ b o (by simpa using h1) e)
            have F₅ : Fr h₀ L h₅ m := (fr_but F' hk₄ hI2L hI2₀).change hs₅ hCL hC₀
            have hstI5 : h₅.IsListIter I l (i + 1) := hstI.at fun o e => up5 _ _ (by (show @Ne Nat _ _; omega)) (by (show @Ne Nat _ _; omega)) e
            have hstJ5 : h₅.IsListIter I2 l (j + 1) := hst₄.1.at fun o e => hs₅.extBut _ _ (show @Ne Nat I2 C by omega) e
            refine Exists.elim hstI5 fun oI hI5 => Exists.elim hstJ5 fun oI2 hJ5 => ex_ns (ns_obj hn₅) fun oC heC hoC => ?_
            have heI := hI5.1
            have heI2 := hJ5.1
            have N₅' : News h₀ L h₅ ((C, oC) :: (D, lst zs) :: (I, oI) :: (I2, oI2) :: news) := nwc heC hCL hC₀ (nwc (up5 D _ (by (show @Ne Nat _ _; omega)) (by (show @Ne Nat _ _; omega)) (N' _ (.head _)).1) hDL hD₀ (nwc heI (Ne.symm hIL) hI₀ (nwc heI2 (Ne.symm hI2L) hI2₀
              fun p hp => ⟨up5 _ _ (by have := hnlt p hp; (show @Ne Nat _ _; omega)) (by have := hnlt p hp; (show @Ne Nat _ _; omega)) (N' p (.tail _ hp)).1, (N' p (.tail _ hp)).2⟩)))
            refine wpAny_mono (hturn i j v u C oC D zs I oI I2 oI2 _ h₅ _ _ hv hu hoC (by simp [hxy, hmx]) (by simp) F₅ N₅') (fun w' s₆ q => ?_) fun _ _ e => e
            obtain ⟨⟨t, rfl⟩, h₆, tk₆, rfl, F₆, N₆⟩ := q
            have zC := (N₆ _ List.mem_cons_self).1
            have zD := (N₆ _ (List.mem_cons_of_mem _ List.mem_cons_self)).1
            have zI := (N₆ _ (List.mem_cons_of_mem _ (List.mem_cons_of_mem _ List.mem_cons_self))).1
            have zI2 := (N₆ _ (List.mem_cons_of_mem _ (List.mem_cons_of_mem _ (List.mem_cons_of_mem _ List.mem_cons_self)))).1
            have hbnd : i * vs.length + j ≤ vs.length * vs.length := by
              have q1 : (i + 1) * vs.length ≤ vs.length * vs.length := Nat.mul_le_mul_right _ hlt'
              rw [Nat.add_mul, Nat.one_mul] at q1
              omega
            refine append_at (hsz := by show zs.toArray.size ≤ sizeLine; rw [List.size_toArray, hzl]; omega) zD fun h₇ hs₇ hD₇ => ?_
            refine ⟨vs.length + 1 - (j + 1), Nat.sub_lt_sub_left (Nat.lt_succ_of_lt hjlt) (Nat.lt_succ_self j), in5 h₇ _ (j + 1) (zs ++ [.int (f i j) t]) _ ⟨rfl, hjlt, rfl, by rw [List.length_append, List.length_singleton, hzl]; omega, ?_, hstI5.at fun o e => hs₇.extBut _ _ (by (show @Ne Nat _ _; omega)) (by rw [heI] at e; cases e; exact zI), hstJ5.at fun o e => hs₇.extBut _ _ (by (show @Ne Nat _ _; omega)) (by rw [heI2] at e; cases e; exact zI2), F₆.change hs₇ hDL hD₀, (hoC.ns zC).sameBut hs₇ (by (show @Ne Nat _ _; omega)), by simp [hxy, hmx], nwc (hD₇.trans (congrArg some (lst_snoc zs _))) hDL hD₀ fun p hp => ?_⟩⟩
            · rw [List.range_succ, List.map_append, ← List.append_assoc]
              exact hzs.append (.cons _ _ .nil)
            · have z := N₆ p (List.mem_cons_of_mem _ (List.mem_cons_of_mem _ (List.mem_cons_of_mem _ (List.mem_cons_of_mem _ hp))))
              exact ⟨hs₇.extBut _ _ (by have := hnlt p hp; (show @Ne Nat _ _; omega)) z.1, z.2⟩
          · obtain rfl : j = vs.length := by omega
            refine W2.done _ _ _ (by simpa using And.intro hstJ hl') fun h₄ tk₄ hk₄ => ?_
            refine ⟨vs.length + 1 - (i + 1), Nat.sub_lt_sub_left (Nat.lt_succ_of_lt hlt') (Nat.lt_succ_self i), in5 h₄ tk₄ (i + 1) zs m' ⟨rfl, hlt', rfl, by rw [hzl, Nat.add_mul, Nat.one_mul], ?_, hstI.at fun o e => hk₄ _ o (by simp; (show @Ne Nat _ _; omega)) e, fr_but F' hk₄ hI2L hI2₀, hn'.at' fun o e => hk₄ _ o (by simp; (show @Ne Nat _ _; omega)) e, news_but N' hk₄ fun p hp => ?_⟩⟩
            · rw [List.range_succ, List.flatMap_append]
              simpa using hzs
            · rcases List.mem_cons.mp hp with rfl | hp
              · dsimp only; (show @Ne Nat _ _; omega)
              · have := hnlt p hp; (show @Ne Nat _ _; omega)
        exact start_d1 (inner _ rfl) (W2.self 0 _ _ _ ⟨hit3, hl₃.at fun o e => up3 _ o e⟩ (inner _ rfl))
      · obtain rfl : i = vs.length := by omega
        refine W.done _ _ _ (by simpa using And.intro hst' hl') fun h₂ tk₂ hk₂ => ?_
        have F₂ := fr_but F' hk₂ hIL hI₀
        have N₂ : News h₀ L h₂ ((D, lst ys) :: news) := news_but N' hk₂ fun p hp => by
          rcases List.mem_cons.mp hp with rfl | hp
          · dsimp only; (show @Ne Nat _ _; omega)
          · exact hIn p hp
        refine ⟨m', hn'.at' fun o e => hk₂ _ o (by simp; (show @Ne Nat _ _; omega)) e, fun h'' hs'' => hfin ys D h'' tk₂ hIn' (F₂.change hs'' hCL hC₀) (fun p hp => ?_) (off_of fun p hp => by have := hnlt p hp; (show @Ne Nat _ _; omega))⟩
        refine ⟨hs''.extBut _ _ ?_ (N₂ p hp).1, (N₂ p hp).2⟩
        rcases List.mem_cons.mp hp with rfl | hp
        · dsimp only; (show @Ne Nat _ _; omega)
        · have := hnlt p hp; (show @Ne Nat _ _; omega)
  have W := Walks.list (prog := prog) (w := w) hh I l hlI vs.toArray
  exact codeAny_compStart_list (loop _ rfl) (W.self 0 _ _ _ ⟨hIit.at fun o e => old _ o e, hls.at fun o e => old _ o (up1 _ o e)⟩ (loop _ rfl))
end
end

section
theorem walk_off_E15 : True := by
  w_top off
  trivial
local macro_rules | `(tactic| walk_at "call type:range") => `(tactic| ((have : (5 : Nat) = 5 := by assumption); refine stop_ ?_))

theorem few_ok (ns : List Int) (h : ∀ c ∈ ns, 0 ≤ c ∧ c ≤ 1000) : ((List.range' 0 ns.length).filterMap (fun j => if 0 < ns.getD j 0 then some (1 + (ns.getD j 0).fmod 5) else none)).length = (usedF 0 ns).length ∧
    ∀ z ∈ (List.range' 0 ns.length).filterMap (fun j => if 0 < ns.getD j 0 then some (1 + (ns.getD j 0).fmod 5) else none), 1 ≤ z ∧ z ≤ 5 := by
  constructor
  · rw [used_len, ← filt_range ns]
    generalize List.range' 0 ns.length = r
    induction r with
    | nil => rfl
    | cons j r ih =>
      by_cases hj : 0 < ns.getD j 0
      · simp only [List.filterMap_cons, if_pos hj, List.length_cons, ih]
      · simp only [List.filterMap_cons, if_neg hj, ih]
  · intro z hz
    obtain ⟨j, _, e⟩ := List.mem_filterMap.mp hz
    by_cases hj : 0 < ns.getD j 0
    · rw [if_pos hj] at e
      have e2 := Option.some.inj e
      clear e
      have a1 := Int.fmod_nonneg (Int.le_of_lt hj) (show (0 : Int) ≤ 5 by decide)
      have a2 := Int.fmod_lt_of_pos (ns.getD j 0) (show (0 : Int) < 5 by decide)
      omega
    · rw [if_neg hj] at e; cases e

theorem ne_cell {h₀ h : Heap} {L D c : Addr} {co : Obj} {k : Nat} {xs : Array Value} {v : Option Value} {news : List (Addr × Obj)} (N : News h₀ L h news) (h1 : (D, listOf xs k) ∈ news) (h2 : (c, co) ∈ news) (hd : co.data = .cell v) : NE D c := by
  refine ⟨fun e => ?_⟩
  have a := (N _ h1).1
  have b := (N _ h2).1
  rw [e] at a
  have q := Option.some.inj (a.symm.trans b)
  have q2 := congrArg Obj.data q
  rw [hd] at q2
  cases q2
theorem last2 {α : Type} {p a b c d e : α} (h : p ∈ [a, e]) : p ∈ [a, b, c, d, e] := by
  rcases List.mem_cons.mp h with rfl | h
  · exact .head _
  · rw [List.mem_singleton.mp h]; exact .tail _ (.tail _ (.tail _ (.tail _ (.head _))))

/- products of few numbers fit -/
structure InFew (few : List Int) : Prop where
  mul : ∀ a ∈ few, ∀ b ∈ few, IntMulOk a b
theorem in_few {few : List Int} (h : 2 ≤ few.length ∧ few.length ≤ 3) (h5 : ∀ z ∈ few, 1 ≤ z ∧ z ≤ 5) : InFew few := ⟨fun a ha b hb => by
  have q1 := h5 a ha
  have q2 := h5 b hb
  exact mulOk_of_bits (bits_of_le (n := 10) (by omega) (by omega)) (bits_of_le (n := 10) (by omega) (by omega)) (by decide)⟩

theorem prods_range (few : List Int) : ((List.range few.length).flatMap fun i => (List.range few.length).map fun j => few.getD i 0 * few.getD j 0) = prods few := by
  unfold prods
  have e1 : ∀ a : Int, (List.range few.length).map (fun j => a * few.getD j 0) = few.map (a * ·) := fun a => by
    conv => rhs; rw [← range_getD few]
    rw [List.map_map]; rfl
  simp only [e1]
  conv => rhs; arg 2; rw [← range_getD few]
  rw [List.flatMap_map]
theorem bits_bound (ns : List Int) (lo : Nat) (h : CountsFit ns lo) {rows : List (Int × Int)} (hr : RowsOf ns rows) : bitsOf ns (lenF ns lo rows) ≤ ns.sum * 20 := by
  obtain ⟨f1, f2, f3⟩ := told_fit h hr
  have := (bitsOf_le ns _ 20 (by decide) (fun c hc => (h.le c hc).1) f2).2.1
  omega

/- the first item, then what stands behind the k next -/
theorem keep1 {h₀ h : Heap} {L : Addr} {a b c : Addr × Obj} {r : List (Addr × Obj)} (N : News h₀ L h (a :: b :: c :: r)) : News h₀ L h (a :: r) := drop1 (drop1 N)

theorem cutlen {s L : Nat} (h : s ≤ L) : s + (0 + 1) + (L - s) = L + 1 := by
  rw [Nat.add_right_comm, Nat.add_sub_cancel' h]
theorem ev_ok (n : Nat) (h : n < 9) (h2 : 2 ≤ n) : 1 ≤ evenF (n : Int) ∧ evenF (n : Int) ≤ 3 ∧ evenF (n : Int) ≤ (n : Int) - 1 ∧ (n : Int) ≤ 2 ^ (evenF (n : Int)).toNat := by
  have : ∀ n, n < 9 → 2 ≤ n → 1 ≤ evenF ((n : Nat) : Int) ∧ evenF ((n : Nat) : Int) ≤ 3 ∧ evenF ((n : Nat) : Int) ≤ (n : Int) - 1 ∧ ((n : Nat) : Int) ≤ 2 ^ (evenF ((n : Nat) : Int)).toNat := by decide +kernel
  exact this n h h2

theorem law_holds : PySem.Challenge.rw_tg0029_01.Holds := hd (by
  k_go0
  all_goals try k_fold
  k_steps
  unfold Stop
  rename Fr _ _ _ _ => F1
  rename News _ _ _ _ => N1
  rename Obj => co
  rename Below _ _ _ _ => B'
  rename Shared => s1
  rename Frag.In _ _ => X'
  rename Top _ _ _ _ _ _ => T'
  rename IntsAre _ _ => hI
  rename Heap.IsList _ _ _ => hL
  rename ¬ _ < _ => hlen63
  k_dflt (refine Spec.use (jar_spec _ hI (by omega)) B' F1 X' N1 T' (by first | exact rfl | assumption) (by first | exact rm hdp (by decide) | ktr_room) (by first | exact ru hun (by decide) | ktr_units) (hL.at fun o e => F1.keep _ o e) ?_)
  intro v own h9 tk9 hJ0 happ F9 N9
  refine ex6 hJ0 fun J r kr rv rz jo hJ => an7 hJ fun e1 e2 hri hrl hrb hjar hJr => ?_
  replace N9 := e2 ▸ N9
  replace happ := e2 ▸ happ
  clear hJ hJ0 e2
  subst e1
  have hJc := (happ _ (.head _)).1
  have hrc := (happ _ (.tail _ (.head _))).1
  clear F1 N1 happ
  dsimp only [List.cons_append, List.nil_append] at N9
  k_steps
  unfold Stop
  rename Fr _ _ _ _ => F1
  rename News _ _ _ _ => N1
  k_dflt (refine SpecM.use (code_spec _ hri hrl hrb (c := 0) (by omega)) B' F1 X' N1 T' (by first | exact rfl | assumption) (by first | exact rm hdp (by decide) | ktr_room) (by first | exact ru hun (by decide) | ktr_units) (.head _) ⟨hjar, ⟨_, N1.get (.tail _ (.head _)), rfl, _, rfl⟩, hJr⟩ (fun p hp => N1 p (.tail _ hp)) ⟨hJr.symm, hJc, trivial⟩ ?_)
  clear hjar
  intro v own h8 tk8 hJ0 happ F8 N8
  refine ex5 hJ0 fun D kd cv cz jo hJ => an8 hJ fun e1 e2 hcz hcode hc2 hc8 hjar hDJ => ?_
  replace N8 := e2 ▸ N8
  replace happ := e2 ▸ happ
  clear hJ hJ0 e2
  subst e1
  have hD := happ _ (.head _)
  replace hD := hD.resolve_left hDJ.out
  clear F1 N1 happ
  dsimp only [List.cons_append, List.nil_append] at N8
  skip
  refine an4 hD fun _ hDr hDc _ => ?_
  clear hD
  k_steps
  unfold Stop
  rename Fr _ _ _ _ => F1
  rename News _ _ _ _ => N1
  k_dflt (refine SpecM.use (counts_spec _ hri hrl hrb (c := 8) (by omega) hcz hcode hc2 hc8) B' F1 X' N1 T' (by first | exact rfl | assumption) (by first | exact rm hdp (by decide) | ktr_room) (by first | exact ru hun (by decide) | ktr_units) (.tail _ (.head _)) ⟨hjar, ⟨_, N1.get (.tail _ (.tail _ (.head _))), rfl, _, rfl⟩, hJr, ⟨_, N1.get (.head _), rfl, _, rfl⟩, hDJ.symm⟩ (drop1 N1) ⟨hDJ, hJr.symm, hJc, trivial⟩ ?_)
  clear hjar
  intro v own h7 tk7 hJ0 happ F7 N7
  refine ex5 hJ0 fun C kn nv zs jo hJ => an6 hJ fun e1 e2 hnv hcnt hjar hCJ => ?_
  replace N7 := e2 ▸ N7
  clear hJ hJ0 e2
  subst e1
  clear F1 N1 happ
  dsimp only [List.cons_append, List.nil_append] at N7
  have hcl := hcz.length
  k_steps
  unfold Stop
  rename Fr _ _ _ _ => F1
  rename News _ _ _ _ => N1
  replace N1 : News _ _ _ (_ :: _) := fun p hp => N1 p (.tail _ hp)
  k_dflt (refine SpecM.use (take_spec _ hri hrl hrb (many := 3) (c := 28) (by omega) (by omega)) B' F1 X' N1 T' (by first | exact rfl | assumption) (by first | exact rm hdp (by decide) | ktr_room) (by first | exact ru hun (by decide) | ktr_units) (.tail _ (.head _)) ⟨hjar, ⟨_, N1.get (.tail _ (.tail _ (.tail _ (.head _)))), rfl, _, rfl⟩, hJr⟩ (drop1 N1) ⟨hCJ, hDJ, hJr.symm, hJc, trivial⟩ ?_)
  clear hjar
  intro v own h6 tk6 hJ0 happ F6 N6
  refine ex3 hJ0 fun d td jo6 hJ => an5 hJ fun e1 e2 hd0 hd3 hjar => Exists.elim (Int.eq_ofNat_of_zero_le hd0) fun dn hdn => ?_
  replace N6 := e2 ▸ N6
  clear hJ hJ0 hd0 e2
  subst e1
  subst hdn
  clear F1 N1 happ
  dsimp only [List.cons_append, List.nil_append] at N6
  k_steps
  unfold Stop
  rename Fr _ _ _ _ => F1
  rename News _ _ _ _ => N1
  rename IsRange _ _ _ _ _ _ _ _ => hr
  have hzl := hcnt.len
  refine forR (n := dn) (fun i m nx => ∃ (C D : Addr) (nv cv' : List Value) (ns ls : List Int) (kn kd : Nat) (jo : Obj), Names m [(Str.ofString "counts", .ref C), (Str.ofString "many", .int (cz.length : Int) (tk7 + 1)), (Str.ofString "code", .ref D), (Str.ofString "jar", .ref J)] ∧
    nx = [(J, jo), (C, listOf (List.toArray nv) kn), (D, listOf (List.toArray cv') kd), (r, listOf (List.toArray rv) kr), (s1.heap.objs.size + 1, co)] ∧ IntsAre nv ns ∧ IntsAre cv' ls ∧ Ins zs cz i ns ls ∧ ns.length = cz.length + i ∧ ls.length = cz.length + i ∧ Jar r (29 + i) jo ∧ NE C J ∧ NE D J)
    rfl hr (small_one (by decide) (by decide) (by omega) (by omega)) (by rw [rangeSize_one]; split <;> omega) F1 N1 ?_ ?_ ?_
  · exact in9 _ _ _ _ _ _ _ _ _ ⟨⟨rfl, rfl, rfl, rfl, trivial⟩, rfl, hnv, hcz, .refl, by omega, by omega, hjar, hCJ, hDJ⟩
  · clear F1 N1 hr hjar hCJ hDJ hnv
    clear hDr hDc
    rintro i t m₁ n₁ h tk I o R1 hR1 hin hJ0
    refine ex9 hJ0 fun C D nv cv' ns ls kn kd jo hJ => an10 hJ fun hm e1 hnv hcv hins hnl hll hjar hCJ hDJ => ?_
    clear hJ hJ0
    intro hIo F1 N1
    replace hIo := e1 ▸ hIo
    replace N1 := e1 ▸ N1
    clear e1
    skip
    refine an6 hIo fun hI1 _ _ hI4 hI5 _ => ?_
    clear hIo
    replace F1 := fr1 hm F1
    dsimp only [kstB] at F1
    have hl := hnv.length
    have hl2 := hcv.length
    k_steps
    unfold Stop
    rename Fr _ _ _ _ => F1
    rename News _ _ _ _ => N1
    k_dflt (refine SpecM.use (take_spec _ hri hrl hrb (many := (ns.length : Int) + 1) (c := 29 + i) (by omega) (by omega)) B' F1 X' N1 T' (by first | exact rfl | assumption) (by first | exact rm hdp (by decide) | ktr_room) (by first | exact ru hun (by decide) | ktr_units) (.tail _ (.head _)) ⟨hjar, ⟨_, N1.get (.tail _ (.tail _ (.tail _ (.tail _ (.head _))))), rfl, _, rfl⟩, hJr⟩ (drop1 N1) ⟨hI1.symm, hCJ, hDJ, hJr.symm, hJc, trivial⟩ ?_)
    clear hjar
    intro v own h6 tk6 hJ0 happ F6 N6
    refine ex3 hJ0 fun sp tsp jo6 hJ => an5 hJ fun e1 e2 hs0 hs3 hjar => Exists.elim (Int.eq_ofNat_of_zero_le hs0) fun sn hsn => ?_
    replace N6 := e2 ▸ N6
    clear hJ hJ0 e2
    subst e1
    subst hsn
    have hsn : sn ≤ ns.length := by omega
    have hsl : sn ≤ ls.length := by omega
    clear F1 N1 happ
    dsimp only [List.cons_append, List.nil_append] at N6
    k_steps
    unfold Stop
    (try dsimp only)
    rename Fr _ _ _ _ => F1
    rename News _ _ _ _ => N1
    rename IntsAre _ (List.take _ _) => i2
    refine kmk_add_ints F1 N1 ⟨_, N1.get (.tail _ (.head _)), rfl, _, rfl⟩ ⟨_, N1.get (.head _), rfl, _, rfl⟩ i2 (.cons 0 _ .nil) (fun D3 us3 h3 F3 N3 _ i3 => ?_) (by rw [List.length_take, Int.toNat_natCast, Nat.min_eq_left hsn, sizeLine_eq]; simp only [List.length_cons, List.length_nil]; omega)
    replace N3 := keep1 N3
    clear F1 N1 i2
    k_steps
    unfold Stop
    (try dsimp only)
    rename Fr _ _ _ _ => F1
    rename News _ _ _ _ => N1
    rename IntsAre _ (List.drop _ _) => i4
    refine kmk_add_ints F1 N1 ⟨_, N1.get (.tail _ (.head _)), rfl, _, rfl⟩ ⟨_, N1.get (.head _), rfl, _, rfl⟩ i3 i4 (fun D5 us5 h5 F5 N5 hlt5 i5 => ?_) (by rw [List.length_append, List.length_take, List.length_drop, Int.toNat_natCast, Nat.min_eq_left hsn, sizeLine_eq]; simp only [List.length_cons, List.length_nil]; rw [cutlen hsn]; omega)
    replace N5 := keep1 N5
    clear F1 N1 i3 i4
    replace hlt5 : Off D5 _ := off_of fun p hp => Nat.ne_of_lt (hlt5 p hp)
    skip
    refine an9 hlt5 fun _ _ hJ5 hID5 _ _ _ _ _ => ?_
    clear hlt5
    k_steps
    unfold Stop
    (try dsimp only)
    rename Fr _ _ _ _ => F1
    rename News _ _ _ _ => N1
    rename IntsAre _ (List.take _ _) => i2
    refine kmk_add_ints F1 N1 ⟨_, N1.get (.tail _ (.head _)), rfl, _, rfl⟩ ⟨_, N1.get (.head _), rfl, _, rfl⟩ i2 (.cons 0 _ .nil) (fun D7 us7 h7 F7 N7 _ i7 => ?_) (by rw [List.length_take, Int.toNat_natCast, Nat.min_eq_left hsl, sizeLine_eq]; simp only [List.length_cons, List.length_nil]; omega)
    replace N7 := keep1 N7
    clear F1 N1 i2
    k_steps
    unfold Stop
    (try dsimp only)
    rename Fr _ _ _ _ => F1
    rename News _ _ _ _ => N1
    rename IntsAre _ (List.drop _ _) => i4
    refine kmk_add_ints F1 N1 ⟨_, N1.get (.tail _ (.head _)), rfl, _, rfl⟩ ⟨_, N1.get (.head _), rfl, _, rfl⟩ i7 i4 (fun D9 us9 h9 F9 N9 hlt9 i9 => ?_) (by rw [List.length_append, List.length_take, List.length_drop, Int.toNat_natCast, Nat.min_eq_left hsl, sizeLine_eq]; simp only [List.length_cons, List.length_nil]; rw [cutlen hsl]; omega)
    replace N9 := keep1 N9
    clear F1 N1 i7 i4
    replace hlt9 : Off D9 _ := off_of fun p hp => Nat.ne_of_lt (hlt9 p hp)
    skip
    refine an10 hlt9 fun _ _ _ hJ9 hID9 _ _ _ _ _ => ?_
    clear hlt9
    k_steps
    rename Fr _ _ _ _ => F1
    rename News _ _ _ _ => N1
    refine hR1 _ _ (lend [(J, jo6), (D5, listOf us5.toArray 0), (D9, listOf us9.toArray 0), (r, listOf (List.toArray rv) kr), (s1.heap.objs.size + 1, co)] F1 (nsb N1 (fa (by k_mem) (fa (by k_mem) (fa (by k_mem) (fa (by k_mem) (fa (by k_mem) (fa (by k_mem) fan))))))) ⟨hI1, hID5.symm, hID9.symm, hI4, hI5, trivial⟩ (in9 D5 D9 us5 us9 _ _ 0 0 jo6 ⟨⟨rfl, rfl, rfl, rfl, trivial⟩, rfl, i5, i9, .ins ((sn : Nat) : Int).toNat hins (by rw [Int.toNat_natCast]; omega), ?_, ?_, ?_, hJ5.symm, hJ9.symm⟩))
    · rw [List.length_append, List.length_append, List.length_take, List.length_drop, Int.toNat_natCast, Nat.min_eq_left hsn]
      simp only [List.length_cons, List.length_nil]
      rw [cutlen hsn, hnl, Nat.add_assoc]
    · rw [List.length_append, List.length_append, List.length_take, List.length_drop, Int.toNat_natCast, Nat.min_eq_left hsl]
      simp only [List.length_cons, List.length_nil]
      rw [cutlen hsl, hll, Nat.add_assoc]
    · rw [show (29 : Int) + ((i + 1 : Nat) : Int) = 29 + i + 1 by omega]
      exact hjar
  · clear F1 N1 hr hjar hCJ hDJ hnv
    clear hDr hDc
    rintro m₁ n₁ h tk hJ0
    refine ex9 hJ0 fun C D nv cv' ns ls kn kd jo hJ => an10 hJ fun hm e1 hnv hcv hins hnl hll hjar hCJ hDJ => ?_
    clear hJ hJ0
    intro F1 N1
    replace N1 := e1 ▸ N1
    clear e1
    replace F1 := fr0 hm F1
    dsimp only [kstB] at F1
    have hl := hnv.length
    have hl2 := hcv.length
    k_steps
    unfold Stop
    rename Fr _ _ _ _ => F1
    rename News _ _ _ _ => N1
    have hdr := hins.drawn hcnt hcode hc2 hc8 (by omega)
    have hok := drawn_ok hcnt hcode hc2 hc8 (by omega) hins
    obtain ⟨d1, d2, d3, d4, d5, d6, d7⟩ := hdr
    k_dflt (refine Spec.use (power_spec _ hnv hcv d1 (by omega) d7 d4 d5) B' F1 X' N1 T' (by first | exact rfl | assumption) (by first | exact rm hdp (by decide) | ktr_room) (by first | exact ru hun (by decide) | ktr_units) ⟨⟨_, N1.get (.tail _ (.head _)), rfl, _, rfl⟩, ⟨_, N1.get (.tail _ (.tail _ (.head _))), rfl, _, rfl⟩⟩ ?_)
    intro v own h8 tk8 hJ0 happ F8 N8
    refine an2 hJ0 fun e1 hJ => Exists.elim hJ fun t8 e2 => ?_
    replace N8 := e1 ▸ N8
    clear hJ hJ0 e1
    subst e2
    clear F1 N1 happ
    dsimp only [List.nil_append] at N8
    have hN0 : 0 ≤ ns.sum := (bitsOf_le ns ls 20 (by decide) (fun c h => (d3 c h).1) d4).2.2
    k_steps
    unfold Stop
    rename Fr _ _ _ _ => F1
    rename News _ _ _ _ => N1
    k_dflt (refine Spec.use (not_below_spec _ (p := 2 ^ (bitsOf ns ls).toNat * pwrF ns) hnv hcv d1 (by omega) d3 d4 d5 hN0) B' F1 X' N1 T' (by first | exact rfl | assumption) (by first | exact rm hdp (by decide) | ktr_room) (by first | exact ru hun (by decide) | ktr_units) ⟨⟨_, N1.get (.tail _ (.head _)), rfl, _, rfl⟩, ⟨_, N1.get (.tail _ (.tail _ (.head _))), rfl, _, rfl⟩⟩ ?_)
    intro v own h6 tk6 hJ0 happ F6 N6
    refine an2 hJ0 fun e1 e2 => ?_
    replace N6 := e1 ▸ N6
    clear hJ0 e1
    subst e2
    clear F1 N1 happ
    dsimp only [List.nil_append] at N6
    rw [hok]
    k_steps
    unfold Stop
    refine For_invV (h₀ := T'.heap) (by rfl) (by rfl) ?_
    k_steps
    unfold Stop
    rename Fr _ _ _ _ => F1
    rename News _ _ _ _ => N1
    k_dflt (refine Spec.use (even_spec _ (n := (cz.length : Int)) (by omega) (by omega)) B' F1 X' N1 T' (by first | exact rfl | assumption) (by first | exact rm hdp (by decide) | ktr_room) (by first | exact ru hun (by decide) | ktr_units) trivial ?_)
    intro v own h5 tk5 hJ0 happ F5 N5
    refine an2 hJ0 fun e1 hJ => Exists.elim hJ fun t5 e2 => ?_
    replace N5 := e1 ▸ N5
    clear hJ hJ0 e1
    subst e2
    clear F1 N1 happ
    dsimp only [List.nil_append] at N5
    have hev : 1 ≤ evenF (cz.length : Int) ∧ evenF (cz.length : Int) ≤ 3 ∧ evenF (cz.length : Int) ≤ (cz.length : Int) - 1 ∧ (cz.length : Int) ≤ 2 ^ (evenF (cz.length : Int)).toNat := by
      exact ev_ok cz.length (by omega) hc2
    generalize evenF (cz.length : Int) = ev at hev
    have mk : (5 : Nat) = 5 := rfl
    k_steps
    unfold Stop
    rename Fr _ _ _ _ => F1
    rename News _ _ _ _ => N1
    clear mk
    refine range2_rows F1 N1 (fun h4 tk4 t4 u4 v4 hr F4 N4 _ => ?_)
    clear F1 N1
    k_steps
    rename Fr _ _ _ _ => F1
    rename News _ _ _ _ => N1
    refine kll_range (a := ev) (b := (cz.length : Int)) (n := ((cz.length : Int) - ev).toNat) rfl F1 N1 hr (small_one (by omega) (by omega) (by omega) (by omega)) (by rw [rangeSize_one]; split <;> omega) (by omega) (fun Dr us c3 h3 tk3 F3 N3 hlt3 ius => ?_)
    clear F1 N1 hr
    replace hlt3 := hlt3 _ (.head _)
    have hJr3 : NE J Dr := .lt hlt3
    clear hlt3
    k_steps
    unfold Stop
    rename Fr _ _ _ _ => F1
    rename News _ _ _ _ => N1
    k_dflt (refine SpecM.use (take_spec _ hri hrl hrb (many := 17 - (cz.length : Int)) (c := 31) (by omega) (by omega)) B' F1 X' N1 T' (by first | exact rfl | assumption) (by first | exact rm hdp (by decide) | ktr_room) (by first | exact ru hun (by decide) | ktr_units) (.tail _ (.head _)) ⟨?_, ⟨_, N1.get (.tail _ (.tail _ (.tail _ (.tail _ (.head _))))), rfl, _, rfl⟩, hJr⟩ (drop1 N1) ⟨hJr3.symm, hCJ, hDJ, hJr.symm, hJc, trivial⟩ ?_)
    · refine ex5 hjar fun A C t1 t2 k2 hJ => an4 hJ fun e1 hA hC0 hC => ?_
      clear hJ hjar
      subst e1
      exact in5 A C t1 t2 k2 ⟨rfl, hA, hC0, by omega⟩
    clear hjar
    intro v own h2 tk2 hJ0 happ F2 N2
    refine ex3 hJ0 fun dx tdx jo2 hJ => an5 hJ fun e1 e2 hdx0 hdx3 hjar => ?_
    replace N2 := e2 ▸ N2
    clear hJ hJ0 e2
    subst e1
    clear F1 N1 happ
    dsimp only [List.cons_append, List.nil_append] at N2
    k_steps
    unfold Stop
    (try dsimp only)
    rename Fr _ _ _ _ => F1
    rename News _ _ _ _ => N1
    refine kmk_add_ints F1 N1 ⟨_, N1.get (.tail _ (.tail _ (.head _))), rfl, _, rfl⟩ ⟨_, N1.get (.head _), rfl, _, rfl⟩ ius (.cons _ _ .nil) (fun D7 us7 h7 F7 N7 hlt7 i7 => ?_) (by rw [rangeKs_length, sizeLine_eq]; simp only [List.length_cons, List.length_nil]; omega)
    have hJ7 : NE J D7 := .lt (hlt7 _ (.tail _ (.head _)))
    clear hlt7 F1 N1
    replace N7 := drop1 N7
    have hlos : ∀ x ∈ rangeKs ev ((cz.length : Int) - ev).toNat ++ [(cz.length : Int) - 1 + dx], ev ≤ x ∧ x ≤ 16 := fun x hx => by
      rcases List.mem_append.mp hx with hx | hx
      · have q := mem_rangeKs hx; rw [Int.toNat_of_nonneg (by omega)] at q; omega
      · rw [List.mem_singleton.mp hx]; omega
    generalize rangeKs ev ((cz.length : Int) - ev).toNat ++ [(cz.length : Int) - 1 + dx] = los at i7 hlos
    have hfits : ∀ lo : Nat, ev ≤ (lo : Int) → (lo : Int) ≤ 16 → CountsFit ns lo := fun lo h1 h2 => ⟨by omega, d3, by omega, by omega, ⟨by omega, by omega⟩, by
      rw [d6]
      have e1 : ((cz.length : Nat) : Int) ≤ ((2 ^ lo : Nat) : Int) := by
        have q1 := pow_int_le (show ev.toNat ≤ lo by omega)
        have q2 := hev.2.2.2
        have q3 : ((2 ^ lo : Nat) : Int) = (2 : Int) ^ lo := by simp
        rw [q3]; omega
      exact_mod_cast e1⟩
    refine forL (vs := us7) (k := 0) (ol := listOf (List.toArray us7) 0) (fun i m nx => Names m [(Str.ofString "counts", .ref C)] ∧ nx = [(D7, listOf (List.toArray us7) 0), (C, listOf (List.toArray nv) kn), (s1.heap.objs.size + 1, co)])
      rfl rfl rfl F7 (news := [(D7, listOf (List.toArray us7) 0), (C, listOf (List.toArray nv) kn), (s1.heap.objs.size + 1, co)]) (nsb N7 (fa (by k_mem) (fa (by k_mem) (fa (by k_mem) fan)))) ⟨⟨rfl, trivial⟩, rfl⟩ ?_ ?_ ?_ ?_
    · rintro i m₁ news₁ h ⟨_, rfl⟩ _ N
      exact N.get (.head _)
    · exact (N7 _ (.head _)).2.1
    · clear F7 N7
      rintro i v m₁ n₁ h tk I o R1 hR1 hv ⟨hm, rfl⟩ hIo F1 N1
      obtain ⟨lo, t, rfl, hlo1, hlo2⟩ : ∃ (lo : Nat) (t : Tok), v = .int (lo : Int) t ∧ ev ≤ (lo : Int) ∧ (lo : Int) ≤ 16 := by
        obtain ⟨x, t, rfl, e⟩ := i7.at i v hv
        have q := hlos x (List.mem_of_getElem? e)
        exact ⟨x.toNat, t, by rw [Int.toNat_of_nonneg (by omega)], by omega, by omega⟩
      have hcf := hfits lo hlo1 hlo2
      replace F1 := fr1 hm F1
      dsimp only [kstB] at F1
      skip
      refine an4 hIo fun hI1 hI2 hI3 _ => ?_
      clear hIo
      k_steps
      unfold Stop
      rename Fr _ _ _ _ => F1
      rename News _ _ _ _ => N1
      k_dflt (refine Spec.use (told_spec _ hnv hcf.len hcf.le d5 hcf.u2 hcf.u10 hcf.lo1 hcf.room (fun rows h1 h2 => told_fit hcf ⟨h1, h2⟩)) B' F1 X' N1 T' (by first | exact rfl | assumption) (by first | exact rm hdp (by decide) | ktr_room) (by first | exact ru hun (by decide) | ktr_units) ⟨_, N1.get (.tail _ (.tail _ (.head _))), rfl, _, rfl⟩ ?_)
      intro v own h9 tk9 hJ0 happ F9 N9
      refine an2 hJ0 fun e1 hJ1 => ex2 hJ1 fun rows tr hJ => an3 hJ fun hp1 hp2 e2 => ?_
      replace N9 := e1 ▸ N9
      clear hJ hJ1 hJ0 e1
      subst e2
      clear F1 N1 happ
      dsimp only [List.nil_append] at N9
      have hpos : 0 < toldF ns lo (placeF rows (packF (rows.map (·.1)) lo) (List.replicate ns.length 0)) := by
        have q := told_pos hcf ⟨hp1, hp2⟩
        have q1 := q.1
        unfold lenF at q1
        rw [q1]
        exact q.2
      generalize toldF ns lo (placeF rows (packF (rows.map (·.1)) lo) (List.replicate ns.length 0)) = X at hpos
      k_steps
      try (exfalso; omega)
      · exact hR1 _ _ (lend [(D7, listOf (List.toArray us7) 0), (C, listOf (List.toArray nv) kn), (s1.heap.objs.size + 1, co)] F9 N9 ⟨hI1, hI2, hI3, trivial⟩ ⟨⟨rfl, trivial⟩, rfl⟩)
    · clear F7 N7
      rintro m₁ n₁ h tk ⟨hm, rfl⟩ F1 N1
      replace F1 := fr0 hm F1
      dsimp only [kstB] at F1
      k_steps
      unfold Stop
      rename Fr _ _ _ _ => F1
      rename News _ _ _ _ => N1
      refine LCt.ListComp_T (F₀ := F1) (by with_unfolding_all rfl) (by decide) (by rfl) (by decide) (by rfl) ?_
      k_steps
      refine LCt.CompSrcT.ledger rfl F1 N1 (.tail _ (.head _)) (by rw [List.size_toArray, sizeLine_eq]; omega) fun g => ?_
      refine comp_tests (fun j => if 0 < ns.getD j 0 then some (1 + (ns.getD j 0).fmod 5) else none) (.inr ⟨_, .tail _ (.head _), rfl, _, rfl⟩) _ _ [] [] .nil ?_ ?_
      · clear F1 N1
        rintro j v I oI C' oC D' m₂ h tk E' ys _ hj hv hC hx F N off ne
        obtain ⟨t1, rfl⟩ : ∃ t, v = .int (ns.getD j 0) t := by
          obtain ⟨t, q2⟩ := hnv.get j (ns.getD j 0) (by rw [List.size_toArray] at hj; simp [show j < ns.length by omega])
          exact ⟨t, by rw [List.getElem?_toArray] at hv; exact Option.some.inj (hv.symm.trans q2)⟩
        generalize ns.getD j 0 = n at hx
        k_steps
        refine ⟨⟨_, _, rfl, F, N⟩, ?_⟩
        simp only [decide_eq_true_eq]
        by_cases hlt : 0 < n
        · rw [if_pos hlt]
          refine ⟨_, if_pos hlt, ?_⟩
          k_steps
          exact OneInt.intro rfl (by assumption) (by assumption)
        · rw [if_neg hlt]
          exact if_neg hlt
      · intro ys hys
        rw [List.nil_append, List.size_toArray, hl] at hys
        have hfw := few_ok ns d3
        rw [d6] at hfw
        generalize (List.range' 0 ns.length).filterMap (fun j => if 0 < ns.getD j 0 then some (1 + (ns.getD j 0).fmod 5) else none) = fl at hys hfw
        refine an2 hfw fun hfl hf5 => ?_
        clear hfw
        clear F1 N1
        have hyl := hys.length
        have h03 : (0 : Int) ≤ 3 := by decide
        k_steps
        rename Fr _ _ _ _ => F1
        rename News _ _ _ _ => N1
        rename co.data = _ => hco
        rename IntsAre _ (List.take _ _) => ifew
        replace N1 : News _ _ _ [_, _] := fun p hp => N1 p (last2 hp)
        have hcne := ne_cell N1 (.head _) (.tail _ (.head _)) hco
        obtain ⟨few, hfew⟩ : ∃ few, List.take 3 fl = few := ⟨_, rfl⟩
        rw [hfew] at ifew
        have hfl2 : 2 ≤ few.length ∧ few.length ≤ 3 := by rw [← hfew, List.length_take]; exact ⟨Nat.le_min.mpr ⟨by decide, by omega⟩, Nat.min_le_left _ _⟩
        have hfw5 : ∀ z ∈ few, 1 ≤ z ∧ z ≤ 5 := fun z hz => hf5 z (List.mem_of_mem_take (hfew ▸ hz))
        clear hfew hys hf5 hfl
        k_steps
        unfold Stop
        rename Fr _ _ _ _ => F1
        rename News _ _ _ _ => N1
        have hcf2 : CountsFit few 2 := few_fit hfl2 hfw5 2 (by decide) (by omega)
        have hs2 := sum_le_len few 5 fun x hx => ⟨by have := hfw5 x hx; omega, (hfw5 x hx).2⟩
        k_dflt (refine Spec.use (told_spec _ (lo := 2) ifew hcf2.len hcf2.le (by omega) hcf2.u2 hcf2.u10 hcf2.lo1 hcf2.room (fun rows h1 h2 => told_fit hcf2 ⟨h1, h2⟩)) B' F1 X' N1 T' (by first | exact rfl | assumption) (by first | exact rm hdp (by decide) | ktr_room) (by first | exact ru hun (by decide) | ktr_units) ⟨_, N1.get (.head _), rfl, _, rfl⟩ ?_)
        intro v own h9 tk9 hJ0 happ F9 N9
        refine an2 hJ0 fun e1 hJ1 => ex2 hJ1 fun rows tr hJ => an3 hJ fun hp1 hp2 e2 => ?_
        replace N9 := e1 ▸ N9
        clear hJ hJ1 hJ0 e1
        subst e2
        clear F1 N1 happ
        dsimp only [List.nil_append] at N9
        have hq1 := told_pos hcf2 ⟨hp1, hp2⟩
        have hq2 : RowsOf few rows := ⟨hp1, hp2⟩
        rw [show placeF rows (packF (rows.map (·.1)) 2) (List.replicate few.length 0) = lenF few 2 rows from rfl, hq1.1]
        clear hp1 hp2
        have hin : InFew few := in_few hfl2 hfw5
        have hfl := ifew.length
        k_steps
        unfold Stop
        rename Fr _ _ _ _ => F1
        rename News _ _ _ _ => N1
        refine ListComp_D (F₀ := F1) (by with_unfolding_all rfl) (by decide) (by rfl) (by decide) (by rfl) (by rfl) (by decide) (by intro C v; rfl) ?_
        k_steps
        refine in5 _ _ _ _ (fun i j => few.getD i 0 * few.getD j 0) ⟨rfl, rfl, F1, N1, .head _, by rw [sizeLine_eq, hfl]; rcases (by omega : few.length = 2 ∨ few.length = 3) with e | e <;> rw [e] <;> decide, ?_, ?_, ?_⟩
        · clear F1 N1
          intro C' oC D8 ys I oI m₂ h tk E' hC F N
          k_steps
        · clear F1 N1
          intro i j v u C' oC D8 ys I oI I2 oI2 m₂ h tk E' hv hu hC hm1 hm2 F N
          refine ex2 (ifew.at i v hv) fun a ta hJ => an2 hJ fun e1 ea => ?_
          clear hJ
          subst e1
          refine ex2 (ifew.at j u hu) fun b tb hJ => an2 hJ fun e1 eb => ?_
          clear hJ
          subst e1
          have hm3 := hin.mul a (List.mem_of_getElem? ea) b (List.mem_of_getElem? eb)
          k_steps
          exact OneInt.intro (by simp [ea, eb]) (by assumption) (by assumption)
        · intro ys D8 h8 tk8 hys F8 N8 hoff8
          rw [hfl, prods_range] at hys
          clear F1 N1
          k_steps
          unfold Stop
          rename Fr _ _ _ _ => F1
          rename News _ _ _ _ => N1
          obtain ⟨hcf8, hs8, hp25⟩ := prods_fit hfl2 hfw5
          k_dflt (refine Spec.use (told_spec _ (lo := 8) hys hcf8.len hcf8.le hs8 hcf8.u2 hcf8.u10 hcf8.lo1 hcf8.room (fun rows h1 h2 => told_fit hcf8 ⟨h1, h2⟩)) B' F1 X' N1 T' (by first | exact rfl | assumption) (by first | exact rm hdp (by decide) | ktr_room) (by first | exact ru hun (by decide) | ktr_units) ⟨_, N1.get (.head _), rfl, _, rfl⟩ ?_)
          intro v own h9 tk9 hJ0 happ F9 N9
          refine an2 hJ0 fun e1 hJ1 => ex2 hJ1 fun rows8 tr8 hJ => an3 hJ fun hp1 hp2 e2 => ?_
          replace N9 := e1 ▸ N9
          clear hJ hJ1 hJ0 e1
          subst e2
          clear F1 N1 happ
          dsimp only [List.nil_append] at N9
          have hq3 := told_pos hcf8 ⟨hp1, hp2⟩
          have hq4 : RowsOf (prods few) rows8 := ⟨hp1, hp2⟩
          rw [show placeF rows8 (packF (rows8.map (·.1)) 8) (List.replicate (prods few).length 0) = lenF (prods few) 8 rows8 from rfl, hq3.1]
          clear hp1 hp2
          have hfin := pairs_le hfl2.1 hfl2.2 hfw5 hq2 hq4
          have hfin0 := hq3.2
          have hA0 := hq1.2
          have hA1 := bits_bound few 2 hcf2 hq2
          generalize bitsOf (prods few) (lenF (prods few) 8 rows8) = BB at hfin hfin0
          generalize bitsOf few (lenF few 2 rows) = AA at hfin hA0 hA1
          clear hq1 hq2 hq3 hq4 hys hin
          have hm1 : IntMulOk (2 : Int) few.sum := mulOk_of_bits (bits_of_le (n := 10) (by decide) (by decide)) (bits_of_le (n := 10) (by omega) (by omega)) (by decide)
          have hm2 : IntMulOk (2 * few.sum) AA := mulOk_of_bits (bits_of_le (n := 20) (by omega) (by omega)) (bits_of_le (n := 20) (by omega) (by omega)) (by decide)
          k_steps
          )
end

end Mine

theorem PySem.Challenge.cw_tg0029_01_holds : PySem.Challenge.rw_tg0029_01.Holds :=
  Mine.law_holds
