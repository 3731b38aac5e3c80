import PyProof.Rows.All
import Wide.All
import OpenK.AllK
import Wide.FinOn
import Lean
import PySem.Challenge.RW_no0367_01
open PySem PySem.W PyProof.Rows PySem.Calls
set_option linter.all false
set_option Elab.async false
set_option maxRecDepth 100000
set_option maxHeartbeats 0
namespace Mine.Internal
open_top hd for PySem.Challenge.rw_no0367_01
end Mine.Internal
namespace Mine.Internal
local macro_rules | `(tactic| walk_at $s:str) => `(tactic| k_extra $s)

noncomputable def wd0 : World := ⟨fun _ _ => 0, { strHash := fun _ => 0, shareClass := fun _ => 0, mergeTok := fun t => t, idOf := fun _ => 0, idOfShared := fun _ _ => 0, followText := fun _ => false, idOfImm := fun _ => 0 }⟩
/-- to show P of all, show it of one closed constant: terms that name it are shared at every depth of binders -/
theorem eps_all {α : Sort _} {P : α → Prop} (n : Nonempty α) (h : P (@Classical.epsilon α n fun a => ¬ P a)) (a : α) : P a :=
  Classical.byContradiction fun q => @Classical.epsilon_spec α (fun a => ¬ P a) ⟨a, q⟩ h

noncomputable def pick2 {α0 α1 : Type} (ne : Nonempty (α0 × α1)) (P : α0 → α1 → Prop) : α0 × α1 := @Classical.epsilon _ ne fun k => ¬ P (k.1) (k.2)
theorem eps2 {α0 α1 : Type} (ne : Nonempty (α0 × α1)) {P : α0 → α1 → Prop} (h : P ((pick2 ne P).1) ((pick2 ne P).2)) (a0 : α0) (a1 : α1) : P a0 a1 :=
  eps_all (P := fun k : α0 × α1 => P (k.1) (k.2)) ne h (a0, a1)
noncomputable def pick3 {α0 α1 α2 : Type} (ne : Nonempty (α0 × α1 × α2)) (P : α0 → α1 → α2 → Prop) : α0 × α1 × α2 := @Classical.epsilon _ ne fun k => ¬ P (k.1) (k.2.1) (k.2.2)
theorem eps3 {α0 α1 α2 : Type} (ne : Nonempty (α0 × α1 × α2)) {P : α0 → α1 → α2 → Prop} (h : P ((pick3 ne P).1) ((pick3 ne P).2.1) ((pick3 ne P).2.2)) (a0 : α0) (a1 : α1) (a2 : α2) : P a0 a1 a2 :=
  eps_all (P := fun k : α0 × α1 × α2 => P (k.1) (k.2.1) (k.2.2)) ne h (a0, a1, a2)
noncomputable def pick4 {α0 α1 α2 α3 : Type} (ne : Nonempty (α0 × α1 × α2 × α3)) (P : α0 → α1 → α2 → α3 → Prop) : α0 × α1 × α2 × α3 := @Classical.epsilon _ ne fun k => ¬ P (k.1) (k.2.1) (k.2.2.1) (k.2.2.2)
theorem eps4 {α0 α1 α2 α3 : Type} (ne : Nonempty (α0 × α1 × α2 × α3)) {P : α0 → α1 → α2 → α3 → Prop} (h : P ((pick4 ne P).1) ((pick4 ne P).2.1) ((pick4 ne P).2.2.1) ((pick4 ne P).2.2.2)) (a0 : α0) (a1 : α1) (a2 : α2) (a3 : α3) : P a0 a1 a2 a3 :=
  eps_all (P := fun k : α0 × α1 × α2 × α3 => P (k.1) (k.2.1) (k.2.2.1) (k.2.2.2)) ne h (a0, a1, a2, a3)
noncomputable def pick5 {α0 α1 α2 α3 α4 : Type} (ne : Nonempty (α0 × α1 × α2 × α3 × α4)) (P : α0 → α1 → α2 → α3 → α4 → Prop) : α0 × α1 × α2 × α3 × α4 := @Classical.epsilon _ ne fun k => ¬ P (k.1) (k.2.1) (k.2.2.1) (k.2.2.2.1) (k.2.2.2.2)
theorem eps5 {α0 α1 α2 α3 α4 : Type} (ne : Nonempty (α0 × α1 × α2 × α3 × α4)) {P : α0 → α1 → α2 → α3 → α4 → Prop} (h : P ((pick5 ne P).1) ((pick5 ne P).2.1) ((pick5 ne P).2.2.1) ((pick5 ne P).2.2.2.1) ((pick5 ne P).2.2.2.2)) (a0 : α0) (a1 : α1) (a2 : α2) (a3 : α3) (a4 : α4) : P a0 a1 a2 a3 a4 :=
  eps_all (P := fun k : α0 × α1 × α2 × α3 × α4 => P (k.1) (k.2.1) (k.2.2.1) (k.2.2.2.1) (k.2.2.2.2)) ne h (a0, a1, a2, a3, a4)
noncomputable def pick6 {α0 α1 α2 α3 α4 α5 : Type} (ne : Nonempty (α0 × α1 × α2 × α3 × α4 × α5)) (P : α0 → α1 → α2 → α3 → α4 → α5 → Prop) : α0 × α1 × α2 × α3 × α4 × α5 := @Classical.epsilon _ ne fun k => ¬ P (k.1) (k.2.1) (k.2.2.1) (k.2.2.2.1) (k.2.2.2.2.1) (k.2.2.2.2.2)
theorem eps6 {α0 α1 α2 α3 α4 α5 : Type} (ne : Nonempty (α0 × α1 × α2 × α3 × α4 × α5)) {P : α0 → α1 → α2 → α3 → α4 → α5 → Prop} (h : P ((pick6 ne P).1) ((pick6 ne P).2.1) ((pick6 ne P).2.2.1) ((pick6 ne P).2.2.2.1) ((pick6 ne P).2.2.2.2.1) ((pick6 ne P).2.2.2.2.2)) (a0 : α0) (a1 : α1) (a2 : α2) (a3 : α3) (a4 : α4) (a5 : α5) : P a0 a1 a2 a3 a4 a5 :=
  eps_all (P := fun k : α0 × α1 × α2 × α3 × α4 × α5 => P (k.1) (k.2.1) (k.2.2.1) (k.2.2.2.1) (k.2.2.2.2.1) (k.2.2.2.2.2)) ne h (a0, a1, a2, a3, a4, a5)
noncomputable def pick25 {α0 α1 α2 α3 α4 α5 α6 α7 α8 α9 α10 α11 α12 α13 α14 α15 α16 α17 α18 α19 α20 α21 α22 α23 α24 : Type} (ne : Nonempty (α0 × α1 × α2 × α3 × α4 × α5 × α6 × α7 × α8 × α9 × α10 × α11 × α12 × α13 × α14 × α15 × α16 × α17 × α18 × α19 × α20 × α21 × α22 × α23 × α24)) (P : α0 → α1 → α2 → α3 → α4 → α5 → α6 → α7 → α8 → α9 → α10 → α11 → α12 → α13 → α14 → α15 → α16 → α17 → α18 → α19 → α20 → α21 → α22 → α23 → α24 → Prop) : α0 × α1 × α2 × α3 × α4 × α5 × α6 × α7 × α8 × α9 × α10 × α11 × α12 × α13 × α14 × α15 × α16 × α17 × α18 × α19 × α20 × α21 × α22 × α23 × α24 := @Classical.epsilon _ ne fun k => ¬ P (k.1) (k.2.1) (k.2.2.1) (k.2.2.2.1) (k.2.2.2.2.1) (k.2.2.2.2.2.1) (k.2.2.2.2.2.2.1) (k.2.2.2.2.2.2.2.1) (k.2.2.2.2.2.2.2.2.1) (k.2.2.2.2.2.2.2.2.2.1) (k.2.2.2.2.2.2.2.2.2.2.1) (k.2.2.2.2.2.2.2.2.2.2.2.1) (k.2.2.2.2.2.2.2.2.2.2.2.2.1) (k.2.2.2.2.2.2.2.2.2.2.2.2.2.1) (k.2.2.2.2.2.2.2.2.2.2.2.2.2.2.1) (k.2.2.2.2.2.2.2.2.2.2.2.2.2.2.2.1) (k.2.2.2.2.2.2.2.2.2.2.2.2.2.2.2.2.1) (k.2.2.2.2.2.2.2.2.2.2.2.2.2.2.2.2.2.1) (k.2.2.2.2.2.2.2.2.2.2.2.2.2.2.2.2.2.2.1) (k.2.2.2.2.2.2.2.2.2.2.2.2.2.2.2.2.2.2.2.1) (k.2.2.2.2.2.2.2.2.2.2.2.2.2.2.2.2.2.2.2.2.1) (k.2.2.2.2.2.2.2.2.2.2.2.2.2.2.2.2.2.2.2.2.2.1) (k.2.2.2.2.2.2.2.2.2.2.2.2.2.2.2.2.2.2.2.2.2.2.1) (k.2.2.2.2.2.2.2.2.2.2.2.2.2.2.2.2.2.2.2.2.2.2.2.1) (k.2.2.2.2.2.2.2.2.2.2.2.2.2.2.2.2.2.2.2.2.2.2.2.2)
theorem eps25 {α0 α1 α2 α3 α4 α5 α6 α7 α8 α9 α10 α11 α12 α13 α14 α15 α16 α17 α18 α19 α20 α21 α22 α23 α24 : Type} (ne : Nonempty (α0 × α1 × α2 × α3 × α4 × α5 × α6 × α7 × α8 × α9 × α10 × α11 × α12 × α13 × α14 × α15 × α16 × α17 × α18 × α19 × α20 × α21 × α22 × α23 × α24)) {P : α0 → α1 → α2 → α3 → α4 → α5 → α6 → α7 → α8 → α9 → α10 → α11 → α12 → α13 → α14 → α15 → α16 → α17 → α18 → α19 → α20 → α21 → α22 → α23 → α24 → Prop} (h : P ((pick25 ne P).1) ((pick25 ne P).2.1) ((pick25 ne P).2.2.1) ((pick25 ne P).2.2.2.1) ((pick25 ne P).2.2.2.2.1) ((pick25 ne P).2.2.2.2.2.1) ((pick25 ne P).2.2.2.2.2.2.1) ((pick25 ne P).2.2.2.2.2.2.2.1) ((pick25 ne P).2.2.2.2.2.2.2.2.1) ((pick25 ne P).2.2.2.2.2.2.2.2.2.1) ((pick25 ne P).2.2.2.2.2.2.2.2.2.2.1) ((pick25 ne P).2.2.2.2.2.2.2.2.2.2.2.1) ((pick25 ne P).2.2.2.2.2.2.2.2.2.2.2.2.1) ((pick25 ne P).2.2.2.2.2.2.2.2.2.2.2.2.2.1) ((pick25 ne P).2.2.2.2.2.2.2.2.2.2.2.2.2.2.1) ((pick25 ne P).2.2.2.2.2.2.2.2.2.2.2.2.2.2.2.1) ((pick25 ne P).2.2.2.2.2.2.2.2.2.2.2.2.2.2.2.2.1) ((pick25 ne P).2.2.2.2.2.2.2.2.2.2.2.2.2.2.2.2.2.1) ((pick25 ne P).2.2.2.2.2.2.2.2.2.2.2.2.2.2.2.2.2.2.1) ((pick25 ne P).2.2.2.2.2.2.2.2.2.2.2.2.2.2.2.2.2.2.2.1) ((pick25 ne P).2.2.2.2.2.2.2.2.2.2.2.2.2.2.2.2.2.2.2.2.1) ((pick25 ne P).2.2.2.2.2.2.2.2.2.2.2.2.2.2.2.2.2.2.2.2.2.1) ((pick25 ne P).2.2.2.2.2.2.2.2.2.2.2.2.2.2.2.2.2.2.2.2.2.2.1) ((pick25 ne P).2.2.2.2.2.2.2.2.2.2.2.2.2.2.2.2.2.2.2.2.2.2.2.1) ((pick25 ne P).2.2.2.2.2.2.2.2.2.2.2.2.2.2.2.2.2.2.2.2.2.2.2.2)) (a0 : α0) (a1 : α1) (a2 : α2) (a3 : α3) (a4 : α4) (a5 : α5) (a6 : α6) (a7 : α7) (a8 : α8) (a9 : α9) (a10 : α10) (a11 : α11) (a12 : α12) (a13 : α13) (a14 : α14) (a15 : α15) (a16 : α16) (a17 : α17) (a18 : α18) (a19 : α19) (a20 : α20) (a21 : α21) (a22 : α22) (a23 : α23) (a24 : α24) : P a0 a1 a2 a3 a4 a5 a6 a7 a8 a9 a10 a11 a12 a13 a14 a15 a16 a17 a18 a19 a20 a21 a22 a23 a24 :=
  eps_all (P := fun k : α0 × α1 × α2 × α3 × α4 × α5 × α6 × α7 × α8 × α9 × α10 × α11 × α12 × α13 × α14 × α15 × α16 × α17 × α18 × α19 × α20 × α21 × α22 × α23 × α24 => P (k.1) (k.2.1) (k.2.2.1) (k.2.2.2.1) (k.2.2.2.2.1) (k.2.2.2.2.2.1) (k.2.2.2.2.2.2.1) (k.2.2.2.2.2.2.2.1) (k.2.2.2.2.2.2.2.2.1) (k.2.2.2.2.2.2.2.2.2.1) (k.2.2.2.2.2.2.2.2.2.2.1) (k.2.2.2.2.2.2.2.2.2.2.2.1) (k.2.2.2.2.2.2.2.2.2.2.2.2.1) (k.2.2.2.2.2.2.2.2.2.2.2.2.2.1) (k.2.2.2.2.2.2.2.2.2.2.2.2.2.2.1) (k.2.2.2.2.2.2.2.2.2.2.2.2.2.2.2.1) (k.2.2.2.2.2.2.2.2.2.2.2.2.2.2.2.2.1) (k.2.2.2.2.2.2.2.2.2.2.2.2.2.2.2.2.2.1) (k.2.2.2.2.2.2.2.2.2.2.2.2.2.2.2.2.2.2.1) (k.2.2.2.2.2.2.2.2.2.2.2.2.2.2.2.2.2.2.2.1) (k.2.2.2.2.2.2.2.2.2.2.2.2.2.2.2.2.2.2.2.2.1) (k.2.2.2.2.2.2.2.2.2.2.2.2.2.2.2.2.2.2.2.2.2.1) (k.2.2.2.2.2.2.2.2.2.2.2.2.2.2.2.2.2.2.2.2.2.2.1) (k.2.2.2.2.2.2.2.2.2.2.2.2.2.2.2.2.2.2.2.2.2.2.2.1) (k.2.2.2.2.2.2.2.2.2.2.2.2.2.2.2.2.2.2.2.2.2.2.2.2)) ne h (a0, a1, a2, a3, a4, a5, a6, a7, a8, a9, a10, a11, a12, a13, a14, a15, a16, a17, a18, a19, a20, a21, a22, a23, a24)

theorem all_cons {α : Type} {p : α → Prop} {a : α} {l : List α} (h : p a) (t : ∀ x ∈ l, p x) : ∀ x ∈ a :: l, p x := List.forall_mem_cons.mpr ⟨h, t⟩
theorem at0 {α : Type} {a : α} {l : List α} : a ∈ a :: l := List.mem_cons_self
theorem at1 {α : Type} {a b0 : α} {l : List α} : a ∈ b0 :: a :: l := List.mem_cons_of_mem _ at0
theorem at2 {α : Type} {a b0 b1 : α} {l : List α} : a ∈ b0 :: b1 :: a :: l := List.mem_cons_of_mem _ at1
theorem at3 {α : Type} {a b0 b1 b2 : α} {l : List α} : a ∈ b0 :: b1 :: b2 :: a :: l := List.mem_cons_of_mem _ at2
theorem at4 {α : Type} {a b0 b1 b2 b3 : α} {l : List α} : a ∈ b0 :: b1 :: b2 :: b3 :: a :: l := List.mem_cons_of_mem _ at3
theorem at5 {α : Type} {a b0 b1 b2 b3 b4 : α} {l : List α} : a ∈ b0 :: b1 :: b2 :: b3 :: b4 :: a :: l := List.mem_cons_of_mem _ at4
theorem at6 {α : Type} {a b0 b1 b2 b3 b4 b5 : α} {l : List α} : a ∈ b0 :: b1 :: b2 :: b3 :: b4 :: b5 :: a :: l := List.mem_cons_of_mem _ at5
theorem at7 {α : Type} {a b0 b1 b2 b3 b4 b5 b6 : α} {l : List α} : a ∈ b0 :: b1 :: b2 :: b3 :: b4 :: b5 :: b6 :: a :: l := List.mem_cons_of_mem _ at6
theorem at8 {α : Type} {a b0 b1 b2 b3 b4 b5 b6 b7 : α} {l : List α} : a ∈ b0 :: b1 :: b2 :: b3 :: b4 :: b5 :: b6 :: b7 :: a :: l := List.mem_cons_of_mem _ at7
theorem at9 {α : Type} {a b0 b1 b2 b3 b4 b5 b6 b7 b8 : α} {l : List α} : a ∈ b0 :: b1 :: b2 :: b3 :: b4 :: b5 :: b6 :: b7 :: b8 :: a :: l := List.mem_cons_of_mem _ at8
theorem at10 {α : Type} {a b0 b1 b2 b3 b4 b5 b6 b7 b8 b9 : α} {l : List α} : a ∈ b0 :: b1 :: b2 :: b3 :: b4 :: b5 :: b6 :: b7 :: b8 :: b9 :: a :: l := List.mem_cons_of_mem _ at9
theorem at11 {α : Type} {a b0 b1 b2 b3 b4 b5 b6 b7 b8 b9 b10 : α} {l : List α} : a ∈ b0 :: b1 :: b2 :: b3 :: b4 :: b5 :: b6 :: b7 :: b8 :: b9 :: b10 :: a :: l := List.mem_cons_of_mem _ at10
theorem at12 {α : Type} {a b0 b1 b2 b3 b4 b5 b6 b7 b8 b9 b10 b11 : α} {l : List α} : a ∈ b0 :: b1 :: b2 :: b3 :: b4 :: b5 :: b6 :: b7 :: b8 :: b9 :: b10 :: b11 :: a :: l := List.mem_cons_of_mem _ at11
theorem at13 {α : Type} {a b0 b1 b2 b3 b4 b5 b6 b7 b8 b9 b10 b11 b12 : α} {l : List α} : a ∈ b0 :: b1 :: b2 :: b3 :: b4 :: b5 :: b6 :: b7 :: b8 :: b9 :: b10 :: b11 :: b12 :: a :: l := List.mem_cons_of_mem _ at12
theorem at14 {α : Type} {a b0 b1 b2 b3 b4 b5 b6 b7 b8 b9 b10 b11 b12 b13 : α} {l : List α} : a ∈ b0 :: b1 :: b2 :: b3 :: b4 :: b5 :: b6 :: b7 :: b8 :: b9 :: b10 :: b11 :: b12 :: b13 :: a :: l := List.mem_cons_of_mem _ at13
theorem at15 {α : Type} {a b0 b1 b2 b3 b4 b5 b6 b7 b8 b9 b10 b11 b12 b13 b14 : α} {l : List α} : a ∈ b0 :: b1 :: b2 :: b3 :: b4 :: b5 :: b6 :: b7 :: b8 :: b9 :: b10 :: b11 :: b12 :: b13 :: b14 :: a :: l := List.mem_cons_of_mem _ at14
theorem at16 {α : Type} {a b0 b1 b2 b3 b4 b5 b6 b7 b8 b9 b10 b11 b12 b13 b14 b15 : α} {l : List α} : a ∈ b0 :: b1 :: b2 :: b3 :: b4 :: b5 :: b6 :: b7 :: b8 :: b9 :: b10 :: b11 :: b12 :: b13 :: b14 :: b15 :: a :: l := List.mem_cons_of_mem _ at15
theorem at17 {α : Type} {a b0 b1 b2 b3 b4 b5 b6 b7 b8 b9 b10 b11 b12 b13 b14 b15 b16 : α} {l : List α} : a ∈ b0 :: b1 :: b2 :: b3 :: b4 :: b5 :: b6 :: b7 :: b8 :: b9 :: b10 :: b11 :: b12 :: b13 :: b14 :: b15 :: b16 :: a :: l := List.mem_cons_of_mem _ at16
/-- room in the stack: what a call leaves of it -/
theorem room0 {a k R : Nat} (h : a + k < R) : a < R := Nat.lt_of_le_of_lt (Nat.le_add_right a k) h
theorem room1 {a k b R : Nat} (h : a + k < R) (e : Nat.ble b k = true) : a + b < R := Nat.lt_of_le_of_lt (Nat.add_le_add_left (Nat.le_of_ble_eq_true e) a) h
theorem room2 {a k b c R : Nat} (h : a + k < R) (e : Nat.ble (b + c) k = true) : a + b + c < R := Nat.lt_of_le_of_lt (Nat.le_of_eq (Nat.add_assoc a b c)) (room1 h e)
theorem le_lit {a b c : Nat} (h : a ≤ b) (e : Nat.ble b c = true) : a ≤ c := Nat.le_trans h (Nat.le_of_ble_eq_true e)
theorem ne_l {a b : Nat} {q : Prop} (h : a ≠ b ∧ q) : a ≠ b := h.1
theorem ne_r {a b : Nat} {q : Prop} (h : q ∧ a ≠ b) : a ≠ b := h.2
theorem ne_ls {a b : Nat} {q : Prop} (h : b ≠ a ∧ q) : a ≠ b := h.1.symm
theorem ne_rs {a b : Nat} {q : Prop} (h : q ∧ b ≠ a) : a ≠ b := h.2.symm
theorem lt_l {a b : Nat} {q : Prop} (h : a < b ∧ q) : a < b := h.1
theorem lt_m {a b : Nat} {q r : Prop} (h : q ∧ a < b ∧ r) : a < b := h.2.1
theorem lt_r {a b : Nat} {q r : Prop} (h : q ∧ r ∧ a < b) : a < b := h.2.2
theorem lt_e {a b : Nat} {q : Prop} (h : q ∧ a < b) : a < b := h.2
theorem eq_lt_lit {a b c d : Nat} (e : a = b) (h : b < c) (z : Nat.ble c (d + 1) = true) : a ≤ d := e ▸ Nat.le_of_lt_succ (Nat.lt_of_lt_of_le h (Nat.le_of_ble_eq_true z))
theorem eq_le_lit {a b c d : Nat} (e : a = b) (h : b ≤ c) (z : Nat.ble c d = true) : a ≤ d := e ▸ Nat.le_trans h (Nat.le_of_ble_eq_true z)
theorem pw_lt {n : Nat} (h : n ≤ 1000) : (n : Int) < 2 ^ 63 := Int.lt_of_le_of_lt (Int.ofNat_le.mpr h) (by decide)
theorem add_lit {a b c d e : Nat} (h : a ≤ c) (h' : b ≤ d) (z : Nat.ble (c + d) e = true) : a + b ≤ e := Nat.le_trans (Nat.add_le_add h h') (Nat.le_of_ble_eq_true z)
theorem sz_l {a c k R : Nat} (h : a ≤ c) (z : Nat.ble (k + c) R = true) : k + a ≤ R := Nat.le_trans (Nat.add_le_add_left h k) (Nat.le_of_ble_eq_true z)
theorem sz_r {a b c k R : Nat} (e : a = b) (h : a ≤ c) (z : Nat.ble (c + k) R = true) : b + k ≤ R := Nat.le_trans (Nat.add_le_add_right (e ▸ h) k) (Nat.le_of_ble_eq_true z)
theorem lt_lit {a b c : Nat} (h : a ≤ b) (e : Nat.ble (b + 1) c = true) : a < c := Nat.lt_of_le_of_lt h (Nat.le_of_ble_eq_true e)
theorem ltle_lit {a b c : Nat} (h : a < b) (e : Nat.ble b c = true) : a ≤ c := Nat.le_trans (Nat.le_of_lt h) (Nat.le_of_ble_eq_true e)
theorem ltlt_lit {a b c : Nat} (h : a < b) (e : Nat.ble b c = true) : a < c := Nat.lt_of_lt_of_le h (Nat.le_of_ble_eq_true e)
theorem lit_le {b c : Nat} (e : Nat.ble b c = true) : b ≤ c := Nat.le_of_ble_eq_true e
noncomputable abbrev TopF (mean : ExcName → Option Value) (mg mb : Str → Option Value) (h : Heap) : Prop :=
  Top hd.view_39 (looseW hd.view_39 [Str.ofString "PostError", Str.ofString "store_flags"]) mean mg mb h

/-- a place in the run: nothing is being handled -/
abbrev Ar (dp un : Nat) (fr : Option (List Env)) (gd : Option (List Code)) : Around := { handled := none, depth := dp, frames := fr, guards := gd, units := un }

/-- the text's own part of the heap -/
structure Wd (P : Params) (mean : ExcName → Option Value) (mg mb : Str → Option Value) (H : Heap) : Prop where
  X : (hd.heap_39 P).In H
  T : TopF mean mg mb H

theorem Wd.keeps {P : Params} {mean : ExcName → Option Value} {mg mb : Str → Option Value} {H h : Heap} (W : Wd P mean mg mb H) (k : H.StaysIn h) : Wd P mean mg mb h :=
  ⟨W.X.keeps k, W.T.keeps k⟩

section
variable {prog : Program} {w : World} {A : Around} {E : Value → Shared → Prop} {s : Shared} {H0 : Heap} {mean : ExcName → Option Value} {mg mb : Str → Option Value}
  {Q : Value → Shared → Prop} {name qual : Str} {params : Arguments} {body : List Stmt} {scope : Scope} {dV kV doc pm cdv ct oc : Value} {an od : Option Addr} {osl : Array (Option Value)} {f : Addr} {args : List Value} {kws : List (Str × Value)} {binds : List (Str × Value)}

/-- a call of a plain def without cells that does not raise: entered with the heap's objects at mods hidden -/
theorem enter (W : Wd w.params mean mg mb H0) (hs : H0.StaysIn s.heap) (news : List (Addr × Obj)) (hn : ∀ p ∈ news, s.heap.get? p.1 = some p.2 ∧ H0.get? p.1 = none)
    (hroom : A.depth < recursionLimit)
    (ho : (hd.heap_39 w.params).lookup f = some ⟨oc, od, .func (fnOf name qual params body scope dV kV doc pm an cdv ct), osl⟩) (hcd : codeIn (hd.heap_39 w.params) cdv qual = true)
    (hbind : BindsTo s (fnOf name qual params body scope dV kV doc pm an cdv ct) ⟨args, kws⟩ binds) (hloc : ∀ y ∈ binds, scope.names.lookup y.1 = some .local)
    (h : ∀ g L' h₁, g = hideAll s.heap (news.map (·.1)) → H0.StaysIn g → Fr g L' h₁ (fun y => binds.reverse.lookup y) → News g L' h₁ news → (hd.heap_39 w.params).In g → TopF mean mg mb g →
      wpAny (model prog w) (A.deeper (envX qual scope L' f cdv [])) (execs body (envX qual scope L' f cdv []))
        (fun fl s' => Q (match fl with | .ret v => v | _ => .none) s') (fun _ _ => False) { s with heap := h₁, toks := s.toks + binds.length })
    (hcell : ∀ x ∈ scope.names, x.2 ≠ .cell) (hco : scope.isCoroutine = false) (hgen : scope.isGenerator = false) (hk : scope.kind = .function) :
    wpAny (model prog w) A (call (.ref f) args kws) Q E s := by
  have Ws := W.keeps hs
  have st : H0.StaysIn (hideAll s.heap (news.map (·.1))) := fun b o e => hideAll_get _ (hs b o e) fun q => by
    obtain ⟨p, hp, rfl⟩ := List.mem_map.mp q
    rw [(hn p hp).2] at e; cases e
  refine wpAny_call (codeAny_call_def (fd := fnX name qual params body scope [] dV kV doc pm an cdv ct) (body := body) (binds := binds) hroom (Ws.X _ _ ho) rfl Ws.T.nolimit (codeRec_of Ws.X hcd) rfl hbind hcell hloc (fun h₁ hns hk₁ => ?_) hco hgen hk)
  refine wpAny_mono (h _ s.heap.objs.size h₁ rfl st ⟨hns, fun b o e => hk₁ b o (of_hideAll _ e), Nat.le_of_eq (hideAll_size _ _)⟩
    (fun p hp => ⟨hk₁ _ _ (hn p hp).1, Nat.ne_of_lt (Heap.lt_size (hn p hp).1), hideAll_none _ (List.mem_map_of_mem hp)⟩) (W.X.keeps st) (W.T.keeps st)) (fun _ _ x => x) fun _ _ x => x.elim
end

theorem keepsList {h h' : Heap} {l : Addr} {items : Array Value} (x : h.IsList l items) (k : h.StaysIn h') : h'.IsList l items := let ⟨o, ho, r⟩ := x; ⟨o, k l o ho, r⟩
theorem keepsTup {h h' : Heap} {l : Addr} {items : Array Value} (x : IsTup h l items) (k : h.StaysIn h') : IsTup h' l items := let ⟨o, ho, r⟩ := x; ⟨o, k l o ho, r⟩

/-- the object at a, of class C, whose dict gives v for name -/
noncomputable def Fld (h : Heap) (a C : Addr) (name : Str) (v : Value) : Prop := ∃ d es n, h.get? a = some (instObj C d) ∧ h.get? d = some (dictOf es n) ∧ getL name es = some (some v)
theorem Fld.keeps {h h' : Heap} {a C : Addr} {name : Str} {v : Value} (x : Fld h a C name v) (k : h.StaysIn h') : Fld h' a C name v :=
  let ⟨d, es, n, x1, x2, x3⟩ := x; ⟨d, es, n, k _ _ x1, k _ _ x2, x3⟩
section
variable {prog : Program} {w : World} {A : Around} {E : Value → Shared → Prop} {s : Shared} {K : Frag} {x C L : Addr} {h₀ : Heap} {m : Str → Option Value} {name : Str} {v : Value} {l : Addr} {items : Array Value}
theorem get_fld {expr : Bool} {Q : Value → Shared → Prop} {attr : Option Value} (F : Fr h₀ L s.heap m) (X₀ : K.In h₀) (I : Fld s.heap x C name v) (hg : plainGet K C name = true) (hh : hasDictIn K C = true)
    (ha : findIn K (.ref C) name = some attr) (hn : noGet K attr = true) (hv : handedIn v = true) (h : Q v { s with toks := s.toks + 1 }) :
    wpAny (model prog w) A (getAttr (.ref x) name expr) Q E s := by
  obtain ⟨d, es, n, h1, h2, h3⟩ := I
  exact get_own F X₀ ⟨h1, rfl, rfl, h2⟩ hg hh ha hn h3 hv h
theorem len_l {Q : Value → Shared → Prop} (F : Fr h₀ L s.heap m) (hl : s.heap.IsList l items) (hs : items.size ≤ 1000)
    (h : Q (.int items.size (s.toks + 1)) { s with toks := s.toks + 1 + 1 }) : wpAny (model prog w) A (call (.builtin "len") [.ref l]) Q E s :=
  let _ := F; len_list hl (pw_lt hs) h
theorem item_l {value slice : Expr} {k : Int} {u : Tok} {x : Value} {Q : Value → Shared → Prop} (hl : s.heap.IsList l items)
    (h0 : 0 ≤ k) (hfit : k < 1000) (hx : items[k.toNat]? = some x) (h : Q x s)
    (hs : subscripted slice false (.ref l) (.int k u) = operate [.ref l, .int k u] (getItem (.ref l) (.int k u))) :
    wpAny (model prog w) A (subscriptTail value slice (.ref l) (.int k u)) Q E s :=
  tail_any hl.typeIs slot_list_getitem.lookup (wpAny_getItem_list hl h0 (Int.lt_trans hfit (by decide)) hx h) hs
theorem len_refs {Q : Value → Shared → Prop} {las : List Addr} (F : Fr h₀ L s.heap m) (hl : s.heap.IsList l (las.map Value.ref).toArray) (hs : las.length ≤ 1000)
    (h : Q (.int las.length (s.toks + 1)) { s with toks := s.toks + 1 + 1 }) : wpAny (model prog w) A (call (.builtin "len") [.ref l]) Q E s :=
  len_l F hl (by simpa using hs) (by simpa using h)
theorem item_refs {value slice : Expr} {k : Int} {u : Tok} {las : List Addr} {Q : Value → Shared → Prop} (hl : s.heap.IsList l (las.map Value.ref).toArray)
    (h0 : 0 ≤ k ∧ k < las.length) (hlen : las.length ≤ 1000) (h : ∀ a, las[k.toNat]? = some a → Q (.ref a) s)
    (hs : subscripted slice false (.ref l) (.int k u) = operate [.ref l, .int k u] (getItem (.ref l) (.int k u))) :
    wpAny (model prog w) A (subscriptTail value slice (.ref l) (.int k u)) Q E s := by
  obtain ⟨a, e⟩ : ∃ a, las[k.toNat]? = some a := ⟨_, List.getElem?_eq_getElem ((Int.toNat_lt h0.1).mpr h0.2)⟩
  exact item_l (x := .ref a) hl h0.1 (Int.lt_of_lt_of_le h0.2 (Int.ofNat_le.mpr hlen)) (by simp [e]) (h _ e) hs
end

-- "MINE list": the goal  IsList h l items  from a fact of the ground or at hand
example : True := by
  k_with "MINE list" => (first | with_reducible assumption | (exact keepsList (by with_reducible assumption) (Fr.keep (by with_reducible assumption))) | (exact News.isList (by assumption) (by first | k_extra "MINE mem" | k_mem)))
  trivial
example : True := by
  k_with "call builtin:len" => ((k_here; (with_reducible show wpAny _ _ (call (Value.builtin "len") [Value.ref _]) _ _ _); k_dflt (refine' len_refs (by first | (k_asm) | fail) (by first | (k_extra "MINE list") | fail) (by first | (k_extra "MINE ar") | fail) ?_; k_whole)))
  trivial
example : True := by
  k_with "eval Name" => ((k_here; k_dflt (refine' nameX_L (by first | (k_asm) | fail) (by first | rfl | assumption | fail) ?_ (by first | (rfl) | fail) (by first | (rfl) | fail); k_whole)))
  trivial
example : True := by
  k_with "getAttr ref" => ((k_here; k_dflt (refine' get_fld (by first | (k_asm) | fail) (by first | (k_asm) | fail) (by first | assumption | exact Fld.keeps (by assumption) (Fr.keep (by assumption)) | fail) (by first | (k_is) | fail) (by first | (k_is) | fail) (by first | (k_is) | fail) (by first | (k_is) | fail) (by first | (k_handed) | fail) ?_; k_whole)))
  trivial
example : True := by
  k_with "subscriptTail" => ((k_here; (with_reducible show wpAny _ _ (subscriptTail _ _ (Value.ref _) (Value.int _ _)) _ _ _); k_dflt (refine' item_l (by first | (k_extra "MINE list") | fail) (by first | (k_extra "MINE ar") | fail) (by first | (k_extra "MINE ar") | fail) (by first | (assumption) | fail) ?_ (by with_unfolding_all rfl); k_whole)))
  trivial
example : True := by
  k_with "subscriptTail" => ((k_here; (with_reducible show wpAny _ _ (subscriptTail _ _ (Value.ref _) (Value.int _ _)) _ _ _); k_dflt (refine' item_refs (by first | (k_extra "MINE list") | fail) (by first | (k_extra "MINE ar") | fail) (by first | (k_extra "MINE ar") | fail) ?_ (by with_unfolding_all rfl); k_whole); intro _ _))
  trivial
example : True := by
  k_with "MINE steps" => (repeat' (first | (k_extra "MINE halt"; walk1) | (dsimp only; k_extra "MINE halt"; walk1)))
  trivial
-- a non-mutating call's end: the new frame, the new ledger with its one new object
example : True := by
  k_with "MINE strs" => (first | with_reducible assumption | assumption)
  trivial
example : True := by
  k_with "MINE tup" => (first | with_reducible assumption | (exact keepsTup (by with_reducible assumption) (Fr.keep (by with_reducible assumption))) | (exact News.isTup (by assumption) (by first | k_extra "MINE mem" | k_mem)))
  trivial
example : True := by
  k_with "MINE halt" => (((fail_if_success (with_reducible show wpAny _ _ (PySem.exec (PySem.Stmt.While _ _ _ _) _) _ _ _)); (fail_if_success (with_reducible show wpAny _ _ (PySem.exec (PySem.Stmt.For _ _ _ _ _) _) _ _ _)); (fail_if_success (with_reducible show wpAny _ _ (PySem.eval (PySem.Expr.ListComp _ _ _ _) _) _ _ _)); (fail_if_success (with_reducible show wpAny _ _ (PySem.exec (PySem.Stmt.Assign _ (PySem.Expr.ListComp _ _ _ _) _) _) _ _ _))))
  trivial
example : True := by
  k_with "MINE room" => (((try dsimp only [Around.deeper]); first | exact room2 (by assumption) (by rfl) | exact room1 (by assumption) (by rfl) | exact room0 (by assumption) | omega))
  trivial
example : True := by
  k_with "MINE ar" => (first | with_reducible assumption | exact Nat.zero_le _ | exact Int.natCast_nonneg _ | exact lit_le (by rfl) | exact le_lit (by with_reducible assumption) (by rfl) | exact lt_lit (by with_reducible assumption) (by rfl) | exact ltle_lit (by with_reducible assumption) (by rfl) | exact ltlt_lit (by with_reducible assumption) (by rfl) | exact le_lit (Nat.le_trans (by with_reducible assumption) (by with_reducible assumption)) (by rfl) | exact eq_lt_lit (by with_reducible assumption) (by with_reducible assumption) (by rfl) | exact eq_le_lit (by with_reducible assumption) (by with_reducible assumption) (by rfl) | exact add_lit (by with_reducible assumption) (by with_reducible assumption) (by rfl) | exact ⟨by with_reducible assumption, by with_reducible assumption⟩ | omega)
  trivial
example : True := by
  k_with "MINE ar" => (first | exact PJ.mid (by with_reducible assumption) (by with_reducible assumption) | exact PJ.low (by with_reducible assumption) (by with_reducible assumption))
  trivial
example : True := by
  k_with "MINE mem" => (first | with_reducible exact at0 | with_reducible exact at1 | with_reducible exact at2 | with_reducible exact at3 | with_reducible exact at4 | with_reducible exact at5 | with_reducible exact at6 | with_reducible exact at7 | with_reducible exact at8 | with_reducible exact at9 | with_reducible exact at10 | with_reducible exact at11 | with_reducible exact at12 | with_reducible exact at13 | with_reducible exact at14 | with_reducible exact at15 | with_reducible exact at16 | with_reducible exact at17)
  trivial
example : True := by
  k_with "MINE k_ne" => ((refine neN ?_; (try dsimp only); first | with_reducible assumption | with_reducible exact Ne.symm (by with_reducible assumption) | with_reducible exact ne_l (by with_reducible assumption) | with_reducible exact ne_r (by with_reducible assumption) | with_reducible exact ne_ls (by with_reducible assumption) | with_reducible exact ne_rs (by with_reducible assumption) | exact Nat.ne_of_lt (by with_reducible assumption) | exact Nat.ne_of_gt (by with_reducible assumption) | exact Nat.ne_of_lt (lt_l (by with_reducible assumption)) | exact Nat.ne_of_lt (lt_m (by with_reducible assumption)) | exact Nat.ne_of_lt (lt_r (by with_reducible assumption)) | exact Nat.ne_of_lt (lt_e (by with_reducible assumption)) | exact Nat.ne_of_gt (lt_l (by with_reducible assumption)) | exact Nat.ne_of_gt (lt_m (by with_reducible assumption)) | exact Nat.ne_of_gt (lt_r (by with_reducible assumption)) | exact Nat.ne_of_gt (lt_e (by with_reducible assumption)) | exact Nat.ne_of_gt (Nat.lt_trans (lt_l (by with_reducible assumption)) (by with_reducible assumption)) | exact Nat.ne_of_gt (Nat.lt_trans (lt_m (by with_reducible assumption)) (by with_reducible assumption)) | exact Nat.ne_of_gt (Nat.lt_trans (lt_r (by with_reducible assumption)) (by with_reducible assumption)) | exact Nat.ne_of_gt (Nat.lt_trans (lt_e (by with_reducible assumption)) (by with_reducible assumption)) | omega))
  trivial
local macro_rules | `(tactic| k_ne) => `(tactic| k_extra "MINE k_ne")

/-- what holds between place_of's turns -/
inductive PJ (N : Nat) (uid lo hi : Int) : Prop
  | mk : 0 ≤ lo → lo ≤ hi → hi ≤ N → (lo = 0 ∨ lo < uid) → (hi = N ∨ uid ≤ hi + 1) → PJ N uid lo hi
/-- the names of place_of's frame and the measure -/
inductive PW (N : Nat) (ll : Addr) (uid : Int) (t : Tok) (n : Nat) (m : Str → Option Value) : Prop
  | mk (lo hi : Int) (tl th : Tok) : m "low" = some (.int lo tl) → m "high" = some (.int hi th) → m "letters" = some (.ref ll) → m "uid" = some (.int uid t) → PJ N uid lo hi → n = (hi - lo).toNat → PW N ll uid t n m
section
variable {N : Nat} {uid lo hi : Int}
theorem toN_lt {a b : Int} (h : a < b) (h0 : 0 < b) : a.toNat < b.toNat := (Int.toNat_lt_toNat h0).mpr h
theorem mid_of (h : lo < hi) : lo ≤ Int.fdiv (lo + hi) 2 ∧ Int.fdiv (lo + hi) 2 < hi := by
  rw [Int.fdiv_eq_ediv_of_nonneg _ (by decide)]
  exact ⟨Int.le_ediv_of_mul_le (by decide) (by rw [Int.mul_comm, Int.two_mul]; exact Int.add_le_add_left (Int.le_of_lt h) lo), Int.ediv_lt_of_lt_mul (by decide) (by rw [Int.mul_comm, Int.two_mul]; exact Int.add_lt_add_right h hi)⟩
theorem PJ.zero : PJ N uid 0 N := .mk (Int.le_refl _) (Int.natCast_nonneg _) (Int.le_refl _) (.inl rfl) (.inl rfl)
theorem PJ.mid (J : PJ N uid lo hi) (h : lo < hi) : 0 ≤ Int.fdiv (lo + hi) 2 ∧ Int.fdiv (lo + hi) 2 < N := by
  obtain ⟨a, b, c, d, e⟩ := J
  exact ⟨Int.le_trans a (mid_of h).1, Int.lt_of_lt_of_le (mid_of h).2 c⟩
theorem PJ.up (J : PJ N uid lo hi) (h : lo < hi) (hm : (((Int.fdiv (lo + hi) 2).toNat : Nat) : Int) + 1 < uid) : PJ N uid (Int.fdiv (lo + hi) 2 + 1) hi ∧ (hi - (Int.fdiv (lo + hi) 2 + 1)).toNat < (hi - lo).toNat := by
  obtain ⟨a, b, c, d, e⟩ := J
  have m := mid_of h
  have hM := Int.le_trans a m.1
  rw [Int.toNat_of_nonneg hM] at hm
  have hl := Int.lt_add_one_of_le m.1
  exact ⟨.mk (Int.le_trans a (Int.le_of_lt hl)) m.2 c (.inr hm) e, toN_lt (Int.sub_lt_sub_left hl hi) (Int.sub_pos_of_lt h)⟩
theorem PJ.down (J : PJ N uid lo hi) (h : lo < hi) (hm : ¬ ((((Int.fdiv (lo + hi) 2).toNat : Nat) : Int) + 1 < uid)) : PJ N uid lo (Int.fdiv (lo + hi) 2) ∧ (Int.fdiv (lo + hi) 2 - lo).toNat < (hi - lo).toNat := by
  obtain ⟨a, b, c, d, e⟩ := J
  have m := mid_of h
  rw [Int.toNat_of_nonneg (Int.le_trans a m.1)] at hm
  exact ⟨.mk a m.1 (Int.le_trans (Int.le_of_lt m.2) c) d (.inr (Int.not_lt.mp hm)), toN_lt (Int.sub_lt_sub_right m.2 lo) (Int.sub_pos_of_lt h)⟩
theorem PJ.low (J : PJ N uid lo hi) (h : lo < N) : 0 ≤ lo ∧ lo < N := by obtain ⟨a, b, c, d, e⟩ := J; exact ⟨a, h⟩
theorem PJ.yes (J : PJ N uid lo hi) (h : lo < N) (e : ((lo.toNat : Nat) : Int) + 1 = uid) : lo = if 1 ≤ uid ∧ uid ≤ N then uid - 1 else -1 := by
  obtain ⟨a, b, c, d, z⟩ := J
  rw [Int.toNat_of_nonneg a] at e
  rw [← e, if_pos ⟨Int.add_le_add_right a 1, h⟩]
  exact (Int.add_sub_cancel lo 1).symm
theorem PJ.no (J : PJ N uid lo hi) (h : ¬ lo < hi) (e : lo < N → ¬ (((lo.toNat : Nat) : Int) + 1 = uid)) : -1 = if 1 ≤ uid ∧ uid ≤ N then uid - 1 else -1 := by
  obtain ⟨a, b, c, d, z⟩ := J
  rw [if_neg]
  rintro ⟨h1, h2⟩
  obtain rfl := Int.le_antisymm b (Int.not_lt.mp h)
  have hu : lo < uid := d.elim (fun q => by rw [q]; exact h1) id
  have hN : lo < N := Int.lt_of_lt_of_le hu h2
  refine z.elim (fun q => absurd hN (by rw [q]; exact Int.lt_irrefl _)) fun q => e hN ?_
  rw [Int.toNat_of_nonneg a]
  exact Int.le_antisymm hu q
end
noncomputable def PLG (w : World) (dp : Nat) (un : Nat) (fr : Option (List Env)) (gd : Option (List Code)) (s : Shared) (mean : ExcName → Option Value) (mg : Str → Option Value) (mb : Str → Option Value) (E : Value → Shared → Prop) (H0 : Heap) (Q : Value → Shared → Prop) (ll : Addr) (las : List Addr) (uid : Int) (t : Tok) : Prop := ∀ (W : Wd w.params mean mg mb H0) (hs : H0.StaysIn s.heap) (hdp : dp + 1 < recursionLimit) (hun : un + 20 < cLine)
    (hll : s.heap.IsList ll (las.map Value.ref).toArray) (hlen : las.length ≤ 1000) (hu : ∀ (i : Nat) (a : Addr), las[i]? = some a → ∃ t, Fld s.heap a 113 "uid" (.int ((i : Int) + 1) t))
    (ret : ∀ r t' h' tk', s.heap.StaysIn h' → r = (if 1 ≤ uid ∧ uid ≤ las.length then uid - 1 else -1) → Q (.int r t') { s with heap := h', toks := tk' }),
    wpAny (model PySem.Challenge.rw_no0367_01.row.prog w) (Ar dp un fr gd) (call (.ref 162) [.ref ll, .int uid t]) Q E s
noncomputable abbrev PLK : Type _ := (World) × (Nat) × (Nat) × (Option (List Env)) × (Option (List Code)) × (Shared) × (ExcName → Option Value) × (Str → Option Value) × (Str → Option Value) × (Value → Shared → Prop) × (Heap) × (Value → Shared → Prop) × (Addr) × (List Addr) × (Int) × (Tok)
noncomputable def PLP (k : PLK) : Prop := PLG (k.1) (k.2.1) (k.2.2.1) (k.2.2.2.1) (k.2.2.2.2.1) (k.2.2.2.2.2.1) (k.2.2.2.2.2.2.1) (k.2.2.2.2.2.2.2.1) (k.2.2.2.2.2.2.2.2.1) (k.2.2.2.2.2.2.2.2.2.1) (k.2.2.2.2.2.2.2.2.2.2.1) (k.2.2.2.2.2.2.2.2.2.2.2.1) (k.2.2.2.2.2.2.2.2.2.2.2.2.1) (k.2.2.2.2.2.2.2.2.2.2.2.2.2.1) (k.2.2.2.2.2.2.2.2.2.2.2.2.2.2.1) (k.2.2.2.2.2.2.2.2.2.2.2.2.2.2.2)
theorem PLne : Nonempty PLK := ⟨((wd0 : World), (0 : Nat), (0 : Nat), (none : Option (List Env)), (none : Option (List Code)), ({} : Shared), (fun _ => none : ExcName → Option Value), (fun _ => none : Str → Option Value), (fun _ => none : Str → Option Value), (fun _ _ => True : Value → Shared → Prop), ({} : Heap), (fun _ _ => True : Value → Shared → Prop), (0 : Addr), ([] : List Addr), (0 : Int), (0 : Tok))⟩
@[irreducible] noncomputable def PLk : PLK := @Classical.epsilon _ PLne fun k => ¬ PLP k
theorem PLc.pf : PLP PLk := by
  refine (?m : ∀ (w : World) (dp : Nat) (un : Nat) (fr : Option (List Env)) (gd : Option (List Code)) (s : Shared) (mean : ExcName → Option Value) (mg : Str → Option Value) (mb : Str → Option Value) (E : Value → Shared → Prop) (H0 : Heap) (Q : Value → Shared → Prop) (ll : Addr) (las : List Addr) (uid : Int) (t : Tok), ∀ (W : Wd w.params mean mg mb H0) (hs : H0.StaysIn s.heap) (hdp : dp + 1 < recursionLimit) (hun : un + 20 < cLine)
    (hll : s.heap.IsList ll (las.map Value.ref).toArray) (hlen : las.length ≤ 1000) (hu : ∀ (i : Nat) (a : Addr), las[i]? = some a → ∃ t, Fld s.heap a 113 "uid" (.int ((i : Int) + 1) t))
    (ret : ∀ r t' h' tk', s.heap.StaysIn h' → r = (if 1 ≤ uid ∧ uid ≤ las.length then uid - 1 else -1) → Q (.int r t') { s with heap := h', toks := tk' }),
    wpAny (model PySem.Challenge.rw_no0367_01.row.prog w) (Ar dp un fr gd) (call (.ref 162) [.ref ll, .int uid t]) Q E s) (PLk.1) (PLk.2.1) (PLk.2.2.1) (PLk.2.2.2.1) (PLk.2.2.2.2.1) (PLk.2.2.2.2.2.1) (PLk.2.2.2.2.2.2.1) (PLk.2.2.2.2.2.2.2.1) (PLk.2.2.2.2.2.2.2.2.1) (PLk.2.2.2.2.2.2.2.2.2.1) (PLk.2.2.2.2.2.2.2.2.2.2.1) (PLk.2.2.2.2.2.2.2.2.2.2.2.1) (PLk.2.2.2.2.2.2.2.2.2.2.2.2.1) (PLk.2.2.2.2.2.2.2.2.2.2.2.2.2.1) (PLk.2.2.2.2.2.2.2.2.2.2.2.2.2.2.1) (PLk.2.2.2.2.2.2.2.2.2.2.2.2.2.2.2)
  intro w dp un fr gd s mean mg mb E H0 Q ll las uid t
  intro W hs hdp hun hll hlen hu ret
  refine' enter (H0 := H0) (mean := mean) (mg := mg) (mb := mb) (binds := [("letters", .ref ll), ("uid", .int uid t)]) W hs [] (fun _ h => nomatch h) (by show dp < recursionLimit; first | exact room0 (by assumption) | omega) ?ho ?hcd ?hbind ?hloc ?_ ?hcell ?hco ?hgen ?hk
  (case ho => k_is); (case hcd => k_is); (case hbind => exact BindsTo.of_eq rfl); (case hloc => exact locs rfl); (case hcell => decide); (case hco => exact rfl); (case hgen => exact rfl); (case hk => exact rfl)
  intro g L' h₁ hg hst F N X T
  simp only [List.map_nil, hideAll] at hg
  subst hg
  clear hst
  revert F N
  revert L' h₁
  refine @eps2 _ _ ⟨((0 : Addr), ({} : Heap))⟩ ?P1 ((?close1 : ∀ a0 a1, ?P1 a0 a1) _ _ )
  intro L' h₁ F N
  dsimp only [List.reverse, List.reverseAux] at F
  try k_fold
  k_extra "MINE steps"
  rename Fr _ _ _ _ => F1
  rename News _ _ _ _ => N1
  refine While_inv (fun n m _ => PW las.length ll uid t n m) F1 N1 (.mk 0 las.length _ _ rfl rfl rfl rfl .zero rfl) ?_ .never
  clear F1 N1
  rintro n m₁ news₁ h₂ tk₁ F₁ N₁ ⟨lo, hi, tl, th, m1, m2, m3, m4, J, rfl⟩
  k_extra "MINE steps"
  · obtain ⟨t', hf⟩ := hu _ _ (by assumption)
    k_extra "MINE steps"
    · rename Fr _ _ _ _ => FF
      rename News _ _ _ _ => NN
      have J' := J.up (by assumption) (by assumption)
      exact WhileStep.intro FF NN (n' := (hi - (Int.fdiv (lo + hi) 2 + 1)).toNat) J'.2 (.mk _ _ _ _ rfl m2 m3 m4 J'.1 rfl)
    · rename Fr _ _ _ _ => FF
      rename News _ _ _ _ => NN
      have J' := J.down (by assumption) (by assumption)
      exact WhileStep.intro FF NN (n' := (Int.fdiv (lo + hi) 2 - lo).toNat) J'.2 (.mk _ _ _ _ m1 rfl m3 m4 J'.1 rfl)
  · obtain ⟨t', hf⟩ := hu _ _ (by assumption)
    k_extra "MINE steps"
    · dsimp only
      exact ret _ _ _ _ F₁.keep (J.yes (by assumption) (by assumption))
    · dsimp only
      exact ret _ _ _ _ F₁.keep (J.no (by assumption) fun _ => by assumption)
  · dsimp only
    exact ret _ _ _ _ F₁.keep (J.no (by assumption) fun z => absurd z (by assumption))
theorem place_of_spec {w : World} {dp : Nat} {un : Nat} {fr : Option (List Env)} {gd : Option (List Code)} {s : Shared} {mean : ExcName → Option Value} {mg : Str → Option Value} {mb : Str → Option Value} {E : Value → Shared → Prop} {H0 : Heap} {Q : Value → Shared → Prop} {ll : Addr} {las : List Addr} {uid : Int} {t : Tok} : ∀ (W : Wd w.params mean mg mb H0) (hs : H0.StaysIn s.heap) (hdp : dp + 1 < recursionLimit) (hun : un + 20 < cLine)
    (hll : s.heap.IsList ll (las.map Value.ref).toArray) (hlen : las.length ≤ 1000) (hu : ∀ (i : Nat) (a : Addr), las[i]? = some a → ∃ t, Fld s.heap a 113 "uid" (.int ((i : Int) + 1) t))
    (ret : ∀ r t' h' tk', s.heap.StaysIn h' → r = (if 1 ≤ uid ∧ uid ≤ las.length then uid - 1 else -1) → Q (.int r t') { s with heap := h', toks := tk' }),
    wpAny (model PySem.Challenge.rw_no0367_01.row.prog w) (Ar dp un fr gd) (call (.ref 162) [.ref ll, .int uid t]) Q E s :=
  eps_all (P := PLP) PLne (by with_unfolding_all exact PLc.pf) (w, dp, un, fr, gd, s, mean, mg, mb, E, H0, Q, ll, las, uid, t)


abbrev cSeen : Str := ⟨#[92, 83, 101, 101, 110]⟩
abbrev cAns : Str := ⟨#[92, 65, 110, 115, 119, 101, 114, 101, 100]⟩
abbrev cFlag : Str := ⟨#[92, 70, 108, 97, 103, 103, 101, 100]⟩
abbrev cDel : Str := ⟨#[92, 68, 101, 108, 101, 116, 101, 100]⟩
abbrev cDraft : Str := ⟨#[92, 68, 114, 97, 102, 116]⟩
abbrev cWork : Str := ⟨#[119, 111, 114, 107]⟩
theorem stays_fr {H0 g h : Heap} {L : Addr} {m : Str → Option Value} (a : H0.StaysIn g) (F : Fr g L h m) : H0.StaysIn h := fun b o e => F.keep b o (a b o e)

section
variable {w : World} {dp un : Nat} {fr : Option (List Env)} {gd : Option (List Code)} {E : Value → Shared → Prop} {s : Shared} {H0 : Heap} {mean : ExcName → Option Value} {mg mb : Str → Option Value} {Q : Value → Shared → Prop}
theorem system_flags_spec (W : Wd w.params mean mg mb H0) (hs : H0.StaysIn s.heap) (hdp : dp + 1 < recursionLimit)
    (ret : ∀ r t1 t2 t3 t4 t5 n h' tk', s.heap.StaysIn h' → s.heap.get? r = none → h'.get? r = some (listOf #[.str cSeen t1, .str cAns t2, .str cFlag t3, .str cDel t4, .str cDraft t5] n) → Q (.ref r) { s with heap := h', toks := tk' }) :
    wpAny (model PySem.Challenge.rw_no0367_01.row.prog w) (Ar dp un fr gd) (call (.ref 61) []) Q E s := by
  refine' enter (H0 := H0) (mean := mean) (mg := mg) (mb := mb) (binds := []) W hs [] (fun _ h => nomatch h) (by show dp < recursionLimit; first | exact room0 (by assumption) | omega) ?ho ?hcd ?hbind ?hloc ?_ ?hcell ?hco ?hgen ?hk
  (case ho => k_is); (case hcd => k_is); (case hbind => exact BindsTo.of_eq rfl); (case hloc => exact locs rfl); (case hcell => decide); (case hco => exact rfl); (case hgen => exact rfl); (case hk => exact rfl)
  intro g L' h₁ hg hst F N X T
  simp only [List.map_nil, hideAll] at hg
  subst hg
  clear hst
  dsimp only [List.reverse, List.reverseAux] at F
  try k_fold
  k_extra "MINE steps"
  rename Fr _ _ _ _ => F9
  rename News _ _ _ _ => N9
  exact ret _ _ _ _ _ _ _ _ _ F9.keep (N9 _ (.head _)).2.2 (N9 _ (.head _)).1
end

theorem Fr.grow {g h h' : Heap} {L : Addr} {m : Str → Option Value} (F : Fr g L h m) (k : h.StaysIn h') : Fr g L h' m := ⟨F.ns.keeps k, fun b o e => k b o (F.keep b o e), F.above⟩
theorem News.grow {g h h' : Heap} {L : Addr} {news : List (Addr × Obj)} (N : News g L h news) (k : h.StaysIn h') : News g L h' news := fun p hp => ⟨k _ _ (N p hp).1, (N p hp).2⟩
theorem Fr.fresh {g h : Heap} {L : Addr} {m : Str → Option Value} (F : Fr g L h m) {a : Addr} (e : h.get? a = none) : a ≠ L ∧ g.get? a = none := by
  obtain ⟨oL, _, _, hL, _⟩ := F.ns
  refine ⟨fun q => ?_, ?_⟩
  · rw [q, hL] at e; cases e
  · cases q : g.get? a with
    | none => rfl
    | some o => rw [F.keep _ _ q] at e; cases e
theorem News.add {g h h' : Heap} {L : Addr} {m : Str → Option Value} {news : List (Addr × Obj)} {a : Addr} {o : Obj} (F : Fr g L h m) (N : News g L h news) (k : h.StaysIn h') (e : h.get? a = none) (e' : h'.get? a = some o) : News g L h' ((a, o) :: news) := fun p hp => by
  rcases List.mem_cons.mp hp with rfl | hp
  · exact ⟨e', Fr.fresh F e⟩
  · exact News.grow N k p hp

theorem len_lit {prog : Program} {w : World} {A : Around} {E : Value → Shared → Prop} {s : Shared} {x : Str} {t : Tok} {n : Nat} {Q : Value → Shared → Prop} (e : x.length = n) (hn : n < 1000)
    (h : Q (.int n (s.toks + 1)) { s with toks := s.toks + 1 + 1 }) : wpAny (model prog w) A (call (.builtin "len") [.str x t]) Q E s :=
  len_str (Int.not_le.mpr (pw_lt (e ▸ Nat.le_of_lt hn))) (by rw [e]; exact h)

example : True := by
  k_with "MINE grow1" => ((intro _ _ k9 e9 e9'; (rename Fr _ _ _ _ => F9); (rename News _ _ _ _ => N9); (have F' := Fr.grow F9 k9); (have N' := News.add F9 N9 k9 e9 e9'); clear F9 N9 k9 e9 e9'; (try dsimp only); (try (revert F' N'; intros)); (try k_fold)))
  trivial
example : True := by
  k_with "MINE grow0" => ((intro _ _ k9; (rename Fr _ _ _ _ => F9); (rename News _ _ _ _ => N9); (have F' := Fr.grow F9 k9); (have N' := News.grow N9 k9); clear F9 N9 k9; (try dsimp only); (try (revert F' N'; intros)); (try k_fold)))
  trivial
example : True := by
  k_with "MINE stays" => (first | assumption | exact stays_fr (by assumption) (by assumption))
  trivial
example : True := by
  k_with "call ref" => ((k_here; (with_reducible show wpAny _ _ (call (Value.ref 61) _) _ _ _); k_dflt (refine' system_flags_spec (by first | (assumption) | fail) (by first | (k_extra "MINE stays") | fail) (by first | (k_extra "MINE room") | fail) ?_; k_whole); intro _ _ _ _ _ _ _; k_extra "MINE grow1"))
  trivial
example : True := by
  k_with "call builtin:len" => ((k_here; (with_reducible show wpAny _ _ (call (Value.builtin "len") [Value.str _ _]) _ _ _); k_dflt (refine' len_lit (by first | (exact rfl) | fail) (by first | (decide) | fail) ?_)))
  trivial

section
variable {prog : Program} {w : World} {A : Around} {E : Value → Shared → Prop} {s : Shared} {env : Env} {h₀ : Heap} {x : Str} {body : List Stmt} {Q : Flow → Shared → Prop} {I : Addr}
theorem str_rest {Ok : Str → Prop} (z : ∀ h tk m, Fr h₀ env.locals h m → Q .next { s with heap := h, toks := tk })
    (b : ∀ c, Ok c → ∀ (P : Flow → Shared → Prop) (u : Tok) (it : Obj) h tk (m : Str → Option Value), (∀ h' tk' m', Fr h₀ env.locals h' m' → News h₀ env.locals h' [(I, it)] → P .next { s with heap := h', toks := tk' }) → Fr h₀ env.locals h (fun y => if y = x then some (.str c u) else m y) → News h₀ env.locals h [(I, it)] →
      wpAny (model prog w) A (execs body env) P E { s with heap := h, toks := tk }) :
    ∀ (l : List Str), (∀ c ∈ l, Ok c) → ∀ m, StrRest prog w A E h₀ env x body Q s I l m []
  | [], _, m => fun h tk F _ => z h tk m F
  | c :: r, hl, m => fun u it h tk F N => b c (hl c (.head _)) _ u it h tk m (fun h' tk' m' F' N' => ⟨h', tk', m', [], rfl, F', N', (fun _ q => nomatch q), str_rest z b r (fun c q => hl c (.tail _ q)) m'⟩) F N
end
theorem sign_ok : ∀ k ∈ [119, 111, 114, 107], (32 : Int) < ((k : Nat) : Int) ∧ ((k : Nat) : Int) < 127 ∧ (PySem.Builtin.Str.occurrences (Str.ofString "(){ %*\"\\]") ⟨#[k]⟩ 0 (Str.ofString "(){ %*\"\\]").length 1).isEmpty = true := by decide +kernel
noncomputable def IKG (w : World) (dp : Nat) (un : Nat) (fr : Option (List Env)) (gd : Option (List Code)) (s : Shared) (mean : ExcName → Option Value) (mg : Str → Option Value) (mb : Str → Option Value) (E : Value → Shared → Prop) (H0 : Heap) (Q : Value → Shared → Prop) (t : Tok) : Prop := ∀ (W : Wd w.params mean mg mb H0) (hs : H0.StaysIn s.heap) (hdp : dp + 2 < recursionLimit) (hun : un + 20 < cLine) (ret : ∀ h' tk', s.heap.StaysIn h' → Q (.bool true) { s with heap := h', toks := tk' }),
    wpAny (model PySem.Challenge.rw_no0367_01.row.prog w) (Ar dp un fr gd) (call (.ref 68) [.str cWork t]) Q E s
noncomputable abbrev IKK : Type _ := (World) × (Nat) × (Nat) × (Option (List Env)) × (Option (List Code)) × (Shared) × (ExcName → Option Value) × (Str → Option Value) × (Str → Option Value) × (Value → Shared → Prop) × (Heap) × (Value → Shared → Prop) × (Tok)
noncomputable def IKP (k : IKK) : Prop := IKG (k.1) (k.2.1) (k.2.2.1) (k.2.2.2.1) (k.2.2.2.2.1) (k.2.2.2.2.2.1) (k.2.2.2.2.2.2.1) (k.2.2.2.2.2.2.2.1) (k.2.2.2.2.2.2.2.2.1) (k.2.2.2.2.2.2.2.2.2.1) (k.2.2.2.2.2.2.2.2.2.2.1) (k.2.2.2.2.2.2.2.2.2.2.2.1) (k.2.2.2.2.2.2.2.2.2.2.2.2)
theorem IKne : Nonempty IKK := ⟨((wd0 : World), (0 : Nat), (0 : Nat), (none : Option (List Env)), (none : Option (List Code)), ({} : Shared), (fun _ => none : ExcName → Option Value), (fun _ => none : Str → Option Value), (fun _ => none : Str → Option Value), (fun _ _ => True : Value → Shared → Prop), ({} : Heap), (fun _ _ => True : Value → Shared → Prop), (0 : Tok))⟩
@[irreducible] noncomputable def IKk : IKK := @Classical.epsilon _ IKne fun k => ¬ IKP k
theorem IKc.pf : IKP IKk := by
  refine (?m : ∀ (w : World) (dp : Nat) (un : Nat) (fr : Option (List Env)) (gd : Option (List Code)) (s : Shared) (mean : ExcName → Option Value) (mg : Str → Option Value) (mb : Str → Option Value) (E : Value → Shared → Prop) (H0 : Heap) (Q : Value → Shared → Prop) (t : Tok), ∀ (W : Wd w.params mean mg mb H0) (hs : H0.StaysIn s.heap) (hdp : dp + 2 < recursionLimit) (hun : un + 20 < cLine) (ret : ∀ h' tk', s.heap.StaysIn h' → Q (.bool true) { s with heap := h', toks := tk' }),
    wpAny (model PySem.Challenge.rw_no0367_01.row.prog w) (Ar dp un fr gd) (call (.ref 68) [.str cWork t]) Q E s) (IKk.1) (IKk.2.1) (IKk.2.2.1) (IKk.2.2.2.1) (IKk.2.2.2.2.1) (IKk.2.2.2.2.2.1) (IKk.2.2.2.2.2.2.1) (IKk.2.2.2.2.2.2.2.1) (IKk.2.2.2.2.2.2.2.2.1) (IKk.2.2.2.2.2.2.2.2.2.1) (IKk.2.2.2.2.2.2.2.2.2.2.1) (IKk.2.2.2.2.2.2.2.2.2.2.2.1) (IKk.2.2.2.2.2.2.2.2.2.2.2.2)
  intro w dp un fr gd s mean mg mb E H0 Q t
  intro W hs hdp hun ret
  refine' enter (H0 := H0) (mean := mean) (mg := mg) (mb := mb) (binds := [("text", .str cWork t)]) W hs [] (fun _ h => nomatch h) (by show dp < recursionLimit; first | exact room0 (by assumption) | omega) ?ho ?hcd ?hbind ?hloc ?_ ?hcell ?hco ?hgen ?hk
  (case ho => k_is); (case hcd => k_is); (case hbind => exact BindsTo.of_eq rfl); (case hloc => exact locs rfl); (case hcell => decide); (case hco => exact rfl); (case hgen => exact rfl); (case hk => exact rfl)
  intro g L' h₁ hg hst F N X T
  simp only [List.map_nil, hideAll] at hg
  subst hg
  dsimp only [List.reverse, List.reverseAux] at F
  clear hst
  revert F N
  revert L' h₁
  refine @eps2 _ _ ⟨((0 : Addr), ({} : Heap))⟩ ?P2 ((?close2 : ∀ a0 a1, ?P2 a0 a1) _ _ )
  intro L' h₁ F N
  try k_fold
  k_extra "MINE steps"
  refine For_invVF F rfl rfl ?_
  walk1
  refine iter_strUnr (l := [119, 111, 114, 107].map fun c => ⟨#[c]⟩) rfl (by assumption) (by assumption) rfl ?_
  intro I _
  refine str_rest (Ok := fun c => ∃ k, c = ⟨#[k]⟩ ∧ k ∈ [119, 111, 114, 107]) ?_ ?_ _ (fun c hc => (List.mem_map.mp hc).imp fun k h => ⟨h.2.symm, h.1⟩) _
  · intro h tk m F
    k_extra "MINE steps"
    exact ret _ _ F.keep
  · intro c hc P u it h tk m next F N
    obtain ⟨k, rfl, hk⟩ := hc
    obtain ⟨q1, q2, q3⟩ := sign_ok k hk
    k_extra "MINE steps"
    exact next _ _ _ (by assumption) (by assumption)
theorem is_keyword_spec {w : World} {dp : Nat} {un : Nat} {fr : Option (List Env)} {gd : Option (List Code)} {s : Shared} {mean : ExcName → Option Value} {mg : Str → Option Value} {mb : Str → Option Value} {E : Value → Shared → Prop} {H0 : Heap} {Q : Value → Shared → Prop} {t : Tok} : ∀ (W : Wd w.params mean mg mb H0) (hs : H0.StaysIn s.heap) (hdp : dp + 2 < recursionLimit) (hun : un + 20 < cLine) (ret : ∀ h' tk', s.heap.StaysIn h' → Q (.bool true) { s with heap := h', toks := tk' }),
    wpAny (model PySem.Challenge.rw_no0367_01.row.prog w) (Ar dp un fr gd) (call (.ref 68) [.str cWork t]) Q E s :=
  eps_all (P := IKP) IKne (by with_unfolding_all exact IKc.pf) (w, dp, un, fr, gd, s, mean, mg, mb, E, H0, Q, t)
/-- the five names -/
def UNI : List Str := [cAns, cDel, cFlag, cSeen, cWork]


theorem News.sub {g h : Heap} {L : Addr} {news news' : List (Addr × Obj)} (N : News g L h news) (hs : ∀ p ∈ news', p ∈ news) : News g L h news' := fun p hp => N p (hs p hp)
theorem News.up {g h h' : Heap} {L : Addr} {news : List (Addr × Obj)} (N : News g L h news) (k : ∀ p ∈ news, h.get? p.1 = some p.2 → h'.get? p.1 = some p.2) : News g L h' news := fun p hp => ⟨k p hp (N p hp).1, (N p hp).2⟩
theorem get_size (h : Heap) : h.get? h.objs.size = none := by
  cases q : h.get? h.objs.size with
  | none => rfl
  | some o => exact absurd (Heap.lt_size q) (Nat.lt_irrefl _)
theorem live_list {h : Heap} : ∀ (fa : List Addr), (∀ b ∈ fa, ∃ o, h.get? b = some o) → ∃ its : List (Addr × Obj), its.map (·.1) = fa ∧ ∀ p ∈ its, h.get? p.1 = some p.2
  | [], _ => ⟨[], rfl, fun _ hp => nomatch hp⟩
  | b :: r, hl => by
    obtain ⟨o, ho⟩ := hl b (.head _)
    obtain ⟨its, h1, h2⟩ := live_list r fun c hc => hl c (.tail _ hc)
    exact ⟨(b, o) :: its, by rw [List.map_cons, h1], fun p hp => by rcases List.mem_cons.mp hp with rfl | hp; exact ho; exact h2 p hp⟩

/-- the iterator's next item, and what the loop's head does with it -/
noncomputable def Nxt (prog : Program) (w : World) (A : Around) (target : Expr) (I : Addr) (Q : Value → Shared → Prop) (D : Shared → Prop) (E : Value → Shared → Prop) (s : Shared) : Prop :=
  wpAny (model prog w) A (pyNext (.ref I)) (fun r s₁ => match r with | none => D s₁ | some v => wpAny (model prog w) A (letOwnedTupleGo target (.ref I) v) (fun _ s₂ => Q v s₂) E s₁) E s
/-- all but the objects at fa stays -/
noncomputable abbrev Grew (fa : List Addr) (h h' : Heap) : Prop := ∀ b o, b ∉ fa → h.get? b = some o → h'.get? b = some o
/-- an iterator: its own objects lie at fa; Ok is what holds of its source at each turn's start -/
structure Itr (prog : Program) (w : World) (A : Around) (target : Expr) (Ok : Nat → Heap → Prop) (I : Addr) (fa : List Addr) (n : Nat) (P : Nat → Value → Heap → Prop) (St : Nat → Heap → Prop) : Prop where
  frame : ∀ i h h', St i h → (∀ b ∈ fa, ∀ o, h.get? b = some o → h'.get? b = some o) → St i h'
  live : ∀ i h, St i h → ∀ b ∈ fa, ∃ o, h.get? b = some o
  item : ∀ i (s : Shared) (Q : Value → Shared → Prop) (D : Shared → Prop) (E : Value → Shared → Prop), i < n → St i s.heap → Ok i s.heap →
    (∀ v h' tk', P i v h' → St (i + 1) h' → Grew fa s.heap h' → Q v { s with heap := h', toks := tk' }) → Nxt prog w A target I Q D E s
  done : ∀ (s : Shared) (Q : Value → Shared → Prop) (D : Shared → Prop) (E : Value → Shared → Prop), St n s.heap → Ok n s.heap →
    (∀ h' tk', Grew fa s.heap h' → D { s with heap := h', toks := tk' }) → Nxt prog w A target I Q D E s
  self : ∀ i (s : Shared) (Q : Value → Shared → Prop) (E : Value → Shared → Prop), St i s.heap → Q (.ref I) s → wpAny (model prog w) A (pyIter (.ref I)) Q E s
/-- the list at l has n items; the one in turn gives P -/
inductive LOk (l : Addr) (n i : Nat) (P : Value → Heap → Prop) (h : Heap) : Prop
  | mk (items : Array Value) : h.IsList l items → items.size = n → (∀ v h', items[i]? = some v → h'.IsList l items → P v h') → LOk l n i P h

section
variable {prog : Program} {w : World} {A : Around} {n : Nat} {Ok : Nat → Heap → Prop} {P : Nat → Value → Heap → Prop}
theorem two_of {α : Type} {l : List α} (h : l.length = 2) : ∃ a b, l = [a, b] := match l, h with | [a, b], _ => ⟨a, b, rfl⟩
theorem off1 {I b : Addr} (hb : b ∉ [I]) : b ≠ I := fun q => hb (q ▸ .head _)
theorem apart_iter {h : Heap} {l I k : Addr} {items : Array Value} {i : Nat} (hl : h.IsList l items) (st : h.IsListIter I k i) : l ≠ I := by
  obtain ⟨o, ho, hc, _⟩ := hl
  obtain ⟨o', ho', hc', _⟩ := st
  rintro rfl
  cases ho.symm.trans ho'
  exact absurd (hc.symm.trans hc') (by decide)
theorem has_item {items : Array Value} {i : Nat} (h : i < items.size) : ∃ v, items[i]? = some v := ⟨_, Array.getElem?_eq_getElem h⟩
theorem no_item {items : Array Value} (h : items.size = n) : items[n]? = none := Array.getElem?_eq_none (Nat.le_of_eq h)
theorem Itr.list (hh : A.handled = none) (x : Str) (px : Pos) {I l : Addr} (hOk : ∀ i h, Ok i h → LOk l n i (P i) h) :
    Itr prog w A (.Name x px) Ok I [I] n P (fun i h => h.IsListIter I l i) where
  frame := fun i h h' st k => let ⟨o, ho, r⟩ := st; ⟨o, k _ (.head _) o ho, r⟩
  live := fun i h st b hb => by obtain ⟨o, ho, _⟩ := st; rw [List.mem_singleton.mp hb]; exact ⟨o, ho⟩
  item := fun i s Q D E hi st k hQ => by
    obtain ⟨items, hl, hz, hp⟩ := hOk i _ k
    obtain ⟨v, hv⟩ := has_item (hz ▸ hi)
    exact wpAny_pyNext_list_item st hl hv fun h' hit' hs' => wpAny_pure (hQ _ h' s.toks (hp _ _ hv (hl.extBut hs'.extBut (apart_iter hl st))) hit' fun b o hb e => hs'.extBut b o (off1 hb) e)
  done := fun s Q D E st k hD => by
    obtain ⟨items, hl, hz, hp⟩ := hOk n _ k
    exact wpAny_pyNext_list_end hh st hl (no_item hz) fun h' he' => hD h' s.toks fun b o hb e => he' b o (off1 hb) e
  self := fun _ _ _ _ st hQ => wpAny_pyIter_listiter st hQ
theorem Itr.tup (hh : A.handled = none) (x : Str) (px : Pos) {I l : Addr} {items : Array Value} (hOk : ∀ i h, Ok i h → IsTup h l items ∧ ∀ v h', items[i]? = some v → P i v h') :
    Itr prog w A (.Name x px) Ok I [I] items.size P (fun i h => h.IsTupleIter I l i) where
  frame := fun i h h' st k => let ⟨o, ho, r⟩ := st; ⟨o, k _ (.head _) o ho, r⟩
  live := fun i h st b hb => by obtain ⟨o, ho, _⟩ := st; rw [List.mem_singleton.mp hb]; exact ⟨o, ho⟩
  item := fun i s Q D E hi st k hQ => by
    obtain ⟨hl, hp⟩ := hOk i _ k
    obtain ⟨v, hv⟩ := has_item hi
    exact wpAny_pyNext_tuple_item st hl hv fun h' hit' hs' => wpAny_pure (hQ _ h' s.toks (hp _ _ hv) hit' fun b o hb e => hs'.extBut b o (off1 hb) e)
  done := fun s Q D E st k hD => wpAny_pyNext_tuple_end hh st (hOk _ _ k).1 (no_item rfl) fun h' he' => hD h' s.toks fun b o hb e => he' b o (off1 hb) e
  self := fun _ s Q E st hQ => by
    refine wpAny_pyIter_slot st.typeIs F.slot_tuple_iterator_iter (wpAny_call_entry F.slot_tuple_iterator_iter st.typeIs F.entry_tuple_iterator_iter ?_ (F.args_tuple_iterator_iter_1 _))
    exact wpAny_pure ⟨_, rfl, "tuple_iterator", _, st.typeIs, F.slot_tuple_iterator_next.lookup, hQ⟩
theorem sub_step {n i : Nat} (h : i < n) : 0 < (((n - i : Nat) : Int)) ∧ (((n - i : Nat) : Int) - 1) = ((n - (i + 1) : Nat) : Int) := by
  obtain ⟨k, hk⟩ := Nat.exists_eq_succ_of_ne_zero (Nat.ne_of_gt (Nat.sub_pos_of_lt h))
  rw [← Nat.sub_sub, hk]
  exact ⟨Int.ofNat_lt.mpr (Nat.succ_pos k), Int.add_sub_cancel (k : Int) 1⟩
theorem Itr.range (hh : A.handled = none) (x : Str) (px : Pos) {I : Addr} (hP : ∀ i t h', P i (.int (i : Int) t) h') :
    Itr prog w A (.Name x px) Ok I [I] n P (fun i h => IsRangeIter h I ((i : Nat) : Int) ((n - i : Nat) : Int) 1) where
  frame := fun i h h' st k => k _ (.head _) _ st
  live := fun i h st b hb => by rw [List.mem_singleton.mp hb]; exact ⟨_, st⟩
  item := fun i s Q D E hi st _ hQ => wpAny_pyNext_range_item st (sub_step hi).1 fun h' hit' hs' =>
    wpAny_pure (hQ _ h' _ (hP i _ _) (show IsRangeIter _ _ ((i : Int) + 1) _ _ from (sub_step hi).2 ▸ hit') fun b o hb e => hs'.extBut b o (off1 hb) e)
  done := fun s Q D E st _ hD => wpAny_pyNext_range_end hh st (by rw [Nat.sub_self]; exact Int.le_refl _) fun h' he' => hD h' s.toks fun b o hb e => he' b o (off1 hb) e
  self := fun _ s Q E st hQ => wpAny_pyIter_rangeiter st hQ
theorem off2 {e it b : Addr} (hb : b ∉ [e, it]) : b ≠ e ∧ b ≠ it := ⟨fun q => hb (q ▸ .head _), fun q => hb (q ▸ .tail _ (.head _))⟩
theorem apart_enum {h : Heap} {l e it : Addr} {k : Int} {old : Value} {items : Array Value} (hl : h.IsList l items) (st : IsEnum h e it k old) : l ≠ e := by
  obtain ⟨o, ho, hc, _⟩ := hl
  rintro rfl
  cases ho.symm.trans st
  exact absurd (Value.type.inj hc) (by decide)
/-- the tuple that enumerate gives -/
inductive EnP (i : Nat) (P : Value → Heap → Prop) (h : Heap) : Value → Prop
  | mk (x : Value) (t : Tok) (T : Addr) : P x h → h.IsTuple T #[.int (i : Int) t, x] → EnP i P h (.ref T)
theorem Itr.enum (hh : A.handled = none) (elts : List Expr) (x1 : Nat) (pt : Pos) {e it l : Addr} (hne : e ≠ it) (hOk : ∀ i h, Ok i h → LOk l n i (P i) h) :
    Itr prog w A (.Tuple elts x1 pt) Ok e [e, it] n (fun i v h => EnP i (P i) h v)
      (fun i h => (∃ old, IsEnum h e it ((i : Nat) : Int) old) ∧ h.IsListIter it l i) where
  frame := fun i h h' st k => ⟨let ⟨old, ho⟩ := st.1; ⟨old, k _ (.head _) _ ho⟩, let ⟨o, ho, r⟩ := st.2; ⟨o, k _ (.tail _ (.head _)) o ho, r⟩⟩
  live := fun i h st b hb => by
    rcases List.mem_cons.mp hb with rfl | hb
    · obtain ⟨_, ho⟩ := st.1; exact ⟨_, ho⟩
    · rw [List.mem_singleton.mp hb]; obtain ⟨o, ho, _⟩ := st.2; exact ⟨o, ho⟩
  item := fun i s Q D E hlt st k hQ => by
    obtain ⟨⟨old, he'⟩, hit'⟩ := st
    obtain ⟨items, hl, hz, hp⟩ := hOk i _ k
    obtain ⟨v, hv⟩ := has_item (hz ▸ hlt)
    have heH : e < s.heap.objs.size := Heap.lt_size he'
    refine wpAny_pyNext_enum_item he' hit' hl hv hne fun h₁ heo hit₁ ht₁ hz₁ hk₁ => wpAny_letOwnedTupleGo_enum heo fun h₂ he₂ hs₂ => ?_
    replace hs₂ : Heap.SameBut e h₁ h₂ := hs₂
    have up : Grew [e, it] s.heap h₂ := fun b o hb q => hs₂.extBut b o (off2 hb).1 (hk₁ b o (off2 hb).1 (off2 hb).2 q)
    obtain ⟨ol, hol, rl⟩ := id hl
    have hll : l ∉ [e, it] := fun q => (List.mem_cons.mp q).elim (apart_enum hl he') fun q => apart_iter hl hit' (List.mem_singleton.mp q)
    exact hQ _ h₂ _ ⟨v, s.toks, _, hp _ _ hv ⟨ol, up _ _ hll hol, rl⟩, ⟨_, (hs₂.2 _ (Nat.ne_of_gt heH)).trans ht₁, rfl, _, rfl⟩⟩ ⟨⟨v, he₂⟩, let ⟨o, ho, r⟩ := hit₁; ⟨o, (hs₂.2 _ (Ne.symm hne)).trans ho, r⟩⟩ up
  done := fun s Q D E st k hD => by
    obtain ⟨⟨old, he'⟩, hit'⟩ := st
    obtain ⟨items, hl, hz, hp⟩ := hOk n _ k
    exact wpAny_pyNext_enum_end hh he' hit' hl (no_item hz) fun h' he' => hD h' s.toks fun b o hb q => he' b o (off2 hb).2 q
  self := fun _ _ _ _ st hQ => by obtain ⟨⟨old, he'⟩, _⟩ := st; exact wpAny_pyIter_enum he' hQ
end

/-- what a loop or a comprehension runs over; k: how many objects its iterator has -/
inductive Src (h : Heap) : List Addr → Nat → Value → Expr → Nat → (Nat → Heap → Prop) → (Nat → Value → Heap → Prop) → Prop
  | list {l : Addr} {n : Nat} {Ok : Nat → Heap → Prop} {P : Nat → Value → Heap → Prop} {items : Array Value} (x : Str) (px : Pos) : h.IsList l items → (∀ i h, Ok i h → LOk l n i (P i) h) → Src h [] 1 (.ref l) (.Name x px) n Ok P
  | tup {l : Addr} {items : Array Value} {Ok : Nat → Heap → Prop} {P : Nat → Value → Heap → Prop} (x : Str) (px : Pos) : IsTup h l items → (∀ i h, Ok i h → IsTup h l items ∧ ∀ v h', items[i]? = some v → P i v h') → Src h [] 1 (.ref l) (.Name x px) items.size Ok P
  | range {r : Addr} {n : Nat} {a : Int} {t u v : Tok} {Ok : Nat → Heap → Prop} {P : Nat → Value → Heap → Prop} (x : Str) (px : Pos) : IsRange h r 0 a 1 t u v → a = n → n ≤ 1000 → (∀ i t h', P i (.int (i : Int) t) h') → Src h [] 1 (.ref r) (.Name x px) n Ok P
  | enum {e it l : Addr} {n : Nat} {Ok : Nat → Heap → Prop} {P : Nat → Value → Heap → Prop} (elts : List Expr) (x1 : Nat) (pt : Pos) : IsEnum h e it 0 .none → h.IsListIter it l 0 → e ≠ it → (∀ i h, Ok i h → LOk l n i (P i) h) →
      Src h [e, it] 2 (.ref e) (.Tuple elts x1 pt) n Ok (fun i v h => EnP i (P i) h v)

section
variable {prog : Program} {w : World} {A : Around} {E : Value → Shared → Prop} {env : Env}
theorem range_small {n : Nat} (hn : n ≤ 1000) : Builtin.Range.rangeSize 0 (n : Int) 1 = (n : Int) ∧ Builtin.Range.small 0 (n : Int) 1 = true := by
  have hsz : Builtin.Range.rangeSize 0 (n : Int) 1 = (n : Int) := by unfold Builtin.Range.rangeSize; simp; first | (intro e; rw [e]; rfl) | omega
  refine ⟨hsz, ?_⟩
  have e : ∀ k : Int, 0 ≤ k → k ≤ 2000 → Builtin.Range.rangeFitsLong k = true := fun k h1 h2 => by unfold Builtin.Range.rangeFitsLong; simp; first | exact ⟨Int.le_trans (by decide) h1, Int.lt_of_le_of_lt h2 (by decide)⟩ | omega
  have h2 : (n : Int) ≤ 2000 := Int.le_trans (Int.ofNat_le.mpr hn) (by decide)
  unfold Builtin.Range.small
  rw [hsz, e 0 (by decide) (by decide), e n (Int.natCast_nonneg _) h2, e 1 (by decide) (by decide)]
  simp only [Bool.true_and, Bool.and_true, gt_iff_lt, show (0:Int) < 1 from by decide, if_true, Int.sub_self, Int.add_zero, e n (Int.natCast_nonneg _) h2, Bool.or_true]
theorem fresh_push {h : Heap} {own : List Addr} : ∀ b ∈ [h.objs.size], h.get? b = none ∨ b ∈ own := fun b hb => .inl (by rw [List.mem_singleton.mp hb]; exact get_size _)
theorem src_iter {s : Shared} {own : List Addr} {k : Nat} {xv : Value} {target : Expr} {n : Nat} {Ok : Nat → Heap → Prop} {P : Nat → Value → Heap → Prop} {Q : Value → Shared → Prop} (hh : A.handled = none) (S : Src s.heap own k xv target n Ok P)
    (hQ : ∀ I fa St h₂, Itr prog w A target Ok I fa n P St → St 0 h₂ → s.heap.StaysIn h₂ → (∀ b ∈ fa, s.heap.get? b = none ∨ b ∈ own) → fa.length = k → Q (.ref I) { s with heap := h₂ }) :
    wpAny (model prog w) A (pyIter xv) Q E s := by
  cases S with
  | list x px hl hOk => exact wpAny_pyIter_list hl (hQ _ [s.heap.objs.size] _ _ (Itr.list hh x px hOk) ⟨_, Heap.get?_push_size _ rfl, rfl, rfl⟩ (fun b o e => Heap.get?_push_of_some _ e) fresh_push rfl)
  | tup x px hl hOk => exact wpAny_pyIter_tuple hl (hQ _ [s.heap.objs.size] _ _ (Itr.tup hh x px hOk) ⟨_, Heap.get?_push_size _ rfl, rfl, rfl⟩ (fun b o e => Heap.get?_push_of_some _ e) fresh_push rfl)
  | range x px hr ha hn hP =>
    subst ha
    refine wpAny_pyIter_range hr (range_small hn).2 ?_
    rw [(range_small hn).1]
    exact hQ _ [s.heap.objs.size] _ _ (Itr.range hh x px hP) (Heap.get?_push_size _ rfl) (fun b o e => Heap.get?_push_of_some _ e) fresh_push rfl
  | enum elts x1 pt he hit hne hOk =>
    exact wpAny_pyIter_enum he (hQ _ _ _ s.heap (Itr.enum hh elts x1 pt hne hOk) ⟨⟨_, he⟩, hit⟩ (fun _ _ q => q) (fun b hb => .inr hb) rfl)
end

/-- the end of a loop's turn that goes on -/
inductive TurnNext (g : Heap) (L : Addr) (J : (Str → Option Value) → List (Addr × Obj) → Prop) (its : List (Addr × Obj)) (s₀ : Shared) : Shared → Prop
  | mk (h' : Heap) (tk' : Nat) (m' : Str → Option Value) (news' : List (Addr × Obj)) : Fr g L h' m' → News g L h' (its ++ news') → (∀ p ∈ news', ∀ q ∈ its, p.1 ≠ q.1) → J m' news' → TurnNext g L J its s₀ { s₀ with heap := h', toks := tk' }
/-- the end of a loop's turn -/
noncomputable def TurnEnd (g : Heap) (L : Addr) (J : (Str → Option Value) → List (Addr × Obj) → Prop) (its : List (Addr × Obj)) (s₀ : Shared) (Q : Flow → Shared → Prop) (f : Flow) (s₃ : Shared) : Prop :=
  match f with
  | .ret v => Q (.ret v) s₃
  | .brk => Q .next s₃
  | _ => TurnNext g L J its s₀ s₃
section
variable {g : Heap} {L : Addr} {J : (Str → Option Value) → List (Addr × Obj) → Prop} {its : List (Addr × Obj)} {s₀ : Shared} {Q : Flow → Shared → Prop} {h' : Heap} {tk' : Nat} {m' : Str → Option Value} (news' : List (Addr × Obj))
  (F : Fr g L h' m') (N : News g L h' (its ++ news')) (ha : ∀ p ∈ news', ∀ q ∈ its, p.1 ≠ q.1) (hJ : J m' news')
include F N ha hJ
theorem TurnEnd.next : TurnEnd g L J its s₀ Q .next { s₀ with heap := h', toks := tk' } := .mk h' tk' m' news' F N ha hJ
theorem TurnEnd.cont : TurnEnd g L J its s₀ Q .cont { s₀ with heap := h', toks := tk' } := .mk h' tk' m' news' F N ha hJ
end
/-- between the turns -/
inductive ForI (g : Heap) (L : Addr) (fa : List Addr) (n : Nat) (J : Nat → (Str → Option Value) → List (Addr × Obj) → Prop) (St : Nat → Heap → Prop) (s : Shared) (k : Nat) : Shared → Prop
  | mk (h' : Heap) (tk : Nat) (m' : Str → Option Value) (news' : List (Addr × Obj)) (i : Nat) : St i h' → Fr g L h' m' → News g L h' news' → (∀ p ∈ news', p.1 ∉ fa) → J i m' news' → i ≤ n → k = n + 1 - i → ForI g L fa n J St s k { s with heap := h', toks := tk }
/-- what a loop's source must give -/
inductive ForAt (prog : Program) (w : World) (A : Around) (env : Env) (g : Heap) (target : Expr) (body : List Stmt) (s : Shared) (Q : Flow → Shared → Prop) (E : Value → Shared → Prop) (xv : Value) : Shared → Prop
  | mk (own : List Addr) (k n : Nat) (Ok : Nat → Heap → Prop) (P : Nat → Value → Heap → Prop) (m : Str → Option Value) (news : List (Addr × Obj)) (J : Nat → (Str → Option Value) → List (Addr × Obj) → Prop) (h₁ : Heap) (tk₁ : Nat) :
      Src h₁ own k xv target n Ok P → (∀ b ∈ own, g.get? b = none ∧ b ≠ env.locals ∧ ∀ p ∈ news, p.1 ≠ b) → Fr g env.locals h₁ m → News g env.locals h₁ news → J 0 m news →
      (∀ i m' news' h', i ≤ n → J i m' news' → Fr g env.locals h' m' → News g env.locals h' news' → Ok i h') →
      (∀ i v m₁ news₁ h₂ tk its, i < n → P i v h₂ → J i m₁ news₁ → its.length = k → (∀ p ∈ news₁, ∀ q ∈ its, p.1 ≠ q.1) → Fr g env.locals h₂ m₁ → News g env.locals h₂ (its ++ news₁) →
        wpAny (model prog w) A (assign target env v) (fun _ s₂ => wpAny (model prog w) A (execs body env) (TurnEnd g env.locals (J (i + 1)) its s Q) E s₂) E { s with heap := h₂, toks := tk }) →
      (∀ m' news' h' tk', Fr g env.locals h' m' → News g env.locals h' news' → J n m' news' → Q .next { s with heap := h', toks := tk' }) →
      ForAt prog w A env g target body s Q E xv { s with heap := h₁, toks := tk₁ }

section
variable {prog : Program} {w : World} {A : Around} {E : Value → Shared → Prop} {Q : Flow → Shared → Prop} {s : Shared} {env : Env} {g : Heap}
theorem For_it {h₀ : Heap} {tk₀ : Nat} {target iter : Expr} {body : List Stmt} {pos : Pos} (hh : A.handled = none) (h : wpAny (model prog w) A (eval iter env) (ForAt prog w A env g target body s Q E) E { s with heap := h₀, toks := tk₀ })
    (hs : ∀ x, foldedSetIterable iter env x = pure x) (hE : PassesOwn (model prog w) A env E) :
    wpAny (model prog w) A (exec (.For target iter body [] pos) env) Q E { s with heap := h₀, toks := tk₀ } := by
  refine wpAny_For (wpAny_mono h (fun xv s₁ h₁ => ?_) fun _ _ e => e) hs
  obtain ⟨own, k, n, Ok, P, m, news, J, H, tk₁, S, ho, F, N, j0, hok, turn, done⟩ := h₁
  refine src_iter hh S fun I fa St h₂ K st kp hfa hk => ?_
  have hg0 : ∀ b o, g.get? b = some o → b ∉ fa := fun b o e q => (hfa b q).elim (fun z => by rw [(Fr.fresh F z).2] at e; cases e) fun z => by rw [(ho b z).1] at e; cases e
  have hL : env.locals ∉ fa := fun q => (hfa _ q).elim (fun e => (Fr.fresh F e).1 rfl) fun q => (ho _ q).2.1 rfl
  have hnews : ∀ p ∈ news, p.1 ∉ fa := fun p hp q => (hfa _ q).elim (fun e => by rw [(N p hp).1] at e; cases e) fun q => (ho _ q).2.2 p hp rfl
  refine codeAny_forLoop_any (R := fun r s' => match r with | .ok f => Q f s' | .error e => cameBackBy (model prog w) A env E e s') (ForI g env.locals fa n J St s) ?_ (n + 1)
    (.mk h₂ tk₁ m news 0 st (Fr.grow F kp) (News.grow N kp) hnews j0 (Nat.zero_le _) rfl)
  rintro k' s' ⟨h', tk, m', news', i, st', F', N', ha', hJ, hi, rfl⟩
  have ok := hok i m' news' h' hi hJ F' N'
  have next : ∀ h₃ : Heap, Grew fa h' h₃ → Fr g env.locals h₃ m' ∧ News g env.locals h₃ news' := fun h₃ k₃ =>
    ⟨⟨F'.ns.at' fun o q => k₃ _ o hL q, fun b o q => k₃ b o (hg0 b o q) (F'.keep b o q), F'.above⟩, fun p hp => ⟨k₃ _ _ (ha' p hp) (N' p hp).1, (N' p hp).2⟩⟩
  rcases Nat.lt_or_ge i n with hlt | hge
  · refine wpAny_mono (K.item i _ _ _ _ hlt st' ok ?_) (fun r s₁ h => by cases r <;> exact h) fun _ _ x => x
    intro v h₃ tk₃ hP st₃ k₃
    obtain ⟨F₃, N₃⟩ := next h₃ k₃
    obtain ⟨its, rfl, hito⟩ := live_list fa (K.live _ _ st₃)
    have hitf : ∀ p ∈ its, p.1 ∈ its.map (·.1) := fun p hp => List.mem_map_of_mem hp
    have dis : ∀ p ∈ news', ∀ q ∈ its, p.1 ≠ q.1 := fun p hp q hq z => ha' p hp (z ▸ hitf q hq)
    have NN : News g env.locals h₃ (its ++ news') := fun p hp => (List.mem_append.mp hp).elim (fun q => ⟨hito p q, fun z => hL (z ▸ hitf p q), by
      cases e : g.get? p.1 with
      | none => rfl
      | some o => exact absurd (hitf p q) (hg0 _ o e)⟩) (N₃ p)
    refine wpAny_mono (wpAny_passesOwn hE (turn i v m' news' h₃ tk₃ its hlt hP hJ (by simpa using hk) dis F₃ NN)) (fun _ s₅ h₅ => wpAny_mono (wpAny_passesOwn hE h₅) (fun f s₆ h₆ => ?_) fun _ _ e => e) fun _ _ e => e
    have fin : TurnNext g env.locals (J (i + 1)) its s s₆ → ∃ m, m < n + 1 - i ∧ ForI g env.locals (its.map (·.1)) n J St s m s₆ := by
      rintro ⟨h₇, tk₇, m₇, news₇, F₇, N₇, ha₇, hJ₇⟩
      refine ⟨n + 1 - (i + 1), Nat.sub_lt_sub_left (Nat.lt_succ_of_le hi) (Nat.lt_succ_self i), .mk h₇ tk₇ m₇ news₇ (i + 1) (K.frame _ _ _ st₃ fun b hb o q => ?_) F₇ (News.sub N₇ fun p hp => List.mem_append_right _ hp) (fun p hp q => ?_) hJ₇ hlt rfl⟩
      · obtain ⟨p, hp, rfl⟩ := List.mem_map.mp hb
        exact Option.some.inj ((hito p hp).symm.trans q) ▸ (N₇ p (List.mem_append_left _ hp)).1
      · obtain ⟨q', hq', e⟩ := List.mem_map.mp q
        exact ha₇ p hp q' hq' e.symm
    cases f with
    | ret v => exact h₆
    | brk => exact h₆
    | next => exact fin h₆
    | cont => exact fin h₆
  · obtain rfl : i = n := Nat.le_antisymm hi hge
    refine wpAny_mono (K.done _ (fun _ _ => False) _ _ st' ok fun h₃ tk₃ k₃ => ?_) (fun r s₁ h => by
      cases r with
      | none => exact h
      | some v => exact wpAny_mono h (fun _ _ x => x.elim) fun _ _ x => x) fun _ _ x => x
    obtain ⟨F₃, N₃⟩ := next h₃ k₃
    exact wpAny_execs_nil (done m' news' h₃ tk₃ F₃ N₃ hJ)

section
variable {xv : Value} {s₁ : Shared} {body : List Stmt} (n : Nat) (m : Str → Option Value) (news : List (Addr × Obj)) (J : Nat → (Str → Option Value) → List (Addr × Obj) → Prop) (h₁ : Heap) (tk₁ : Nat)
/-- a list's items between the turns -/
noncomputable abbrev ListN (l : Addr) (n : Nat) (h : Heap) : Prop := ∃ items, h.IsList l items ∧ items.size = n
inductive ItemAt (l : Addr) (n i : Nat) (v : Value) (h : Heap) : Prop
  | mk (items : Array Value) : h.IsList l items → items.size = n → items[i]? = some v → ItemAt l n i v h
theorem ListN.ok {l : Addr} {n i : Nat} {h : Heap} : ListN l n h → LOk l n i (fun v => ItemAt l n i v) h := fun ⟨items, a, b⟩ => .mk items a b fun _ _ e hl => .mk items hl b e
theorem own_nil {g : Heap} {L : Addr} {news : List (Addr × Obj)} : ∀ b ∈ ([] : List Addr), g.get? b = none ∧ b ≠ L ∧ ∀ p ∈ news, p.1 ≠ b := fun _ h => nomatch h
/-- for x in a list (its items may be stored anew while it runs, its length may not change) -/
theorem listC_at {x : Str} {px : Pos} (l : Addr) (e1 : xv = .ref l) (e2 : s₁ = { s with heap := h₁, toks := tk₁ }) (F : Fr g env.locals h₁ m) (N : News g env.locals h₁ news) (j0 : J 0 m news)
    (hl : ∀ i m' news' h', i ≤ n → J i m' news' → Fr g env.locals h' m' → News g env.locals h' news' → ListN l n h')
    (turn : ∀ i v items m₁ news₁ h₂ tk pI, i < n → h₂.IsList l items → items.size = n → items[i]? = some v → J i m₁ news₁ → (∀ p ∈ news₁, p.1 ≠ pI.1) → Fr g env.locals h₂ m₁ → News g env.locals h₂ (pI :: news₁) →
        wpAny (model prog w) A (assign (.Name x px) env v) (fun _ s₂ => wpAny (model prog w) A (execs body env) (TurnEnd g env.locals (J (i + 1)) [pI] s Q) E s₂) E { s with heap := h₂, toks := tk })
    (done : ∀ m' news' h' tk', Fr g env.locals h' m' → News g env.locals h' news' → J n m' news' → Q .next { s with heap := h', toks := tk' }) :
    ForAt prog w A env g (.Name x px) body s Q E xv s₁ := by
  subst e1 e2
  obtain ⟨items, h0, _⟩ := hl 0 m news h₁ (Nat.zero_le _) j0 F N
  refine .mk [] 1 n (fun _ h => ListN l n h) _ m news J h₁ tk₁ (.list x px h0 fun _ _ => ListN.ok) own_nil F N j0 hl (fun i v m₁ news₁ h₂ tk its hi hP hJ hk ha F₂ N₂ => ?_) done
  obtain ⟨pI, rfl⟩ := List.length_eq_one_iff.mp hk
  obtain ⟨items, a, b, c⟩ := hP
  exact turn i v items m₁ news₁ h₂ tk pI hi a b c hJ (fun p hp => ha p hp _ (.head _)) F₂ N₂
theorem set_turn {x : Str} {px : Pos} {v : Value} {h₂ : Heap} {tk : Nat} {m₁ : Str → Option Value} {news₁ : List (Addr × Obj)} {R : Unit → Shared → Prop} (hx : env.kindOf x = some .local) (hp : (env.scope.kind == .class || (env.scope.kind == .module && env.locals != env.globals)) = false)
    (F : Fr g env.locals h₂ m₁) (N : News g env.locals h₂ news₁) (h : ∀ h₃ tk₃, Heap.SameBut env.locals h₂ h₃ → Fr g env.locals h₃ (fun y => if y = x then some v else m₁ y) → News g env.locals h₃ news₁ → R () { s with heap := h₃, toks := tk₃ }) :
    wpAny (model prog w) A (assign (.Name x px) env v) R E { s with heap := h₂, toks := tk } :=
  wpAny_assign_Name (wpAny_storeName_local hx F.ns (fun h₃ hn₃ hs₃ => h h₃ _ hs₃ (F.set hn₃ hs₃) (N.set hs₃)) hp)
theorem list_at {x : Str} {px : Pos} (hx : env.kindOf x = some .local) (hp : (env.scope.kind == .class || (env.scope.kind == .module && env.locals != env.globals)) = false)
    (l : Addr) (e1 : xv = .ref l) (e2 : s₁ = { s with heap := h₁, toks := tk₁ }) (F : Fr g env.locals h₁ m) (N : News g env.locals h₁ news) (j0 : J 0 m news)
    (hl : ∀ i m' news' h', i ≤ n → J i m' news' → Fr g env.locals h' m' → News g env.locals h' news' → ListN l n h')
    (turn : ∀ i v items m₁ news₁ h₂ tk pI, i < n → h₂.IsList l items → items.size = n → items[i]? = some v → J i m₁ news₁ → (∀ p ∈ news₁, p.1 ≠ pI.1) → Fr g env.locals h₂ (fun y => if y = x then some v else m₁ y) → News g env.locals h₂ (pI :: news₁) →
        wpAny (model prog w) A (execs body env) (TurnEnd g env.locals (J (i + 1)) [pI] s Q) E { s with heap := h₂, toks := tk })
    (done : ∀ m' news' h' tk', Fr g env.locals h' m' → News g env.locals h' news' → J n m' news' → Q .next { s with heap := h', toks := tk' }) :
    ForAt prog w A env g (.Name x px) body s Q E xv s₁ :=
  listC_at n m news J h₁ tk₁ l e1 e2 F N j0 hl (fun i v items m₁ news₁ h₂ tk pI hi hL hz hv hJ ha F₂ N₂ => set_turn hx hp F₂ N₂ fun h₃ tk₃ hs₃ F₃ N₃ =>
    turn i v items m₁ news₁ h₃ tk₃ pI hi (hL.extBut hs₃.extBut fun q => by
      obtain ⟨o2, ho2, _, _, hd2⟩ := id hL
      obtain ⟨oL, es, ep, hL', hLd, _⟩ := F₂.ns
      rw [q] at ho2
      cases ho2.symm.trans hL'
      cases hd2.symm.trans hLd) hz hv hJ ha F₃ N₃) done
/-- for x in a list or a tuple that stays -/
theorem seq_at {x : Str} {px : Pos} (hx : env.kindOf x = some .local) (hp : (env.scope.kind == .class || (env.scope.kind == .module && env.locals != env.globals)) = false)
    (l : Addr) {items : List Value} (hg : g.IsList l items.toArray ∨ IsTup g l items.toArray) (e1 : xv = .ref l) (e2 : s₁ = { s with heap := h₁, toks := tk₁ }) (F : Fr g env.locals h₁ m) (N : News g env.locals h₁ news) (j0 : J 0 m news)
    (turn : ∀ i v m₁ news₁ h₂ tk pI, i < items.length → items[i]? = some v → J i m₁ news₁ → (∀ p ∈ news₁, p.1 ≠ pI.1) → Fr g env.locals h₂ (fun y => if y = x then some v else m₁ y) → News g env.locals h₂ (pI :: news₁) →
        wpAny (model prog w) A (execs body env) (TurnEnd g env.locals (J (i + 1)) [pI] s Q) E { s with heap := h₂, toks := tk })
    (done : ∀ m' news' h' tk', Fr g env.locals h' m' → News g env.locals h' news' → J items.length m' news' → Q .next { s with heap := h', toks := tk' }) :
    ForAt prog w A env g (.Name x px) body s Q E xv s₁ := by
  subst e1 e2
  obtain ⟨Ok, S, hOk⟩ : ∃ Ok : Nat → Heap → Prop, Src h₁ [] 1 (.ref l) (.Name x px) items.length Ok (fun i v _ => items[i]? = some v) ∧ ∀ i h', g.StaysIn h' → Ok i h' := hg.elim
    (fun q => ⟨fun _ h => h.IsList l items.toArray, .list x px (keepsList q F.keep) fun _ _ a => .mk _ a rfl fun _ _ e _ => List.getElem?_toArray ▸ e, fun _ _ k => keepsList q k⟩)
    (fun q => ⟨fun _ h => IsTup h l items.toArray, .tup x px (keepsTup q F.keep) fun _ _ a => ⟨a, fun _ _ e => List.getElem?_toArray ▸ e⟩, fun _ _ k => keepsTup q k⟩)
  refine .mk [] 1 _ Ok (fun i v _ => items[i]? = some v) m news J h₁ tk₁ S own_nil F N j0 (fun i _ _ _ _ _ F' _ => hOk i _ F'.keep) (fun i v m₁ news₁ h₂ tk its hi hP hJ hk ha F₂ N₂ => ?_) done
  obtain ⟨pI, rfl⟩ := List.length_eq_one_iff.mp hk
  exact set_turn hx hp F₂ N₂ fun h₃ tk₃ _ F₃ N₃ => turn i v m₁ news₁ h₃ tk₃ pI hi hP hJ (fun p hp => ha p hp _ (.head _)) F₃ N₃
/-- for x in range(n) -/
theorem range_at {x : Str} {px : Pos} (l : Addr) {a : Int} {t u v : Tok} (e1 : xv = .ref l) (e2 : s₁ = { s with heap := h₁, toks := tk₁ }) (hr : IsRange h₁ l 0 a 1 t u v) (han : a = n) (hn : n ≤ 1000) (F : Fr g env.locals h₁ m) (N : News g env.locals h₁ news) (j0 : J 0 m news)
    (turn : ∀ i t m₁ news₁ h₂ tk pI, i < n → J i m₁ news₁ → (∀ p ∈ news₁, p.1 ≠ pI.1) → Fr g env.locals h₂ m₁ → News g env.locals h₂ (pI :: news₁) →
        wpAny (model prog w) A (assign (.Name x px) env (.int (i : Int) t)) (fun _ s₂ => wpAny (model prog w) A (execs body env) (TurnEnd g env.locals (J (i + 1)) [pI] s Q) E s₂) E { s with heap := h₂, toks := tk })
    (done : ∀ m' news' h' tk', Fr g env.locals h' m' → News g env.locals h' news' → J n m' news' → Q .next { s with heap := h', toks := tk' }) :
    ForAt prog w A env g (.Name x px) body s Q E xv s₁ := by
  subst e1 e2
  refine .mk [] 1 n (fun _ _ => True) (fun i v _ => ∃ t, v = .int (i : Int) t) m news J h₁ tk₁ (.range x px hr han hn fun _ t _ => ⟨t, rfl⟩) own_nil F N j0 (fun _ _ _ _ _ _ _ _ => trivial) (fun i v m₁ news₁ h₂ tk its hi hP hJ hk ha F₂ N₂ => ?_) done
  obtain ⟨pI, rfl⟩ := List.length_eq_one_iff.mp hk
  obtain ⟨t, rfl⟩ := hP
  exact turn i t m₁ news₁ h₂ tk pI hi hJ (fun p hp => ha p hp _ (.head _)) F₂ N₂
/-- for a, x in enumerate(list) (its items may be stored anew while it runs, its length may not change) -/
theorem enum_at {elts : List Expr} {x1 : Nat} {pt : Pos} (e it l : Addr) (e1 : xv = .ref e) (e2 : s₁ = { s with heap := h₁, toks := tk₁ }) (he : IsEnum h₁ e it 0 .none) (hit : h₁.IsListIter it l 0) (hei : e ≠ it)
    (ho1 : e ≠ env.locals ∧ g.get? e = none ∧ ∀ p ∈ news, p.1 ≠ e) (ho2 : it ≠ env.locals ∧ g.get? it = none ∧ ∀ p ∈ news, p.1 ≠ it) (F : Fr g env.locals h₁ m) (N : News g env.locals h₁ news) (j0 : J 0 m news)
    (hl : ∀ i m' news' h', i ≤ n → J i m' news' → Fr g env.locals h' m' → News g env.locals h' news' → ListN l n h')
    (turn : ∀ i v items T t m₁ news₁ h₂ tk pe pi, i < n → h₂.IsList l items → items.size = n → items[i]? = some v → IsTup h₂ T #[.int (i : Int) t, v] → J i m₁ news₁ → (∀ p ∈ news₁, p.1 ≠ pe.1) → (∀ p ∈ news₁, p.1 ≠ pi.1) → Fr g env.locals h₂ m₁ → News g env.locals h₂ (pe :: pi :: news₁) →
        wpAny (model prog w) A (assign (.Tuple elts x1 pt) env (.ref T)) (fun _ s₂ => wpAny (model prog w) A (execs body env) (TurnEnd g env.locals (J (i + 1)) [pe, pi] s Q) E s₂) E { s with heap := h₂, toks := tk })
    (done : ∀ m' news' h' tk', Fr g env.locals h' m' → News g env.locals h' news' → J n m' news' → Q .next { s with heap := h', toks := tk' }) :
    ForAt prog w A env g (.Tuple elts x1 pt) body s Q E xv s₁ := by
  subst e1 e2
  refine .mk [e, it] 2 n (fun _ h => ListN l n h) _ m news J h₁ tk₁ (.enum elts x1 pt he hit hei fun _ _ => ListN.ok) (fun b hb => ?_) F N j0 hl (fun i v m₁ news₁ h₂ tk its hi hP hJ hk ha F₂ N₂ => ?_) done
  · rcases List.mem_cons.mp hb with rfl | hb
    · exact ⟨ho1.2.1, ho1.1, ho1.2.2⟩
    · rw [List.mem_singleton.mp hb]; exact ⟨ho2.2.1, ho2.1, ho2.2.2⟩
  · obtain ⟨pe, pi, rfl⟩ := two_of hk
    obtain ⟨x, t, T, ⟨items, a, b, c⟩, hT⟩ := hP
    exact turn i x items T t m₁ news₁ h₂ tk pe pi hi a b c hT hJ (fun p hp => ha p hp _ (.head _)) (fun p hp => ha p hp _ (.tail _ (.head _))) F₂ N₂
end
end


/-- the names of ts, each once, in the order of the five -/
noncomputable def canon (ts : List Str) : List Str := UNI.filter fun x => decide (x ∈ ts)
noncomputable def rk (x : Str) : Nat := UNI.idxOf x
theorem rk_lt : ∀ x ∈ UNI, ∀ y ∈ UNI, Spec.ltCps x.cps.toList y.cps.toList = decide (rk x < rk y) := by decide +kernel
theorem rk_inj : ∀ x ∈ UNI, ∀ y ∈ UNI, rk x = rk y → x = y := by decide +kernel
theorem uni_up : UNI.Pairwise fun a b => rk a < rk b := by decide +kernel
theorem canon_up (ts : List Str) : (canon ts).Pairwise fun a b => rk a < rk b := uni_up.filter _
theorem mem_canon {ts : List Str} {x : Str} : x ∈ canon ts ↔ x ∈ UNI ∧ x ∈ ts := by simp [canon]
theorem rising_up : ∀ (l : List Str) (p : Str), p ∈ UNI → (∀ x ∈ l, x ∈ UNI) → risingS p l = true → (p :: l).Pairwise fun a b => rk a ≤ rk b
  | [], _, _, _, _ => List.pairwise_singleton ..
  | x :: r, p, hp, hl, h => by
    simp only [risingS, Bool.and_eq_true, Bool.not_eq_true'] at h
    have hx := hl x (.head _)
    have ih := rising_up r x hx (fun y hy => hl y (.tail _ hy)) h.2
    rw [rk_lt x hx p hp] at h
    have h1 : rk p ≤ rk x := Nat.not_lt.mp (of_decide_eq_false h.1)
    refine List.pairwise_cons.mpr ⟨fun y hy => ?_, ih⟩
    rcases List.mem_cons.mp hy with rfl | hy
    · exact h1
    · exact Nat.le_trans h1 (List.rel_of_pairwise_cons ih hy)
theorem sorted_up : ∀ (l : List Str), (∀ x ∈ l, x ∈ UNI) → sortedS l = true → l.Pairwise fun a b => rk a ≤ rk b
  | [], _, _ => .nil
  | x :: r, hl, h => rising_up r x (hl x (.head _)) (fun y hy => hl y (.tail _ hy)) h
theorem up_ext : ∀ (l k : List Str), l.Pairwise (fun a b => rk a < rk b) → k.Pairwise (fun a b => rk a < rk b) → (∀ x, x ∈ l ↔ x ∈ k) → l = k
  | [], [], _, _, _ => rfl
  | [], y :: k, _, _, h => absurd ((h y).mpr (.head _)) (by simp)
  | x :: l, [], _, _, h => absurd ((h x).mp (.head _)) (by simp)
  | x :: l, y :: k, h1, h2, h => by
    obtain ⟨a1, a2⟩ := List.pairwise_cons.mp h1
    obtain ⟨b1, b2⟩ := List.pairwise_cons.mp h2
    have e : x = y := by
      rcases List.mem_cons.mp ((h x).mp (.head _)) with e | hx
      · exact e
      · rcases List.mem_cons.mp ((h y).mpr (.head _)) with e | hy
        · exact e.symm
        · exact absurd (a1 y hy) (Nat.lt_asymm (b1 x hx))
    subst e
    rw [up_ext l k a2 b2 fun z => ?_]
    have hz := h z
    constructor
    · intro q
      rcases List.mem_cons.mp (hz.mp (.tail _ q)) with e | r
      · subst e; exact absurd (a1 _ q) (Nat.lt_irrefl _)
      · exact r
    · intro q
      rcases List.mem_cons.mp (hz.mpr (.tail _ q)) with e | r
      · subst e; exact absurd (b1 _ q) (Nat.lt_irrefl _)
      · exact r
theorem sorted_canon {l found ts : List Str} (hp : l.Perm found) (hn : found.Nodup) (hm : ∀ x, x ∈ found ↔ x ∈ ts) (hu : ∀ x ∈ ts, x ∈ UNI) (hs : sortedS l = true) : l = canon ts := by
  have hlu : ∀ x ∈ l, x ∈ UNI := fun x hx => hu x ((hm x).mp (hp.mem_iff.mp hx))
  have h1 := sorted_up l hlu hs
  have h2 : l.Nodup := hp.nodup_iff.mpr hn
  refine up_ext _ _ ?_ (canon_up ts) fun x => ?_
  · refine List.Pairwise.imp_of_mem ?_ (List.Pairwise.and h1 h2)
    intro a b ha hb hab
    rcases Nat.lt_or_eq_of_le hab.1 with q | q
    · exact q
    · exact absurd (rk_inj a (hlu a ha) b (hlu b hb) q) hab.2
  · rw [mem_canon, hp.mem_iff, hm]
    exact ⟨fun q => ⟨hu x q, q⟩, fun q => q.2⟩
theorem canon_of {ts : List Str} (h : ∀ x, x ∈ UNI → (x ∈ ts ↔ x ∈ us)) : canon ts = canon us := by
  unfold canon
  exact List.filter_congr fun x hx => by simp [h x hx]
theorem canon_canon (ts : List Str) : canon (canon ts) = canon ts := canon_of fun x hx => by rw [mem_canon]; exact ⟨fun q => q.2, fun q => ⟨hx, q⟩⟩
theorem canon_uni (ts : List Str) : ∀ x ∈ canon ts, x ∈ UNI := fun _ h => (mem_canon.mp h).1
theorem canon_len (ts : List Str) : (canon ts).length ≤ 5 := List.length_filter_le _ _


section
variable {prog : Program} {w : World} {A : Around} {E : Value → Shared → Prop} {s : Shared}
theorem strs_get {vs : List Value} {ts : List Str} (h : StrsAre vs ts) : ∀ {i : Nat} {v : Value}, vs[i]? = some v → ∃ x t, v = .str x t ∧ ts[i]? = some x := by
  induction h with
  | nil => intro i v e; cases e
  | cons y t _ ih =>
    intro i v e
    cases i with
    | zero => cases e; exact ⟨y, t, rfl, rfl⟩
    | succ i => exact ih e
theorem strs_append {vs ws : List Value} {xs ys : List Str} (h : StrsAre vs xs) (h2 : StrsAre ws ys) : StrsAre (vs ++ ws) (xs ++ ys) := by
  induction h with
  | nil => exact h2
  | cons y t _ ih => exact .cons y t ih
theorem strs_snoc {vs : List Value} {ts : List Str} (h : StrsAre vs ts) (x : Str) (t : Tok) : StrsAre (vs ++ [.str x t]) (ts ++ [x]) := strs_append h (.cons x t .nil)
theorem append_l {g : Heap} {L D : Addr} {m : Str → Option Value} {news news' : List (Addr × Obj)} {its : List Value} {n : Nat} {x : Value} {Q : Value → Shared → Prop} (F : Fr g L s.heap m) (N : News g L s.heap news)
    (U : Upd D (listOf its.toArray n) (listOf (its ++ [x]).toArray (n + 1)) news news') (hsz : its.length ≤ 1000)
    (h : ∀ h', Fr g L h' m → News g L h' news' → Q .none { s with heap := h' }) : wpAny (model prog w) A (call (.builtin "list.append") [.ref D, x]) Q E s :=
  append_K (its := its.toArray) (hsz := by rw [List.size_toArray]; exact le_lit (by assumption) rfl) F N (by simpa using U) h
theorem sorted_ls {g : Heap} {L : Addr} {m : Str → Option Value} {news : List (Addr × Obj)} {l : Addr} {vs : List Value} {ss : List Str} {Q : Value → Shared → Prop}
    (F : Fr g L s.heap m) (N : News g L s.heap news) (hl : s.heap.IsList l vs.toArray) (hS : StrsAre vs ss) (h64 : vs.length < 64)
    (h : ∀ (a : Addr) (vs' : List Value) (ss' : List Str) (e : Nat) (h' : Heap), Fr g L h' m → News g L h' ((a, listOf vs'.toArray e) :: news) →
      StrsAre vs' ss' → ss'.Perm ss → sortedS ss' = true → vs'.length = vs.length → (∀ p ∈ news, p.1 < a) → Q (.ref a) { s with heap := h' }) :
    wpAny (model prog w) A (call (.builtin "sorted") [.ref l]) Q E s :=
  sorted_N_str F N hl hS h64 fun h' vs' ss' e F' N' h1 h2 h3 => h _ vs' ss' e h' F' N' h1 h2 h3 (((StrsAre.length h1).trans h2.length_eq).trans (StrsAre.length hS).symm) fun p hp => Nat.lt_succ_of_lt (Heap.lt_size (N p hp).1)
theorem isList_fun {h : Heap} {l : Addr} {a b : Array Value} (x : h.IsList l a) (y : h.IsList l b) : a = b := by
  obtain ⟨o, ho, _, n, hd⟩ := x
  obtain ⟨o', ho', _, n', hd'⟩ := y
  rw [ho] at ho'; cases ho'
  rw [hd] at hd'; cases hd'; rfl
theorem isTup_fun {h : Heap} {l : Addr} {a b : Array Value} (x : h.IsTuple l a) (y : IsTup h l b) : a = b := by
  obtain ⟨o, ho, _, n, hd⟩ := x
  obtain ⟨o', ho', _, n', hd'⟩ := y
  rw [ho] at ho'; cases ho'
  rw [hd] at hd'; cases hd'; rfl
theorem notin_tup_strs {t : Addr} {vs : List Value} {ys : List Str} {x : Str} {u : Tok} {Q : Value → Shared → Prop} (ht : IsTup s.heap t vs.toArray) (hi : StrsAre vs ys)
    (h : Q (.bool (!(ys.any (· == x)))) s) : wpAny (model prog w) A (compareOp .NotIn (.str x u) (.ref t)) Q E s := notin_tuple_strs ht (by simpa using hi) h
theorem in_tup_strs {t : Addr} {vs : List Value} {ys : List Str} {x : Str} {u : Tok} {Q : Value → Shared → Prop} (ht : IsTup s.heap t vs.toArray) (hi : StrsAre vs ys)
    (h : Q (.bool (ys.any (· == x))) s) : wpAny (model prog w) A (compareOp .In (.str x u) (.ref t)) Q E s := in_tuple_strs ht (by simpa using hi) h
theorem tuple_of_tup {t : Addr} {items : Array Value} {Q : Value → Shared → Prop} (ht : IsTup s.heap t items) (h : Q (.ref t) s) : wpAny (model prog w) A (call (.type "tuple") [.ref t]) Q E s := call_tuple_same ht h
theorem tuple_of_list {g : Heap} {L : Addr} {m : Str → Option Value} {news : List (Addr × Obj)} {l : Addr} {vs : List Value} {Q : Value → Shared → Prop} (_F : Fr g L s.heap m) (_N : News g L s.heap news) (hl : s.heap.IsList l vs.toArray) (hn : vs.length ≤ 1000)
    (h : ∀ a h' tk', s.heap.StaysIn h' → s.heap.get? a = none → h'.get? a = some { cls := .type "tuple", data := .seq vs.toArray } → Q (.ref a) { s with heap := h', toks := tk' }) :
    wpAny (model prog w) A (call (.type "tuple") [.ref l]) Q E s := by
  refine call_tuple_list hl (fun h' k => ?_) (by have : sizeLine = 16777216 := rfl; simp only [List.size_toArray]; omega)
  refine h _ _ _ (fun b o e => Heap.get?_push_of_some _ (k b o e)) ?_ (Heap.get?_push_size _ rfl)
  cases q : s.heap.get? h'.objs.size with
  | none => rfl
  | some o => exact absurd (Heap.lt_size (k _ _ q)) (Nat.lt_irrefl _)
end

example : True := by
  k_with "compareOp NotIn" => ((k_here; (with_reducible show wpAny _ _ (compareOp CmpOp.NotIn (Value.str _ _) (Value.ref _)) _ _ _); k_dflt (first | (refine' notin_list_strs (by first | (k_extra "MINE list") | fail) (by first | (k_extra "MINE strs") | fail) ?_) | (refine' notin_tup_strs (by first | (k_extra "MINE tup") | fail) (by first | (k_extra "MINE strs") | fail) ?_))))
  trivial
example : True := by
  k_with "compareOp In" => ((k_here; (with_reducible show wpAny _ _ (compareOp CmpOp.In (Value.str _ _) (Value.ref _)) _ _ _); k_dflt (first | (refine' in_list_strs (by first | (k_extra "MINE list") | fail) (by first | (k_extra "MINE strs") | fail) ?_) | (refine' in_tup_strs (by first | (k_extra "MINE tup") | fail) (by first | (k_extra "MINE strs") | fail) ?_))))
  trivial
example : True := by
  k_with "call builtin:sorted" => ((k_here; (with_reducible show wpAny _ _ (call (Value.builtin "sorted") [Value.ref _]) _ _ _); k_dflt (refine' sorted_ls (by first | (k_asm) | fail) (by first | (k_asm) | fail) (by first | (k_extra "MINE list") | fail) (by first | (k_extra "MINE strs") | fail) (by first | (k_extra "MINE ar") | fail) ?_; k_whole); intro _ _ _ _ _ _ _ _ _ _ _ hlt9; (try k_lt hlt9); (try dsimp only); (try (revert hlt9; intros)); (try k_fold)))
  trivial
example : True := by
  k_with "call type:tuple" => ((k_here; (with_reducible show wpAny _ _ (call (Value.type "tuple") [Value.ref _]) _ _ _); k_dflt (first | (refine' tuple_of_tup (by first | (k_extra "MINE tup") | fail) ?_) | (refine' tuple_of_list (by first | (k_asm) | fail) (by first | (k_asm) | fail) (by first | (k_extra "MINE list") | fail) (by first | (k_extra "MINE ar") | fail) ?_; k_whole; intro _; k_extra "MINE grow1"))))
  trivial
example : True := by
  k_with "call builtin:list.append" => ((k_here; (with_reducible show wpAny _ _ (call (Value.builtin _) [Value.ref _, _]) _ _ _); k_dflt (refine' append_l (by first | (k_asm) | fail) (by first | (k_asm) | fail) (by first | (k_upd) | fail) (by first | assumption | exact le_lit (by with_reducible assumption) (by rfl) | omega | (simp; done) | (simp; omega) | fail) ?_; k_whole); intro _ _ _; (try k_sweep)))
  trivial

example : True := by
  k_with "call ref" => ((k_here; (with_reducible show wpAny _ _ (call (Value.ref 68) _) _ _ _); k_dflt (refine' is_keyword_spec (by first | (assumption) | fail) (by first | (k_extra "MINE stays") | fail) (by first | (k_extra "MINE room") | fail) (by first | (k_extra "MINE room") | fail) ?_; k_whole); k_extra "MINE grow0"))
  trivial
noncomputable def fNames : List Str := [cSeen, cAns, cFlag, cDel, cDraft]
/-- between the turns of flag_name's loop -/
inductive FNJ (x : Str) (t : Tok) (r : Addr) (o : Obj) (i : Nat) (m : Str → Option Value) : List (Addr × Obj) → Prop
  | mk (imm : List (Addr × Obj)) : m "text" = some (.str x t) → imm = [] → (∀ (j : Nat) (y : Str), j < i → fNames[j]? = some y → Txt.lower x ≠ Txt.lower y) → FNJ x t r o i m [(r, o)]
theorem one_apart {fl I : Addr} {o oI : Obj} (h : @Ne Nat fl I) : ∀ p ∈ [(fl, o)], ∀ q ∈ [(I, oI)], p.1 ≠ q.1 := fun p hp q hq => by rw [List.mem_singleton.mp hp, List.mem_singleton.mp hq]; exact h
theorem low_uni : ∀ x ∈ UNI, PySem.Builtin.Str.tooLong (Txt.lower x).length = false := by decide +kernel
theorem low_five : ∀ x ∈ fNames, PySem.Builtin.Str.tooLong (Txt.lower x).length = false := by decide +kernel
theorem low_same : ∀ x ∈ UNI, ∀ y ∈ fNames, Txt.lower x = Txt.lower y → x = y := by decide +kernel
theorem low_none : ∀ x ∈ UNI, (∀ y ∈ fNames, Txt.lower x ≠ Txt.lower y) → x = cWork := by decide +kernel
noncomputable def FXG (w : World) (dp : Nat) (un : Nat) (fr : Option (List Env)) (gd : Option (List Code)) (s : Shared) (mean : ExcName → Option Value) (mg : Str → Option Value) (mb : Str → Option Value) (E : Value → Shared → Prop) (H0 : Heap) (Q : Value → Shared → Prop) (t : Tok) (x : Str) : Prop := ∀ (W : Wd w.params mean mg mb H0) (hs : H0.StaysIn s.heap) (hdp : dp + 4 < recursionLimit) (hun : un + 30 < cLine) (hx : x ∈ UNI) (ret : ∀ t' h' tk', s.heap.StaysIn h' → Q (.str x t') { s with heap := h', toks := tk' }),
    wpAny (model PySem.Challenge.rw_no0367_01.row.prog w) (Ar dp un fr gd) (call (.ref 75) [.str x t]) Q E s
noncomputable abbrev FXK : Type _ := (World) × (Nat) × (Nat) × (Option (List Env)) × (Option (List Code)) × (Shared) × (ExcName → Option Value) × (Str → Option Value) × (Str → Option Value) × (Value → Shared → Prop) × (Heap) × (Value → Shared → Prop) × (Tok) × (Str)
noncomputable def FXP (k : FXK) : Prop := FXG (k.1) (k.2.1) (k.2.2.1) (k.2.2.2.1) (k.2.2.2.2.1) (k.2.2.2.2.2.1) (k.2.2.2.2.2.2.1) (k.2.2.2.2.2.2.2.1) (k.2.2.2.2.2.2.2.2.1) (k.2.2.2.2.2.2.2.2.2.1) (k.2.2.2.2.2.2.2.2.2.2.1) (k.2.2.2.2.2.2.2.2.2.2.2.1) (k.2.2.2.2.2.2.2.2.2.2.2.2.1) (k.2.2.2.2.2.2.2.2.2.2.2.2.2)
theorem FXne : Nonempty FXK := ⟨((wd0 : World), (0 : Nat), (0 : Nat), (none : Option (List Env)), (none : Option (List Code)), ({} : Shared), (fun _ => none : ExcName → Option Value), (fun _ => none : Str → Option Value), (fun _ => none : Str → Option Value), (fun _ _ => True : Value → Shared → Prop), ({} : Heap), (fun _ _ => True : Value → Shared → Prop), (0 : Tok), (⟨#[]⟩ : Str))⟩
@[irreducible] noncomputable def FXk : FXK := @Classical.epsilon _ FXne fun k => ¬ FXP k
theorem FXc.pf : FXP FXk := by
  refine (?m : ∀ (w : World) (dp : Nat) (un : Nat) (fr : Option (List Env)) (gd : Option (List Code)) (s : Shared) (mean : ExcName → Option Value) (mg : Str → Option Value) (mb : Str → Option Value) (E : Value → Shared → Prop) (H0 : Heap) (Q : Value → Shared → Prop) (t : Tok) (x : Str), ∀ (W : Wd w.params mean mg mb H0) (hs : H0.StaysIn s.heap) (hdp : dp + 4 < recursionLimit) (hun : un + 30 < cLine) (hx : x ∈ UNI) (ret : ∀ t' h' tk', s.heap.StaysIn h' → Q (.str x t') { s with heap := h', toks := tk' }),
    wpAny (model PySem.Challenge.rw_no0367_01.row.prog w) (Ar dp un fr gd) (call (.ref 75) [.str x t]) Q E s) (FXk.1) (FXk.2.1) (FXk.2.2.1) (FXk.2.2.2.1) (FXk.2.2.2.2.1) (FXk.2.2.2.2.2.1) (FXk.2.2.2.2.2.2.1) (FXk.2.2.2.2.2.2.2.1) (FXk.2.2.2.2.2.2.2.2.1) (FXk.2.2.2.2.2.2.2.2.2.1) (FXk.2.2.2.2.2.2.2.2.2.2.1) (FXk.2.2.2.2.2.2.2.2.2.2.2.1) (FXk.2.2.2.2.2.2.2.2.2.2.2.2.1) (FXk.2.2.2.2.2.2.2.2.2.2.2.2.2)
  intro w dp un fr gd s mean mg mb E H0 Q t x
  intro W hs hdp hun hx ret
  refine' enter (H0 := H0) (mean := mean) (mg := mg) (mb := mb) (binds := [("text", .str x t)]) W hs [] (fun _ h => nomatch h) (by show dp < recursionLimit; first | exact room0 (by assumption) | omega) ?ho ?hcd ?hbind ?hloc ?_ ?hcell ?hco ?hgen ?hk
  (case ho => k_is); (case hcd => k_is); (case hbind => exact BindsTo.of_eq rfl); (case hloc => exact locs rfl); (case hcell => decide); (case hco => exact rfl); (case hgen => exact rfl); (case hk => exact rfl)
  intro g L' h₁ hg hst F N X T
  simp only [List.map_nil, hideAll] at hg
  subst hg
  dsimp only [List.reverse, List.reverseAux] at F
  clear hst
  revert F N
  revert L' h₁
  refine @eps2 _ _ ⟨((0 : Addr), ({} : Heap))⟩ ?P3 ((?close3 : ∀ a0 a1, ?P3 a0 a1) _ _ )
  intro L' h₁ F N
  try k_fold
  k_extra "MINE steps"
  refine For_it (s := s) (g := s.heap) rfl ?_ (by intro _; rfl) .never
  k_extra "MINE steps"
  rename Fr _ _ _ _ => F1
  rename News _ _ _ _ => N1
  rename_i r t1 t2 t3 t4 t5 n h9 tk9
  refine list_at 5 _ _ (FNJ x t r (PySem.W.listOf #[.str cSeen t1, .str cAns t2, .str cFlag t3, .str cDel t4, .str cDraft t5] n)) _ _ rfl rfl r rfl rfl F1 N1 (.mk _ rfl rfl (fun j y h => absurd h (Nat.not_lt_zero j))) ?lists ?turn ?done
  case lists => exact fun i m' news' h' hi hJ F' N' => by cases hJ with | mk imm hm him hne => exact ⟨_, News.isList N' (.head _), rfl⟩
  case turn =>
    intro i v items m₁ news₁ h₂ tk pI hi hL hz hv hJ ha F₂ N₂
    obtain ⟨imm, hm, him, hne⟩ := hJ
    cases isList_fun hL (News.isList N₂ (.tail _ (.head _)))
    obtain ⟨y, ty, rfl, hy⟩ := strs_get (ts := fNames) (.cons _ _ (.cons _ _ (.cons _ _ (.cons _ _ (.cons _ _ .nil))))) (by simpa using hv)
    clear F1 N1
    have hyu := List.mem_of_getElem? hy
    have q1 := low_uni x hx
    have q2 := low_five y hyu
    try k_fold
    k_extra "MINE steps"
    refine KXw.lower rfl q1 fun t9 k9 => ?_
    k_extra "MINE steps"
    refine KXw.lower rfl q2 fun t9 k9 => ?_
    k_extra "MINE steps"
    · rename Fr _ _ _ _ => FF
      rename ((Txt.lower x == Txt.lower y) = true) => hq
      dsimp only
      exact low_same x hx y hyu (eq_of_beq hq) ▸ ret _ _ _ FF.keep
    · rename Fr _ _ _ _ => FF
      rename News _ _ _ _ => NN
      rename ((Txt.lower x == Txt.lower y) = false) => hq
      exact TurnEnd.next _ FF NN (one_apart (ha _ (.head _))) (.mk [] hm rfl fun j z hj hz => (Nat.lt_or_eq_of_le (Nat.le_of_lt_succ hj)).elim (fun q => hne j z q hz) fun q => by
        rw [q, hy] at hz; rw [← Option.some.inj hz]; exact ne_of_beq_false hq)
  case done =>
    rintro m' news' h' tk' F' N' ⟨imm, hm, him, hne⟩
    clear F1 N1
    have hw : x = cWork := low_none x hx fun y hy => let ⟨j, hj, e⟩ := List.mem_iff_getElem.mp hy; hne j y hj (by rw [List.getElem?_eq_getElem hj, e])
    rw [hw] at hm ret
    try k_fold
    k_extra "MINE steps"
    rename Fr _ _ _ _ => FF
    dsimp only
    exact ret _ _ _ FF.keep
theorem flag_name_spec {w : World} {dp : Nat} {un : Nat} {fr : Option (List Env)} {gd : Option (List Code)} {s : Shared} {mean : ExcName → Option Value} {mg : Str → Option Value} {mb : Str → Option Value} {E : Value → Shared → Prop} {H0 : Heap} {Q : Value → Shared → Prop} {t : Tok} {x : Str} : ∀ (W : Wd w.params mean mg mb H0) (hs : H0.StaysIn s.heap) (hdp : dp + 4 < recursionLimit) (hun : un + 30 < cLine) (hx : x ∈ UNI) (ret : ∀ t' h' tk', s.heap.StaysIn h' → Q (.str x t') { s with heap := h', toks := tk' }),
    wpAny (model PySem.Challenge.rw_no0367_01.row.prog w) (Ar dp un fr gd) (call (.ref 75) [.str x t]) Q E s :=
  eps_all (P := FXP) FXne (by with_unfolding_all exact FXc.pf) (w, dp, un, fr, gd, s, mean, mg, mb, E, H0, Q, t, x)

example : True := by
  k_with "call ref" => ((k_here; (with_reducible show wpAny _ _ (call (Value.ref 75) _) _ _ _); k_dflt (refine' flag_name_spec (by first | (assumption) | fail) (by first | (k_extra "MINE stays") | fail) (by first | (k_extra "MINE room") | fail) (by first | (k_extra "MINE room") | fail) (by first | (assumption) | fail) ?_; k_whole); intro _; k_extra "MINE grow0"))
  trivial

/-- what flag_tuple's loop has found among the first i -/
inductive FTJ (ts : List Str) (i : Nat) (m : Str → Option Value) : List (Addr × Obj) → Prop
  | mk (fl : Addr) (fvs : List Value) (found : List Str) (n : Nat) : m "found" = some (.ref fl) → StrsAre fvs found → found.Nodup → (∀ x, x ∈ found ↔ x ∈ ts.take i) → fvs.length ≤ i → FTJ ts i m [(fl, listOf fvs.toArray n)]
theorem mem_take_snoc {found ts : List Str} {i : Nat} {x : Str} (hx : ts[i]? = some x) (h : ∀ y, y ∈ found ↔ y ∈ ts.take i) : ∀ y, y ∈ found ++ [x] ↔ y ∈ ts.take (i + 1) := fun y => by
  rw [List.take_add_one, hx, List.mem_append, List.mem_append, h y]; rfl
theorem mem_take_in {found ts : List Str} {i : Nat} {x : Str} (hx : ts[i]? = some x) (h : ∀ y, y ∈ found ↔ y ∈ ts.take i) (hin : List.any found (· == x) = true) : ∀ y, y ∈ found ↔ y ∈ ts.take (i + 1) := fun y => by
  have hm : x ∈ found := by simpa using hin
  rw [← mem_take_snoc hx h y, List.mem_append, List.mem_singleton]
  exact ⟨.inl, fun q => q.elim id fun q => q ▸ hm⟩
theorem nodup_snoc {found : List Str} {x : Str} (h : found.Nodup) (hin : List.any found (· == x) = false) : (found ++ [x]).Nodup := by
  have hm : x ∉ found := fun q => by rw [List.any_eq_false] at hin; exact hin x q (by simp)
  exact List.nodup_append.mpr ⟨h, by simp, fun a ha b hb => by rw [List.mem_singleton.mp hb]; exact fun q => hm (q ▸ ha)⟩
noncomputable def FTG (w : World) (dp : Nat) (un : Nat) (fr : Option (List Env)) (gd : Option (List Code)) (s : Shared) (mean : ExcName → Option Value) (mg : Str → Option Value) (mb : Str → Option Value) (E : Value → Shared → Prop) (H0 : Heap) (Q : Value → Shared → Prop) (fa : Addr) (vs : List Value) (ts : List Str) : Prop := ∀ (W : Wd w.params mean mg mb H0) (hs : H0.StaysIn s.heap) (hdp : dp + 6 < recursionLimit) (hun : un + 40 < cLine)
    (hsq : s.heap.IsList fa vs.toArray ∨ IsTup s.heap fa vs.toArray) (hvs : StrsAre vs ts) (hts : ∀ x ∈ ts, x ∈ UNI) (hn : ts.length < 60)
    (ret : ∀ r vs' h' tk', s.heap.StaysIn h' → s.heap.get? r = none → h'.get? r = some { cls := .type "tuple", data := .seq vs'.toArray } → StrsAre vs' (canon ts) → Q (.ref r) { s with heap := h', toks := tk' }),
    wpAny (model PySem.Challenge.rw_no0367_01.row.prog w) (Ar dp un fr gd) (call (.ref 82) [.ref fa]) Q E s
noncomputable abbrev FTK : Type _ := (World) × (Nat) × (Nat) × (Option (List Env)) × (Option (List Code)) × (Shared) × (ExcName → Option Value) × (Str → Option Value) × (Str → Option Value) × (Value → Shared → Prop) × (Heap) × (Value → Shared → Prop) × (Addr) × (List Value) × (List Str)
noncomputable def FTP (k : FTK) : Prop := FTG (k.1) (k.2.1) (k.2.2.1) (k.2.2.2.1) (k.2.2.2.2.1) (k.2.2.2.2.2.1) (k.2.2.2.2.2.2.1) (k.2.2.2.2.2.2.2.1) (k.2.2.2.2.2.2.2.2.1) (k.2.2.2.2.2.2.2.2.2.1) (k.2.2.2.2.2.2.2.2.2.2.1) (k.2.2.2.2.2.2.2.2.2.2.2.1) (k.2.2.2.2.2.2.2.2.2.2.2.2.1) (k.2.2.2.2.2.2.2.2.2.2.2.2.2.1) (k.2.2.2.2.2.2.2.2.2.2.2.2.2.2)
theorem FTne : Nonempty FTK := ⟨((wd0 : World), (0 : Nat), (0 : Nat), (none : Option (List Env)), (none : Option (List Code)), ({} : Shared), (fun _ => none : ExcName → Option Value), (fun _ => none : Str → Option Value), (fun _ => none : Str → Option Value), (fun _ _ => True : Value → Shared → Prop), ({} : Heap), (fun _ _ => True : Value → Shared → Prop), (0 : Addr), ([] : List Value), ([] : List Str))⟩
@[irreducible] noncomputable def FTk : FTK := @Classical.epsilon _ FTne fun k => ¬ FTP k
theorem FTc.pf : FTP FTk := by
  refine (?m : ∀ (w : World) (dp : Nat) (un : Nat) (fr : Option (List Env)) (gd : Option (List Code)) (s : Shared) (mean : ExcName → Option Value) (mg : Str → Option Value) (mb : Str → Option Value) (E : Value → Shared → Prop) (H0 : Heap) (Q : Value → Shared → Prop) (fa : Addr) (vs : List Value) (ts : List Str), ∀ (W : Wd w.params mean mg mb H0) (hs : H0.StaysIn s.heap) (hdp : dp + 6 < recursionLimit) (hun : un + 40 < cLine)
    (hsq : s.heap.IsList fa vs.toArray ∨ IsTup s.heap fa vs.toArray) (hvs : StrsAre vs ts) (hts : ∀ x ∈ ts, x ∈ UNI) (hn : ts.length < 60)
    (ret : ∀ r vs' h' tk', s.heap.StaysIn h' → s.heap.get? r = none → h'.get? r = some { cls := .type "tuple", data := .seq vs'.toArray } → StrsAre vs' (canon ts) → Q (.ref r) { s with heap := h', toks := tk' }),
    wpAny (model PySem.Challenge.rw_no0367_01.row.prog w) (Ar dp un fr gd) (call (.ref 82) [.ref fa]) Q E s) (FTk.1) (FTk.2.1) (FTk.2.2.1) (FTk.2.2.2.1) (FTk.2.2.2.2.1) (FTk.2.2.2.2.2.1) (FTk.2.2.2.2.2.2.1) (FTk.2.2.2.2.2.2.2.1) (FTk.2.2.2.2.2.2.2.2.1) (FTk.2.2.2.2.2.2.2.2.2.1) (FTk.2.2.2.2.2.2.2.2.2.2.1) (FTk.2.2.2.2.2.2.2.2.2.2.2.1) (FTk.2.2.2.2.2.2.2.2.2.2.2.2.1) (FTk.2.2.2.2.2.2.2.2.2.2.2.2.2.1) (FTk.2.2.2.2.2.2.2.2.2.2.2.2.2.2)
  intro w dp un fr gd s mean mg mb E H0 Q fa vs ts
  intro W hs hdp hun hsq hvs hts hn ret
  refine' enter (H0 := H0) (mean := mean) (mg := mg) (mb := mb) (binds := [("flags", .ref fa)]) W hs [] (fun _ h => nomatch h) (by show dp < recursionLimit; first | exact room0 (by assumption) | omega) ?ho ?hcd ?hbind ?hloc ?_ ?hcell ?hco ?hgen ?hk
  (case ho => k_is); (case hcd => k_is); (case hbind => exact BindsTo.of_eq rfl); (case hloc => exact locs rfl); (case hcell => decide); (case hco => exact rfl); (case hgen => exact rfl); (case hk => exact rfl)
  intro g L' h₁ hg hst F N X T
  simp only [List.map_nil, hideAll] at hg
  subst hg
  dsimp only [List.reverse, List.reverseAux] at F
  clear hst
  revert F N
  revert L' h₁
  refine @eps2 _ _ ⟨((0 : Addr), ({} : Heap))⟩ ?P4 ((?close4 : ∀ a0 a1, ?P4 a0 a1) _ _ )
  intro L' h₁ F N
  try k_fold
  k_extra "MINE steps"
  rename Fr _ _ _ _ => F1
  rename News _ _ _ _ => N1
  rename Addr => fl0
  have hlen : vs.length ≤ 60 := Nat.le_trans (Nat.le_of_eq (StrsAre.length hvs)) (Nat.le_of_lt hn)
  refine For_it (s := s) (g := s.heap) rfl ?_ (by intro _; rfl) .never
  walk1
  refine seq_at _ _ (FTJ ts) _ _ rfl rfl fa hsq rfl rfl F1 N1 (.mk _ [] [] 0 rfl .nil .nil (fun _ => Iff.rfl) (Nat.le_refl _)) ?_ ?_
  · clear F1 N1
    rintro i v m₁ news₁ h₂ tk₂ ⟨I, oI⟩ hi hv ⟨fl, fvs, found, n, hm, hfv, hnd, hmem, hfl⟩ ha F₂ N₂
    obtain ⟨x, t, rfl, hx⟩ := strs_get hvs hv
    have hxu : x ∈ UNI := hts x (List.mem_of_getElem? hx)
    have hI : @Ne Nat fl I := ha _ (.head _)
    have hfl' : fvs.length ≤ 60 := Nat.le_trans hfl (Nat.le_trans (Nat.le_of_lt hi) hlen)
    clear ha hv
    k_extra "MINE steps"
    · rename Fr _ _ _ _ => FF
      rename News _ _ _ _ => NN
      rename (List.any _ _ = true) => hin
      exact TurnEnd.next _ FF NN (one_apart hI) (.mk fl fvs found n hm hfv hnd (mem_take_in hx hmem hin) (Nat.le_succ_of_le hfl))
    · rename Fr _ _ _ _ => FF
      rename News _ _ _ _ => NN
      rename (List.any _ _ = false) => hin
      exact TurnEnd.next _ FF NN (one_apart hI) (.mk fl _ (found ++ [x]) (n + 1) hm (strs_snoc hfv x _) (nodup_snoc hnd hin) (mem_take_snoc hx hmem) (by rw [List.length_append]; exact Nat.succ_le_succ hfl))
  · clear F1 N1
    rintro m' news' h' tk' F' N' ⟨fl, fvs, found, n, hm, hfv, hnd, hmem, hfl⟩
    rw [List.take_of_length_le (Nat.le_of_eq (StrsAre.length hvs).symm)] at hmem
    have hfl' : fvs.length ≤ 60 := Nat.le_trans hfl hlen
    k_extra "MINE steps"
    rename List.Perm _ _ => hP
    rename sortedS _ = true => hSo
    rename StrsAre _ _ => hS'
    rename Fr _ _ _ _ => FF
    rename News _ _ _ _ => NN
    rw [sorted_canon hP hnd hmem hts hSo] at hS'
    exact ret _ _ _ _ FF.keep (NN _ (.head _)).2.2 (NN _ (.head _)).1 hS'
theorem flag_tuple_spec {w : World} {dp : Nat} {un : Nat} {fr : Option (List Env)} {gd : Option (List Code)} {s : Shared} {mean : ExcName → Option Value} {mg : Str → Option Value} {mb : Str → Option Value} {E : Value → Shared → Prop} {H0 : Heap} {Q : Value → Shared → Prop} {fa : Addr} {vs : List Value} {ts : List Str} : ∀ (W : Wd w.params mean mg mb H0) (hs : H0.StaysIn s.heap) (hdp : dp + 6 < recursionLimit) (hun : un + 40 < cLine)
    (hsq : s.heap.IsList fa vs.toArray ∨ IsTup s.heap fa vs.toArray) (hvs : StrsAre vs ts) (hts : ∀ x ∈ ts, x ∈ UNI) (hn : ts.length < 60)
    (ret : ∀ r vs' h' tk', s.heap.StaysIn h' → s.heap.get? r = none → h'.get? r = some { cls := .type "tuple", data := .seq vs'.toArray } → StrsAre vs' (canon ts) → Q (.ref r) { s with heap := h', toks := tk' }),
    wpAny (model PySem.Challenge.rw_no0367_01.row.prog w) (Ar dp un fr gd) (call (.ref 82) [.ref fa]) Q E s :=
  eps_all (P := FTP) FTne (by with_unfolding_all exact FTc.pf) (w, dp, un, fr, gd, s, mean, mg, mb, E, H0, Q, fa, vs, ts)


section
variable {prog : Program} {w : World} {A : Around} {R : Result → Shared → Prop} {s : Shared}
noncomputable abbrev testsOf (ifs : List Expr) (env : Env) : Sem Bool := forIn ifs true fun c r => if r = true then do let ok ← isTrue c env (eval c env); pure (ForInStep.yield ok) else pure (ForInStep.yield r)
theorem compLoop_any {elt target iter : Expr} {ifs : List Expr} {scope : Scope} {pos : Pos} {it acc : Value} {env : Env} (I : Nat → Shared → Prop)
    (turn : ∀ n s, I n s → wpAny (model prog w) A (pyNext it) (fun r s₁ => match r with
      | none => R (.ok .next) s₁
      | some v => wpAny (model prog w) A (letOwnedTupleGo target it v) (fun _ s₁' => wpAny (model prog w) A (assign target env v) (fun _ s₂ =>
          wpAny (model prog w) A (testsOf ifs env) (fun ok s₃ =>
            if ok = true then wpAny (model prog w) A (eval elt env) (fun x s₄ =>
              wpAny (model prog w) A (call (.builtin "list.append") [acc, x]) (fun _ s₅ => ∃ m, m < n ∧ I m s₅) (fun _ _ => False) s₄) (fun _ _ => False) s₃
            else ∃ m, m < n ∧ I m s₃) (fun _ _ => False) s₂) (fun _ _ => False) s₁') (fun _ _ => False) s₁) (fun _ _ => False) s)
    (n : Nat) (h : I n s) : codeAny (model prog w) A (.compLoop (.ListComp elt [⟨target, iter, ifs, 0⟩] scope pos) 0 it acc env) R s := by
  refine codeAny_loop rfl I (fun n s hI => ?_) n h
  show wpAny _ A ((compTurn (.ListComp elt [⟨target, iter, ifs, 0⟩] scope pos) 0 it acc env).onRaise (fun x => do noteFrame x env; theTreesLotGoes x)) _ _ s
  refine wpAny_noted ?_
  rw [compTurn_list]
  refine wpAny_mono (Q := _) (?_ : wpAny _ _ _ _ (fun _ _ => False) s) (fun _ _ x => x) fun _ _ x => x.elim
  refine wpAny_bind (wpAny_standAt (wpAny_bind (wpAny_mono (turn n s hI) (fun r s₁ h₁ => ?_) fun _ _ h' => h')))
  cases r with
  | none => exact wpAny_pure h₁
  | some v =>
    refine wpAny_bind (wpAny_mono h₁ (fun _ s₁' h₁' => ?_) fun _ _ h' => h')
    refine wpAny_bind (wpAny_mono h₁' (fun _ s₂ h₂ => wpAny_bind (wpAny_mono h₂ (fun ok s₃ h₃ => ?_) fun _ _ h' => h')) fun _ _ h' => h')
    cases ok with
    | false => exact wpAny_pure ⟨rfl, h₃⟩
    | true =>
      exact wpAny_bind (wpAny_bind (wpAny_mono h₃ (fun x s₄ h₄ => wpAny_bind (wpAny_mono h₄ (fun _ s₅ h₅ => wpAny_pure (wpAny_pure ⟨rfl, h₅⟩)) fun _ _ h' => h')) fun _ _ h' => h'))

/-- the end of a comprehension's turn -/
inductive CompEnd (g : Heap) (C D : Addr) (its : List (Addr × Obj)) (oD : Obj) (fa : List Addr) (J : List (Addr × Obj) → Prop) (s₀ : Shared) : Shared → Prop
  | mk (h' : Heap) (tk' : Nat) (m' : Str → Option Value) (imm' : List (Addr × Obj)) : Fr g C h' m' → News g C h' (its ++ (D, oD) :: imm') → (∀ p ∈ imm', p.1 ∉ fa ∧ p.1 ≠ D) → J imm' → CompEnd g C D its oD fa J s₀ { s₀ with heap := h', toks := tk' }
/-- between the turns -/
inductive CompI (g : Heap) (C D : Addr) (fa : List Addr) (n : Nat) (J : Nat → List Value → List (Addr × Obj) → Prop) (St : Nat → Heap → Prop) (s : Shared) (k : Nat) : Shared → Prop
  | mk (h' : Heap) (tk : Nat) (m' : Str → Option Value) (ys : List Value) (imm : List (Addr × Obj)) (e i : Nat) : St i h' → Fr g C h' m' → News g C h' ((D, listOf ys.toArray e) :: imm) → (∀ p ∈ imm, p.1 ∉ fa ∧ p.1 ≠ D) → J i ys imm → ys.length ≤ i → i ≤ n → k = n + 1 - i →
      CompI g C D fa n J St s k { s with heap := h', toks := tk }

theorem upd_mid {D : Addr} {o o' : Obj} : ∀ (its : List (Addr × Obj)) {imm : List (Addr × Obj)}, (∀ p ∈ its, p.1 ≠ D) → (∀ p ∈ imm, p.1 ≠ D) → Upd D o o' (its ++ (D, o) :: imm) (its ++ (D, o') :: imm)
  | [], _, _, h => .head h
  | p :: r, _, h1, h2 => .tail (h1 p (.head _)) (upd_mid r (fun q hq => h1 q (.tail _ hq)) h2)
theorem comp_block {Hs : Heap} {E : Value → Shared → Prop} {env : Env} {elt target iter : Expr} {ifs : List Expr} {scope : Scope} {cl : List (Str × Addr)} {pos : Pos} {I : Addr} {fa : List Addr} {n : Nat} {Ok : Nat → Heap → Prop} {P : Nat → Value → Heap → Prop} {St : Nat → Heap → Prop}
    (K : Itr prog w A target Ok I fa n P St) (hOk : ∀ i h, (hideAll Hs fa).StaysIn h → Ok i h) (J : Nat → List Value → List (Addr × Obj) → Prop) {RR : Value → Addr → Result → Shared → Prop}
    (hcell : ∀ y ∈ scope.names, y.2 ≠ .cell) (hkind : scope.kind = .function) (hst : St 0 Hs) (hn : n ≤ 1000) (hJ : J 0 [] [])
    (turn : ∀ i v C D h tk m ys imm its e, i < n → P i v h → J i ys imm → ys.length ≤ i → its.map (·.1) = fa → D ∉ fa → C ≠ D → (∀ p ∈ imm, p.1 ∉ fa ∧ p.1 ≠ D) → Hs.objs.size ≤ D →
      Fr (hideAll Hs fa) C h m → News (hideAll Hs fa) C h (its ++ (D, listOf ys.toArray e) :: imm) →
      wpAny (model prog w) A (assign target (compEnvC scope cl C env) v) (fun _ s₃ => wpAny (model prog w) A (testsOf ifs (compEnvC scope cl C env)) (fun ok s₄ =>
        if ok = true then wpAny (model prog w) A (eval elt (compEnvC scope cl C env)) (fun y s₅ => CompEnd (hideAll Hs fa) C D its (listOf ys.toArray e) fa (J (i + 1) (ys ++ [y])) s s₅) (fun _ _ => False) s₄
        else CompEnd (hideAll Hs fa) C D its (listOf ys.toArray e) fa (J (i + 1) ys) s s₄) (fun _ _ => False) s₃) (fun _ _ => False) { s with heap := h, toks := tk })
    (hRR : ∀ D C h' tk m' ys imm e, Hs.get? D = none → Hs.get? C = none → D ≠ C → Hs.objs.size ≤ D → h'.Ns C m' → h'.get? D = some (listOf ys.toArray e) →
      (∀ p ∈ imm, h'.get? p.1 = some p.2 ∧ p.1 ≠ C ∧ p.1 ≠ D ∧ Hs.get? p.1 = none) → J n ys imm → ys.length ≤ n → (hideAll Hs fa).StaysIn h' → RR (.ref D) C (.ok .next) { s with heap := h', toks := tk }) :
    wpAny (model prog w) A (newList []) (fun acc s₃ => wpAny (model prog w) A (newFunctionEnv scope env.globals cl [] env.qual none .none (some env)) (fun cenv s₄ =>
      codeAny (model prog w) A (.compStart (.ListComp elt [⟨target, iter, ifs, 0⟩] scope pos) 0 (.ref I) acc { cenv with scope := relabel scope env }) (RR acc cenv.locals) s₄) E s₃) E { s with heap := Hs } := by
  refine wpAny_newObj_type (wpAny_newFunctionEnv hcell (by intro y hy; simp at hy) (fun h₁ hns₁ hsb₁ => ?_) hkind)
  dsimp only at hns₁ hsb₁ ⊢
  generalize hH2 : Hs.push { cls := .type "list", dict := none, data := .seq ([] : List Value).toArray } = H2 at hns₁ hsb₁ ⊢
  have hC : H2.objs.size = Hs.objs.size + 1 := by rw [← hH2, Heap.size_push]
  have hCD : @Ne Nat H2.objs.size Hs.objs.size := by rw [hC]; exact Nat.succ_ne_self _
  have hlive := K.live 0 _ hst
  have hfa : ∀ b ∈ fa, b < Hs.objs.size := fun b hb => let ⟨o, ho⟩ := hlive b hb; Heap.lt_size ho
  have hDf : Hs.objs.size ∉ fa := fun hm => Nat.lt_irrefl _ (hfa _ hm)
  have hCf : H2.objs.size ∉ fa := fun hm => Nat.lt_irrefl _ (Nat.lt_trans (hfa _ hm) (by rw [hC]; exact Nat.lt_succ_self _))
  have below : ∀ b, b < Hs.objs.size → b ≠ H2.objs.size := fun b hb => Nat.ne_of_lt (by rw [hC]; exact Nat.lt_succ_of_lt hb)
  have old : ∀ b o, Hs.get? b = some o → h₁.get? b = some o := fun b o e => hsb₁.extBut b o (below b (Heap.lt_size e)) (Heap.get?_push_of_some _ (hH2 ▸ Heap.get?_push_of_some _ e))
  have hacc : h₁.get? Hs.objs.size = some (listOf ([] : List Value).toArray 0) := hsb₁.extBut _ _ (Ne.symm hCD) (Heap.get?_push_of_some _ (hH2 ▸ Heap.get?_push_size _ rfl))
  have fresh : ∀ a, Hs.objs.size ≤ a → Hs.get? a = none := fun a ha => by
    cases e : Hs.get? a with
    | none => rfl
    | some o' => exact absurd (Heap.lt_size e) (Nat.not_lt.mpr ha)
  have hideNone : ∀ a, Hs.get? a = none → (hideAll Hs fa).get? a = none := fun a ha => by
    cases e : (hideAll Hs fa).get? a with
    | none => rfl
    | some o' => rw [of_hideAll _ e] at ha; cases ha
  have g1 : (hideAll Hs fa).StaysIn h₁ := fun b o e => old b o (of_hideAll _ e)
  have gfa : ∀ b o, (hideAll Hs fa).get? b = some o → b ∉ fa := fun b o e q => by rw [hideAll_none _ q] at e; cases e
  have F1 : Fr (hideAll Hs fa) H2.objs.size h₁ (fun x => List.lookup x ([] : List (Str × Value)).reverse) := ⟨hns₁, g1, by rw [hideAll_size, hC]; exact Nat.le_succ _⟩
  have st1 : St 0 h₁ := K.frame 0 _ _ hst fun b _ o e => old b o e
  have loop : ∀ s₃ : Shared, s₃ = { s with heap := h₁, toks := s.toks + ([] : List (Str × Value)).length } →
      codeAny (model prog w) A (.compLoop (.ListComp elt [⟨target, iter, ifs, 0⟩] scope pos) 0 (.ref I) (.ref Hs.objs.size) (compEnvC scope cl H2.objs.size env))
        (RR (.ref Hs.objs.size) H2.objs.size) s₃ := by
    rintro s₃ rfl
    refine compLoop_any (CompI (hideAll Hs fa) H2.objs.size Hs.objs.size fa n J St s) ?_ (n + 1)
      (.mk h₁ _ _ [] [] 0 0 st1 F1 (fun p hp => by rw [List.mem_singleton.mp hp]; exact ⟨hacc, Ne.symm hCD, hideNone _ (fresh _ (Nat.le_refl _))⟩) (fun _ hp => nomatch hp) hJ (Nat.le_refl _) (Nat.zero_le _) rfl)
    rintro k s' ⟨h', tk, m', ys, imm, e, i, st', F', N', ha', hJ', hys, hi, rfl⟩
    rcases Nat.lt_or_ge i n with hlt | hge
    · refine wpAny_mono (K.item i _ _ _ _ hlt st' (hOk _ _ F'.keep) fun v h₂ tk₂ hP st₂ hk₂ => ?_) (fun r s₁ h => by cases r <;> exact h) fun _ _ x => x
      have F₂ : Fr (hideAll Hs fa) H2.objs.size h₂ m' := ⟨F'.ns.at' fun o q => hk₂ _ o hCf q, fun b o q => hk₂ b o (gfa b o q) (F'.keep b o q), F'.above⟩
      have N₂ : News (hideAll Hs fa) H2.objs.size h₂ ((Hs.objs.size, listOf ys.toArray e) :: imm) := News.up N' fun p hp q => hk₂ _ _ (by
        rcases List.mem_cons.mp hp with rfl | hp
        · exact hDf
        · exact (ha' p hp).1) q
      obtain ⟨its, hits, hito⟩ := live_list fa (K.live _ _ st₂)
      have hitf : ∀ p ∈ its, p.1 ∈ fa := fun p hp => hits ▸ List.mem_map_of_mem hp
      have N₃ : News (hideAll Hs fa) H2.objs.size h₂ (its ++ (Hs.objs.size, listOf ys.toArray e) :: imm) := fun p hp => by
        rcases List.mem_append.mp hp with q | q
        · exact ⟨hito p q, fun z => hCf (z ▸ hitf p q), hideAll_none _ (hitf p q)⟩
        · exact N₂ p q
      have back : ∀ h₃ : Heap, (∀ p ∈ its, h₃.get? p.1 = some p.2) → St (i + 1) h₃ := fun h₃ hp₃ => K.frame _ _ _ st₂ fun b hb o q => by
        rw [← hits] at hb
        obtain ⟨p, hp, rfl⟩ := List.mem_map.mp hb
        exact Option.some.inj ((hito p hp).symm.trans q) ▸ hp₃ p hp
      have hk : n + 1 - (i + 1) < n + 1 - i := Nat.sub_lt_sub_left (Nat.lt_succ_of_le hi) (Nat.lt_succ_self i)
      have hitD : ∀ p ∈ its, p.1 ≠ Hs.objs.size := fun p hp q => hDf (q ▸ hitf p hp)
      refine wpAny_mono (turn i v H2.objs.size Hs.objs.size h₂ tk₂ m' ys imm its e hlt hP hJ' hys hits hDf hCD ha' (Nat.le_refl _) F₂ N₃) (fun _ s₃ h₃ => wpAny_mono h₃ (fun ok s₄ h₄ => ?_) fun _ _ x => x) fun _ _ x => x
      cases ok with
      | false =>
        simp only [Bool.false_eq_true, if_false] at h₄ ⊢
        obtain ⟨h₅, tk₅, m₅, imm₅, F₅, N₅, ha₅, hJ₅⟩ := h₄
        exact ⟨_, hk, .mk h₅ tk₅ m₅ ys imm₅ e (i + 1) (back _ fun p hp => (N₅ p (List.mem_append_left _ hp)).1) F₅ (fun p hp => N₅ p (List.mem_append_right _ hp)) ha₅ hJ₅ (Nat.le_succ_of_le hys) hlt rfl⟩
      | true =>
        simp only [if_true] at h₄ ⊢
        refine wpAny_mono h₄ (fun y s₅ h₅ => ?_) fun _ _ x => x
        obtain ⟨h₅, tk₅, m₅, imm₅, F₅, N₅, ha₅, hJ₅⟩ := h₅
        refine append_l F₅ N₅ (upd_mid its hitD fun p hp => (ha₅ p hp).2) (Nat.le_trans hys (Nat.le_trans hi hn)) fun h₆ F₆ N₆ => ?_
        exact ⟨_, hk, .mk h₆ tk₅ m₅ (ys ++ [y]) imm₅ (e + 1) (i + 1) (back _ fun p hp => (N₆ p (List.mem_append_left _ hp)).1) F₆ (fun p hp => N₆ p (List.mem_append_right _ hp)) ha₅ hJ₅ (by rw [List.length_append]; exact Nat.succ_le_succ hys) hlt rfl⟩
    · obtain rfl : i = n := Nat.le_antisymm hi hge
      refine wpAny_mono (K.done _ (fun v s₂ => False) (fun s₁ => RR (.ref Hs.objs.size) H2.objs.size (.ok .next) s₁) (fun _ _ => False) st' (hOk _ _ F'.keep) fun h₂ tk₂ hk₂ => ?_) (fun r s₁ h => ?_) fun _ _ x => x
      rotate_left
      · cases r with
        | none => exact h
        | some v => exact wpAny_mono h (fun _ _ x => x.elim) fun _ _ x => x
      · refine hRR _ _ h₂ tk₂ m' ys imm e (fresh _ (Nat.le_refl _)) (fresh _ (by rw [hC]; exact Nat.le_succ _)) (Ne.symm hCD) (Nat.le_refl _) (F'.ns.at' fun o q => hk₂ _ o hCf q) (hk₂ _ _ hDf (N' _ (.head _)).1) (fun p hp => ?_) hJ' hys (fun b o q => hk₂ b o (gfa b o q) (F'.keep b o q))
        have q := N' p (.tail _ hp)
        refine ⟨hk₂ _ _ (ha' p hp).1 q.1, q.2.1, (ha' p hp).2, ?_⟩
        cases z : Hs.get? p.1 with
        | none => rfl
        | some o => have := q.2.2; rw [hideAll_get _ z (ha' p hp).1] at this; cases this
  exact codeAny_compStart_list (loop _ rfl) (K.self 0 _ _ _ st1 (loop _ rfl))
end


/-- what a comprehension runs over -/
inductive CSrc (h : Heap) (own : List Addr) (xv : Value) (target : Expr) (n : Nat) (P : Nat → Value → Heap → Prop) : Prop
  | mk (k : Nat) (Ok : Nat → Heap → Prop) : Src h own k xv target n Ok P → (∀ i h', (∀ b o, b ∉ own → h.get? b = some o → h'.get? b = some o) → Ok i h') → CSrc h own xv target n P
section
variable {h : Heap}
theorem nil_stays {h h' : Heap} (k : ∀ b o, b ∉ ([] : List Addr) → h.get? b = some o → h'.get? b = some o) : h.StaysIn h' := fun b o e => k b o (fun q => nomatch q) e
theorem CSrc.list {l : Addr} {items : List Value} (x : Str) (px : Pos) (hl : h.IsList l items.toArray) : CSrc h [] (.ref l) (.Name x px) items.length (fun i v _ => items[i]? = some v) :=
  .mk 1 (fun _ h => h.IsList l items.toArray) (.list x px hl fun _ _ a => .mk _ a rfl fun _ _ e _ => List.getElem?_toArray ▸ e) fun _ _ k => keepsList hl (nil_stays k)
theorem CSrc.tup {l : Addr} {items : List Value} (x : Str) (px : Pos) (hl : IsTup h l items.toArray) : CSrc h [] (.ref l) (.Name x px) items.length (fun i v _ => items[i]? = some v) :=
  .mk 1 (fun _ h => IsTup h l items.toArray) (.tup x px hl fun _ _ a => ⟨a, fun _ _ e => List.getElem?_toArray ▸ e⟩) fun _ _ k => keepsTup hl (nil_stays k)
theorem CSrc.range {r : Addr} {n : Nat} {a : Int} {t u v : Tok} (x : Str) (px : Pos) (hr : IsRange h r 0 a 1 t u v) (ha : a = n) (hn : n ≤ 1000) : CSrc h [] (.ref r) (.Name x px) n (fun i v _ => ∃ t, v = .int (i : Int) t) :=
  .mk 1 (fun _ _ => True) (.range x px hr ha hn fun _ t _ => ⟨t, rfl⟩) fun _ _ _ => trivial
theorem CSrc.enum {e it l : Addr} {items : List Value} (elts : List Expr) (x1 : Nat) (pt : Pos) (hl : h.IsList l items.toArray) (he : IsEnum h e it 0 .none) (hit : h.IsListIter it l 0) (hne : e ≠ it) (hle : l ≠ e) (hli : l ≠ it) :
    CSrc h [e, it] (.ref e) (.Tuple elts x1 pt) items.length (fun i v h => EnP i (fun x _ => items[i]? = some x) h v) :=
  .mk 2 (fun _ h => h.IsList l items.toArray) (.enum elts x1 pt he hit hne fun _ _ a => .mk _ a rfl fun _ _ e _ => List.getElem?_toArray ▸ e) fun _ _ k =>
    let ⟨o, ho, r⟩ := hl
    ⟨o, k _ _ (fun q => (List.mem_cons.mp q).elim hle fun q => hli (List.mem_singleton.mp q)) ho, r⟩
end

section
variable {prog : Program} {w : World} {A : Around} {E : Value → Shared → Prop} {env : Env}
/-- a turn of a comprehension -/
noncomputable abbrev CompTurn (prog : Program) (w : World) (A : Around) (env : Env) (target elt : Expr) (ifs : List Expr) (scope : Scope) (cl : List (Str × Addr)) (s₁ : Shared) (own : List Addr) (n : Nat) (P : Nat → Value → Heap → Prop)
    (J : Nat → List Value → List (Addr × Obj) → Prop) : Prop :=
  ∀ g : Heap, (∀ b o, b ∉ own → s₁.heap.get? b = some o → g.get? b = some o) → ∀ i v C D h tk m ys imm its e fa, i < n → P i v h → J i ys imm → ys.length ≤ i → its.map (·.1) = fa → D ∉ fa → C ≠ D → (∀ p ∈ imm, p.1 ∉ fa ∧ p.1 ≠ D) →
    Fr g C h m → News g C h (its ++ (D, listOf ys.toArray e) :: imm) →
    wpAny (model prog w) A (assign target (compEnvC scope cl C env) v) (fun _ s₃ => wpAny (model prog w) A (testsOf ifs (compEnvC scope cl C env)) (fun ok s₄ =>
      if ok = true then wpAny (model prog w) A (eval elt (compEnvC scope cl C env)) (fun y s₅ => CompEnd g C D its (listOf ys.toArray e) fa (J (i + 1) (ys ++ [y])) s₁ s₅) (fun _ _ => False) s₄
      else CompEnd g C D its (listOf ys.toArray e) fa (J (i + 1) ys) s₁ s₄) (fun _ _ => False) s₃) (fun _ _ => False) { s₁ with heap := h, toks := tk }

theorem fr_hidden {g0 h h' : Heap} {L : Addr} {m : Str → Option Value} {fa : List Addr} (F : Fr g0 L h m) (k : (hideAll h fa).StaysIn h') (hL : L ∉ fa) (hg : ∀ b ∈ fa, g0.get? b = none) : Fr g0 L h' m :=
  ⟨F.ns.at' fun o q => k _ o (hideAll_get _ q hL), fun b o e => k _ _ (hideAll_get _ (F.keep b o e) fun q => by rw [hg b q] at e; cases e), F.above⟩
theorem news_hidden {g0 h h' : Heap} {L : Addr} {news : List (Addr × Obj)} {fa : List Addr} (N : News g0 L h news) (k : (hideAll h fa).StaysIn h') (hn : ∀ p ∈ news, p.1 ∉ fa) : News g0 L h' news :=
  fun p hp => ⟨k _ _ (hideAll_get _ (N p hp).1 (hn p hp)), (N p hp).2⟩

/-- what a comprehension's source must give -/
inductive CompAt (prog : Program) (w : World) (A : Around) (env : Env) (target elt : Expr) (ifs : List Expr) (scope : Scope) (cl : List (Str × Addr)) (um : (Str → Option Value) → Addr → Str → Option Value) (Q : Value → Shared → Prop) (xv : Value) (s₁ : Shared) : Prop
  | mk (own : List Addr) (n : Nat) (P : Nat → Value → Heap → Prop) (g0 : Heap) (m : Str → Option Value) (news : List (Addr × Obj)) (J : Nat → List Value → List (Addr × Obj) → Prop) :
    CSrc s₁.heap own xv target n P → n ≤ 1000 → Fr g0 env.locals s₁.heap m → News g0 env.locals s₁.heap news → (∀ b ∈ own, g0.get? b = none ∧ b ≠ env.locals ∧ ∀ p ∈ news, p.1 ≠ b) → J 0 [] [] →
    CompTurn prog w A env target elt ifs scope cl s₁ own n P J →
    (∀ D h' tk ys imm e, J n ys imm → ys.length ≤ n → Fr g0 env.locals h' (um m D) → News g0 env.locals h' ((D, listOf ys.toArray e) :: (imm ++ news)) → (∀ p ∈ news, p.1 < D) → Q (.ref D) { s₁ with heap := h', toks := tk }) →
    CompAt prog w A env target elt ifs scope cl um Q xv s₁

theorem LC {elt target iter : Expr} {ifs : List Expr} {scope : Scope} {cl : List (Str × Addr)} {pos : Pos} {s : Shared} {Q : Value → Shared → Prop} (hh : A.handled = none) (hclos : closureFor scope env = pure cl)
    (hcell : ∀ y ∈ scope.names, y.2 ≠ .cell) (hkind : scope.kind = .function) (hnames : ∀ y ∈ scope.names, y.2 = .local → scope.names.lookup y.1 = some .local)
    (h : wpAny (model prog w) A (eval iter env) (CompAt prog w A env target elt ifs scope cl (fun m _ => m) Q) E s)
    (hs : ∀ x, foldedSetIterable iter env x = pure x) :
    wpAny (model prog w) A (eval (.ListComp elt [⟨target, iter, ifs, 0⟩] scope pos) env) Q E s := by
  rw [eval_ListComp]
  refine wpAny_comprehension_free (use := none) rfl hs hclos hkind hnames (wpAny_mono h (fun xv s₁ h₁ => ?_) fun _ _ e => e)
  obtain ⟨own, n, P, g0, m, news, J, ⟨k0, Ok, S, hOk⟩, hn, F, N, ho, j0, turn, done⟩ := h₁
  refine src_iter hh S fun I fa St h₂ K st k hfa _ => ?_
  have up : ∀ b o, b ∉ own → s₁.heap.get? b = some o → (hideAll h₂ fa).get? b = some o := fun b o hb q => hideAll_get _ (k b o q) fun z => (hfa b z).elim (fun e => by rw [q] at e; cases e) hb
  have hg0 : ∀ b ∈ fa, g0.get? b = none := fun b hb => (hfa b hb).elim (fun e => (Fr.fresh F e).2) fun q => (ho b q).1
  have hL : env.locals ∉ fa := fun q => (hfa _ q).elim (fun e => (Fr.fresh F e).1 rfl) fun q => (ho _ q).2.1 rfl
  have hnews : ∀ p ∈ news, p.1 ∉ fa := fun p hp q => (hfa _ q).elim (fun e => by rw [(N p hp).1] at e; cases e) fun q => (ho _ q).2.2 p hp rfl
  have F₂ := Fr.grow F k
  have N₂ := News.grow N k
  refine comp_block (s := s₁) (Hs := h₂) (RR := fun acc C => compPost (model prog w) A E none Q acc C) K (fun i h' k' => hOk i h' fun b o hb q => k' b o (up b o hb q)) J hcell hkind st hn j0 ?_ ?_
  · intro i v C D h tk m ys imm its e hi hP hJ hys hits hDf hCD himm hold F N
    exact turn _ up i v C D h tk m ys imm its e fa hi hP hJ hys hits hDf hCD himm F N
  · intro D C h' tk m' ys imm e hD hC hDC hDs hn' hl himm hJ hys hk
    refine ⟨m', hn', fun h'' hs'' => ?_⟩
    have k' : (hideAll h₂ fa).StaysIn h'' := fun b o q => hs''.extBut b o (by rintro rfl; rw [of_hideAll _ q] at hC; cases hC) (hk b o q)
    refine done D h'' tk ys imm e hJ hys (fr_hidden F₂ k' hL hg0) (fun p hp => ?_) ?_
    · rcases List.mem_cons.mp hp with rfl | hp
      · exact ⟨hs''.extBut _ _ hDC hl, Fr.fresh F₂ hD⟩
      · rcases List.mem_append.mp hp with hp | hp
        · obtain ⟨a1, a2, a3, a4⟩ := himm p hp
          exact ⟨hs''.extBut _ _ a2 a1, Fr.fresh F₂ a4⟩
        · exact news_hidden N₂ k' hnews p hp
    · exact fun p hp => Nat.lt_of_lt_of_le (Heap.lt_size (N₂ p hp).1) hDs

theorem LCuse {elt target iter : Expr} {ifs : List Expr} {scope : Scope} {cl : List (Str × Addr)} {pos spos py : Pos} {y : Str} {s : Shared} {Q : Flow → Shared → Prop} (hh : A.handled = none)
    (hsw : swapsWith (.ListComp elt [⟨target, iter, ifs, 0⟩] scope pos) (some (.Name y py)) spos.line env = pure true)
    (hclos : closureFor scope env = pure cl) (hcell : ∀ y ∈ scope.names, y.2 ≠ .cell) (hkind : scope.kind = .function) (hnames : ∀ y ∈ scope.names, y.2 = .local → scope.names.lookup y.1 = some .local)
    (hy : env.kindOf y = some .local) (hp : (env.scope.kind == .class || (env.scope.kind == .module && env.locals != env.globals)) = false)
    (h : wpAny (model prog w) A (eval iter env) (CompAt prog w A env target elt ifs scope cl (fun m D x => if x = y then some (.ref D) else m x) (fun _ => Q .next)) E s)
    (hs : ∀ x, foldedSetIterable iter env x = pure x) :
    wpAny (model prog w) A (exec (.Assign [.Name y py] (.ListComp elt [⟨target, iter, ifs, 0⟩] scope pos) spos) env) Q E s := by
  rw [exec_Assign_Name_used _ _ _ _ hsw]
  refine wpAny_bind (wpAny_standAt (wpAny_bind ?_))
  show wpAny _ A (do let _ ← comprehension (.ListComp elt [⟨target, iter, ifs, 0⟩] scope pos) scope env _ (newList []) false (eval iter env) (some (assign (.Name y py) env))) _ _ s
  refine wpAny_bind (wpAny_mono (wpAny_comprehension_free (use := some (assign (.Name y py) env)) (Q := fun _ s' => Q .next s') rfl hs hclos hkind hnames
    (wpAny_mono h (fun xv s₁ h₁ => ?_) fun _ _ e => e)) (fun _ s' hq => wpAny_pure (wpAny_pure hq)) fun _ _ e => e)
  obtain ⟨own, n, P, g0, m, news, J, ⟨k0, Ok, S, hOk⟩, hn, F, N, ho, j0, turn, done⟩ := h₁
  refine src_iter hh S fun I fa St h₂ K st k hfa _ => ?_
  have up : ∀ b o, b ∉ own → s₁.heap.get? b = some o → (hideAll h₂ fa).get? b = some o := fun b o hb q => hideAll_get _ (k b o q) fun z => (hfa b z).elim (fun e => by rw [q] at e; cases e) hb
  have hg0 : ∀ b ∈ fa, g0.get? b = none := fun b hb => (hfa b hb).elim (fun e => (Fr.fresh F e).2) fun q => (ho b q).1
  have hL : env.locals ∉ fa := fun q => (hfa _ q).elim (fun e => (Fr.fresh F e).1 rfl) fun q => (ho _ q).2.1 rfl
  have hnews : ∀ p ∈ news, p.1 ∉ fa := fun p hp q => (hfa _ q).elim (fun e => by rw [(N p hp).1] at e; cases e) fun q => (ho _ q).2.2 p hp rfl
  have F₂ := Fr.grow F k
  have N₂ := News.grow N k
  refine comp_block (s := s₁) (Hs := h₂) (RR := fun acc C => compPost (model prog w) A E (some (assign (.Name y py) env)) (fun _ s' => Q .next s') acc C) K (fun i h' k' => hOk i h' fun b o hb q => k' b o (up b o hb q)) J hcell hkind st hn j0 ?_ ?_
  · intro i v C D h tk m ys imm its e hi hP hJ hys hits hDf hCD himm hold F N
    exact turn _ up i v C D h tk m ys imm its e fa hi hP hJ hys hits hDf hCD himm F N
  · intro D C h' tk m' ys imm e hD hC hDC hDs hn' hl himm hJ hys hk
    have F₃ := fr_hidden F₂ hk hL hg0
    have hLC : env.locals ≠ C := fun q => (Fr.fresh F₂ hC).1 q.symm
    have hLD : D ≠ env.locals := (Fr.fresh F₂ hD).1
    have N₃ : News g0 env.locals h' ((D, listOf ys.toArray e) :: (imm ++ news)) := fun p hp => by
      rcases List.mem_cons.mp hp with rfl | hp
      · exact ⟨hl, Fr.fresh F₂ hD⟩
      · rcases List.mem_append.mp hp with hp | hp
        · obtain ⟨a1, a2, a3, a4⟩ := himm p hp
          exact ⟨a1, Fr.fresh F₂ a4⟩
        · exact news_hidden N₂ hk hnews p hp
    have hnC : ∀ p ∈ (D, listOf ys.toArray e) :: (imm ++ news), p.1 ≠ C := fun p hp => by
      rcases List.mem_cons.mp hp with rfl | hp
      · exact hDC
      · rcases List.mem_append.mp hp with hp | hp
        · exact (himm p hp).2.1
        · intro q; have := (N₂ p hp).1; rw [q, hC] at this; cases this
    show wpAny _ A (assign (.Name y py) env (.ref D)) _ _ _
    refine wpAny_assign_Name (wpAny_storeName_local hy F₃.ns (fun h₄ hn₄ hs₄ => ?_) hp)
    have F₄ := F₃.set hn₄ hs₄
    have N₄ := N₃.set hs₄
    refine ⟨m', hn'.sameBut hs₄ (Ne.symm hLC), fun h₅ hs₅ => ?_⟩
    refine done D h₅ _ ys imm e hJ hys ⟨F₄.ns.sameBut hs₅ hLC, fun b o q => hs₅.extBut b o ?_ (F₄.keep b o q), F₄.above⟩ (News.up N₄ fun p hp q => hs₅.extBut _ _ (hnC p hp) q) fun p hp => Nat.lt_of_lt_of_le (Heap.lt_size (N₂ p hp).1) hDs
    rintro rfl
    have := F₂.keep b o q
    rw [hC] at this; cases this
end
section
variable {g : Heap} {C D : Addr} {its : List (Addr × Obj)} {oD : Obj} {fa : List Addr} {s₀ : Shared}
/-- a turn that leaves nothing -/
theorem CompEnd.nil {J : List (Addr × Obj) → Prop} {h' : Heap} {tk' : Nat} {m' : Str → Option Value} (F : Fr g C h' m') (N : News g C h' (its ++ [(D, oD)])) (hJ : J []) : CompEnd g C D its oD fa J s₀ { s₀ with heap := h', toks := tk' } :=
  .mk h' tk' m' [] F N (fun _ h => nomatch h) hJ
end
/-- nothing left, and p -/
inductive JN (p : Prop) : List (Addr × Obj) → Prop
  | mk : p → JN p []
/-- the end of a turn that leaves nothing but p -/
noncomputable def FlatEnd (g : Heap) (C D : Addr) (its : List (Addr × Obj)) (oD : Obj) (p : Prop) (s₀ s' : Shared) : Prop :=
  ∃ h' tk' m', s' = { s₀ with heap := h', toks := tk' } ∧ Fr g C h' m' ∧ News g C h' (its ++ [(D, oD)]) ∧ p
section
variable {g : Heap} {C D : Addr} {its : List (Addr × Obj)} {oD : Obj} {s₀ : Shared}
theorem FlatEnd.mk {p : Prop} {h' : Heap} {tk' : Nat} {m' : Str → Option Value} (F : Fr g C h' m') (N : News g C h' (its ++ [(D, oD)])) (q : p) : FlatEnd g C D its oD p s₀ { s₀ with heap := h', toks := tk' } := ⟨h', tk', m', rfl, F, N, q⟩
theorem FlatEnd.up {p : Prop} {J : List (Addr × Obj) → Prop} {fa : List Addr} (x : p → J []) {s' : Shared} (h : FlatEnd g C D its oD p s₀ s') : CompEnd g C D its oD fa J s₀ s' :=
  let ⟨_, _, _, e, F, N, q⟩ := h
  e ▸ .nil F N (x q)
end
section
variable {prog : Program} {w : World} {A : Around} {env : Env}
/-- a comprehension that leaves nothing behind a turn -/
theorem CompAt.flat {target elt : Expr} {ifs : List Expr} {scope : Scope} {cl : List (Str × Addr)} {um : (Str → Option Value) → Addr → Str → Option Value} {Q : Value → Shared → Prop} {xv : Value} {s₁ : Shared}
    {own : List Addr} {n : Nat} {P : Nat → Value → Heap → Prop} (g0 : Heap) {m : Str → Option Value} {news : List (Addr × Obj)} (J : Nat → List Value → Prop)
    (S : CSrc s₁.heap own xv target n P) (hn : n ≤ 1000) (F : Fr g0 env.locals s₁.heap m) (N : News g0 env.locals s₁.heap news) (ho : ∀ b ∈ own, g0.get? b = none ∧ b ≠ env.locals ∧ ∀ p ∈ news, p.1 ≠ b) (j0 : J 0 [])
    (turn : ∀ g : Heap, (∀ b o, b ∉ own → s₁.heap.get? b = some o → g.get? b = some o) → ∀ i v C D h tk m ys its e, i < n → P i v h → J i ys → ys.length ≤ i → Fr g C h m → News g C h (its ++ [(D, listOf ys.toArray e)]) →
      wpAny (model prog w) A (assign target (compEnvC scope cl C env) v) (fun _ s₃ => wpAny (model prog w) A (testsOf ifs (compEnvC scope cl C env)) (fun ok s₄ =>
        if ok = true then wpAny (model prog w) A (eval elt (compEnvC scope cl C env)) (fun y s₅ => FlatEnd g C D its (listOf ys.toArray e) (J (i + 1) (ys ++ [y])) s₁ s₅) (fun _ _ => False) s₄
        else FlatEnd g C D its (listOf ys.toArray e) (J (i + 1) ys) s₁ s₄) (fun _ _ => False) s₃) (fun _ _ => False) { s₁ with heap := h, toks := tk })
    (done : ∀ D h' tk ys e, J n ys → ys.length ≤ n → Fr g0 env.locals h' (um m D) → News g0 env.locals h' ((D, listOf ys.toArray e) :: news) → (∀ p ∈ news, p.1 < D) → Q (.ref D) { s₁ with heap := h', toks := tk }) :
    CompAt prog w A env target elt ifs scope cl um Q xv s₁ := by
  refine .mk own n P g0 m news (fun i ys imm => JN (J i ys) imm) S hn F N ho (.mk j0) ?_ fun D h' tk ys imm e hJ hys F' N' hl => by cases hJ with | mk hJ => exact done D h' tk ys e hJ hys F' N' hl
  intro g hg i v C D h tk m ys imm its e fa hi hP hJ hys _ _ _ _ F N
  cases hJ with
  | mk hJ =>
    refine wpAny_mono (turn g hg i v C D h tk m ys its e hi hP hJ hys F N) (fun _ s₃ h₃ => wpAny_mono h₃ (fun ok s₄ h₄ => ?_) fun _ _ x => x) fun _ _ x => x
    cases ok with
    | false => exact FlatEnd.up .mk h₄
    | true => exact wpAny_mono h₄ (fun _ _ h₅ => FlatEnd.up .mk h₅) fun _ _ x => x
end
theorem stays_trans {a b c : Heap} (x : a.StaysIn b) (y : b.StaysIn c) : a.StaysIn c := fun _ _ q => y _ _ (x _ _ q)
section
variable {α β : Type} {p : α → Bool} {l : List α} {i : Nat} {v : α} {f : α → β}
theorem take_snoc (h : l[i]? = some v) : l.take (i + 1) = l.take i ++ [v] := by rw [List.take_add_one, h]; rfl
theorem filt_in (h : l[i]? = some v) (hp : p v = true) : (l.take (i + 1)).filter p = (l.take i).filter p ++ [v] := by rw [take_succ_filter p l i v h, if_pos hp]
theorem filt_out (h : l[i]? = some v) (hp : p v = false) : (l.take (i + 1)).filter p = (l.take i).filter p := by rw [take_succ_filter p l i v h, hp]; exact List.append_nil _
theorem map_snoc (h : l[i]? = some v) : (l.take (i + 1)).map f = (l.take i).map f ++ [f v] := by rw [take_snoc h, List.map_append]; rfl
theorem mfilt_in (h : l[i]? = some v) (hp : p v = true) : ((l.take (i + 1)).filter p).map f = ((l.take i).filter p).map f ++ [f v] := by rw [filt_in h hp, List.map_append]; rfl
theorem mfilt_out (h : l[i]? = some v) (hp : p v = false) : ((l.take (i + 1)).filter p).map f = ((l.take i).filter p).map f := by rw [filt_out h hp]
theorem not_of_true {b : Bool} (h : b = true) : (!b) = false := by rw [h]; rfl
theorem not_of_false {b : Bool} (h : b = false) : (!b) = true := by rw [h]; rfl
end


section
variable {prog : Program} {w : World} {A : Around} {E : Value → Shared → Prop} {s : Shared} {H0 : Heap} {mean : ExcName → Option Value} {mg mb : Str → Option Value}
  {Q : Value → Shared → Prop} {name qual : Str} {params : Arguments} {body : List Stmt} {scope : Scope} {dV kV doc pm cdv ct oc : Value} {an od : Option Addr} {osl : Array (Option Value)} {f : Addr} {args : List Value} {kws : List (Str × Value)} {binds : List (Str × Value)}
/-- a call of a def with cells that does not raise -/
theorem enterC (W : Wd w.params mean mg mb H0) (hs : H0.StaysIn s.heap) (news : List (Addr × Obj)) (hn : ∀ p ∈ news, s.heap.get? p.1 = some p.2 ∧ H0.get? p.1 = none)
    (hroom : A.depth < recursionLimit)
    (ho : (hd.heap_39 w.params).lookup f = some ⟨oc, od, .func (fnOf name qual params body scope dV kV doc pm an cdv ct), osl⟩) (hcd : codeIn (hd.heap_39 w.params) cdv qual = true)
    (hbind : BindsTo s (fnOf name qual params body scope dV kV doc pm an cdv ct) ⟨args, kws⟩ binds)
    (hkind : (binds.all fun y => scope.names.lookup y.1 == some .local || scope.names.lookup y.1 == some .cell) = true)
    (hnd : ((cellsFrom 0 scope.names []).map (·.1)).Nodup)
    (h : ∀ g L' h₁ tk cells, g = hideAll s.heap (news.map (·.1)) → H0.StaysIn g → Fr g L' h₁ (bindL (envOfC qual scope L' f cdv).kindOf binds fun _ => none) → News g L' h₁ (cells ++ news) →
      CellsAre (bindC (envOfC qual scope L' f cdv).kindOf binds fun _ => none) (cellsFrom (L' + 1) scope.names []) cells → (hd.heap_39 w.params).In g → TopF mean mg mb g → (∀ p ∈ news, p.1 < L') →
      wpAny (model prog w) (A.deeper (envOfC qual scope L' f cdv)) (execs body (envOfC qual scope L' f cdv))
        (fun fl s' => Q (match fl with | .ret v => v | _ => .none) s') (fun _ _ => False) { s with heap := h₁, toks := tk })
    (hco : scope.isCoroutine = false) (hgen : scope.isGenerator = false) (hk : scope.kind = .function) :
    wpAny (model prog w) A (call (.ref f) args kws) Q E s := by
  have Ws := W.keeps hs
  have st : H0.StaysIn (hideAll s.heap (news.map (·.1))) := fun b o e => hideAll_get _ (hs b o e) fun q => by
    obtain ⟨p, hp, rfl⟩ := List.mem_map.mp q
    rw [(hn p hp).2] at e; cases e
  refine wpAny_call ?_
  refine codeAny_call_function hroom (Ws.X _ _ ho) rfl hco hgen rfl (codeRec_of Ws.X hcd) (hbind _ _ _ _ ?_)
  refine wpAny_newFunctionEnv_cells hk (kindsX hkind _) fun env' he s' x => ?_
  subst he
  refine ⟨Ws.T.nolimit.keeps x.toInCall.keep, codeAny_func ?_⟩
  obtain ⟨h₁, tk, rfl, _⟩ := x.done
  have hk₁ := x.toInCall.keep
  obtain ⟨cells, NC, Y⟩ := Cl.news (h₀ := s.heap) (Nat.le_refl _) fun n c hm => ⟨x.cell n c (lookup_of_mem_nodup (cellsFrom_names scope.names 0 (s.heap.objs.size + 1) [] [] rfl ▸ hnd) hm), x.above n c hm⟩
  refine wpAny_mono (h _ s.heap.objs.size h₁ tk cells rfl st ⟨x.toInCall.ns, fun b o e => hk₁ b o (of_hideAll _ e), Nat.le_of_eq (hideAll_size _ _)⟩ (fun p hp => ?_) Y (W.X.keeps st) (W.T.keeps st) (fun p hp => Heap.lt_size (hn p hp).1)) (fun fl s' hl => hl) fun _ _ y => y.elim
  rcases List.mem_append.mp hp with hp | hp
  · refine ⟨(NC p hp).1, (NC p hp).2.1, ?_⟩
    cases q : (hideAll s.heap (news.map (·.1))).get? p.1 with
    | none => rfl
    | some o => have := of_hideAll _ q; rw [(NC p hp).2.2] at this; cases this
  · exact ⟨hk₁ _ _ (hn p hp).1, Nat.ne_of_lt (Heap.lt_size (hn p hp).1), hideAll_none _ (List.mem_map_of_mem hp)⟩
end

section
variable {M : Model} {A : Around} {E : Value → Shared → Prop} {s : Shared} {K : Frag} {g : Heap} {m mg mb : Str → Option Value} {env : Env} {p : Program} {loose : List Str}
  {x : Str} {pos : Pos} {v : Value} {Q : Value → Shared → Prop} {c L : Addr}
theorem nameE_L (F : Fr g L s.heap m) (hL : env.locals = L) (hv : m x = some v) (h : Q v s) (hk : env.scope.kind = .function) (hx : env.kindOf x = some .local) (hd : (x == ("__debug__" : Str)) = false) :
    wpAny M A (eval (.Name x pos) env) Q E s := by subst hL; exact wpAny_Name (wpAny_loadName_local hk hx F.ns hv h) hd
theorem nameE_C (hc : env.cells.lookup x = some c) (hv : s.heap.IsCell c (some v)) (h : Q v s) (hk : env.scope.kind = .function) (hx : env.kindOf x = some .cell) (hd : (x == ("__debug__" : Str)) = false) :
    wpAny M A (eval (.Name x pos) env) Q E s := wpAny_Name (wpAny_loadName_cell hk hx hc hv h) hd
theorem nameE_K (F : Fr g L s.heap m) (X : K.In g) (T : TopRead p loose mg mb g) (hg : env.globals = mainGlobals) (e : nsIn K mainGlobals x = some (some v)) (h : Q v s)
    (hk : env.scope.kind = .function) (hx : env.kindOf x = some .globalImplicit) (hd : (x == ("__debug__" : Str)) = false) :
    wpAny M A (eval (.Name x pos) env) Q E s := Name_function_global hk hx (loadGlobal_global (by rw [hg]; exact T.g.keeps F.keep) (mg_of X T.g e) h) hd
theorem assignE_L {Q : Unit → Shared → Prop} {news : List (Addr × Obj)} (F : Fr g L s.heap m) (N : News g L s.heap news) (hL : env.locals = L) (hk : env.scope.kind = .function) (hx : env.kindOf x = some .local)
    (h : ∀ h', Fr g L h' (fun y => if y = x then some v else m y) → News g L h' news → Q () { s with heap := h', toks := s.toks + 1 }) : wpAny M A (assign (.Name x pos) env v) Q E s := by
  subst hL
  exact wpAny_assign_Name (wpAny_storeName_local hx F.ns (fun h' hn hs => h h' (F.set hn hs) (N.set hs)) (by rw [hk]; rfl))
theorem cellAt {h : Heap} {c : Addr} {o : Obj} {v : Value} (e : h.get? c = some o) (hd : o.data = .cell (some v)) : h.IsCell c (some v) := ⟨o, e, hd⟩
theorem cellKeeps {h h' : Heap} {c : Addr} {v : Value} (x : h.IsCell c (some v)) (k : h.StaysIn h') : h'.IsCell c (some v) := let ⟨o, ho, hd⟩ := x; ⟨o, k _ _ ho, hd⟩
end

example : True := by
  k_with "MINE cell" => (first | with_reducible assumption | exact cellKeeps (by with_reducible assumption) (Fr.keep (by with_reducible assumption)) | exact cellAt (News.get (by assumption) (by first | k_extra "MINE mem" | k_mem)) (by assumption))
  trivial
example : True := by
  k_with "eval Name" => ((k_here; k_dflt (first | (refine' nameE_C (by first | (rfl) | fail) (by first | (k_extra "MINE cell") | fail) ?_ (by first | (rfl) | fail) (by first | (rfl) | fail) (by decide); k_whole) | (refine' nameE_L (by first | (k_asm) | fail) (by first | (rfl) | fail) (by first | rfl | assumption | fail) ?_ (by first | (rfl) | fail) (by first | (rfl) | fail) (by decide); k_whole) | (refine' nameE_K (by first | (k_asm) | fail) (by first | (k_asm) | fail) (by first | (k_asm) | fail) (by first | (rfl) | fail) (by first | (k_is) | fail) ?_ (by first | (rfl) | fail) (by first | (rfl) | fail) (by decide); k_whole))))
  trivial
example : True := by
  k_with "assign Name" => ((k_here; k_dflt (refine' assignE_L (by first | (k_asm) | fail) (by first | (k_asm) | fail) (by first | (rfl) | fail) (by first | (rfl) | fail) (by first | (rfl) | fail) ?_; k_whole); intro _ _ _))
  trivial

/-- what a letter says -/
structure Let where
  uid : Int
  fl : List Str
  ms : Int
noncomputable def LetAt (h : Heap) (a : Addr) (d : Let) : Prop :=
  (∃ t, Fld h a 113 "uid" (.int d.uid t)) ∧ (∃ t, Fld h a 113 "modseq" (.int d.ms t)) ∧ (∃ t vs, Fld h a 113 "flags" (.ref t) ∧ IsTup h t vs.toArray ∧ StrsAre vs d.fl) ∧
  (∃ x t, Fld h a 113 "octets" (.bytes x t)) ∧ ∃ i t, Fld h a 113 "instant" (.int i t)
theorem LetAt.keeps {h h' : Heap} {a : Addr} {d : Let} (x : LetAt h a d) (k : h.StaysIn h') : LetAt h' a d := by
  obtain ⟨⟨t1, x1⟩, ⟨t2, x2⟩, ⟨t, vs, x3, x4, x5⟩, ⟨x, t6, x6⟩, ⟨i, t7, x7⟩⟩ := x
  exact ⟨⟨t1, x1.keeps k⟩, ⟨t2, x2.keeps k⟩, ⟨t, vs, x3.keeps k, keepsTup x4 k, x5⟩, ⟨x, t6, x6.keeps k⟩, ⟨i, t7, x7.keeps k⟩⟩
/-- two lists, place by place -/
structure Pw {α β : Type} (R : α → β → Prop) (as : List α) (ds : List β) : Prop where
  len : as.length = ds.length
  get : ∀ {i : Nat} {a : α}, as[i]? = some a → ∃ d, ds[i]? = some d ∧ R a d
section
variable {α β : Type} {R R' : α → β → Prop} {as : List α} {ds : List β}
theorem Pw.nil : Pw R [] [] := ⟨rfl, fun e => nomatch e⟩
theorem Pw.mono (x : Pw R as ds) (h : ∀ a d, R a d → R' a d) : Pw R' as ds := ⟨x.len, fun e => (x.get e).imp fun _ q => ⟨q.1, h _ _ q.2⟩⟩
theorem at_snoc {γ : Type} {l : List γ} {a b : γ} {i : Nat} (e : (l ++ [a])[i]? = some b) : (i < l.length ∧ l[i]? = some b) ∨ (i = l.length ∧ a = b) := by
  rcases Nat.lt_or_ge i l.length with h | h
  · rw [List.getElem?_append_left h] at e; exact .inl ⟨h, e⟩
  · rw [List.getElem?_append_right h] at e
    have h2 : i - l.length = 0 := Nat.lt_one_iff.mp (List.getElem?_eq_some_iff.mp e).1
    rw [h2] at e
    exact .inr ⟨Nat.le_antisymm (Nat.le_of_sub_eq_zero h2) h, Option.some.inj e⟩
theorem Pw.snoc (x : Pw R as ds) {a : α} {d : β} (y : R a d) : Pw R (as ++ [a]) (ds ++ [d]) := by
  refine ⟨by rw [List.length_append, List.length_append, x.len]; rfl, fun {i b} e => ?_⟩
  rcases at_snoc e with ⟨h, e⟩ | ⟨rfl, rfl⟩
  · obtain ⟨d', e', r⟩ := x.get e
    exact ⟨d', by rw [List.getElem?_append_left (x.len ▸ h)]; exact e', r⟩
  · exact ⟨d, by rw [x.len, List.getElem?_append_right (Nat.le_refl _), Nat.sub_self]; rfl, y⟩
theorem Pw.set (x : Pw R as ds) {a : α} {d : β} (k : Nat) (y : R a d) : Pw R (as.set k a) (ds.set k d) := by
  refine ⟨by rw [List.length_set, List.length_set, x.len], fun {i b} e => ?_⟩
  by_cases h : k = i
  · subst h
    have hk := (List.getElem?_eq_some_iff.mp e).1
    rw [List.length_set] at hk
    rw [List.getElem?_set_self hk] at e
    obtain rfl := Option.some.inj e
    exact ⟨d, List.getElem?_set_self (x.len ▸ hk), y⟩
  · rw [List.getElem?_set_ne h] at e
    obtain ⟨d', e', r⟩ := x.get e
    exact ⟨d', by rw [List.getElem?_set_ne h]; exact e', r⟩
end
noncomputable abbrev LetsAt (h : Heap) (as : List Addr) (ds : List Let) : Prop := Pw (LetAt h) as ds
theorem LetsAt.keeps {h h' : Heap} {as : List Addr} {ds : List Let} (x : LetsAt h as ds) (k : h.StaysIn h') : LetsAt h' as ds := Pw.mono x fun _ _ y => y.keeps k
theorem take_filter {α : Type} {p : α → Bool} {l : List α} {i : Nat} {v : α} (h : l[i]? = some v) : (l.take (i + 1)).filter p = (l.take i).filter p ++ (if p v then [v] else []) := take_succ_filter p l i v h
theorem map_get {α β : Type} {f : α → β} {l : List α} {i : Nat} {v : β} (h : (l.map f)[i]? = some v) : ∃ a, l[i]? = some a ∧ f a = v := by
  rw [List.getElem?_map] at h
  cases q : l[i]? with
  | none => rw [q] at h; cases h
  | some a => rw [q] at h; exact ⟨a, rfl, by simpa using h⟩
/-- the letters of a comprehension's source that are kept -/
inductive LJ (hG : Heap) (ds : List Let) (p : Let → Bool) (i : Nat) : List Value → Prop
  | mk (las' : List Addr) : LetsAt hG las' ((ds.take i).filter p) → las'.length ≤ i → LJ hG ds p i (las'.map Value.ref)
section
variable {hG : Heap} {ds : List Let} {p : Let → Bool} {i : Nat} {ys : List Value}
theorem LJ.zero : LJ hG ds p 0 [] := .mk [] .nil (Nat.le_refl _)
theorem LJ.inn (J : LJ hG ds p i ys) {a : Addr} {d : Let} (hd : ds[i]? = some d) (hp : p d = true) (hL : LetAt hG a d) : LJ hG ds p (i + 1) (ys ++ [.ref a]) := by
  obtain ⟨las', h1, h2⟩ := J
  have q := LJ.mk (hG := hG) (ds := ds) (p := p) (i := i + 1) (las' ++ [a]) (by rw [filt_in hd hp]; exact h1.snoc hL) (by rw [List.length_append]; exact Nat.succ_le_succ h2)
  rwa [List.map_append] at q
theorem LJ.out (J : LJ hG ds p i ys) {d : Let} (hd : ds[i]? = some d) (hp : p d = false) : LJ hG ds p (i + 1) ys := by
  obtain ⟨las', h1, h2⟩ := J
  exact .mk las' (by rw [filt_out hd hp]; exact h1) (Nat.le_succ_of_le h2)
theorem LJ.done (J : LJ hG ds p i ys) (hi : ds.length ≤ i) : ∃ las', ys = las'.map Value.ref ∧ LetsAt hG las' (ds.filter p) ∧ las'.length ≤ i := by
  obtain ⟨las', h1, h2⟩ := J
  rw [List.take_of_length_le hi] at h1
  exact ⟨las', rfl, h1, h2⟩
end


noncomputable def SIG (w : World) (dp : Nat) (un : Nat) (fr : Option (List Env)) (gd : Option (List Code)) (s : Shared) (mean : ExcName → Option Value) (mg : Str → Option Value) (mb : Str → Option Value) (E : Value → Shared → Prop) (H0 : Heap) (Q : Value → Shared → Prop) (bx : Addr) (ll : Addr) (las : List Addr) (ds : List Let) (hG : Heap) (ms : Int) (t : Tok) : Prop := ∀ (W : Wd w.params mean mg mb H0) (hs : H0.StaysIn s.heap) (hdp : dp + 2 < recursionLimit) (hun : un + 20 < cLine) (hbx : Fld s.heap bx 151 "letters" (.ref ll)) (hll : s.heap.IsList ll (las.map Value.ref).toArray) (kG : hG.StaysIn s.heap) (hds : LetsAt hG las ds) (hlen : las.length ≤ 100) (ret : ∀ r las' n h' tk', s.heap.StaysIn h' → s.heap.get? r = none → h'.get? r = some (listOf (las'.map Value.ref).toArray n) → LetsAt hG las' (ds.filter fun d => decide (ms < d.ms)) → las'.length ≤ las.length → Q (.ref r) { s with heap := h', toks := tk' }),
    wpAny (model PySem.Challenge.rw_no0367_01.row.prog w) (Ar dp un fr gd) (call (.ref 193) [.ref bx, .int ms t]) Q E s
noncomputable abbrev SIK : Type _ := (World) × (Nat) × (Nat) × (Option (List Env)) × (Option (List Code)) × (Shared) × (ExcName → Option Value) × (Str → Option Value) × (Str → Option Value) × (Value → Shared → Prop) × (Heap) × (Value → Shared → Prop) × (Addr) × (Addr) × (List Addr) × (List Let) × (Heap) × (Int) × (Tok)
noncomputable def SIP (k : SIK) : Prop := SIG (k.1) (k.2.1) (k.2.2.1) (k.2.2.2.1) (k.2.2.2.2.1) (k.2.2.2.2.2.1) (k.2.2.2.2.2.2.1) (k.2.2.2.2.2.2.2.1) (k.2.2.2.2.2.2.2.2.1) (k.2.2.2.2.2.2.2.2.2.1) (k.2.2.2.2.2.2.2.2.2.2.1) (k.2.2.2.2.2.2.2.2.2.2.2.1) (k.2.2.2.2.2.2.2.2.2.2.2.2.1) (k.2.2.2.2.2.2.2.2.2.2.2.2.2.1) (k.2.2.2.2.2.2.2.2.2.2.2.2.2.2.1) (k.2.2.2.2.2.2.2.2.2.2.2.2.2.2.2.1) (k.2.2.2.2.2.2.2.2.2.2.2.2.2.2.2.2.1) (k.2.2.2.2.2.2.2.2.2.2.2.2.2.2.2.2.2.1) (k.2.2.2.2.2.2.2.2.2.2.2.2.2.2.2.2.2.2)
theorem SIne : Nonempty SIK := ⟨((wd0 : World), (0 : Nat), (0 : Nat), (none : Option (List Env)), (none : Option (List Code)), ({} : Shared), (fun _ => none : ExcName → Option Value), (fun _ => none : Str → Option Value), (fun _ => none : Str → Option Value), (fun _ _ => True : Value → Shared → Prop), ({} : Heap), (fun _ _ => True : Value → Shared → Prop), (0 : Addr), (0 : Addr), ([] : List Addr), ([] : List Let), ({} : Heap), (0 : Int), (0 : Tok))⟩
@[irreducible] noncomputable def SIk : SIK := @Classical.epsilon _ SIne fun k => ¬ SIP k
theorem SIc.pf : SIP SIk := by
  refine (?m : ∀ (w : World) (dp : Nat) (un : Nat) (fr : Option (List Env)) (gd : Option (List Code)) (s : Shared) (mean : ExcName → Option Value) (mg : Str → Option Value) (mb : Str → Option Value) (E : Value → Shared → Prop) (H0 : Heap) (Q : Value → Shared → Prop) (bx : Addr) (ll : Addr) (las : List Addr) (ds : List Let) (hG : Heap) (ms : Int) (t : Tok), ∀ (W : Wd w.params mean mg mb H0) (hs : H0.StaysIn s.heap) (hdp : dp + 2 < recursionLimit) (hun : un + 20 < cLine) (hbx : Fld s.heap bx 151 "letters" (.ref ll)) (hll : s.heap.IsList ll (las.map Value.ref).toArray) (kG : hG.StaysIn s.heap) (hds : LetsAt hG las ds) (hlen : las.length ≤ 100) (ret : ∀ r las' n h' tk', s.heap.StaysIn h' → s.heap.get? r = none → h'.get? r = some (listOf (las'.map Value.ref).toArray n) → LetsAt hG las' (ds.filter fun d => decide (ms < d.ms)) → las'.length ≤ las.length → Q (.ref r) { s with heap := h', toks := tk' }),
    wpAny (model PySem.Challenge.rw_no0367_01.row.prog w) (Ar dp un fr gd) (call (.ref 193) [.ref bx, .int ms t]) Q E s) (SIk.1) (SIk.2.1) (SIk.2.2.1) (SIk.2.2.2.1) (SIk.2.2.2.2.1) (SIk.2.2.2.2.2.1) (SIk.2.2.2.2.2.2.1) (SIk.2.2.2.2.2.2.2.1) (SIk.2.2.2.2.2.2.2.2.1) (SIk.2.2.2.2.2.2.2.2.2.1) (SIk.2.2.2.2.2.2.2.2.2.2.1) (SIk.2.2.2.2.2.2.2.2.2.2.2.1) (SIk.2.2.2.2.2.2.2.2.2.2.2.2.1) (SIk.2.2.2.2.2.2.2.2.2.2.2.2.2.1) (SIk.2.2.2.2.2.2.2.2.2.2.2.2.2.2.1) (SIk.2.2.2.2.2.2.2.2.2.2.2.2.2.2.2.1) (SIk.2.2.2.2.2.2.2.2.2.2.2.2.2.2.2.2.1) (SIk.2.2.2.2.2.2.2.2.2.2.2.2.2.2.2.2.2.1) (SIk.2.2.2.2.2.2.2.2.2.2.2.2.2.2.2.2.2.2)
  intro w dp un fr gd s mean mg mb E H0 Q bx ll las ds hG ms t
  intro W hs hdp hun hbx hll kG hds hlen ret
  refine' enterC (H0 := H0) (mean := mean) (mg := mg) (mb := mb) (binds := [("box", .ref bx), ("modseq", .int ms t)]) W hs [] (fun _ h => nomatch h) (by show dp < recursionLimit; first | exact room0 (by assumption) | omega) ?ho ?hcd ?hbind ?hkind ?hnd ?_ ?hco ?hgen ?hk
  (case ho => k_is); (case hcd => k_is); (case hbind => exact BindsTo.of_eq rfl); (case hkind => exact rfl); (case hnd => decide +kernel); (case hco => exact rfl); (case hgen => exact rfl); (case hk => exact rfl)
  intro g L' h₁ tk cells hg hst F N Y X T hlt
  obtain ⟨o1, rfl, d1⟩ := CellsAre.one Y
  simp only [List.map_nil, hideAll] at hg
  subst hg
  replace d1 : o1.data = .cell (some (.int ms t)) := d1
  replace F : Fr s.heap L' h₁ (fun y => if y = "box" then some (.ref bx) else none) := F
  replace N : News s.heap L' h₁ [(L' + 1, o1)] := N
  clear Y hlt
  revert d1 F N
  revert L' h₁ tk o1
  refine @eps4 _ _ _ _ ⟨((0 : Addr), ({} : Heap), (0 : Tok), (default : Obj))⟩ ?P5 ((?close5 : ∀ a0 a1 a2 a3, ?P5 a0 a1 a2 a3) _ _ _ _ )
  intro L' h₁ tk o1 d1 F N
  try k_fold
  walk1
  walk1
  refine LC (cl := [("modseq", L' + 1)]) rfl rfl (by decide) rfl (by decide) ?_ (by intro _; rfl)
  k_extra "MINE steps"
  rename Fr _ _ _ _ => F1
  rename News _ _ _ _ => N1
  have hlm : (las.map Value.ref).length ≤ 100 := by rw [List.length_map]; exact hlen
  refine CompAt.flat s.heap (LJ hG ds (fun d => decide (ms < d.ms))) (.list _ _ (keepsList hll F1.keep)) (le_lit hlm rfl) F1 N1 (fun _ h => nomatch h) .zero ?_ ?_
  · intro g' hg' i v C D h tk2 m ys its e hi hP hJ hys F₂ N₂
    obtain ⟨a, ha, rfl⟩ := map_get hP
    obtain ⟨d, hd, hLd⟩ := hds.get ha
    have kg1 := nil_stays hg'
    have kg := stays_trans F1.keep kg1
    have X' := X.keeps kg
    have T' := T.keeps kg
    have hc : g'.IsCell (L' + 1) (some (.int ms t)) := cellAt (kg1 _ _ (N1 _ (.head _)).1) d1
    obtain ⟨_, ⟨t2, hm⟩, _⟩ := hLd.keeps (stays_trans kG kg)
    clear F1 N1 X T
    walk1
    refine wpAny_tests_one ?_
    k_extra "MINE steps"
    · rename Fr _ _ _ _ => FF
      rename News _ _ _ _ => NN
      rename (ms < d.ms) => hlt
      exact .mk FF NN (hJ.inn hd (decide_eq_true hlt) hLd)
    · rename Fr _ _ _ _ => FF
      rename News _ _ _ _ => NN
      rename (¬ (ms < d.ms)) => hlt
      exact .mk FF NN (hJ.out hd (decide_eq_false hlt))
  · intro D h' tk2 ys e hJ hys F₂ N₂ hlt
    obtain ⟨las', rfl, hls, hl2⟩ := hJ.done (by rw [List.length_map, hds.len]; exact Nat.le_refl _)
    exact ret D las' e h' tk2 F₂.keep (N₂ _ (.head _)).2.2 (N₂ _ (.head _)).1 hls (Nat.le_trans hl2 (Nat.le_of_eq (List.length_map _)))
theorem changed_since_spec {w : World} {dp : Nat} {un : Nat} {fr : Option (List Env)} {gd : Option (List Code)} {s : Shared} {mean : ExcName → Option Value} {mg : Str → Option Value} {mb : Str → Option Value} {E : Value → Shared → Prop} {H0 : Heap} {Q : Value → Shared → Prop} {bx : Addr} {ll : Addr} {las : List Addr} {ds : List Let} {hG : Heap} {ms : Int} {t : Tok} : ∀ (W : Wd w.params mean mg mb H0) (hs : H0.StaysIn s.heap) (hdp : dp + 2 < recursionLimit) (hun : un + 20 < cLine) (hbx : Fld s.heap bx 151 "letters" (.ref ll)) (hll : s.heap.IsList ll (las.map Value.ref).toArray) (kG : hG.StaysIn s.heap) (hds : LetsAt hG las ds) (hlen : las.length ≤ 100) (ret : ∀ r las' n h' tk', s.heap.StaysIn h' → s.heap.get? r = none → h'.get? r = some (listOf (las'.map Value.ref).toArray n) → LetsAt hG las' (ds.filter fun d => decide (ms < d.ms)) → las'.length ≤ las.length → Q (.ref r) { s with heap := h', toks := tk' }),
    wpAny (model PySem.Challenge.rw_no0367_01.row.prog w) (Ar dp un fr gd) (call (.ref 193) [.ref bx, .int ms t]) Q E s :=
  eps_all (P := SIP) SIne (by with_unfolding_all exact SIc.pf) (w, dp, un, fr, gd, s, mean, mg, mb, E, H0, Q, bx, ll, las, ds, hG, ms, t)


section
variable {w : World} {dp un : Nat} {fr : Option (List Env)} {gd : Option (List Code)} {E : Value → Shared → Prop} {s : Shared} {H0 : Heap} {mean : ExcName → Option Value} {mg mb : Str → Option Value} {Q : Value → Shared → Prop}
theorem is_refused_none (W : Wd w.params mean mg mb H0) (hs : H0.StaysIn s.heap) (hdp : dp + 1 < recursionLimit) {a : Addr}
    (ret : ∀ h' tk', s.heap.StaysIn h' → Q (.bool false) { s with heap := h', toks := tk' }) : wpAny (model PySem.Challenge.rw_no0367_01.row.prog w) (Ar dp un fr gd) (call (.ref 210) [.ref a, .none]) Q E s := by
  refine' enter (H0 := H0) (mean := mean) (mg := mg) (mb := mb) (binds := [("letter", .ref a), ("unless", .none)]) W hs [] (fun _ h => nomatch h) (by show dp < recursionLimit; first | exact room0 (by assumption) | omega) ?ho ?hcd ?hbind ?hloc ?_ ?hcell ?hco ?hgen ?hk
  (case ho => k_is); (case hcd => k_is); (case hbind => exact BindsTo.of_eq rfl); (case hloc => exact locs rfl); (case hcell => decide); (case hco => exact rfl); (case hgen => exact rfl); (case hk => exact rfl)
  intro g L' h₁ hg hst F N X T
  simp only [List.map_nil, hideAll] at hg
  subst hg
  dsimp only [List.reverse, List.reverseAux] at F
  try k_fold
  k_extra "MINE steps"
  all_goals (rename Fr _ _ _ _ => FF; dsimp only; exact ret _ _ FF.keep)
theorem is_refused_int (W : Wd w.params mean mg mb H0) (hs : H0.StaysIn s.heap) (hdp : dp + 1 < recursionLimit) {a : Addr} {d : Let} (hl : LetAt s.heap a d) (un' : Int) (t : Tok)
    (ret : ∀ b h' tk', s.heap.StaysIn h' → b = decide (un' < d.ms) → Q (.bool b) { s with heap := h', toks := tk' }) : wpAny (model PySem.Challenge.rw_no0367_01.row.prog w) (Ar dp un fr gd) (call (.ref 210) [.ref a, .int un' t]) Q E s := by
  refine' enter (H0 := H0) (mean := mean) (mg := mg) (mb := mb) (binds := [("letter", .ref a), ("unless", .int un' t)]) W hs [] (fun _ h => nomatch h) (by show dp < recursionLimit; first | exact room0 (by assumption) | omega) ?ho ?hcd ?hbind ?hloc ?_ ?hcell ?hco ?hgen ?hk
  (case ho => k_is); (case hcd => k_is); (case hbind => exact BindsTo.of_eq rfl); (case hloc => exact locs rfl); (case hcell => decide); (case hco => exact rfl); (case hgen => exact rfl); (case hk => exact rfl)
  intro g L' h₁ hg hst F N X T
  simp only [List.map_nil, hideAll] at hg
  subst hg
  dsimp only [List.reverse, List.reverseAux] at F
  obtain ⟨_, ⟨t2, hm⟩, _⟩ := hl
  try k_fold
  k_extra "MINE steps"
  all_goals (rename Fr _ _ _ _ => FF; dsimp only; first | exact ret _ _ _ FF.keep rfl | trace_state)
end

example : True := by
  k_with "call ref" => ((k_here; (with_reducible show wpAny _ _ (call (Value.ref 193) _) _ _ _); k_dflt (refine' changed_since_spec (by first | (assumption) | fail) (by first | (k_extra "MINE stays") | fail) (by first | (k_extra "MINE room") | fail) (by first | (k_extra "MINE room") | fail) (by first | assumption | exact Fld.keeps (by assumption) (Fr.keep (by assumption)) | fail) (by first | (k_extra "MINE list") | fail) (by first | assumption | exact Fr.keep (by assumption) | exact fun _ _ e => e | fail) (by first | (assumption) | fail) (by first | (k_extra "MINE ar") | fail) ?_; k_whole); intro _ _ _ _ _ k9 e9 e9' hls9 hll9; (rename Fr _ _ _ _ => F9; rename News _ _ _ _ => N9; have F' := Fr.grow F9 k9; have N' := News.add F9 N9 k9 e9 e9'; clear F9 N9 k9 e9 e9'; (try dsimp only); (try (revert hls9 hll9 F' N'; intros)); (try k_fold))))
  trivial
example : True := by
  k_with "MINE ints" => (first | with_reducible assumption | assumption)
  trivial
example : True := by
  k_with "compareOp In" => ((k_here; (with_reducible show wpAny _ _ (compareOp CmpOp.In (Value.int _ _) (Value.ref _)) _ _ _); k_dflt (refine' in_list_ints (by first | (k_extra "MINE list") | fail) (by first | (k_extra "MINE ints") | fail) ?_)))
  trivial
example : True := by
  k_with "binaryOp Add ref ref" => ((k_here; k_dflt (refine' add_lists_ints (by first | (k_asm) | fail) (by first | (k_asm) | fail) (by first | (k_extra "MINE list") | fail) (by first | (k_extra "MINE list") | fail) (by first | (l_ints) | fail) (by first | (l_ints) | fail) ?_ (by first | ((have : sizeLine = 16777216 := rfl; simp only [List.length_append, List.length_cons, List.length_nil]; first | exact sz_l (by with_reducible assumption) (by rfl) | exact sz_r (by with_reducible assumption) (by with_reducible assumption) (by rfl) | omega)) | fail); k_whole); intro _ _ _ _; (try dsimp only); (try k_fold)))
  trivial
example : True := by
  k_with "call builtin:max" => ((k_here; (with_reducible show wpAny _ _ (call (Value.builtin "max") [Value.ref _]) _ _ _); k_dflt (refine' kso_max (by first | (k_asm) | fail) (by first | (k_asm) | fail) (by first | (k_extra "MINE list") | fail) (by first | (l_ints) | fail) (by first | ((simp only [List.length_append, List.length_cons, List.length_nil]; first | exact Nat.lt_of_lt_of_le (by decide) (Nat.le_add_right _ _) | exact Nat.lt_of_lt_of_le (by decide) (Nat.le_add_left _ _) | omega)) | fail) (by first | (rfl) | fail) ?_; k_whole); intro _ _ _ _ _ _ _ _; (try dsimp only); (try k_fold)))
  trivial

noncomputable def AMG (w : World) (dp : Nat) (un : Nat) (fr : Option (List Env)) (gd : Option (List Code)) (s : Shared) (mean : ExcName → Option Value) (mg : Str → Option Value) (mb : Str → Option Value) (E : Value → Shared → Prop) (H0 : Heap) (Q : Value → Shared → Prop) (bx : Addr) (ll : Addr) (ul : Addr) (las : List Addr) (ds : List Let) (uvs : List Value) (us : List Int) (hG : Heap) (ms : Int) (t : Tok) : Prop := ∀ (W : Wd w.params mean mg mb H0) (hs : H0.StaysIn s.heap) (hdp : dp + 4 < recursionLimit) (hun : un + 40 < cLine) (hbx : Fld s.heap bx 151 "letters" (.ref ll)) (hll : s.heap.IsList ll (las.map Value.ref).toArray) (kG : hG.StaysIn s.heap) (hds : LetsAt hG las ds) (hlen : las.length ≤ 100) (hul : s.heap.IsList ul uvs.toArray) (huv : IntsAre uvs us) (ret : ∀ r las' n h' tk', s.heap.StaysIn h' → s.heap.get? r = none → h'.get? r = some (listOf (las'.map Value.ref).toArray n) → LetsAt hG las' ((ds.filter fun d => decide (ms < d.ms)).filter fun d => us.any (· == d.uid)) → las'.length ≤ las.length → Q (.ref r) { s with heap := h', toks := tk' }),
    wpAny (model PySem.Challenge.rw_no0367_01.row.prog w) (Ar dp un fr gd) (call (.ref 198) [.ref bx, .ref ul, .int ms t]) Q E s
noncomputable abbrev AMK : Type _ := (World) × (Nat) × (Nat) × (Option (List Env)) × (Option (List Code)) × (Shared) × (ExcName → Option Value) × (Str → Option Value) × (Str → Option Value) × (Value → Shared → Prop) × (Heap) × (Value → Shared → Prop) × (Addr) × (Addr) × (Addr) × (List Addr) × (List Let) × (List Value) × (List Int) × (Heap) × (Int) × (Tok)
noncomputable def AMP (k : AMK) : Prop := AMG (k.1) (k.2.1) (k.2.2.1) (k.2.2.2.1) (k.2.2.2.2.1) (k.2.2.2.2.2.1) (k.2.2.2.2.2.2.1) (k.2.2.2.2.2.2.2.1) (k.2.2.2.2.2.2.2.2.1) (k.2.2.2.2.2.2.2.2.2.1) (k.2.2.2.2.2.2.2.2.2.2.1) (k.2.2.2.2.2.2.2.2.2.2.2.1) (k.2.2.2.2.2.2.2.2.2.2.2.2.1) (k.2.2.2.2.2.2.2.2.2.2.2.2.2.1) (k.2.2.2.2.2.2.2.2.2.2.2.2.2.2.1) (k.2.2.2.2.2.2.2.2.2.2.2.2.2.2.2.1) (k.2.2.2.2.2.2.2.2.2.2.2.2.2.2.2.2.1) (k.2.2.2.2.2.2.2.2.2.2.2.2.2.2.2.2.2.1) (k.2.2.2.2.2.2.2.2.2.2.2.2.2.2.2.2.2.2.1) (k.2.2.2.2.2.2.2.2.2.2.2.2.2.2.2.2.2.2.2.1) (k.2.2.2.2.2.2.2.2.2.2.2.2.2.2.2.2.2.2.2.2.1) (k.2.2.2.2.2.2.2.2.2.2.2.2.2.2.2.2.2.2.2.2.2)
theorem AMne : Nonempty AMK := ⟨((wd0 : World), (0 : Nat), (0 : Nat), (none : Option (List Env)), (none : Option (List Code)), ({} : Shared), (fun _ => none : ExcName → Option Value), (fun _ => none : Str → Option Value), (fun _ => none : Str → Option Value), (fun _ _ => True : Value → Shared → Prop), ({} : Heap), (fun _ _ => True : Value → Shared → Prop), (0 : Addr), (0 : Addr), (0 : Addr), ([] : List Addr), ([] : List Let), ([] : List Value), ([] : List Int), ({} : Heap), (0 : Int), (0 : Tok))⟩
@[irreducible] noncomputable def AMk : AMK := @Classical.epsilon _ AMne fun k => ¬ AMP k
theorem AMc.pf : AMP AMk := by
  refine (?m : ∀ (w : World) (dp : Nat) (un : Nat) (fr : Option (List Env)) (gd : Option (List Code)) (s : Shared) (mean : ExcName → Option Value) (mg : Str → Option Value) (mb : Str → Option Value) (E : Value → Shared → Prop) (H0 : Heap) (Q : Value → Shared → Prop) (bx : Addr) (ll : Addr) (ul : Addr) (las : List Addr) (ds : List Let) (uvs : List Value) (us : List Int) (hG : Heap) (ms : Int) (t : Tok), ∀ (W : Wd w.params mean mg mb H0) (hs : H0.StaysIn s.heap) (hdp : dp + 4 < recursionLimit) (hun : un + 40 < cLine) (hbx : Fld s.heap bx 151 "letters" (.ref ll)) (hll : s.heap.IsList ll (las.map Value.ref).toArray) (kG : hG.StaysIn s.heap) (hds : LetsAt hG las ds) (hlen : las.length ≤ 100) (hul : s.heap.IsList ul uvs.toArray) (huv : IntsAre uvs us) (ret : ∀ r las' n h' tk', s.heap.StaysIn h' → s.heap.get? r = none → h'.get? r = some (listOf (las'.map Value.ref).toArray n) → LetsAt hG las' ((ds.filter fun d => decide (ms < d.ms)).filter fun d => us.any (· == d.uid)) → las'.length ≤ las.length → Q (.ref r) { s with heap := h', toks := tk' }),
    wpAny (model PySem.Challenge.rw_no0367_01.row.prog w) (Ar dp un fr gd) (call (.ref 198) [.ref bx, .ref ul, .int ms t]) Q E s) (AMk.1) (AMk.2.1) (AMk.2.2.1) (AMk.2.2.2.1) (AMk.2.2.2.2.1) (AMk.2.2.2.2.2.1) (AMk.2.2.2.2.2.2.1) (AMk.2.2.2.2.2.2.2.1) (AMk.2.2.2.2.2.2.2.2.1) (AMk.2.2.2.2.2.2.2.2.2.1) (AMk.2.2.2.2.2.2.2.2.2.2.1) (AMk.2.2.2.2.2.2.2.2.2.2.2.1) (AMk.2.2.2.2.2.2.2.2.2.2.2.2.1) (AMk.2.2.2.2.2.2.2.2.2.2.2.2.2.1) (AMk.2.2.2.2.2.2.2.2.2.2.2.2.2.2.1) (AMk.2.2.2.2.2.2.2.2.2.2.2.2.2.2.2.1) (AMk.2.2.2.2.2.2.2.2.2.2.2.2.2.2.2.2.1) (AMk.2.2.2.2.2.2.2.2.2.2.2.2.2.2.2.2.2.1) (AMk.2.2.2.2.2.2.2.2.2.2.2.2.2.2.2.2.2.2.1) (AMk.2.2.2.2.2.2.2.2.2.2.2.2.2.2.2.2.2.2.2.1) (AMk.2.2.2.2.2.2.2.2.2.2.2.2.2.2.2.2.2.2.2.2.1) (AMk.2.2.2.2.2.2.2.2.2.2.2.2.2.2.2.2.2.2.2.2.2)
  intro w dp un fr gd s mean mg mb E H0 Q bx ll ul las ds uvs us hG ms t
  intro W hs hdp hun hbx hll kG hds hlen hul huv ret
  refine' enterC (H0 := H0) (mean := mean) (mg := mg) (mb := mb) (binds := [("box", .ref bx), ("uids", .ref ul), ("modseq", .int ms t)]) W hs [] (fun _ h => nomatch h) (by show dp < recursionLimit; first | exact room0 (by assumption) | omega) ?ho ?hcd ?hbind ?hkind ?hnd ?_ ?hco ?hgen ?hk
  (case ho => k_is); (case hcd => k_is); (case hbind => exact BindsTo.of_eq rfl); (case hkind => exact rfl); (case hnd => decide +kernel); (case hco => exact rfl); (case hgen => exact rfl); (case hk => exact rfl)
  intro g L' h₁ tk cells hg hst F N Y X T hlt
  simp only [List.map_nil, hideAll] at hg
  subst hg
  obtain ⟨o1, rfl, d1⟩ := CellsAre.one Y
  replace d1 : o1.data = .cell (some (.ref ul)) := d1
  replace F : Fr s.heap L' h₁ (fun y => if y = "modseq" then some (.int ms t) else if y = "box" then some (.ref bx) else none) := F
  replace N : News s.heap L' h₁ [(L' + 1, o1)] := N
  clear Y hlt
  revert d1 F N
  revert L' h₁ tk o1
  refine @eps4 _ _ _ _ ⟨((0 : Addr), ({} : Heap), (0 : Tok), (default : Obj))⟩ ?P6 ((?close6 : ∀ a0 a1 a2 a3, ?P6 a0 a1 a2 a3) _ _ _ _ )
  intro L' h₁ tk o1 d1 F N
  have kG0 : hG.StaysIn h₁ := fun b o q => F.keep b o (kG b o q)
  try k_fold
  walk1
  walk1
  refine LC (cl := [("uids", L' + 1)]) rfl rfl (by decide) rfl (by decide) ?_ (by intro _; rfl)
  k_extra "MINE steps"
  rename Fr _ _ _ _ => F1
  rename News _ _ _ _ => N1
  rename List Addr => las1
  rename LetsAt _ las1 _ => hds1
  rename (List.length las1 ≤ _) => hlen1
  have kG1 : hG.StaysIn _ := fun b o q => F1.keep b o (kG b o q)
  have hlen2 : las1.length ≤ 100 := Nat.le_trans hlen1 hlen
  have hlm : (las1.map Value.ref).length ≤ 100 := by rw [List.length_map]; exact hlen2
  refine CompAt.flat s.heap (LJ hG (ds.filter fun d => decide (ms < d.ms)) (fun d => us.any (· == d.uid))) (.list _ _ (News.isList N1 (.head _))) (le_lit hlm rfl) F1 N1 (fun _ h => nomatch h) .zero ?_ ?_
  · intro g' hg' i v C D h tk2 m ys its e hi hP hJ hys F₂ N₂
    obtain ⟨a, ha, rfl⟩ := map_get hP
    obtain ⟨d, hd, hLd⟩ := hds1.get ha
    have kg1 := nil_stays hg'
    have kg := stays_trans F1.keep kg1
    have X' := X.keeps kg
    have T' := T.keeps kg
    have hul' := keepsList hul kg
    have hc : g'.IsCell (L' + 1) (some (.ref ul)) := cellAt (kg1 _ _ (N1 _ (.tail _ (.head _))).1) d1
    obtain ⟨⟨t2, hm⟩, _⟩ := hLd.keeps (stays_trans kG kg)
    clear F1 N1 X T
    walk1
    refine wpAny_tests_one ?_
    k_extra "MINE steps"
    · rename Fr _ _ _ _ => FF
      rename News _ _ _ _ => NN
      rename (List.any us _ = true) => hlt
      exact .mk FF NN (hJ.inn hd hlt hLd)
    · rename Fr _ _ _ _ => FF
      rename News _ _ _ _ => NN
      rename (List.any us _ = false) => hlt
      exact .mk FF NN (hJ.out hd hlt)
  · intro D h' tk2 ys e hJ hys F₂ N₂ hlt
    obtain ⟨las', rfl, hls, hl2⟩ := hJ.done (by rw [List.length_map, hds1.len]; exact Nat.le_refl _)
    exact ret D las' e h' tk2 F₂.keep (N₂ _ (.head _)).2.2 (N₂ _ (.head _)).1 hls (Nat.le_trans hl2 (by rw [List.length_map]; exact hlen1))
theorem changed_among_spec {w : World} {dp : Nat} {un : Nat} {fr : Option (List Env)} {gd : Option (List Code)} {s : Shared} {mean : ExcName → Option Value} {mg : Str → Option Value} {mb : Str → Option Value} {E : Value → Shared → Prop} {H0 : Heap} {Q : Value → Shared → Prop} {bx : Addr} {ll : Addr} {ul : Addr} {las : List Addr} {ds : List Let} {uvs : List Value} {us : List Int} {hG : Heap} {ms : Int} {t : Tok} : ∀ (W : Wd w.params mean mg mb H0) (hs : H0.StaysIn s.heap) (hdp : dp + 4 < recursionLimit) (hun : un + 40 < cLine) (hbx : Fld s.heap bx 151 "letters" (.ref ll)) (hll : s.heap.IsList ll (las.map Value.ref).toArray) (kG : hG.StaysIn s.heap) (hds : LetsAt hG las ds) (hlen : las.length ≤ 100) (hul : s.heap.IsList ul uvs.toArray) (huv : IntsAre uvs us) (ret : ∀ r las' n h' tk', s.heap.StaysIn h' → s.heap.get? r = none → h'.get? r = some (listOf (las'.map Value.ref).toArray n) → LetsAt hG las' ((ds.filter fun d => decide (ms < d.ms)).filter fun d => us.any (· == d.uid)) → las'.length ≤ las.length → Q (.ref r) { s with heap := h', toks := tk' }),
    wpAny (model PySem.Challenge.rw_no0367_01.row.prog w) (Ar dp un fr gd) (call (.ref 198) [.ref bx, .ref ul, .int ms t]) Q E s :=
  eps_all (P := AMP) AMne (by with_unfolding_all exact AMc.pf) (w, dp, un, fr, gd, s, mean, mg, mb, E, H0, Q, bx, ll, ul, las, ds, uvs, us, hG, ms, t)


noncomputable def HIG (w : World) (dp : Nat) (un : Nat) (fr : Option (List Env)) (gd : Option (List Code)) (s : Shared) (mean : ExcName → Option Value) (mg : Str → Option Value) (mb : Str → Option Value) (E : Value → Shared → Prop) (H0 : Heap) (Q : Value → Shared → Prop) (bx : Addr) (ll : Addr) (ul : Addr) (las : List Addr) (ds : List Let) (uvs : List Value) (us : List Int) (hG : Heap) : Prop := ∀ (W : Wd w.params mean mg mb H0) (hs : H0.StaysIn s.heap) (hdp : dp + 4 < recursionLimit) (hun : un + 40 < cLine) (kG : hG.StaysIn s.heap) (hbx : Fld s.heap bx 151 "letters" (.ref ll)) (hll : s.heap.IsList ll (las.map Value.ref).toArray) (hds : LetsAt hG las ds) (hlen : las.length ≤ 100) (hul : s.heap.IsList ul uvs.toArray) (huv : IntsAre uvs us) (ret : ∀ M t h' tk', s.heap.StaysIn h' → M ∈ ((ds.filter fun d => us.any (· == d.uid)).map (·.ms)) ++ [0] → (∀ a ∈ ((ds.filter fun d => us.any (· == d.uid)).map (·.ms)) ++ [0], a ≤ M) → Q (.int M t) { s with heap := h', toks := tk' }),
    wpAny (model PySem.Challenge.rw_no0367_01.row.prog w) (Ar dp un fr gd) (call (.ref 203) [.ref bx, .ref ul]) Q E s
noncomputable abbrev HIK : Type _ := (World) × (Nat) × (Nat) × (Option (List Env)) × (Option (List Code)) × (Shared) × (ExcName → Option Value) × (Str → Option Value) × (Str → Option Value) × (Value → Shared → Prop) × (Heap) × (Value → Shared → Prop) × (Addr) × (Addr) × (Addr) × (List Addr) × (List Let) × (List Value) × (List Int) × (Heap)
noncomputable def HIP (k : HIK) : Prop := HIG (k.1) (k.2.1) (k.2.2.1) (k.2.2.2.1) (k.2.2.2.2.1) (k.2.2.2.2.2.1) (k.2.2.2.2.2.2.1) (k.2.2.2.2.2.2.2.1) (k.2.2.2.2.2.2.2.2.1) (k.2.2.2.2.2.2.2.2.2.1) (k.2.2.2.2.2.2.2.2.2.2.1) (k.2.2.2.2.2.2.2.2.2.2.2.1) (k.2.2.2.2.2.2.2.2.2.2.2.2.1) (k.2.2.2.2.2.2.2.2.2.2.2.2.2.1) (k.2.2.2.2.2.2.2.2.2.2.2.2.2.2.1) (k.2.2.2.2.2.2.2.2.2.2.2.2.2.2.2.1) (k.2.2.2.2.2.2.2.2.2.2.2.2.2.2.2.2.1) (k.2.2.2.2.2.2.2.2.2.2.2.2.2.2.2.2.2.1) (k.2.2.2.2.2.2.2.2.2.2.2.2.2.2.2.2.2.2.1) (k.2.2.2.2.2.2.2.2.2.2.2.2.2.2.2.2.2.2.2)
theorem HIne : Nonempty HIK := ⟨((wd0 : World), (0 : Nat), (0 : Nat), (none : Option (List Env)), (none : Option (List Code)), ({} : Shared), (fun _ => none : ExcName → Option Value), (fun _ => none : Str → Option Value), (fun _ => none : Str → Option Value), (fun _ _ => True : Value → Shared → Prop), ({} : Heap), (fun _ _ => True : Value → Shared → Prop), (0 : Addr), (0 : Addr), (0 : Addr), ([] : List Addr), ([] : List Let), ([] : List Value), ([] : List Int), ({} : Heap))⟩
@[irreducible] noncomputable def HIk : HIK := @Classical.epsilon _ HIne fun k => ¬ HIP k
theorem HIc.pf : HIP HIk := by
  refine (?m : ∀ (w : World) (dp : Nat) (un : Nat) (fr : Option (List Env)) (gd : Option (List Code)) (s : Shared) (mean : ExcName → Option Value) (mg : Str → Option Value) (mb : Str → Option Value) (E : Value → Shared → Prop) (H0 : Heap) (Q : Value → Shared → Prop) (bx : Addr) (ll : Addr) (ul : Addr) (las : List Addr) (ds : List Let) (uvs : List Value) (us : List Int) (hG : Heap), ∀ (W : Wd w.params mean mg mb H0) (hs : H0.StaysIn s.heap) (hdp : dp + 4 < recursionLimit) (hun : un + 40 < cLine) (kG : hG.StaysIn s.heap) (hbx : Fld s.heap bx 151 "letters" (.ref ll)) (hll : s.heap.IsList ll (las.map Value.ref).toArray) (hds : LetsAt hG las ds) (hlen : las.length ≤ 100) (hul : s.heap.IsList ul uvs.toArray) (huv : IntsAre uvs us) (ret : ∀ M t h' tk', s.heap.StaysIn h' → M ∈ ((ds.filter fun d => us.any (· == d.uid)).map (·.ms)) ++ [0] → (∀ a ∈ ((ds.filter fun d => us.any (· == d.uid)).map (·.ms)) ++ [0], a ≤ M) → Q (.int M t) { s with heap := h', toks := tk' }),
    wpAny (model PySem.Challenge.rw_no0367_01.row.prog w) (Ar dp un fr gd) (call (.ref 203) [.ref bx, .ref ul]) Q E s) (HIk.1) (HIk.2.1) (HIk.2.2.1) (HIk.2.2.2.1) (HIk.2.2.2.2.1) (HIk.2.2.2.2.2.1) (HIk.2.2.2.2.2.2.1) (HIk.2.2.2.2.2.2.2.1) (HIk.2.2.2.2.2.2.2.2.1) (HIk.2.2.2.2.2.2.2.2.2.1) (HIk.2.2.2.2.2.2.2.2.2.2.1) (HIk.2.2.2.2.2.2.2.2.2.2.2.1) (HIk.2.2.2.2.2.2.2.2.2.2.2.2.1) (HIk.2.2.2.2.2.2.2.2.2.2.2.2.2.1) (HIk.2.2.2.2.2.2.2.2.2.2.2.2.2.2.1) (HIk.2.2.2.2.2.2.2.2.2.2.2.2.2.2.2.1) (HIk.2.2.2.2.2.2.2.2.2.2.2.2.2.2.2.2.1) (HIk.2.2.2.2.2.2.2.2.2.2.2.2.2.2.2.2.2.1) (HIk.2.2.2.2.2.2.2.2.2.2.2.2.2.2.2.2.2.2.1) (HIk.2.2.2.2.2.2.2.2.2.2.2.2.2.2.2.2.2.2.2)
  intro w dp un fr gd s mean mg mb E H0 Q bx ll ul las ds uvs us hG
  intro W hs hdp hun kG hbx hll hds hlen hul huv ret
  refine' enterC (H0 := H0) (mean := mean) (mg := mg) (mb := mb) (binds := [("box", .ref bx), ("uids", .ref ul)]) W hs [] (fun _ h => nomatch h) (by show dp < recursionLimit; first | exact room0 (by assumption) | omega) ?ho ?hcd ?hbind ?hkind ?hnd ?_ ?hco ?hgen ?hk
  (case ho => k_is); (case hcd => k_is); (case hbind => exact BindsTo.of_eq rfl); (case hkind => exact rfl); (case hnd => decide +kernel); (case hco => exact rfl); (case hgen => exact rfl); (case hk => exact rfl)
  intro g L' h₁ tk cells hg hst F N Y X T hlt
  simp only [List.map_nil, hideAll] at hg
  subst hg
  obtain ⟨o1, rfl, d1⟩ := CellsAre.one Y
  replace d1 : o1.data = .cell (some (.ref ul)) := d1
  replace F : Fr s.heap L' h₁ (fun y => if y = "box" then some (.ref bx) else none) := F
  replace N : News s.heap L' h₁ [(L' + 1, o1)] := N
  clear Y hlt
  revert d1 F N
  revert L' h₁ tk o1
  refine @eps4 _ _ _ _ ⟨((0 : Addr), ({} : Heap), (0 : Tok), (default : Obj))⟩ ?P7 ((?close7 : ∀ a0 a1 a2 a3, ?P7 a0 a1 a2 a3) _ _ _ _ )
  intro L' h₁ tk o1 d1 F N
  try k_fold
  walk1
  walk1
  walk1
  walk1
  walk1
  walk1
  walk1
  refine LC (cl := [("uids", L' + 1)]) rfl rfl (by decide) rfl (by decide) ?_ (by intro _; rfl)
  k_extra "MINE steps"
  rename Fr _ _ _ _ => F1
  rename News _ _ _ _ => N1
  have hlm : (las.map Value.ref).length ≤ 100 := by rw [List.length_map]; exact hlen
  refine CompAt.flat s.heap (fun i ys => IntsAre ys (((ds.take i).filter fun d => us.any (· == d.uid)).map (·.ms))) (.list _ _ (keepsList hll F1.keep)) (le_lit hlm rfl) F1 N1 (fun _ h => nomatch h) .nil ?_ ?_
  · intro g' hg' i v C D h tk2 m ys its e hi hP hJ hys F₂ N₂
    have hls := hJ
    obtain ⟨a, ha, rfl⟩ := map_get hP
    obtain ⟨d, hd, hLd⟩ := hds.get ha
    have kg1 := nil_stays hg'
    have kg := stays_trans F1.keep kg1
    have X' := X.keeps kg
    have T' := T.keeps kg
    have hul' := keepsList hul kg
    have hc : g'.IsCell (L' + 1) (some (.ref ul)) := cellAt (kg1 _ _ (N1 _ (.head _)).1) d1
    obtain ⟨⟨t2, hm⟩, ⟨t3, hm3⟩, _⟩ := hLd.keeps (stays_trans kG kg)
    clear F1 N1 X T
    walk1
    refine wpAny_tests_one ?_
    k_extra "MINE steps"
    · rename Fr _ _ _ _ => FF
      rename News _ _ _ _ => NN
      rename (List.any us _ = true) => hlt
      exact .mk FF NN (by rw [mfilt_in hd hlt]; exact hls.append (.cons _ _ .nil))
    · rename Fr _ _ _ _ => FF
      rename News _ _ _ _ => NN
      rename (List.any us _ = false) => hlt
      exact .mk FF NN (by rw [mfilt_out hd hlt]; exact hls)
  · rintro D h' tk2 ys e hls hys F₂ N₂ hlt
    rw [List.take_of_length_le (by rw [List.length_map, hds.len]; exact Nat.le_refl _)] at hls
    have hl9 := hls.length
    have hl8 : ys.length ≤ 100 := Nat.le_trans hys hlm
    have hl7 : ys.length ≤ 1000 := le_lit hl8 rfl
    replace N₂ : News s.heap L' h' [(D, listOf ys.toArray e), (L' + 1, o1)] := N₂
    replace hlt : AllLt D [(L' + 1, o1)] := allLt_of hlt
    simp only [AllLt, and_true] at hlt
    clear F1 N1
    k_extra "MINE steps"
    rename Fr _ _ _ _ => FF
    rename (_ ∈ _) => hM
    rename (∀ a, a ∈ _ → a ≤ _) => hM'
    try dsimp only
    exact ret _ _ _ _ FF.keep hM hM'
theorem highest_among_spec {w : World} {dp : Nat} {un : Nat} {fr : Option (List Env)} {gd : Option (List Code)} {s : Shared} {mean : ExcName → Option Value} {mg : Str → Option Value} {mb : Str → Option Value} {E : Value → Shared → Prop} {H0 : Heap} {Q : Value → Shared → Prop} {bx : Addr} {ll : Addr} {ul : Addr} {las : List Addr} {ds : List Let} {uvs : List Value} {us : List Int} {hG : Heap} : ∀ (W : Wd w.params mean mg mb H0) (hs : H0.StaysIn s.heap) (hdp : dp + 4 < recursionLimit) (hun : un + 40 < cLine) (kG : hG.StaysIn s.heap) (hbx : Fld s.heap bx 151 "letters" (.ref ll)) (hll : s.heap.IsList ll (las.map Value.ref).toArray) (hds : LetsAt hG las ds) (hlen : las.length ≤ 100) (hul : s.heap.IsList ul uvs.toArray) (huv : IntsAre uvs us) (ret : ∀ M t h' tk', s.heap.StaysIn h' → M ∈ ((ds.filter fun d => us.any (· == d.uid)).map (·.ms)) ++ [0] → (∀ a ∈ ((ds.filter fun d => us.any (· == d.uid)).map (·.ms)) ++ [0], a ≤ M) → Q (.int M t) { s with heap := h', toks := tk' }),
    wpAny (model PySem.Challenge.rw_no0367_01.row.prog w) (Ar dp un fr gd) (call (.ref 203) [.ref bx, .ref ul]) Q E s :=
  eps_all (P := HIP) HIne (by with_unfolding_all exact HIc.pf) (w, dp, un, fr, gd, s, mean, mg, mb, E, H0, Q, bx, ll, ul, las, ds, uvs, us, hG)


section
theorem ints_get {vs : List Value} {ts : List Int} (h : IntsAre vs ts) : ∀ {i : Nat} {v : Value}, vs[i]? = some v → ∃ x t, v = Value.int x t ∧ ts[i]? = some x := by
  induction h with
  | nil => intro i v e; cases e
  | cons y t _ ih =>
    intro i v e
    cases i with
    | zero => cases e; exact ⟨y, t, rfl, rfl⟩
    | succ i => exact ih e
theorem ints_of {vs : List Value} : ∀ {ks : List Int}, vs.length = ks.length → (∀ (j : Nat) (v : Value), vs[j]? = some v → ∃ (k : Int) (t : Tok), ks[j]? = some k ∧ v = Value.int k t) → IntsAre vs ks := by
  induction vs with
  | nil => intro ks h _; cases ks with
    | nil => exact .nil
    | cons _ _ => simp at h
  | cons v r ih => intro ks h hv; cases ks with
    | nil => simp at h
    | cons k ks =>
      obtain ⟨k', t, e, rfl⟩ := hv 0 v rfl
      simp at e; subst e
      exact .cons _ _ (ih (by simpa using h) fun j v e => by simpa using hv (j + 1) v (by simpa using e))
theorem stored_keys {kvs : List (Int × Value)} {k : Int} {v : Value} : (∀ x, x ∈ (stored kvs k v).map (·.1) ↔ x ∈ kvs.map (·.1) ∨ x = k) ∧ (stored kvs k v).length ≤ kvs.length + 1 := by
  unfold stored
  split
  · rename_i h
    have e : (kvs.map fun kv => if kv.1 = k then (kv.1, v) else kv).map (·.1) = kvs.map (·.1) := by
      rw [List.map_map]
      refine List.map_congr_left fun p _ => ?_
      simp only [Function.comp]
      split <;> rfl
    constructor
    · intro x
      rw [e]
      refine ⟨.inl, fun q => q.elim id fun q => ?_⟩
      subst q
      simp only [List.any_eq_true, decide_eq_true_eq] at h
      obtain ⟨p, hp, hk⟩ := h
      exact hk ▸ List.mem_map_of_mem hp
    · simp
  · constructor
    · intro x; simp
    · simp
variable {prog : Program} {w : World} {A : Around} {E : Value → Shared → Prop} {s : Shared}
theorem put_int {g : Heap} {L d : Addr} {m : Str → Option Value} {news : List (Addr × Obj)} {o : Obj} {kvs : List (Int × Value)} {k : Int} {t : Tok} {v : Value} {u : Obj → List (Addr × Obj)} {Q : Unit → Shared → Prop}
    (F : Fr g L s.heap m) (N : News g L s.heap news) (U : UpdF d o news u) (hd : o.IsDictOf (PySem.intKind prog w) kvs) (hn : kvs.length ≤ 1000)
    (h : ∀ h' o', Fr g L h' m → News g L h' (u o') → o'.IsDictOf (PySem.intKind prog w) (stored kvs k v) → Q () { s with heap := h', toks := s.toks + 1 }) :
    wpAny (model prog w) A (setItem (.ref d) (.int k t) v) Q E s := by
  obtain ⟨own, rest, rfl, hg, h1, h2⟩ := U.split
  have hm := N (d, o) (List.mem_append_right _ (.head _))
  refine wpAny_setItem_pairs (hsz := by first | exact le_lit (by assumption) rfl | (have : sizeLine = 16777216 := rfl; omega)) (knd := PySem.intKind prog w) (intKind_is _ _ _ _) (Heap.dictOf_iff.mpr ⟨o, hm.1, hd⟩) fun h' hmm hs => ?_
  obtain ⟨o', ho', hd'⟩ := Heap.dictOf_iff.mp hmm
  exact h h' o' (F.change hs hm.2.1 hm.2.2) (hg o' ▸ N.setAt h1 h2 hs ho') hd'
theorem list_of_ints {g : Heap} {L d : Addr} {m : Str → Option Value} {news : List (Addr × Obj)} {o : Obj} {kvs : List (Int × Value)} {Q : Value → Shared → Prop} (hh : A.handled = none)
    (F : Fr g L s.heap m) (N : News g L s.heap news) (hp : (d, o) ∈ news) (hd : o.IsDictOf (PySem.intKind prog w) kvs) (lo : (d == sysModules) = false) (hn : kvs.length ≤ 1000)
    (h : ∀ (B : Addr) n h' tk vs, Fr g L h' m → News g L h' ((B, listOf vs.toArray n) :: news) → (∀ q ∈ news, q.1 < B) → IntsAre vs (kvs.map (·.1)) → vs.length = kvs.length → Q (.ref B) { s with heap := h', toks := tk }) :
    wpAny (model prog w) A (call (.type "list") [.ref d]) Q E s := by
  obtain ⟨ep, hat⟩ := (Heap.dictOf_iff.mpr ⟨o, (N _ hp).1, hd⟩ : s.heap.DictOf (PySem.intKind prog w) d kvs).dictAt
  refine kdl_N (kdl_dict (knd := PySem.intKind prog w) (kvs := kvs) (ep := ep) lo) hh F N hat (by first | exact le_lit (by assumption) rfl | (have : sizeLine = 16777216 := rfl; omega)) fun B n h' tk vs F' N' l1 hl hv => ?_
  refine h B n h' tk vs F' N' l1 (ints_of (by rw [hl, List.length_map]) fun j v e => ?_) hl
  obtain ⟨k, x, hx, hk⟩ := hv j v e
  obtain ⟨t, rfl⟩ := Value.isInt_shape hk
  exact ⟨k, t, by rw [List.getElem?_map, hx]; rfl, rfl⟩
end

example : True := by
  k_with "setItem ref int" => ((k_here; k_dflt (refine' put_int (by first | (k_asm) | fail) (by first | (k_asm) | fail) (by first | (k_updF) | fail) (by first | (assumption) | fail) (by first | (k_extra "MINE ar") | fail) ?_; k_whole); intro _ _ _ _ _; (try k_sweep)))
  trivial
example : True := by
  k_with "call type:list" => ((k_here; (with_reducible show wpAny _ _ (call (Value.type "list") [Value.ref _]) _ _ _); k_dflt (refine' list_of_ints (by first | (rfl) | fail) (by first | (k_asm) | fail) (by first | (k_asm) | fail) (by first | (k_mem) | fail) (by first | (assumption) | fail) (by first | (assumption) | fail) (by first | (k_extra "MINE ar") | fail) ?_; k_whole); intro _ _ _ _ _ _ _ l9 hI9 hl9; (try k_lt l9); (try dsimp only); (try (revert l9 hI9 hl9; intros)); (try k_fold)))
  trivial
example : True := by
  k_with "call builtin:sorted" => ((k_here; (with_reducible show wpAny _ _ (call (Value.builtin "sorted") [Value.ref _]) _ _ _); k_dflt (refine' kso_sorted (by first | (k_asm) | fail) (by first | (k_asm) | fail) (by first | (k_extra "MINE list") | fail) (by first | (k_extra "MINE ints") | fail) (by first | assumption | omega | (simp only [List.length_map]; omega) | fail) ?_; k_whole); intro _ _ _ _ _ _ _ hlt9 hI9 hln9 hp9 hs9 _; (try k_lt hlt9); (try dsimp only); (try (revert hlt9 hI9 hln9 hp9 hs9; intros)); (try k_fold)))
  trivial

/-- what distinct's loop has stored of the first i -/
inductive DiJ (w : World) (us : List Int) (i : Nat) (m : Str → Option Value) : List (Addr × Obj) → Prop
  | mk (d : Addr) (o : Obj) (kvs : List (Int × Value)) : m "seen" = some (.ref d) → (d == sysModules) = false → o.IsDictOf (PySem.intKind PySem.Challenge.rw_no0367_01.row.prog w) kvs → (∀ x, x ∈ kvs.map (·.1) ↔ x ∈ us.take i) → kvs.length ≤ i → DiJ w us i m [(d, o)]
theorem strict_of {l : List Int} (h1 : l.Pairwise (· ≤ ·)) (h2 : l.Nodup) : l.Pairwise (· < ·) := (List.Pairwise.and h1 h2).imp fun h => Int.lt_iff_le_and_ne.mpr h
noncomputable def DIG (w : World) (dp : Nat) (un : Nat) (fr : Option (List Env)) (gd : Option (List Code)) (s : Shared) (mean : ExcName → Option Value) (mg : Str → Option Value) (mb : Str → Option Value) (E : Value → Shared → Prop) (H0 : Heap) (Q : Value → Shared → Prop) (ul : Addr) (uvs : List Value) (us : List Int) : Prop := ∀ (W : Wd w.params mean mg mb H0) (hs : H0.StaysIn s.heap) (hdp : dp + 2 < recursionLimit) (hul : s.heap.IsList ul uvs.toArray) (huv : IntsAre uvs us) (hlen : us.length < 60)
    (ret : ∀ r vs' us' n h' tk', s.heap.StaysIn h' → s.heap.get? r = none → h'.get? r = some (listOf vs'.toArray n) → IntsAre vs' us' → us'.Pairwise (· < ·) → (∀ x, x ∈ us' ↔ x ∈ us) → us'.length ≤ us.length → Q (.ref r) { s with heap := h', toks := tk' }),
    wpAny (model PySem.Challenge.rw_no0367_01.row.prog w) (Ar dp un fr gd) (call (.ref 223) [.ref ul]) Q E s
noncomputable abbrev DIK : Type _ := (World) × (Nat) × (Nat) × (Option (List Env)) × (Option (List Code)) × (Shared) × (ExcName → Option Value) × (Str → Option Value) × (Str → Option Value) × (Value → Shared → Prop) × (Heap) × (Value → Shared → Prop) × (Addr) × (List Value) × (List Int)
noncomputable def DIP (k : DIK) : Prop := DIG (k.1) (k.2.1) (k.2.2.1) (k.2.2.2.1) (k.2.2.2.2.1) (k.2.2.2.2.2.1) (k.2.2.2.2.2.2.1) (k.2.2.2.2.2.2.2.1) (k.2.2.2.2.2.2.2.2.1) (k.2.2.2.2.2.2.2.2.2.1) (k.2.2.2.2.2.2.2.2.2.2.1) (k.2.2.2.2.2.2.2.2.2.2.2.1) (k.2.2.2.2.2.2.2.2.2.2.2.2.1) (k.2.2.2.2.2.2.2.2.2.2.2.2.2.1) (k.2.2.2.2.2.2.2.2.2.2.2.2.2.2)
theorem DIne : Nonempty DIK := ⟨((wd0 : World), (0 : Nat), (0 : Nat), (none : Option (List Env)), (none : Option (List Code)), ({} : Shared), (fun _ => none : ExcName → Option Value), (fun _ => none : Str → Option Value), (fun _ => none : Str → Option Value), (fun _ _ => True : Value → Shared → Prop), ({} : Heap), (fun _ _ => True : Value → Shared → Prop), (0 : Addr), ([] : List Value), ([] : List Int))⟩
@[irreducible] noncomputable def DIk : DIK := @Classical.epsilon _ DIne fun k => ¬ DIP k
theorem DIc.pf : DIP DIk := by
  refine (?m : ∀ (w : World) (dp : Nat) (un : Nat) (fr : Option (List Env)) (gd : Option (List Code)) (s : Shared) (mean : ExcName → Option Value) (mg : Str → Option Value) (mb : Str → Option Value) (E : Value → Shared → Prop) (H0 : Heap) (Q : Value → Shared → Prop) (ul : Addr) (uvs : List Value) (us : List Int), ∀ (W : Wd w.params mean mg mb H0) (hs : H0.StaysIn s.heap) (hdp : dp + 2 < recursionLimit) (hul : s.heap.IsList ul uvs.toArray) (huv : IntsAre uvs us) (hlen : us.length < 60)
    (ret : ∀ r vs' us' n h' tk', s.heap.StaysIn h' → s.heap.get? r = none → h'.get? r = some (listOf vs'.toArray n) → IntsAre vs' us' → us'.Pairwise (· < ·) → (∀ x, x ∈ us' ↔ x ∈ us) → us'.length ≤ us.length → Q (.ref r) { s with heap := h', toks := tk' }),
    wpAny (model PySem.Challenge.rw_no0367_01.row.prog w) (Ar dp un fr gd) (call (.ref 223) [.ref ul]) Q E s) (DIk.1) (DIk.2.1) (DIk.2.2.1) (DIk.2.2.2.1) (DIk.2.2.2.2.1) (DIk.2.2.2.2.2.1) (DIk.2.2.2.2.2.2.1) (DIk.2.2.2.2.2.2.2.1) (DIk.2.2.2.2.2.2.2.2.1) (DIk.2.2.2.2.2.2.2.2.2.1) (DIk.2.2.2.2.2.2.2.2.2.2.1) (DIk.2.2.2.2.2.2.2.2.2.2.2.1) (DIk.2.2.2.2.2.2.2.2.2.2.2.2.1) (DIk.2.2.2.2.2.2.2.2.2.2.2.2.2.1) (DIk.2.2.2.2.2.2.2.2.2.2.2.2.2.2)
  intro w dp un fr gd s mean mg mb E H0 Q ul uvs us
  intro W hs hdp hul huv hlen ret
  refine' enter (H0 := H0) (mean := mean) (mg := mg) (mb := mb) (binds := [("uids", .ref ul)]) W hs [] (fun _ h => nomatch h) (by show dp < recursionLimit; first | exact room0 (by assumption) | omega) ?ho ?hcd ?hbind ?hloc ?_ ?hcell ?hco ?hgen ?hk
  (case ho => k_is); (case hcd => k_is); (case hbind => exact BindsTo.of_eq rfl); (case hloc => exact locs rfl); (case hcell => decide); (case hco => exact rfl); (case hgen => exact rfl); (case hk => exact rfl)
  intro g L' h₁ hg hst F N X T
  simp only [List.map_nil, hideAll] at hg
  subst hg
  dsimp only [List.reverse, List.reverseAux] at F
  clear hst
  revert F N
  revert L' h₁
  refine @eps2 _ _ ⟨((0 : Addr), ({} : Heap))⟩ ?P8 ((?close8 : ∀ a0 a1, ?P8 a0 a1) _ _ )
  intro L' h₁ F N
  try k_fold
  k_extra "MINE steps"
  rename Fr _ _ _ _ => F1
  rename News _ _ _ _ => N1
  rename (_ == sysModules) = false => lo
  rename Obj.IsDictOf (intKind _ _) _ [] => hd0
  rename Addr => d0
  have hlv : uvs.length ≤ 60 := Nat.le_trans (Nat.le_of_eq huv.length) (Nat.le_of_lt hlen)
  refine For_it (s := s) (g := s.heap) rfl ?_ (by intro _; rfl) .never
  walk1
  refine seq_at _ _ (DiJ w us) _ _ rfl rfl ul (.inl hul) rfl rfl F1 N1 (.mk _ _ [] rfl lo hd0 (fun _ => Iff.rfl) (Nat.le_refl _)) ?_ ?_
  · clear F1 N1 lo hd0
    rintro i v m₁ news₁ h₂ tk₂ ⟨I, oI⟩ hi hv ⟨d, o, kvs, hm, hlo, hdo, hmem, hkl⟩ ha F₂ N₂
    obtain ⟨x, t, rfl, hx⟩ := ints_get huv hv
    have hI : @Ne Nat d I := ha _ (.head _)
    have htk : us.take (i + 1) = us.take i ++ [x] := by rw [List.take_add_one, hx]; rfl
    have hk' : kvs.length ≤ 60 := Nat.le_trans hkl (Nat.le_trans (Nat.le_of_lt hi) hlv)
    have hk2 : kvs.length ≤ 1000 := le_lit hk' rfl
    clear ha hv
    k_extra "MINE steps"
    rename Fr _ _ _ _ => FF
    rename News _ _ _ _ => NN
    rename Obj.IsDictOf (intKind _ _) _ (stored _ _ _) => hd9
    have hsk := stored_keys (kvs := kvs) (k := x) (v := .bool true)
    exact TurnEnd.next _ FF NN (one_apart hI) (.mk d _ _ hm hlo hd9 (fun y => by rw [hsk.1, htk, List.mem_append, hmem y, List.mem_singleton]) (Nat.le_trans hsk.2 (Nat.succ_le_succ hkl)))
  · clear F1 N1 lo hd0
    rintro m' news' h' tk' F' N' ⟨d, o, kvs, hm, hlo, hdo, hmem, hkl⟩
    rw [List.take_of_length_le (Nat.le_of_eq huv.length.symm)] at hmem
    have hk' : kvs.length ≤ 60 := Nat.le_trans hkl hlv
    have hk1 : kvs.length ≤ 1000 := le_lit hk' rfl
    have hk2 : kvs.length < 64 := lt_lit hk' rfl
    have hnd : (kvs.map (·.1)).Nodup := by obtain ⟨_, _, _, _, _, _, h⟩ := hdo; exact h
    k_extra "MINE steps"
    rename Fr _ _ _ _ => FF
    rename News _ _ _ _ => NN
    rename List.Perm _ _ => hP
    rename List.Pairwise _ _ => hS
    rename IntsAre _ _ => hI
    exact ret _ _ _ _ _ _ FF.keep (NN _ (.head _)).2.2 (NN _ (.head _)).1 hI (strict_of hS (hP.nodup_iff.mpr hnd)) (fun x => by rw [hP.mem_iff, hmem]) (by rw [hP.length_eq, List.length_map]; exact Nat.le_trans hkl (Nat.le_of_eq huv.length))
theorem distinct_spec {w : World} {dp : Nat} {un : Nat} {fr : Option (List Env)} {gd : Option (List Code)} {s : Shared} {mean : ExcName → Option Value} {mg : Str → Option Value} {mb : Str → Option Value} {E : Value → Shared → Prop} {H0 : Heap} {Q : Value → Shared → Prop} {ul : Addr} {uvs : List Value} {us : List Int} : ∀ (W : Wd w.params mean mg mb H0) (hs : H0.StaysIn s.heap) (hdp : dp + 2 < recursionLimit) (hul : s.heap.IsList ul uvs.toArray) (huv : IntsAre uvs us) (hlen : us.length < 60)
    (ret : ∀ r vs' us' n h' tk', s.heap.StaysIn h' → s.heap.get? r = none → h'.get? r = some (listOf vs'.toArray n) → IntsAre vs' us' → us'.Pairwise (· < ·) → (∀ x, x ∈ us' ↔ x ∈ us) → us'.length ≤ us.length → Q (.ref r) { s with heap := h', toks := tk' }),
    wpAny (model PySem.Challenge.rw_no0367_01.row.prog w) (Ar dp un fr gd) (call (.ref 223) [.ref ul]) Q E s :=
  eps_all (P := DIP) DIne (by with_unfolding_all exact DIc.pf) (w, dp, un, fr, gd, s, mean, mg, mb, E, H0, Q, ul, uvs, us)


section
variable {prog : Program} {w : World} {A : Around} {E : Value → Shared → Prop} {s : Shared}
theorem add_tups {g : Heap} {L t b : Addr} {m : Str → Option Value} {news : List (Addr × Obj)} {vs ws : List Value} {xs ys : List Str} {Q : Value → Shared → Prop} (F : Fr g L s.heap m) (N : News g L s.heap news)
    (ht : IsTup s.heap t vs.toArray) (hb : IsTup s.heap b ws.toArray) (hx : StrsAre vs xs) (hy : StrsAre ws ys) (hn : vs.length + ws.length ≤ 1000)
    (h : ∀ r h', Fr g L h' m → News g L h' news → IsTup h' r (vs ++ ws).toArray → StrsAre (vs ++ ws) (xs ++ ys) → Q (.ref r) { s with heap := h' }) :
    wpAny (model prog w) A (binaryOp .Add (.ref t) (.ref b)) Q E s := by
  refine add_tuples (hsz := by first | exact le_lit (by assumption) rfl | (have : sizeLine = 16777216 := rfl; omega)) F N ht hb ?_ ?_ ?_
  · rintro rfl
    exact h b s.heap F N hb (strs_append hx hy)
  · rintro _ rfl
    exact h t s.heap F N (by simpa using ht) (strs_append hx hy)
  · intro _ _ h' F' N'
    exact h _ h' F' (fun p hp => N' p (.tail _ hp)) ⟨_, (N' _ (.head _)).1, rfl, _, rfl⟩ (strs_append hx hy)
end
/-- the flags behind a store: way 0 '+', 1 '-', 2 '=' -/
noncomputable def aft (wy : Nat) (fl ts : List Str) : List Str := if wy = 0 then canon (fl ++ canon ts) else if wy = 1 then fl.filter (fun x => !(canon ts).any (· == x)) else canon ts
def wayStr (wy : Nat) : Str := if wy = 0 then ⟨#[43]⟩ else if wy = 1 then ⟨#[45]⟩ else ⟨#[61]⟩

example : True := by
  k_with "binaryOp Add ref ref" => ((k_here; k_dflt (refine' add_tups (by first | (k_asm) | fail) (by first | (k_asm) | fail) (by first | (k_extra "MINE tup") | fail) (by first | (k_extra "MINE tup") | fail) (by first | (k_extra "MINE strs") | fail) (by first | (k_extra "MINE strs") | fail) (by first | (k_extra "MINE ar") | fail) ?_; k_whole); intro _ _ _ _ _ _; (try dsimp only); (try k_fold)))
  trivial
example : True := by
  k_with "call ref" => ((k_here; (with_reducible show wpAny _ _ (call (Value.ref 82) _) _ _ _); k_dflt (refine' flag_tuple_spec (by first | (assumption) | fail) (by first | (k_extra "MINE stays") | fail) (by first | (k_extra "MINE room") | fail) (by first | (k_extra "MINE room") | fail) (by first | exact .inl (by k_extra "MINE list") | exact .inr (by k_extra "MINE tup") | fail) (by first | (k_extra "MINE strs") | fail) (by first | (assumption) | fail) (by first | (k_extra "MINE ar") | fail) ?_; k_whole); intro _ vs9 h9 tk9 k9 e9 e9' hS9; (have hL9 : vs9.length ≤ 5 := by rw [StrsAre.length hS9]; exact canon_len _); (rename Fr _ _ _ _ => F9; rename News _ _ _ _ => N9; have F' := Fr.grow F9 k9; have N' := News.add F9 N9 k9 e9 e9'; clear F9 N9 k9 e9 e9'; (try dsimp only); (try (revert vs9 h9 tk9 hS9 hL9 F' N'; intros)); (try k_fold))))
  trivial

theorem three_of {k : Nat} (h : k < 3) : k = 0 ∨ k = 1 ∨ k = 2 :=
  (Nat.lt_or_eq_of_le (Nat.le_of_lt_succ h)).elim (fun h => (Nat.lt_or_eq_of_le (Nat.le_of_lt_succ h)).elim (fun h => .inl (Nat.lt_one_iff.mp h)) fun e => .inr (.inl e)) fun e => .inr (.inr e)
noncomputable def APG (w : World) (dp : Nat) (un : Nat) (fr : Option (List Env)) (gd : Option (List Code)) (s : Shared) (mean : ExcName → Option Value) (mg : Str → Option Value) (mb : Str → Option Value) (E : Value → Shared → Prop) (H0 : Heap) (Q : Value → Shared → Prop) (a : Addr) (fa : Addr) (d : Let) (nvs : List Value) (ts : List Str) (t : Tok) : Prop := ∀ (W : Wd w.params mean mg mb H0) (hs : H0.StaysIn s.heap) (hdp : dp + 9 < recursionLimit) (hun : un + 60 < cLine) (hl : LetAt s.heap a d) (hdu : ∀ x ∈ d.fl, x ∈ UNI) (hdl : d.fl.length ≤ 5) (hfa : s.heap.IsList fa nvs.toArray) (hnv : StrsAre nvs ts) (hts : ∀ x ∈ ts, x ∈ UNI) (htl : ts.length < 30) (ret : ∀ r vs' h' tk', s.heap.StaysIn h' → IsTup h' r vs'.toArray → StrsAre vs' (aft 0 d.fl ts) → Q (.ref r) { s with heap := h', toks := tk' }),
    wpAny (model PySem.Challenge.rw_no0367_01.row.prog w) (Ar dp un fr gd) (call (.ref 188) [.ref a, .str (wayStr 0) t, .ref fa]) Q E s
noncomputable abbrev APK : Type _ := (World) × (Nat) × (Nat) × (Option (List Env)) × (Option (List Code)) × (Shared) × (ExcName → Option Value) × (Str → Option Value) × (Str → Option Value) × (Value → Shared → Prop) × (Heap) × (Value → Shared → Prop) × (Addr) × (Addr) × (Let) × (List Value) × (List Str) × (Tok)
noncomputable def APP (k : APK) : Prop := APG (k.1) (k.2.1) (k.2.2.1) (k.2.2.2.1) (k.2.2.2.2.1) (k.2.2.2.2.2.1) (k.2.2.2.2.2.2.1) (k.2.2.2.2.2.2.2.1) (k.2.2.2.2.2.2.2.2.1) (k.2.2.2.2.2.2.2.2.2.1) (k.2.2.2.2.2.2.2.2.2.2.1) (k.2.2.2.2.2.2.2.2.2.2.2.1) (k.2.2.2.2.2.2.2.2.2.2.2.2.1) (k.2.2.2.2.2.2.2.2.2.2.2.2.2.1) (k.2.2.2.2.2.2.2.2.2.2.2.2.2.2.1) (k.2.2.2.2.2.2.2.2.2.2.2.2.2.2.2.1) (k.2.2.2.2.2.2.2.2.2.2.2.2.2.2.2.2.1) (k.2.2.2.2.2.2.2.2.2.2.2.2.2.2.2.2.2)
theorem APne : Nonempty APK := ⟨((wd0 : World), (0 : Nat), (0 : Nat), (none : Option (List Env)), (none : Option (List Code)), ({} : Shared), (fun _ => none : ExcName → Option Value), (fun _ => none : Str → Option Value), (fun _ => none : Str → Option Value), (fun _ _ => True : Value → Shared → Prop), ({} : Heap), (fun _ _ => True : Value → Shared → Prop), (0 : Addr), (0 : Addr), (⟨0, [], 0⟩ : Let), ([] : List Value), ([] : List Str), (0 : Tok))⟩
@[irreducible] noncomputable def APk : APK := @Classical.epsilon _ APne fun k => ¬ APP k
theorem APc.pf : APP APk := by
  refine (?m : ∀ (w : World) (dp : Nat) (un : Nat) (fr : Option (List Env)) (gd : Option (List Code)) (s : Shared) (mean : ExcName → Option Value) (mg : Str → Option Value) (mb : Str → Option Value) (E : Value → Shared → Prop) (H0 : Heap) (Q : Value → Shared → Prop) (a : Addr) (fa : Addr) (d : Let) (nvs : List Value) (ts : List Str) (t : Tok), ∀ (W : Wd w.params mean mg mb H0) (hs : H0.StaysIn s.heap) (hdp : dp + 9 < recursionLimit) (hun : un + 60 < cLine) (hl : LetAt s.heap a d) (hdu : ∀ x ∈ d.fl, x ∈ UNI) (hdl : d.fl.length ≤ 5) (hfa : s.heap.IsList fa nvs.toArray) (hnv : StrsAre nvs ts) (hts : ∀ x ∈ ts, x ∈ UNI) (htl : ts.length < 30) (ret : ∀ r vs' h' tk', s.heap.StaysIn h' → IsTup h' r vs'.toArray → StrsAre vs' (aft 0 d.fl ts) → Q (.ref r) { s with heap := h', toks := tk' }),
    wpAny (model PySem.Challenge.rw_no0367_01.row.prog w) (Ar dp un fr gd) (call (.ref 188) [.ref a, .str (wayStr 0) t, .ref fa]) Q E s) (APk.1) (APk.2.1) (APk.2.2.1) (APk.2.2.2.1) (APk.2.2.2.2.1) (APk.2.2.2.2.2.1) (APk.2.2.2.2.2.2.1) (APk.2.2.2.2.2.2.2.1) (APk.2.2.2.2.2.2.2.2.1) (APk.2.2.2.2.2.2.2.2.2.1) (APk.2.2.2.2.2.2.2.2.2.2.1) (APk.2.2.2.2.2.2.2.2.2.2.2.1) (APk.2.2.2.2.2.2.2.2.2.2.2.2.1) (APk.2.2.2.2.2.2.2.2.2.2.2.2.2.1) (APk.2.2.2.2.2.2.2.2.2.2.2.2.2.2.1) (APk.2.2.2.2.2.2.2.2.2.2.2.2.2.2.2.1) (APk.2.2.2.2.2.2.2.2.2.2.2.2.2.2.2.2.1) (APk.2.2.2.2.2.2.2.2.2.2.2.2.2.2.2.2.2)
  intro w dp un fr gd s mean mg mb E H0 Q a fa d nvs ts t
  intro W hs hdp hun hl hdu hdl hfa hnv hts htl ret
  refine' enterC (H0 := H0) (mean := mean) (mg := mg) (mb := mb) (binds := [("letter", .ref a), ("way", .str (wayStr 0) t), ("flags", .ref fa)]) W hs [] (fun _ h => nomatch h) (by show dp < recursionLimit; first | exact room0 (by assumption) | omega) ?ho ?hcd ?hbind ?hkind ?hnd ?_ ?hco ?hgen ?hk
  (case ho => k_is); (case hcd => k_is); (case hbind => exact BindsTo.of_eq rfl); (case hkind => exact rfl); (case hnd => decide +kernel); (case hco => exact rfl); (case hgen => exact rfl); (case hk => exact rfl)
  intro g L' h₁ tk cells hg hst F N Y X T hlt
  simp only [List.map_nil, hideAll] at hg
  subst hg
  obtain ⟨o1, rfl, d1⟩ := CellsAre.one Y
  replace d1 : o1.data = .cell none := d1
  replace F : Fr s.heap L' h₁ (fun y => if y = "flags" then some (.ref fa) else if y = "way" then some (.str ⟨#[43]⟩ t) else if y = "letter" then some (.ref a) else none) := F
  replace N : News s.heap L' h₁ [(L' + 1, o1)] := N
  clear Y hlt
  revert d1 F N
  revert L' h₁ tk o1
  refine @eps4 _ _ _ _ ⟨((0 : Addr), ({} : Heap), (0 : Tok), (default : Obj))⟩ ?P9 ((?close9 : ∀ a0 a1 a2 a3, ?P9 a0 a1 a2 a3) _ _ _ _ )
  intro L' h₁ tk o1 d1 F N
  obtain ⟨_, _, ⟨ft, fvs, hff, hft, hfv⟩, _⟩ := hl
  have hu2 : ∀ x ∈ d.fl ++ canon ts, x ∈ UNI := fun x hx => (List.mem_append.mp hx).elim (hdu x) (canon_uni ts x)
  have hn2 : (d.fl ++ canon ts).length < 60 := by rw [List.length_append]; exact lt_lit (Nat.add_le_add hdl (canon_len ts)) rfl
  have hn3 : fvs.length ≤ 5 := Nat.le_trans (Nat.le_of_eq (StrsAre.length hfv)) hdl
  have hn4 : ts.length < 60 := ltlt_lit htl rfl
  try k_fold
  k_extra "MINE steps"
  rename StrsAre _ (canon (d.fl ++ canon ts)) => hS
  rename Fr _ _ _ _ => FF
  rename News _ _ _ _ => NN
  try dsimp only
  exact ret _ _ _ _ FF.keep (News.isTup NN (.head _)) hS
theorem flags_after_plus {w : World} {dp : Nat} {un : Nat} {fr : Option (List Env)} {gd : Option (List Code)} {s : Shared} {mean : ExcName → Option Value} {mg : Str → Option Value} {mb : Str → Option Value} {E : Value → Shared → Prop} {H0 : Heap} {Q : Value → Shared → Prop} {a : Addr} {fa : Addr} {d : Let} {nvs : List Value} {ts : List Str} {t : Tok} : ∀ (W : Wd w.params mean mg mb H0) (hs : H0.StaysIn s.heap) (hdp : dp + 9 < recursionLimit) (hun : un + 60 < cLine) (hl : LetAt s.heap a d) (hdu : ∀ x ∈ d.fl, x ∈ UNI) (hdl : d.fl.length ≤ 5) (hfa : s.heap.IsList fa nvs.toArray) (hnv : StrsAre nvs ts) (hts : ∀ x ∈ ts, x ∈ UNI) (htl : ts.length < 30) (ret : ∀ r vs' h' tk', s.heap.StaysIn h' → IsTup h' r vs'.toArray → StrsAre vs' (aft 0 d.fl ts) → Q (.ref r) { s with heap := h', toks := tk' }),
    wpAny (model PySem.Challenge.rw_no0367_01.row.prog w) (Ar dp un fr gd) (call (.ref 188) [.ref a, .str (wayStr 0) t, .ref fa]) Q E s :=
  eps_all (P := APP) APne (by with_unfolding_all exact APc.pf) (w, dp, un, fr, gd, s, mean, mg, mb, E, H0, Q, a, fa, d, nvs, ts, t)
noncomputable def AEG (w : World) (dp : Nat) (un : Nat) (fr : Option (List Env)) (gd : Option (List Code)) (s : Shared) (mean : ExcName → Option Value) (mg : Str → Option Value) (mb : Str → Option Value) (E : Value → Shared → Prop) (H0 : Heap) (Q : Value → Shared → Prop) (a : Addr) (fa : Addr) (d : Let) (nvs : List Value) (ts : List Str) (t : Tok) : Prop := ∀ (W : Wd w.params mean mg mb H0) (hs : H0.StaysIn s.heap) (hdp : dp + 9 < recursionLimit) (hun : un + 60 < cLine) (hl : LetAt s.heap a d) (hdu : ∀ x ∈ d.fl, x ∈ UNI) (hdl : d.fl.length ≤ 5) (hfa : s.heap.IsList fa nvs.toArray) (hnv : StrsAre nvs ts) (hts : ∀ x ∈ ts, x ∈ UNI) (htl : ts.length < 30) (ret : ∀ r vs' h' tk', s.heap.StaysIn h' → IsTup h' r vs'.toArray → StrsAre vs' (aft 2 d.fl ts) → Q (.ref r) { s with heap := h', toks := tk' }),
    wpAny (model PySem.Challenge.rw_no0367_01.row.prog w) (Ar dp un fr gd) (call (.ref 188) [.ref a, .str (wayStr 2) t, .ref fa]) Q E s
noncomputable abbrev AEK : Type _ := (World) × (Nat) × (Nat) × (Option (List Env)) × (Option (List Code)) × (Shared) × (ExcName → Option Value) × (Str → Option Value) × (Str → Option Value) × (Value → Shared → Prop) × (Heap) × (Value → Shared → Prop) × (Addr) × (Addr) × (Let) × (List Value) × (List Str) × (Tok)
noncomputable def AEP (k : AEK) : Prop := AEG (k.1) (k.2.1) (k.2.2.1) (k.2.2.2.1) (k.2.2.2.2.1) (k.2.2.2.2.2.1) (k.2.2.2.2.2.2.1) (k.2.2.2.2.2.2.2.1) (k.2.2.2.2.2.2.2.2.1) (k.2.2.2.2.2.2.2.2.2.1) (k.2.2.2.2.2.2.2.2.2.2.1) (k.2.2.2.2.2.2.2.2.2.2.2.1) (k.2.2.2.2.2.2.2.2.2.2.2.2.1) (k.2.2.2.2.2.2.2.2.2.2.2.2.2.1) (k.2.2.2.2.2.2.2.2.2.2.2.2.2.2.1) (k.2.2.2.2.2.2.2.2.2.2.2.2.2.2.2.1) (k.2.2.2.2.2.2.2.2.2.2.2.2.2.2.2.2.1) (k.2.2.2.2.2.2.2.2.2.2.2.2.2.2.2.2.2)
theorem AEne : Nonempty AEK := ⟨((wd0 : World), (0 : Nat), (0 : Nat), (none : Option (List Env)), (none : Option (List Code)), ({} : Shared), (fun _ => none : ExcName → Option Value), (fun _ => none : Str → Option Value), (fun _ => none : Str → Option Value), (fun _ _ => True : Value → Shared → Prop), ({} : Heap), (fun _ _ => True : Value → Shared → Prop), (0 : Addr), (0 : Addr), (⟨0, [], 0⟩ : Let), ([] : List Value), ([] : List Str), (0 : Tok))⟩
@[irreducible] noncomputable def AEk : AEK := @Classical.epsilon _ AEne fun k => ¬ AEP k
theorem AEc.pf : AEP AEk := by
  refine (?m : ∀ (w : World) (dp : Nat) (un : Nat) (fr : Option (List Env)) (gd : Option (List Code)) (s : Shared) (mean : ExcName → Option Value) (mg : Str → Option Value) (mb : Str → Option Value) (E : Value → Shared → Prop) (H0 : Heap) (Q : Value → Shared → Prop) (a : Addr) (fa : Addr) (d : Let) (nvs : List Value) (ts : List Str) (t : Tok), ∀ (W : Wd w.params mean mg mb H0) (hs : H0.StaysIn s.heap) (hdp : dp + 9 < recursionLimit) (hun : un + 60 < cLine) (hl : LetAt s.heap a d) (hdu : ∀ x ∈ d.fl, x ∈ UNI) (hdl : d.fl.length ≤ 5) (hfa : s.heap.IsList fa nvs.toArray) (hnv : StrsAre nvs ts) (hts : ∀ x ∈ ts, x ∈ UNI) (htl : ts.length < 30) (ret : ∀ r vs' h' tk', s.heap.StaysIn h' → IsTup h' r vs'.toArray → StrsAre vs' (aft 2 d.fl ts) → Q (.ref r) { s with heap := h', toks := tk' }),
    wpAny (model PySem.Challenge.rw_no0367_01.row.prog w) (Ar dp un fr gd) (call (.ref 188) [.ref a, .str (wayStr 2) t, .ref fa]) Q E s) (AEk.1) (AEk.2.1) (AEk.2.2.1) (AEk.2.2.2.1) (AEk.2.2.2.2.1) (AEk.2.2.2.2.2.1) (AEk.2.2.2.2.2.2.1) (AEk.2.2.2.2.2.2.2.1) (AEk.2.2.2.2.2.2.2.2.1) (AEk.2.2.2.2.2.2.2.2.2.1) (AEk.2.2.2.2.2.2.2.2.2.2.1) (AEk.2.2.2.2.2.2.2.2.2.2.2.1) (AEk.2.2.2.2.2.2.2.2.2.2.2.2.1) (AEk.2.2.2.2.2.2.2.2.2.2.2.2.2.1) (AEk.2.2.2.2.2.2.2.2.2.2.2.2.2.2.1) (AEk.2.2.2.2.2.2.2.2.2.2.2.2.2.2.2.1) (AEk.2.2.2.2.2.2.2.2.2.2.2.2.2.2.2.2.1) (AEk.2.2.2.2.2.2.2.2.2.2.2.2.2.2.2.2.2)
  intro w dp un fr gd s mean mg mb E H0 Q a fa d nvs ts t
  intro W hs hdp hun hl hdu hdl hfa hnv hts htl ret
  refine' enterC (H0 := H0) (mean := mean) (mg := mg) (mb := mb) (binds := [("letter", .ref a), ("way", .str (wayStr 2) t), ("flags", .ref fa)]) W hs [] (fun _ h => nomatch h) (by show dp < recursionLimit; first | exact room0 (by assumption) | omega) ?ho ?hcd ?hbind ?hkind ?hnd ?_ ?hco ?hgen ?hk
  (case ho => k_is); (case hcd => k_is); (case hbind => exact BindsTo.of_eq rfl); (case hkind => exact rfl); (case hnd => decide +kernel); (case hco => exact rfl); (case hgen => exact rfl); (case hk => exact rfl)
  intro g L' h₁ tk cells hg hst F N Y X T hlt
  simp only [List.map_nil, hideAll] at hg
  subst hg
  obtain ⟨o1, rfl, d1⟩ := CellsAre.one Y
  replace d1 : o1.data = .cell none := d1
  replace F : Fr s.heap L' h₁ (fun y => if y = "flags" then some (.ref fa) else if y = "way" then some (.str ⟨#[61]⟩ t) else if y = "letter" then some (.ref a) else none) := F
  replace N : News s.heap L' h₁ [(L' + 1, o1)] := N
  clear Y hlt
  revert d1 F N
  revert L' h₁ tk o1
  refine @eps4 _ _ _ _ ⟨((0 : Addr), ({} : Heap), (0 : Tok), (default : Obj))⟩ ?P10 ((?close10 : ∀ a0 a1 a2 a3, ?P10 a0 a1 a2 a3) _ _ _ _ )
  intro L' h₁ tk o1 d1 F N
  obtain ⟨_, _, ⟨ft, fvs, hff, hft, hfv⟩, _⟩ := hl
  have hn3 : fvs.length ≤ 5 := Nat.le_trans (Nat.le_of_eq (StrsAre.length hfv)) hdl
  have hn4 : ts.length < 60 := ltlt_lit htl rfl
  try k_fold
  k_extra "MINE steps"
  rename StrsAre _ (canon _) => hS
  rename Fr _ _ _ _ => FF
  rename News _ _ _ _ => NN
  try dsimp only
  exact ret _ _ _ _ FF.keep (News.isTup NN (.head _)) hS
theorem flags_after_eq {w : World} {dp : Nat} {un : Nat} {fr : Option (List Env)} {gd : Option (List Code)} {s : Shared} {mean : ExcName → Option Value} {mg : Str → Option Value} {mb : Str → Option Value} {E : Value → Shared → Prop} {H0 : Heap} {Q : Value → Shared → Prop} {a : Addr} {fa : Addr} {d : Let} {nvs : List Value} {ts : List Str} {t : Tok} : ∀ (W : Wd w.params mean mg mb H0) (hs : H0.StaysIn s.heap) (hdp : dp + 9 < recursionLimit) (hun : un + 60 < cLine) (hl : LetAt s.heap a d) (hdu : ∀ x ∈ d.fl, x ∈ UNI) (hdl : d.fl.length ≤ 5) (hfa : s.heap.IsList fa nvs.toArray) (hnv : StrsAre nvs ts) (hts : ∀ x ∈ ts, x ∈ UNI) (htl : ts.length < 30) (ret : ∀ r vs' h' tk', s.heap.StaysIn h' → IsTup h' r vs'.toArray → StrsAre vs' (aft 2 d.fl ts) → Q (.ref r) { s with heap := h', toks := tk' }),
    wpAny (model PySem.Challenge.rw_no0367_01.row.prog w) (Ar dp un fr gd) (call (.ref 188) [.ref a, .str (wayStr 2) t, .ref fa]) Q E s :=
  eps_all (P := AEP) AEne (by with_unfolding_all exact AEc.pf) (w, dp, un, fr, gd, s, mean, mg, mb, E, H0, Q, a, fa, d, nvs, ts, t)
noncomputable def AIG (w : World) (dp : Nat) (un : Nat) (fr : Option (List Env)) (gd : Option (List Code)) (s : Shared) (mean : ExcName → Option Value) (mg : Str → Option Value) (mb : Str → Option Value) (E : Value → Shared → Prop) (H0 : Heap) (Q : Value → Shared → Prop) (a : Addr) (fa : Addr) (d : Let) (nvs : List Value) (ts : List Str) (t : Tok) : Prop := ∀ (W : Wd w.params mean mg mb H0) (hs : H0.StaysIn s.heap) (hdp : dp + 9 < recursionLimit) (hun : un + 60 < cLine) (hl : LetAt s.heap a d) (hdu : ∀ x ∈ d.fl, x ∈ UNI) (hdl : d.fl.length ≤ 5) (hfa : s.heap.IsList fa nvs.toArray) (hnv : StrsAre nvs ts) (hts : ∀ x ∈ ts, x ∈ UNI) (htl : ts.length < 30) (ret : ∀ r vs' h' tk', s.heap.StaysIn h' → IsTup h' r vs'.toArray → StrsAre vs' (aft 1 d.fl ts) → Q (.ref r) { s with heap := h', toks := tk' }),
    wpAny (model PySem.Challenge.rw_no0367_01.row.prog w) (Ar dp un fr gd) (call (.ref 188) [.ref a, .str (wayStr 1) t, .ref fa]) Q E s
noncomputable abbrev AIK : Type _ := (World) × (Nat) × (Nat) × (Option (List Env)) × (Option (List Code)) × (Shared) × (ExcName → Option Value) × (Str → Option Value) × (Str → Option Value) × (Value → Shared → Prop) × (Heap) × (Value → Shared → Prop) × (Addr) × (Addr) × (Let) × (List Value) × (List Str) × (Tok)
noncomputable def AIP (k : AIK) : Prop := AIG (k.1) (k.2.1) (k.2.2.1) (k.2.2.2.1) (k.2.2.2.2.1) (k.2.2.2.2.2.1) (k.2.2.2.2.2.2.1) (k.2.2.2.2.2.2.2.1) (k.2.2.2.2.2.2.2.2.1) (k.2.2.2.2.2.2.2.2.2.1) (k.2.2.2.2.2.2.2.2.2.2.1) (k.2.2.2.2.2.2.2.2.2.2.2.1) (k.2.2.2.2.2.2.2.2.2.2.2.2.1) (k.2.2.2.2.2.2.2.2.2.2.2.2.2.1) (k.2.2.2.2.2.2.2.2.2.2.2.2.2.2.1) (k.2.2.2.2.2.2.2.2.2.2.2.2.2.2.2.1) (k.2.2.2.2.2.2.2.2.2.2.2.2.2.2.2.2.1) (k.2.2.2.2.2.2.2.2.2.2.2.2.2.2.2.2.2)
theorem AIne : Nonempty AIK := ⟨((wd0 : World), (0 : Nat), (0 : Nat), (none : Option (List Env)), (none : Option (List Code)), ({} : Shared), (fun _ => none : ExcName → Option Value), (fun _ => none : Str → Option Value), (fun _ => none : Str → Option Value), (fun _ _ => True : Value → Shared → Prop), ({} : Heap), (fun _ _ => True : Value → Shared → Prop), (0 : Addr), (0 : Addr), (⟨0, [], 0⟩ : Let), ([] : List Value), ([] : List Str), (0 : Tok))⟩
@[irreducible] noncomputable def AIk : AIK := @Classical.epsilon _ AIne fun k => ¬ AIP k
theorem AIc.pf : AIP AIk := by
  refine (?m : ∀ (w : World) (dp : Nat) (un : Nat) (fr : Option (List Env)) (gd : Option (List Code)) (s : Shared) (mean : ExcName → Option Value) (mg : Str → Option Value) (mb : Str → Option Value) (E : Value → Shared → Prop) (H0 : Heap) (Q : Value → Shared → Prop) (a : Addr) (fa : Addr) (d : Let) (nvs : List Value) (ts : List Str) (t : Tok), ∀ (W : Wd w.params mean mg mb H0) (hs : H0.StaysIn s.heap) (hdp : dp + 9 < recursionLimit) (hun : un + 60 < cLine) (hl : LetAt s.heap a d) (hdu : ∀ x ∈ d.fl, x ∈ UNI) (hdl : d.fl.length ≤ 5) (hfa : s.heap.IsList fa nvs.toArray) (hnv : StrsAre nvs ts) (hts : ∀ x ∈ ts, x ∈ UNI) (htl : ts.length < 30) (ret : ∀ r vs' h' tk', s.heap.StaysIn h' → IsTup h' r vs'.toArray → StrsAre vs' (aft 1 d.fl ts) → Q (.ref r) { s with heap := h', toks := tk' }),
    wpAny (model PySem.Challenge.rw_no0367_01.row.prog w) (Ar dp un fr gd) (call (.ref 188) [.ref a, .str (wayStr 1) t, .ref fa]) Q E s) (AIk.1) (AIk.2.1) (AIk.2.2.1) (AIk.2.2.2.1) (AIk.2.2.2.2.1) (AIk.2.2.2.2.2.1) (AIk.2.2.2.2.2.2.1) (AIk.2.2.2.2.2.2.2.1) (AIk.2.2.2.2.2.2.2.2.1) (AIk.2.2.2.2.2.2.2.2.2.1) (AIk.2.2.2.2.2.2.2.2.2.2.1) (AIk.2.2.2.2.2.2.2.2.2.2.2.1) (AIk.2.2.2.2.2.2.2.2.2.2.2.2.1) (AIk.2.2.2.2.2.2.2.2.2.2.2.2.2.1) (AIk.2.2.2.2.2.2.2.2.2.2.2.2.2.2.1) (AIk.2.2.2.2.2.2.2.2.2.2.2.2.2.2.2.1) (AIk.2.2.2.2.2.2.2.2.2.2.2.2.2.2.2.2.1) (AIk.2.2.2.2.2.2.2.2.2.2.2.2.2.2.2.2.2)
  intro w dp un fr gd s mean mg mb E H0 Q a fa d nvs ts t
  intro W hs hdp hun hl hdu hdl hfa hnv hts htl ret
  refine' enterC (H0 := H0) (mean := mean) (mg := mg) (mb := mb) (binds := [("letter", .ref a), ("way", .str (wayStr 1) t), ("flags", .ref fa)]) W hs [] (fun _ h => nomatch h) (by show dp < recursionLimit; first | exact room0 (by assumption) | omega) ?ho ?hcd ?hbind ?hkind ?hnd ?_ ?hco ?hgen ?hk
  (case ho => k_is); (case hcd => k_is); (case hbind => exact BindsTo.of_eq rfl); (case hkind => exact rfl); (case hnd => decide +kernel); (case hco => exact rfl); (case hgen => exact rfl); (case hk => exact rfl)
  intro g L' h₁ tk cells hg hst F N Y X T hlt
  simp only [List.map_nil, hideAll] at hg
  subst hg
  obtain ⟨o1, rfl, d1⟩ := CellsAre.one Y
  replace d1 : o1.data = .cell none := d1
  replace F : Fr s.heap L' h₁ (fun y => if y = "flags" then some (.ref fa) else if y = "way" then some (.str ⟨#[45]⟩ t) else if y = "letter" then some (.ref a) else none) := F
  replace N : News s.heap L' h₁ [(L' + 1, o1)] := N
  clear Y hlt
  revert d1 F N
  revert L' h₁ tk o1
  refine @eps4 _ _ _ _ ⟨((0 : Addr), ({} : Heap), (0 : Tok), (default : Obj))⟩ ?P11 ((?close11 : ∀ a0 a1 a2 a3, ?P11 a0 a1 a2 a3) _ _ _ _ )
  intro L' h₁ tk o1 d1 F N
  obtain ⟨_, _, ⟨ft, fvs, hff, hft, hfv⟩, _⟩ := hl
  have hn3 : fvs.length ≤ 5 := Nat.le_trans (Nat.le_of_eq (StrsAre.length hfv)) hdl
  have hn4 : ts.length < 60 := ltlt_lit htl rfl
  try k_fold
  k_extra "MINE steps"
  rename Fr _ _ _ _ => F1
  rename News _ _ _ _ => N1
  rename StrsAre _ (canon ts) => hS9
  rename Obj => o9
  rename o9.data = _ => e9
  refine LC (cl := [("names", L' + 1)]) rfl rfl (by decide) rfl (by decide) ?_ (by intro _; rfl)
  k_extra "MINE steps"
  have hn5 : fvs.length ≤ 1000 := le_lit hn3 rfl
  refine CompAt.flat s.heap (fun i ys => StrsAre ys ((d.fl.take i).filter fun x => !(canon ts).any (· == x))) (.tup _ _ (keepsTup hft F1.keep)) hn5 F1 N1 (fun _ h => nomatch h) .nil ?_ ?_
  · intro g' hg' i v C D h tk2 m ys its e hi hP hJ hys F₂ N₂
    have hys' := hJ
    obtain ⟨x, t', rfl, hx⟩ := strs_get hfv hP
    have kg1 := nil_stays hg'
    have kg := stays_trans F1.keep kg1
    have X' := X.keeps kg
    have T' := T.keeps kg
    have hc := cellKeeps (cellAt (N1 _ (.tail _ (.head _))).1 e9) kg1
    have ht9 := keepsTup (News.isTup N1 (.head _)) kg1
    have hsz : ys.length ≤ 1000 := Nat.le_trans hys (Nat.le_trans (Nat.le_of_lt hi) hn5)
    clear F1 N1 X T
    walk1
    refine wpAny_tests_one ?_
    k_extra "MINE steps"
    · rename Fr _ _ _ _ => FF
      rename News _ _ _ _ => NN
      rename (List.any _ _ = true) => hlt
      exact .mk FF NN (by rw [filt_out hx (not_of_true hlt)]; exact hys')
    · rename Fr _ _ _ _ => FF
      rename News _ _ _ _ => NN
      rename (List.any _ _ = false) => hlt
      exact .mk FF NN (by rw [filt_in hx (not_of_false hlt)]; exact strs_snoc hys' x _)
  · rintro D h' tk2 ys e hys' hys F₂ N₂ hlt
    dsimp only
    rw [List.take_of_length_le (Nat.le_of_eq (StrsAre.length hfv).symm)] at hys'
    have hyl : ys.length < 64 := lt_lit (Nat.le_trans hys hn3) rfl
    have hy2 : ys.length ≤ 1000 := ltle_lit hyl rfl
    k_extra "MINE steps"
    rename Fr _ _ _ _ => FF
    rename News _ _ _ _ => NN
    try dsimp only
    exact ret _ _ _ _ FF.keep (News.isTup NN (.head _)) hys'
theorem flags_after_minus {w : World} {dp : Nat} {un : Nat} {fr : Option (List Env)} {gd : Option (List Code)} {s : Shared} {mean : ExcName → Option Value} {mg : Str → Option Value} {mb : Str → Option Value} {E : Value → Shared → Prop} {H0 : Heap} {Q : Value → Shared → Prop} {a : Addr} {fa : Addr} {d : Let} {nvs : List Value} {ts : List Str} {t : Tok} : ∀ (W : Wd w.params mean mg mb H0) (hs : H0.StaysIn s.heap) (hdp : dp + 9 < recursionLimit) (hun : un + 60 < cLine) (hl : LetAt s.heap a d) (hdu : ∀ x ∈ d.fl, x ∈ UNI) (hdl : d.fl.length ≤ 5) (hfa : s.heap.IsList fa nvs.toArray) (hnv : StrsAre nvs ts) (hts : ∀ x ∈ ts, x ∈ UNI) (htl : ts.length < 30) (ret : ∀ r vs' h' tk', s.heap.StaysIn h' → IsTup h' r vs'.toArray → StrsAre vs' (aft 1 d.fl ts) → Q (.ref r) { s with heap := h', toks := tk' }),
    wpAny (model PySem.Challenge.rw_no0367_01.row.prog w) (Ar dp un fr gd) (call (.ref 188) [.ref a, .str (wayStr 1) t, .ref fa]) Q E s :=
  eps_all (P := AIP) AIne (by with_unfolding_all exact AIc.pf) (w, dp, un, fr, gd, s, mean, mg, mb, E, H0, Q, a, fa, d, nvs, ts, t)
section
variable {w : World} {dp un : Nat} {fr : Option (List Env)} {gd : Option (List Code)} {E : Value → Shared → Prop} {s : Shared} {H0 : Heap} {mean : ExcName → Option Value} {mg mb : Str → Option Value} {Q : Value → Shared → Prop}
theorem flags_after_spec (W : Wd w.params mean mg mb H0) (hs : H0.StaysIn s.heap) (hdp : dp + 9 < recursionLimit) (hun : un + 60 < cLine) {a fa : Addr} {d : Let} {nvs : List Value} {ts : List Str} (hl : LetAt s.heap a d) (hdu : ∀ x ∈ d.fl, x ∈ UNI) (hdl : d.fl.length ≤ 5)
    (hfa : s.heap.IsList fa nvs.toArray) (hnv : StrsAre nvs ts) (hts : ∀ x ∈ ts, x ∈ UNI) (htl : ts.length < 30) (t : Tok) (wy : Nat) (hwy : wy < 3)
    (ret : ∀ r vs' h' tk', s.heap.StaysIn h' → IsTup h' r vs'.toArray → StrsAre vs' (aft wy d.fl ts) → Q (.ref r) { s with heap := h', toks := tk' }) :
    wpAny (model PySem.Challenge.rw_no0367_01.row.prog w) (Ar dp un fr gd) (call (.ref 188) [.ref a, .str (wayStr wy) t, .ref fa]) Q E s := by
  rcases three_of hwy with rfl | rfl | rfl
  · exact flags_after_plus W hs hdp hun hl hdu hdl hfa hnv hts htl ret
  · exact flags_after_minus W hs hdp hun hl hdu hdl hfa hnv hts htl ret
  · exact flags_after_eq W hs hdp hun hl hdu hdl hfa hnv hts htl ret
end


section
variable {w : World} {dp un : Nat} {fr : Option (List Env)} {gd : Option (List Code)} {E : Value → Shared → Prop} {s : Shared} {H0 : Heap} {mean : ExcName → Option Value} {mg mb : Str → Option Value} {Q : Value → Shared → Prop}
variable {A : Around} {R : Result → Shared → Prop}
/-- enter, told for a Code and an ending of both kinds (for __init__) -/
theorem enterI {name qual : Str} {params : Arguments} {body : List Stmt} {scope : Scope} {dV kV doc pm cdv ct oc : Value} {an od : Option Addr} {osl : Array (Option Value)} {f : Addr} {args : List Value} {kws : List (Str × Value)} {binds : List (Str × Value)}
    (W : Wd w.params mean mg mb H0) (hs : H0.StaysIn s.heap) (news : List (Addr × Obj)) (hn : ∀ p ∈ news, s.heap.get? p.1 = some p.2 ∧ H0.get? p.1 = none)
    (hroom : A.depth < recursionLimit)
    (ho : (hd.heap_39 w.params).lookup f = some ⟨oc, od, .func (fnOf name qual params body scope dV kV doc pm an cdv ct), osl⟩) (hcd : codeIn (hd.heap_39 w.params) cdv qual = true)
    (hbind : BindsTo s (fnOf name qual params body scope dV kV doc pm an cdv ct) ⟨args, kws⟩ binds) (hloc : ∀ y ∈ binds, scope.names.lookup y.1 = some .local)
    (h : ∀ g L' h₁, g = hideAll s.heap (news.map (·.1)) → H0.StaysIn g → Fr g L' h₁ (fun y => binds.reverse.lookup y) → News g L' h₁ news → (hd.heap_39 w.params).In g → TopF mean mg mb g →
      wpAny (model PySem.Challenge.rw_no0367_01.row.prog w) (A.deeper (envX qual scope L' f cdv [])) (execs body (envX qual scope L' f cdv []))
        (fun fl s' => R (.ok (.ret (match fl with | .ret v => v | _ => .none))) s') (fun _ _ => False) { s with heap := h₁, toks := s.toks + binds.length })
    (hcell : ∀ x ∈ scope.names, x.2 ≠ .cell) (hco : scope.isCoroutine = false) (hgen : scope.isGenerator = false) (hk : scope.kind = .function) :
    codeAny (model PySem.Challenge.rw_no0367_01.row.prog w) A (.call (.ref f) ⟨args, kws⟩) R s := by
  have Ws := W.keeps hs
  have st : H0.StaysIn (hideAll s.heap (news.map (·.1))) := fun b o e => hideAll_get _ (hs b o e) fun q => by
    obtain ⟨p, hp, rfl⟩ := List.mem_map.mp q
    rw [(hn p hp).2] at e; cases e
  refine codeAny_call_def (fd := fnX name qual params body scope [] dV kV doc pm an cdv ct) (body := body) (binds := binds) hroom (Ws.X _ _ ho) rfl Ws.T.nolimit (codeRec_of Ws.X hcd) rfl hbind hcell hloc (fun h₁ hns hk₁ => ?_) hco hgen hk
  refine wpAny_mono (h _ s.heap.objs.size h₁ rfl st ⟨hns, fun b o e => hk₁ b o (of_hideAll _ e), Nat.le_of_eq (hideAll_size _ _)⟩
    (fun p hp => ⟨hk₁ _ _ (hn p hp).1, Nat.ne_of_lt (Heap.lt_size (hn p hp).1), hideAll_none _ (List.mem_map_of_mem hp)⟩) (W.X.keeps st) (W.T.keeps st)) (fun _ _ x => x) fun _ _ x => x.elim

end
theorem seen_none {h : Heap} {bs : List Addr} {a : Addr} (e : (hideAll h bs).get? a = none) (hn : a ∉ bs) : h.get? a = none := by
  cases q : h.get? a with
  | none => rfl
  | some o => rw [hideAll_get _ q hn] at e; cases e
section
variable {h : Heap} {a b x : Addr} {o : Obj}
theorem not2 (n1 : @Ne Nat x a) (n2 : @Ne Nat x b) : x ∉ [a, b] := fun q => (List.mem_cons.mp q).elim n1 fun q => n2 (List.mem_singleton.mp q)
theorem hid2 (hx : h.get? x = some o) (n1 : @Ne Nat x a) (n2 : @Ne Nat x b) : (hideAll h [a, b]).get? x = some o := hideAll_get _ hx (not2 n1 n2)
theorem hid2_list {items : Array Value} (hx : h.IsList x items) (n1 : @Ne Nat x a) (n2 : @Ne Nat x b) : (hideAll h [a, b]).IsList x items := let ⟨o, ho, r⟩ := hx; ⟨o, hid2 ho n1 n2, r⟩
theorem hid2_tup {items : Array Value} (hx : IsTup h x items) (n1 : @Ne Nat x a) (n2 : @Ne Nat x b) : IsTup (hideAll h [a, b]) x items := let ⟨o, ho, r⟩ := hx; ⟨o, hid2 ho n1 n2, r⟩
theorem ne_of_none {hG : Heap} (e : hG.get? x = some o) (a0 : hG.get? a = none) : @Ne Nat x a := fun q => by rw [show x = a from q, a0] at e; cases e
theorem hid2_stays {hG : Heap} (k : hG.StaysIn h) (a0 : hG.get? a = none) (b0 : hG.get? b = none) : hG.StaysIn (hideAll h [a, b]) := fun _ _ e => hid2 (k _ _ e) (ne_of_none e a0) (ne_of_none e b0)
theorem seen2 (e : (hideAll h [a, b]).get? x = none) (n1 : @Ne Nat x a) (n2 : @Ne Nat x b) : h.get? x = none := seen_none e (not2 n1 n2)
theorem ne_of_cls {o' : Obj} (v v' : Value) (e : h.get? x = some o) (e' : h.get? a = some o') (h1 : o.cls = v) (h2 : o'.cls = v') (hc : v ≠ v') : @Ne Nat x a := fun q => by
  rw [show x = a from q, e'] at e
  cases e
  exact hc (h1.symm.trans h2)
theorem tup_ne {items : Array Value} (hx : IsTup h x items) (ha : h.get? a = some o) (hc : o.cls ≠ .type "tuple") : @Ne Nat x a := fun q => by
  obtain ⟨o', ho, hc', _⟩ := hx
  rw [show x = a from q, ha] at ho
  cases ho
  exact hc hc'
end
/-- the attributes of a letter, in its dict -/
noncomputable def LetD (es : List DictEntry) (uid : Int) (ft : Addr) (ms : Int) : Prop :=
  (∃ t, getL "uid" es = some (some (.int uid t))) ∧ (∃ t, getL "modseq" es = some (some (.int ms t))) ∧ getL "flags" es = some (some (.ref ft)) ∧ (∃ x t, getL "octets" es = some (some (.bytes x t))) ∧ ∃ i t, getL "instant" es = some (some (.int i t))
theorem LetD.at {es : List DictEntry} {h : Heap} {a dx ft : Addr} {n : Nat} {vs : List Value} {d : Let} (x : LetD es d.uid ft d.ms) (h1 : h.get? a = some (instObj 113 dx)) (h2 : h.get? dx = some (dictOf es n)) (ht : IsTup h ft vs.toArray) (hv : StrsAre vs d.fl) : LetAt h a d := by
  obtain ⟨⟨t1, x1⟩, ⟨t2, x2⟩, x3, ⟨x, t6, x6⟩, ⟨i, t7, x7⟩⟩ := x
  exact ⟨⟨t1, _, _, _, h1, h2, x1⟩, ⟨t2, _, _, _, h1, h2, x2⟩, ⟨ft, vs, ⟨_, _, _, h1, h2, x3⟩, ht, hv⟩, ⟨x, t6, _, _, _, h1, h2, x6⟩, ⟨i, t7, _, _, _, h1, h2, x7⟩⟩

noncomputable def LIG (w : World) (s : Shared) (mean : ExcName → Option Value) (mg : Str → Option Value) (mb : Str → Option Value) (H0 : Heap) (A : Around) (R : Result → Shared → Prop) (x : Addr) (dx : Addr) (ft : Addr) (uid : Int) (ms : Int) (i : Int) (t1 : Tok) (t2 : Tok) (t3 : Tok) (t4 : Tok) (oc : Array UInt8) (vs : Array Value) : Prop := ∀ (W : Wd w.params mean mg mb H0) (hs : H0.StaysIn s.heap) (hdp : A.depth < recursionLimit) (hft : IsTup s.heap ft vs) (hx : s.heap.get? x = some (instObj 113 dx)) (hdx : s.heap.get? dx = some (dictOf [] 0)) (hxd : @Ne Nat x dx) (hx0 : H0.get? x = none) (hd0 : H0.get? dx = none) (hftx : @Ne Nat ft x) (hftd : @Ne Nat ft dx) (ret : ∀ h' tk' es n, (hideAll s.heap [x, dx]).StaysIn h' → h'.get? x = some (instObj 113 dx) → h'.get? dx = some (dictOf es n) → LetD es uid ft ms → R (.ok (.ret .none)) { s with heap := h', toks := tk' }),
    codeAny (model PySem.Challenge.rw_no0367_01.row.prog w) A (.call (.ref 96) ⟨[.ref x, .int uid t1, .bytes oc t2, .ref ft, .int i t3, .int ms t4], []⟩) R s
noncomputable abbrev LIK : Type _ := (World) × (Shared) × (ExcName → Option Value) × (Str → Option Value) × (Str → Option Value) × (Heap) × (Around) × (Result → Shared → Prop) × (Addr) × (Addr) × (Addr) × (Int) × (Int) × (Int) × (Tok) × (Tok) × (Tok) × (Tok) × (Array UInt8) × (Array Value)
noncomputable def LIP (k : LIK) : Prop := LIG (k.1) (k.2.1) (k.2.2.1) (k.2.2.2.1) (k.2.2.2.2.1) (k.2.2.2.2.2.1) (k.2.2.2.2.2.2.1) (k.2.2.2.2.2.2.2.1) (k.2.2.2.2.2.2.2.2.1) (k.2.2.2.2.2.2.2.2.2.1) (k.2.2.2.2.2.2.2.2.2.2.1) (k.2.2.2.2.2.2.2.2.2.2.2.1) (k.2.2.2.2.2.2.2.2.2.2.2.2.1) (k.2.2.2.2.2.2.2.2.2.2.2.2.2.1) (k.2.2.2.2.2.2.2.2.2.2.2.2.2.2.1) (k.2.2.2.2.2.2.2.2.2.2.2.2.2.2.2.1) (k.2.2.2.2.2.2.2.2.2.2.2.2.2.2.2.2.1) (k.2.2.2.2.2.2.2.2.2.2.2.2.2.2.2.2.2.1) (k.2.2.2.2.2.2.2.2.2.2.2.2.2.2.2.2.2.2.1) (k.2.2.2.2.2.2.2.2.2.2.2.2.2.2.2.2.2.2.2)
theorem LIne : Nonempty LIK := ⟨((wd0 : World), ({} : Shared), (fun _ => none : ExcName → Option Value), (fun _ => none : Str → Option Value), (fun _ => none : Str → Option Value), ({} : Heap), ({} : Around), (fun _ _ => True : Result → Shared → Prop), (0 : Addr), (0 : Addr), (0 : Addr), (0 : Int), (0 : Int), (0 : Int), (0 : Tok), (0 : Tok), (0 : Tok), (0 : Tok), (#[] : Array UInt8), (#[] : Array Value))⟩
@[irreducible] noncomputable def LIk : LIK := @Classical.epsilon _ LIne fun k => ¬ LIP k
theorem LIc.pf : LIP LIk := by
  refine (?m : ∀ (w : World) (s : Shared) (mean : ExcName → Option Value) (mg : Str → Option Value) (mb : Str → Option Value) (H0 : Heap) (A : Around) (R : Result → Shared → Prop) (x : Addr) (dx : Addr) (ft : Addr) (uid : Int) (ms : Int) (i : Int) (t1 : Tok) (t2 : Tok) (t3 : Tok) (t4 : Tok) (oc : Array UInt8) (vs : Array Value), ∀ (W : Wd w.params mean mg mb H0) (hs : H0.StaysIn s.heap) (hdp : A.depth < recursionLimit) (hft : IsTup s.heap ft vs) (hx : s.heap.get? x = some (instObj 113 dx)) (hdx : s.heap.get? dx = some (dictOf [] 0)) (hxd : @Ne Nat x dx) (hx0 : H0.get? x = none) (hd0 : H0.get? dx = none) (hftx : @Ne Nat ft x) (hftd : @Ne Nat ft dx) (ret : ∀ h' tk' es n, (hideAll s.heap [x, dx]).StaysIn h' → h'.get? x = some (instObj 113 dx) → h'.get? dx = some (dictOf es n) → LetD es uid ft ms → R (.ok (.ret .none)) { s with heap := h', toks := tk' }),
    codeAny (model PySem.Challenge.rw_no0367_01.row.prog w) A (.call (.ref 96) ⟨[.ref x, .int uid t1, .bytes oc t2, .ref ft, .int i t3, .int ms t4], []⟩) R s) (LIk.1) (LIk.2.1) (LIk.2.2.1) (LIk.2.2.2.1) (LIk.2.2.2.2.1) (LIk.2.2.2.2.2.1) (LIk.2.2.2.2.2.2.1) (LIk.2.2.2.2.2.2.2.1) (LIk.2.2.2.2.2.2.2.2.1) (LIk.2.2.2.2.2.2.2.2.2.1) (LIk.2.2.2.2.2.2.2.2.2.2.1) (LIk.2.2.2.2.2.2.2.2.2.2.2.1) (LIk.2.2.2.2.2.2.2.2.2.2.2.2.1) (LIk.2.2.2.2.2.2.2.2.2.2.2.2.2.1) (LIk.2.2.2.2.2.2.2.2.2.2.2.2.2.2.1) (LIk.2.2.2.2.2.2.2.2.2.2.2.2.2.2.2.1) (LIk.2.2.2.2.2.2.2.2.2.2.2.2.2.2.2.2.1) (LIk.2.2.2.2.2.2.2.2.2.2.2.2.2.2.2.2.2.1) (LIk.2.2.2.2.2.2.2.2.2.2.2.2.2.2.2.2.2.2.1) (LIk.2.2.2.2.2.2.2.2.2.2.2.2.2.2.2.2.2.2.2)
  intro w s mean mg mb H0 A R x dx ft uid ms i t1 t2 t3 t4 oc vs
  intro W hs hdp hft hx hdx hxd hx0 hd0 hftx hftd ret
  refine' enterI (H0 := H0) (mean := mean) (mg := mg) (mb := mb) (binds := [("self", .ref x), ("uid", .int uid t1), ("octets", .bytes oc t2), ("flags", .ref ft), ("instant", .int i t3), ("modseq", .int ms t4)]) W hs [(x, instObj 113 dx), (dx, dictOf [] 0)] ?hn hdp ?ho ?hcd ?hbind ?hloc ?_ ?hcell ?hco ?hgen ?hk
  case hn => exact all_cons ⟨hx, hx0⟩ (all_cons ⟨hdx, hd0⟩ (List.forall_mem_nil _))
  (case ho => k_is); (case hcd => k_is); (case hbind => exact BindsTo.of_eq rfl); (case hloc => exact locs rfl); (case hcell => decide); (case hco => exact rfl); (case hgen => exact rfl); (case hk => exact rfl)
  intro g L' h₁ hg hst F N X T
  revert hg hst F N X T
  revert g L' h₁
  refine @eps3 _ _ _ ⟨(({} : Heap), (0 : Addr), ({} : Heap))⟩ ?P12 ((?close12 : ∀ a0 a1 a2, ?P12 a0 a1 a2) _ _ _ )
  intro g L' h₁ hg hst F N X T
  have hft' : IsTup g ft vs := hg ▸ hid2_tup hft hftx hftd
  try k_fold
  k_extra "MINE steps"
  rename Fr _ _ _ _ => FF
  rename News _ _ _ _ => NN
  try dsimp only
  exact ret _ _ _ _ (hg ▸ FF.keep) (NN _ (.head _)).1 (NN _ (.tail _ (.head _))).1 ⟨⟨_, rfl⟩, ⟨_, rfl⟩, rfl, ⟨_, _, rfl⟩, _, _, rfl⟩
theorem letter_init {w : World} {s : Shared} {mean : ExcName → Option Value} {mg : Str → Option Value} {mb : Str → Option Value} {H0 : Heap} {A : Around} {R : Result → Shared → Prop} {x : Addr} {dx : Addr} {ft : Addr} {uid : Int} {ms : Int} {i : Int} {t1 : Tok} {t2 : Tok} {t3 : Tok} {t4 : Tok} {oc : Array UInt8} {vs : Array Value} : ∀ (W : Wd w.params mean mg mb H0) (hs : H0.StaysIn s.heap) (hdp : A.depth < recursionLimit) (hft : IsTup s.heap ft vs) (hx : s.heap.get? x = some (instObj 113 dx)) (hdx : s.heap.get? dx = some (dictOf [] 0)) (hxd : @Ne Nat x dx) (hx0 : H0.get? x = none) (hd0 : H0.get? dx = none) (hftx : @Ne Nat ft x) (hftd : @Ne Nat ft dx) (ret : ∀ h' tk' es n, (hideAll s.heap [x, dx]).StaysIn h' → h'.get? x = some (instObj 113 dx) → h'.get? dx = some (dictOf es n) → LetD es uid ft ms → R (.ok (.ret .none)) { s with heap := h', toks := tk' }),
    codeAny (model PySem.Challenge.rw_no0367_01.row.prog w) A (.call (.ref 96) ⟨[.ref x, .int uid t1, .bytes oc t2, .ref ft, .int i t3, .int ms t4], []⟩) R s :=
  eps_all (P := LIP) LIne (by with_unfolding_all exact LIc.pf) (w, s, mean, mg, mb, H0, A, R, x, dx, ft, uid, ms, i, t1, t2, t3, t4, oc, vs)
/-- the attributes of a box, in its dict -/
noncomputable def BoxD (es : List DictEntry) (ll : Addr) (nx top : Int) : Prop :=
  getL "letters" es = some (some (.ref ll)) ∧ (∃ t, getL "next_uid" es = some (some (.int nx t))) ∧ (∃ t, getL "top" es = some (some (.int top t))) ∧ es.length ≤ 7
noncomputable def BIG (w : World) (s : Shared) (mean : ExcName → Option Value) (mg : Str → Option Value) (mb : Str → Option Value) (H0 : Heap) (A : Around) (R : Result → Shared → Prop) (x : Addr) (dx : Addr) (nm : Str) (v : Int) (t1 : Tok) (t2 : Tok) : Prop := ∀ (W : Wd w.params mean mg mb H0) (hs : H0.StaysIn s.heap) (hdp : A.depth < recursionLimit) (hx : s.heap.get? x = some (instObj 151 dx)) (hdx : s.heap.get? dx = some (dictOf [] 0)) (hxd : @Ne Nat x dx) (hx0 : H0.get? x = none) (hd0 : H0.get? dx = none) (ret : ∀ h' tk' es n ll n', (hideAll s.heap [x, dx]).StaysIn h' → h'.get? x = some (instObj 151 dx) → h'.get? dx = some (dictOf es n) → BoxD es ll 1 1 → h'.get? ll = some (listOf #[] n') → s.heap.get? ll = none → R (.ok (.ret .none)) { s with heap := h', toks := tk' }),
    codeAny (model PySem.Challenge.rw_no0367_01.row.prog w) A (.call (.ref 131) ⟨[.ref x, .str nm t1, .int v t2], []⟩) R s
noncomputable abbrev BIK : Type _ := (World) × (Shared) × (ExcName → Option Value) × (Str → Option Value) × (Str → Option Value) × (Heap) × (Around) × (Result → Shared → Prop) × (Addr) × (Addr) × (Str) × (Int) × (Tok) × (Tok)
noncomputable def BIP (k : BIK) : Prop := BIG (k.1) (k.2.1) (k.2.2.1) (k.2.2.2.1) (k.2.2.2.2.1) (k.2.2.2.2.2.1) (k.2.2.2.2.2.2.1) (k.2.2.2.2.2.2.2.1) (k.2.2.2.2.2.2.2.2.1) (k.2.2.2.2.2.2.2.2.2.1) (k.2.2.2.2.2.2.2.2.2.2.1) (k.2.2.2.2.2.2.2.2.2.2.2.1) (k.2.2.2.2.2.2.2.2.2.2.2.2.1) (k.2.2.2.2.2.2.2.2.2.2.2.2.2)
theorem BIne : Nonempty BIK := ⟨((wd0 : World), ({} : Shared), (fun _ => none : ExcName → Option Value), (fun _ => none : Str → Option Value), (fun _ => none : Str → Option Value), ({} : Heap), ({} : Around), (fun _ _ => True : Result → Shared → Prop), (0 : Addr), (0 : Addr), (⟨#[]⟩ : Str), (0 : Int), (0 : Tok), (0 : Tok))⟩
@[irreducible] noncomputable def BIk : BIK := @Classical.epsilon _ BIne fun k => ¬ BIP k
theorem BIc.pf : BIP BIk := by
  refine (?m : ∀ (w : World) (s : Shared) (mean : ExcName → Option Value) (mg : Str → Option Value) (mb : Str → Option Value) (H0 : Heap) (A : Around) (R : Result → Shared → Prop) (x : Addr) (dx : Addr) (nm : Str) (v : Int) (t1 : Tok) (t2 : Tok), ∀ (W : Wd w.params mean mg mb H0) (hs : H0.StaysIn s.heap) (hdp : A.depth < recursionLimit) (hx : s.heap.get? x = some (instObj 151 dx)) (hdx : s.heap.get? dx = some (dictOf [] 0)) (hxd : @Ne Nat x dx) (hx0 : H0.get? x = none) (hd0 : H0.get? dx = none) (ret : ∀ h' tk' es n ll n', (hideAll s.heap [x, dx]).StaysIn h' → h'.get? x = some (instObj 151 dx) → h'.get? dx = some (dictOf es n) → BoxD es ll 1 1 → h'.get? ll = some (listOf #[] n') → s.heap.get? ll = none → R (.ok (.ret .none)) { s with heap := h', toks := tk' }),
    codeAny (model PySem.Challenge.rw_no0367_01.row.prog w) A (.call (.ref 131) ⟨[.ref x, .str nm t1, .int v t2], []⟩) R s) (BIk.1) (BIk.2.1) (BIk.2.2.1) (BIk.2.2.2.1) (BIk.2.2.2.2.1) (BIk.2.2.2.2.2.1) (BIk.2.2.2.2.2.2.1) (BIk.2.2.2.2.2.2.2.1) (BIk.2.2.2.2.2.2.2.2.1) (BIk.2.2.2.2.2.2.2.2.2.1) (BIk.2.2.2.2.2.2.2.2.2.2.1) (BIk.2.2.2.2.2.2.2.2.2.2.2.1) (BIk.2.2.2.2.2.2.2.2.2.2.2.2.1) (BIk.2.2.2.2.2.2.2.2.2.2.2.2.2)
  intro w s mean mg mb H0 A R x dx nm v t1 t2
  intro W hs hdp hx hdx hxd hx0 hd0 ret
  refine' enterI (H0 := H0) (mean := mean) (mg := mg) (mb := mb) (binds := [("self", .ref x), ("name", .str nm t1), ("validity", .int v t2)]) W hs [(x, instObj 151 dx), (dx, dictOf [] 0)] ?hn hdp ?ho ?hcd ?hbind ?hloc ?_ ?hcell ?hco ?hgen ?hk
  case hn => exact all_cons ⟨hx, hx0⟩ (all_cons ⟨hdx, hd0⟩ (List.forall_mem_nil _))
  (case ho => k_is); (case hcd => k_is); (case hbind => exact BindsTo.of_eq rfl); (case hloc => exact locs rfl); (case hcell => decide); (case hco => exact rfl); (case hgen => exact rfl); (case hk => exact rfl)
  intro g L' h₁ hg hst F N X T
  revert hg hst F N X T
  revert g L' h₁
  refine @eps3 _ _ _ ⟨(({} : Heap), (0 : Addr), ({} : Heap))⟩ ?P13 ((?close13 : ∀ a0 a1 a2, ?P13 a0 a1 a2) _ _ _ )
  intro g L' h₁ hg hst F N X T
  have hl1 : @LT.lt Nat _ x s.heap.objs.size := Heap.lt_size hx
  have hl2 : @LT.lt Nat _ dx s.heap.objs.size := Heap.lt_size hdx
  have hgs : g.objs.size = s.heap.objs.size := by rw [hg, hideAll_size]
  try k_fold
  k_extra "MINE steps"
  rename Fr _ _ _ _ => FF
  rename News _ _ _ _ => NN
  try dsimp only
  refine ret _ _ _ _ _ _ (hg ▸ FF.keep) (NN _ (.tail _ (.tail _ (.head _)))).1 (NN _ (.tail _ (.tail _ (.tail _ (.head _))))).1 ⟨rfl, ⟨_, rfl⟩, ⟨_, rfl⟩, Nat.le_refl _⟩ (NN _ (.tail _ (.head _))).1 (seen_none (hg ▸ (NN _ (.tail _ (.head _))).2.2) ?_)
  have e1 := (NN _ (.tail _ (.head _))).1
  exact not2 (ne_of_cls (.type "list") (.ref 151) e1 (NN _ (.tail _ (.tail _ (.head _)))).1 rfl rfl (by decide)) (ne_of_cls (.type "list") (.type "dict") e1 (NN _ (.tail _ (.tail _ (.tail _ (.head _))))).1 rfl rfl (by decide))
theorem box_init {w : World} {s : Shared} {mean : ExcName → Option Value} {mg : Str → Option Value} {mb : Str → Option Value} {H0 : Heap} {A : Around} {R : Result → Shared → Prop} {x : Addr} {dx : Addr} {nm : Str} {v : Int} {t1 : Tok} {t2 : Tok} : ∀ (W : Wd w.params mean mg mb H0) (hs : H0.StaysIn s.heap) (hdp : A.depth < recursionLimit) (hx : s.heap.get? x = some (instObj 151 dx)) (hdx : s.heap.get? dx = some (dictOf [] 0)) (hxd : @Ne Nat x dx) (hx0 : H0.get? x = none) (hd0 : H0.get? dx = none) (ret : ∀ h' tk' es n ll n', (hideAll s.heap [x, dx]).StaysIn h' → h'.get? x = some (instObj 151 dx) → h'.get? dx = some (dictOf es n) → BoxD es ll 1 1 → h'.get? ll = some (listOf #[] n') → s.heap.get? ll = none → R (.ok (.ret .none)) { s with heap := h', toks := tk' }),
    codeAny (model PySem.Challenge.rw_no0367_01.row.prog w) A (.call (.ref 131) ⟨[.ref x, .str nm t1, .int v t2], []⟩) R s :=
  eps_all (P := BIP) BIne (by with_unfolding_all exact BIc.pf) (w, s, mean, mg, mb, H0, A, R, x, dx, nm, v, t1, t2)


section
section
variable {name nm : Str} {hsh : Int} {t : Tok} {v u : Value} {es : List DictEntry}
theorem getL_iff : getL name es = some (some v) ↔ ∃ e, es.find? (fun x => x.key.isStr name) = some e ∧ e.val = v := by
  unfold getL
  cases z : es.find? (fun x => x.key.isStr name) with
  | some e => exact ⟨fun h => ⟨e, rfl, Option.some.inj (Option.some.inj h)⟩, fun ⟨e', h1, h2⟩ => by rw [Option.some.inj h1, ← h2]⟩
  | none =>
    refine ⟨fun h => ?_, fun ⟨e', h1, h2⟩ => nomatch h1⟩
    dsimp only at h
    by_cases q : es.any (·.refKey) = true
    · rw [if_pos q] at h; cases h
    · rw [if_neg q] at h; cases h
theorem fnd_pos {e : DictEntry} {r : List DictEntry} (h : e.key.isStr name = true) : (e :: r).find? (fun x => x.key.isStr name) = some e := List.find?_cons_of_pos h
theorem fnd_neg {e : DictEntry} {r : List DictEntry} (h : ¬ e.key.isStr name = true) : (e :: r).find? (fun x => x.key.isStr name) = r.find? (fun x => x.key.isStr name) := List.find?_cons_of_neg h
theorem putL_pos {e : DictEntry} {r : List DictEntry} {key : Value} (h : e.key.isStr name = true) : putL name hsh key v (e :: r) = ⟨e.hash, e.key, v⟩ :: r := by rw [putL, if_pos h]
theorem putL_neg {e : DictEntry} {r : List DictEntry} {key : Value} (h : ¬ e.key.isStr name = true) : putL name hsh key v (e :: r) = e :: putL name hsh key v r := by rw [putL, if_neg h]
end
theorem getL_same (name : Str) (hsh : Int) (t : Tok) (v : Value) (es : List DictEntry) : getL name (putL name hsh (.str name t) v es) = some (some v) := by
  rw [getL_iff]
  induction es with
  | nil => exact ⟨_, fnd_pos (beq_self_eq_true name), rfl⟩
  | cons e r ih =>
    by_cases h : e.key.isStr name = true
    · rw [putL_pos h]; exact ⟨_, fnd_pos (show (DictEntry.mk e.hash e.key v).key.isStr name = true from h), rfl⟩
    · rw [putL_neg h, fnd_neg h]; exact ih
theorem getL_other (name nm : Str) (hsh : Int) (t : Tok) (v u : Value) (hne : ∀ t, (Value.str name t).isStr nm = false) (hne' : ∀ k : Value, k.isStr name = true → k.isStr nm = false) (es : List DictEntry) :
    getL nm es = some (some u) → getL nm (putL name hsh (.str name t) v es) = some (some u) := by
  rw [getL_iff, getL_iff]
  induction es with
  | nil => exact fun ⟨_, h, _⟩ => nomatch h
  | cons e r ih =>
    by_cases q : e.key.isStr name = true
    · have q' : ¬ e.key.isStr nm = true := by rw [hne' _ q]; exact Bool.false_ne_true
      rw [putL_pos q, fnd_neg q', fnd_neg (e := ⟨e.hash, e.key, v⟩) q']; exact id
    · rw [putL_neg q]
      by_cases q2 : e.key.isStr nm = true
      · rw [fnd_pos q2, fnd_pos q2]; exact id
      · rw [fnd_neg q2, fnd_neg q2]; exact ih
theorem putL_len (name : Str) (hsh : Int) (key v : Value) (es : List DictEntry) {u : Value} (h : getL name es = some (some u)) : (putL name hsh key v es).length = es.length := by
  rw [getL_iff] at h
  induction es with
  | nil => let ⟨_, h, _⟩ := h; exact nomatch h
  | cons e r ih =>
    by_cases q : e.key.isStr name = true
    · rw [putL_pos q]; rfl
    · rw [fnd_neg q] at h
      rw [putL_neg q, List.length_cons, ih h, List.length_cons]
theorem isStr_ne {name nm : Str} (hne : name ≠ nm) : ∀ k : Value, k.isStr name = true → k.isStr nm = false := by
  intro k h
  cases k <;> simp_all [Value.isStr]
theorem BoxD.put_top {es : List DictEntry} {ll : Addr} {nx top : Int} (B : BoxD es ll nx top) (v : Int) (hsh : Int) (t t2 : Tok) : BoxD (putL "top" hsh (.str "top" t) (.int v t2) es) ll nx v := by
  obtain ⟨b1, ⟨t1, b2⟩, ⟨t3, b3⟩, b4⟩ := B
  exact ⟨getL_other _ _ _ _ _ _ (fun _ => rfl) (isStr_ne (by decide)) _ b1, ⟨t1, getL_other _ _ _ _ _ _ (fun _ => rfl) (isStr_ne (by decide)) _ b2⟩, ⟨t2, getL_same _ _ _ _ _⟩, by rw [putL_len _ _ _ _ _ b3]; exact b4⟩
theorem BoxD.put_next {es : List DictEntry} {ll : Addr} {nx top : Int} (B : BoxD es ll nx top) (v : Int) (hsh : Int) (t t2 : Tok) : BoxD (putL "next_uid" hsh (.str "next_uid" t) (.int v t2) es) ll v top := by
  obtain ⟨b1, ⟨t1, b2⟩, ⟨t3, b3⟩, b4⟩ := B
  exact ⟨getL_other _ _ _ _ _ _ (fun _ => rfl) (isStr_ne (by decide)) _ b1, ⟨t2, getL_same _ _ _ _ _⟩, ⟨t3, getL_other _ _ _ _ _ _ (fun _ => rfl) (isStr_ne (by decide)) _ b3⟩, by rw [putL_len _ _ _ _ _ b2]; exact b4⟩
end
section
variable {w : World} {A : Around} {E : Value → Shared → Prop} {s : Shared} {bx bd L ll : Addr} {h₀ : Heap} {m : Str → Option Value} {news : List (Addr × Obj)} {gg : Obj → List (Addr × Obj)} {es : List DictEntry} {n : Nat} {nx top : Int}
theorem set_top {Q : Unit → Shared → Prop} (F : Fr h₀ L s.heap m) (X₀ : (hd.heap_39 w.params).In h₀) (N : News h₀ L s.heap news) (hx : s.heap.get? bx = some (instObj 151 bd)) (U : UpdF bd (dictOf es n) news gg) (B : BoxD es ll nx top) (v : Int) (t : Tok)
    (h : ∀ h' es' n', Fr h₀ L h' m → News h₀ L h' (gg (dictOf es' n')) → BoxD es' ll nx v → Q () { s with heap := h', toks := s.toks + 2 }) :
    wpAny (model PySem.Challenge.rw_no0367_01.row.prog w) A (setAttr (.ref bx) "top" (.int v t)) Q E s := by
  obtain ⟨pre, post, rfl, hg, ha, hb⟩ := U.split
  have hb' := B
  obtain ⟨b1, ⟨t1, b2⟩, ⟨t3, b3⟩, b4⟩ := B
  refine set_dict F X₀ N ⟨hx, rfl, rfl, (N (bd, dictOf es n) (List.mem_append.mpr (.inr (.head _)))).1⟩ rfl (by k_is) (by k_is) (by k_is) (by k_is) (by rw [b3]; rfl) rfl (news' := gg (dictOf (putL "top" (PyData.keyHash w.params "top") (.str "top" (s.toks + 1)) (.int v t) es) (putN "top" es n))) ?_ (by rw [putL_len _ _ _ _ _ b3]; omega) ?_
  · rw [hg]
    clear N hg U
    induction pre with
    | nil => exact .head hb
    | cons p r ih => exact .tail (ha p (.head _)) (ih fun q hq => ha q (.tail _ hq))
  · intro h' F' N'
    exact h h' _ _ F' N' (hb'.put_top v _ _ t)
theorem set_next {Q : Unit → Shared → Prop} (F : Fr h₀ L s.heap m) (X₀ : (hd.heap_39 w.params).In h₀) (N : News h₀ L s.heap news) (hx : s.heap.get? bx = some (instObj 151 bd)) (U : UpdF bd (dictOf es n) news gg) (B : BoxD es ll nx top) (v : Int) (t : Tok)
    (h : ∀ h' es' n', Fr h₀ L h' m → News h₀ L h' (gg (dictOf es' n')) → BoxD es' ll v top → Q () { s with heap := h', toks := s.toks + 2 }) :
    wpAny (model PySem.Challenge.rw_no0367_01.row.prog w) A (setAttr (.ref bx) "next_uid" (.int v t)) Q E s := by
  obtain ⟨pre, post, rfl, hg, ha, hb⟩ := U.split
  have hb' := B
  obtain ⟨b1, ⟨t1, b2⟩, ⟨t3, b3⟩, b4⟩ := B
  refine set_dict F X₀ N ⟨hx, rfl, rfl, (N (bd, dictOf es n) (List.mem_append.mpr (.inr (.head _)))).1⟩ rfl (by k_is) (by k_is) (by k_is) (by k_is) (by rw [b2]; rfl) rfl (news' := gg (dictOf (putL "next_uid" (PyData.keyHash w.params "next_uid") (.str "next_uid" (s.toks + 1)) (.int v t) es) (putN "next_uid" es n))) ?_ (by rw [putL_len _ _ _ _ _ b2]; omega) ?_
  · rw [hg]
    clear N hg U
    induction pre with
    | nil => exact .head hb
    | cons p r ih => exact .tail (ha p (.head _)) (ih fun q hq => ha q (.tail _ hq))
  · intro h' F' N'
    exact h h' _ _ F' N' (hb'.put_next v _ _ t)
theorem get_top {expr : Bool} {Q : Value → Shared → Prop} (F : Fr h₀ L s.heap m) (X₀ : (hd.heap_39 w.params).In h₀) (hx : s.heap.get? bx = some (instObj 151 bd)) (hd : s.heap.get? bd = some (dictOf es n)) (B : BoxD es ll nx top)
    (h : ∀ t, Q (.int top t) { s with toks := s.toks + 1 }) : wpAny (model PySem.Challenge.rw_no0367_01.row.prog w) A (getAttr (.ref bx) "top" expr) Q E s := by
  obtain ⟨b1, ⟨t1, b2⟩, ⟨t3, b3⟩, b4⟩ := B
  exact get_own F X₀ ⟨hx, rfl, rfl, hd⟩ (by k_is) (by k_is) (by k_is) (by k_is) b3 rfl (h t3)
theorem get_next {expr : Bool} {Q : Value → Shared → Prop} (F : Fr h₀ L s.heap m) (X₀ : (hd.heap_39 w.params).In h₀) (hx : s.heap.get? bx = some (instObj 151 bd)) (hd : s.heap.get? bd = some (dictOf es n)) (B : BoxD es ll nx top)
    (h : ∀ t, Q (.int nx t) { s with toks := s.toks + 1 }) : wpAny (model PySem.Challenge.rw_no0367_01.row.prog w) A (getAttr (.ref bx) "next_uid" expr) Q E s := by
  obtain ⟨b1, ⟨t1, b2⟩, ⟨t3, b3⟩, b4⟩ := B
  exact get_own F X₀ ⟨hx, rfl, rfl, hd⟩ (by k_is) (by k_is) (by k_is) (by k_is) b2 rfl (h t1)
theorem get_letters {expr : Bool} {Q : Value → Shared → Prop} (F : Fr h₀ L s.heap m) (X₀ : (hd.heap_39 w.params).In h₀) (hx : s.heap.get? bx = some (instObj 151 bd)) (hd : s.heap.get? bd = some (dictOf es n)) (B : BoxD es ll nx top)
    (h : Q (.ref ll) { s with toks := s.toks + 1 }) : wpAny (model PySem.Challenge.rw_no0367_01.row.prog w) A (getAttr (.ref bx) "letters" expr) Q E s := by
  obtain ⟨b1, ⟨t1, b2⟩, ⟨t3, b3⟩, b4⟩ := B
  exact get_own F X₀ ⟨hx, rfl, rfl, hd⟩ (by k_is) (by k_is) (by k_is) (by k_is) b1 rfl h
end

example : True := by
  k_with "MINE inst" => (first | with_reducible assumption | exact Fr.keep (by with_reducible assumption) _ _ (by with_reducible assumption) | exact News.get (by assumption) (by first | k_extra "MINE mem" | k_mem))
  trivial
example : True := by
  k_with "MINE boxd" => (first | with_reducible assumption | exact News.get (by assumption) (by first | k_extra "MINE mem" | k_mem))
  trivial
example : True := by
  k_with "getAttr ref" => ((k_here; k_dflt (first | ((with_reducible show wpAny _ _ (getAttr _ (Str.ofString "top") _) _ _ _); refine' get_top (by first | (k_asm) | fail) (by first | (k_asm) | fail) (by first | (k_extra "MINE inst") | fail) (by first | (k_extra "MINE boxd") | fail) (by first | (assumption) | fail) ?_; k_whole; intro t9); (try (revert t9; intros)) | ((with_reducible show wpAny _ _ (getAttr _ (Str.ofString "next_uid") _) _ _ _); refine' get_next (by first | (k_asm) | fail) (by first | (k_asm) | fail) (by first | (k_extra "MINE inst") | fail) (by first | (k_extra "MINE boxd") | fail) (by first | (assumption) | fail) ?_; k_whole; intro t9); (try (revert t9; intros)) | ((with_reducible show wpAny _ _ (getAttr _ (Str.ofString "letters") _) _ _ _); refine' get_letters (by first | (k_asm) | fail) (by first | (k_asm) | fail) (by first | (k_extra "MINE inst") | fail) (by first | (k_extra "MINE boxd") | fail) (by first | (assumption) | fail) ?_; k_whole))))
  trivial
example : True := by
  k_with "setAttr ref" => ((k_here; k_dflt (first | ((with_reducible show wpAny _ _ (setAttr _ (Str.ofString "top") _) _ _ _); refine' set_top (by first | (k_asm) | fail) (by first | (k_asm) | fail) (by first | (k_asm) | fail) (by first | (k_extra "MINE inst") | fail) (by first | (k_updF) | fail) (by first | (assumption) | fail) _ _ ?_; k_whole; intro h9 es9 n9 F9 N9 B9; (try dsimp only at N9); (try k_sweep); (try dsimp only); (try (revert h9 es9 n9 F9 N9 B9; intros)); (try k_fold)) | ((with_reducible show wpAny _ _ (setAttr _ (Str.ofString "next_uid") _) _ _ _); refine' set_next (by first | (k_asm) | fail) (by first | (k_asm) | fail) (by first | (k_asm) | fail) (by first | (k_extra "MINE inst") | fail) (by first | (k_updF) | fail) (by first | (assumption) | fail) _ _ ?_; k_whole; intro h9 es9 n9 F9 N9 B9; (try dsimp only at N9); (try k_sweep); (try dsimp only); (try (revert h9 es9 n9 F9 N9 B9; intros)); (try k_fold)))))
  trivial

section
variable {w : World} {dp un : Nat} {fr : Option (List Env)} {gd : Option (List Code)} {E : Value → Shared → Prop} {s : Shared} {H0 : Heap} {mean : ExcName → Option Value} {mg mb : Str → Option Value} {Q : Value → Shared → Prop}
theorem raised_spec (W : Wd w.params mean mg mb H0) (hs : H0.StaysIn s.heap) (hdp : dp + 1 < recursionLimit) {bx bd ll : Addr} {es : List DictEntry} {n : Nat} {nx top : Int} (hx : s.heap.get? bx = some (instObj 151 bd)) (hd : s.heap.get? bd = some (dictOf es n)) (hne : @Ne Nat bx bd) (B : BoxD es ll nx top) (hd0 : H0.get? bd = none)
    (ret : ∀ h' tk' t es' n', (hideAll s.heap [bd]).StaysIn h' → h'.get? bd = some (dictOf es' n') → BoxD es' ll nx (top + 1) → Q (.int (top + 1) t) { s with heap := h', toks := tk' }) :
    wpAny (model PySem.Challenge.rw_no0367_01.row.prog w) (Ar dp un fr gd) (call (.ref 169) [.ref bx]) Q E s := by
  refine' enter (H0 := H0) (mean := mean) (mg := mg) (mb := mb) (binds := [("box", .ref bx)]) W hs [(bd, dictOf es n)] (all_cons ⟨hd, hd0⟩ (List.forall_mem_nil _)) (by show dp < recursionLimit; first | exact room0 (by assumption) | omega) ?ho ?hcd ?hbind ?hloc ?_ ?hcell ?hco ?hgen ?hk
  (case ho => k_is); (case hcd => k_is); (case hbind => exact BindsTo.of_eq rfl); (case hloc => exact locs rfl); (case hcell => decide); (case hco => exact rfl); (case hgen => exact rfl); (case hk => exact rfl)
  intro g L' h₁ hg hst F N X T
  dsimp only [List.reverse, List.reverseAux] at F
  have hx' : g.get? bx = some (instObj 151 bd) := by rw [hg]; exact hideAll_get _ hx (by simp [hne])
  try k_fold
  k_extra "MINE steps"
  rename Fr _ _ _ _ => FF
  rename News _ _ _ _ => NN
  rename BoxD _ ll nx (top + 1) => BB
  try dsimp only
  exact ret _ _ _ _ _ (hg ▸ FF.keep) (NN _ (.head _)).1 BB
end


noncomputable def AllNe (d : Nat) : List (Addr × Obj) → Prop
  | [] => True
  | p :: r => @Ne Nat p.1 d ∧ AllNe d r
theorem allNe_of {d : Addr} : ∀ {l : List (Addr × Obj)}, (∀ p ∈ l, @Ne Nat p.1 d) → AllNe d l
  | [], _ => trivial
  | p :: _, h => ⟨h p (.head _), allNe_of fun q hq => h q (.tail _ hq)⟩
theorem allNe_to {d : Addr} : ∀ (l : List (Addr × Obj)), AllNe d l → ∀ p ∈ l, p.1 ≠ d
  | [], _, _, h => nomatch h
  | q :: r, h, p, hp => (List.mem_cons.mp hp).elim (fun e => e ▸ h.1) fun e => allNe_to r h.2 p e
theorem allLt_to {d : Addr} : ∀ (l : List (Addr × Obj)), AllLt d l → ∀ p ∈ l, p.1 ≠ d
  | [], _, _, h => nomatch h
  | q :: r, h, p, hp => (List.mem_cons.mp hp).elim (fun e => e ▸ Nat.ne_of_lt h.1) fun e => allLt_to r h.2 p e
theorem News.ne {g h : Heap} {L d : Addr} {news : List (Addr × Obj)} (N : News g L h news) (e : h.get? d = none) : AllNe d news := allNe_of fun p hp q => by
  have := (N p hp).1
  rw [show p.1 = d from q, e] at this; cases this
theorem News.below {g h : Heap} {L d : Addr} {news : List (Addr × Obj)} (N : News g L h news) (e : ∀ b o, h.get? b = some o → b < d) : AllLt d news := allLt_of fun p hp => e _ _ (N p hp).1
/-- one object of the ledger was changed, all else stayed -/
theorem mut1K {P : Prop} {g h h' : Heap} {L bd : Addr} {o o' : Obj} {m : Str → Option Value} {news : List (Addr × Obj)} {gg : Obj → List (Addr × Obj)} (F : Fr g L h m) (N : News g L h news) (U : UpdF bd o news gg)
    (k : (hideAll h [bd]).StaysIn h') (e : h'.get? bd = some o') (c : Fr g L h' m → News g L h' (gg o') → P) : P := by
  obtain ⟨pre, post, rfl, hg, ha, hb⟩ := U.split
  have hbd := N (bd, o) (List.mem_append.mpr (.inr (.head _)))
  have k' : ∀ b ob, b ≠ bd → h.get? b = some ob → h'.get? b = some ob := fun b ob hne q => k b ob (hideAll_get _ q (by simp [hne]))
  refine c ⟨?_, fun b ob q => k' b ob ?_ (F.keep b ob q), F.above⟩ ?_
  · exact F.ns.at' fun o' q => k' _ _ (fun z => hbd.2.1 z.symm) q
  · rintro rfl
    rw [hbd.2.2] at q; cases q
  · rw [hg]
    intro p hp
    rcases List.mem_append.mp hp with hp | hp
    · have := N p (List.mem_append.mpr (.inl hp))
      exact ⟨k' _ _ (ha p hp) this.1, this.2⟩
    · rcases List.mem_cons.mp hp with rfl | hp
      · exact ⟨e, hbd.2⟩
      · have := N p (List.mem_append.mpr (.inr (.tail _ hp)))
        exact ⟨k' _ _ (hb p hp) this.1, this.2⟩
section
variable {prog : Program} {w : World} {A : Around} {K : Frag} {C : Addr} {s : Shared} {R : Result → Shared → Prop}
theorem make_cls {rest : List Value} {kw : List (Str × Value)} {fI : Addr} (X : K.In s.heap) (hm : makesIn K C = true)
    (hi : findIn K (.ref C) "__init__" = some (some (.ref fI))) (hf : typeIn K (.ref fI) = some (.type "function"))
    (h : codeAny (model prog w) (A.under (.builtin "type.__call__" ⟨.ref C :: rest, kw⟩)) (.call (.ref fI) ⟨.ref (s.heap.objs.size + 1) :: rest, kw⟩) (InitBack (s.heap.objs.size + 1) R) { s with heap := (s.heap.push (dictOf [] 0)).push (instObj C s.heap.objs.size) }) :
    codeAny (model prog w) A (.call (.ref C) ⟨rest, kw⟩) R s := by
  obtain ⟨hh, g, d, t, os⟩ := s
  exact make_core (makes_of X hm) (looks_findIn X hi) (fun self => bind_fn X self hf) (.inl rfl) h
end
section
variable {w : World} {dp un : Nat} {fr : Option (List Env)} {gd : Option (List Code)} {E : Value → Shared → Prop} {s : Shared} {H0 : Heap} {mean : ExcName → Option Value} {mg mb : Str → Option Value} {Q : Value → Shared → Prop}
theorem make_letter (W : Wd w.params mean mg mb H0) (hs : H0.StaysIn s.heap) (hdp : dp + 2 < recursionLimit) {ft : Addr} {uid ms i : Int} {t1 t2 t3 t4 : Tok} {oc : Array UInt8} {vs : Array Value} (hft : IsTup s.heap ft vs)
    (ret : ∀ x dx h' tk' es n, s.heap.StaysIn h' → s.heap.get? x = none → s.heap.get? dx = none → dx < x → (∀ b o, s.heap.get? b = some o → b < dx) → h'.get? x = some (instObj 113 dx) → h'.get? dx = some (dictOf es n) → LetD es uid ft ms → Q (.ref x) { s with heap := h', toks := tk' }) :
    wpAny (model PySem.Challenge.rw_no0367_01.row.prog w) (Ar dp un fr gd) (call (.ref 113) [.int uid t1, .bytes oc t2, .ref ft, .int i t3, .int ms t4]) Q E s := by
  have k1 : s.heap.StaysIn ((s.heap.push (dictOf [] 0)).push (instObj 113 s.heap.objs.size)) := fun b o e => Heap.get?_push_of_some _ (Heap.get?_push_of_some _ e)
  have ex : ((s.heap.push (dictOf [] 0)).push (instObj 113 s.heap.objs.size)).get? (s.heap.objs.size + 1) = some (instObj 113 s.heap.objs.size) := by
    have : ((s.heap.push (dictOf [] 0)).push (instObj 113 s.heap.objs.size)).get? (s.heap.push (dictOf [] 0)).objs.size = some (instObj 113 s.heap.objs.size) := Heap.get?_push_size _ rfl
    rwa [Heap.size_push] at this
  have ed : ((s.heap.push (dictOf [] 0)).push (instObj 113 s.heap.objs.size)).get? s.heap.objs.size = some (dictOf [] 0) := Heap.get?_push_of_some _ (Heap.get?_push_size _ rfl)
  have nx : s.heap.get? (s.heap.objs.size + 1) = none := Heap.get?_none_of_le (Nat.le_succ _)
  have nd : s.heap.get? s.heap.objs.size = none := Heap.get?_none_of_le (Nat.le_refl _)
  have below : ∀ b o, s.heap.get? b = some o → @LT.lt Nat _ b s.heap.objs.size := fun b o e => Heap.lt_size e
  have h0 : ∀ b, s.heap.get? b = none → H0.get? b = none := fun b e => by
    cases q : H0.get? b with
    | none => rfl
    | some o => rw [hs b o q] at e; cases e
  have hftl : ∃ o, s.heap.get? ft = some o := let ⟨o, ho, _⟩ := hft; ⟨o, ho⟩
  obtain ⟨fo, hfo⟩ := hftl
  have hlt := below _ _ hfo
  refine wpAny_call (make_cls (K := hd.heap_39 w.params) (fI := 96) ((W.keeps hs).X) (by k_is) (by k_is) (by k_is) ?_)
  refine letter_init (s := { s with heap := (s.heap.push (dictOf [] 0)).push (instObj 113 s.heap.objs.size) }) (H0 := H0) W (fun b o e => k1 b o (hs b o e)) ?_ (keepsTup hft k1) ex ed (Nat.succ_ne_self _) (h0 _ nx) (h0 _ nd) (Nat.ne_of_lt (Nat.lt_succ_of_lt hlt)) (Nat.ne_of_lt hlt) ?_
  · rw [depth_under_make]; show dp + 1 < _; first | exact room1 (by assumption) rfl | omega
  · intro h' tk' es n k e1 e2 L
    refine ⟨rfl, ret _ _ h' tk' es n (fun b o e => k b o (hideAll_get _ (k1 b o e) ?_)) nx nd (Nat.lt_succ_self _) below e1 e2 L⟩
    intro q
    rcases List.mem_cons.mp q with q | q
    · rw [q, nx] at e; cases e
    · rw [List.mem_singleton.mp q, nd] at e; cases e
theorem make_box (W : Wd w.params mean mg mb H0) (hs : H0.StaysIn s.heap) (hdp : dp + 2 < recursionLimit) {nm : Str} {v : Int} {t1 t2 : Tok}
    (ret : ∀ x dx h' tk' es n ll n', s.heap.StaysIn h' → s.heap.get? x = none → s.heap.get? dx = none → s.heap.get? ll = none → dx < x → @Ne Nat ll x → @Ne Nat ll dx → (∀ b o, s.heap.get? b = some o → b < dx) → h'.get? x = some (instObj 151 dx) → h'.get? dx = some (dictOf es n) → BoxD es ll 1 1 → h'.get? ll = some (listOf #[] n') → Q (.ref x) { s with heap := h', toks := tk' }) :
    wpAny (model PySem.Challenge.rw_no0367_01.row.prog w) (Ar dp un fr gd) (call (.ref 151) [.str nm t1, .int v t2]) Q E s := by
  have k1 : s.heap.StaysIn ((s.heap.push (dictOf [] 0)).push (instObj 151 s.heap.objs.size)) := fun b o e => Heap.get?_push_of_some _ (Heap.get?_push_of_some _ e)
  have ex : ((s.heap.push (dictOf [] 0)).push (instObj 151 s.heap.objs.size)).get? (s.heap.objs.size + 1) = some (instObj 151 s.heap.objs.size) := by
    have : ((s.heap.push (dictOf [] 0)).push (instObj 151 s.heap.objs.size)).get? (s.heap.push (dictOf [] 0)).objs.size = some (instObj 151 s.heap.objs.size) := Heap.get?_push_size _ rfl
    rwa [Heap.size_push] at this
  have ed : ((s.heap.push (dictOf [] 0)).push (instObj 151 s.heap.objs.size)).get? s.heap.objs.size = some (dictOf [] 0) := Heap.get?_push_of_some _ (Heap.get?_push_size _ rfl)
  have nx : s.heap.get? (s.heap.objs.size + 1) = none := Heap.get?_none_of_le (Nat.le_succ _)
  have nd : s.heap.get? s.heap.objs.size = none := Heap.get?_none_of_le (Nat.le_refl _)
  have below : ∀ b o, s.heap.get? b = some o → @LT.lt Nat _ b s.heap.objs.size := fun b o e => Heap.lt_size e
  have h0 : ∀ b, s.heap.get? b = none → H0.get? b = none := fun b e => by
    cases q : H0.get? b with
    | none => rfl
    | some o => rw [hs b o q] at e; cases e
  refine wpAny_call (make_cls (K := hd.heap_39 w.params) (fI := 131) ((W.keeps hs).X) (by k_is) (by k_is) (by k_is) ?_)
  refine box_init (s := { s with heap := (s.heap.push (dictOf [] 0)).push (instObj 151 s.heap.objs.size) }) (H0 := H0) W (fun b o e => k1 b o (hs b o e)) ?_ ex ed (Nat.succ_ne_self _) (h0 _ nx) (h0 _ nd) ?_
  · rw [depth_under_make]; show dp + 1 < _; first | exact room1 (by assumption) rfl | omega
  · intro h' tk' es n ll n' k e1 e2 L e3 e4
    have ha : ∀ b o, ((s.heap.push (dictOf [] 0)).push (instObj 151 s.heap.objs.size)).get? b = some o → @Ne Nat ll b := fun b o e q => by rw [← show ll = b from q, e4] at e; cases e
    have hln : s.heap.get? ll = none := by
      cases q : s.heap.get? ll with
      | none => rfl
      | some o => rw [k1 _ _ q] at e4; cases e4
    refine ⟨rfl, ret _ _ h' tk' es n ll n' (fun b o e => k b o (hideAll_get _ (k1 b o e) ?_)) nx nd hln (Nat.lt_succ_self _) (ha _ _ ex) (ha _ _ ed) below e1 e2 L e3⟩
    intro q
    rcases List.mem_cons.mp q with q | q
    · rw [q, nx] at e; cases e
    · rw [List.mem_singleton.mp q, nd] at e; cases e
end


noncomputable abbrev dS (ts : List Str) : PyData := .tuple (ts.map PyData.str)
theorem eqv_strs : ∀ xs ys : List Str, PyData.eqvAll (xs.map PyData.str) (ys.map PyData.str) = decide (xs = ys)
  | [], [] => by simp [PyData.eqvAll]
  | [], _ :: _ => by simp [PyData.eqvAll]
  | _ :: _, [] => by simp [PyData.eqvAll]
  | a :: r, b :: t => by
    simp only [List.map_cons, PyData.eqvAll, PyData.eqv, eqv_strs r t]
    by_cases h : a = b <;> by_cases h' : r = t <;> simp [h, h']
theorem uni_ok : ∀ x ∈ UNI, PyData.strOk x = true := by decide +kernel
theorem lay_strs : ∀ xs : List Str, (∀ x ∈ xs, x ∈ UNI) → PyData.canLayAll0 (xs.map PyData.str) = true
  | [], _ => rfl
  | x :: r, h => by simp [PyData.canLayAll0, PyData.canLay0, uni_ok x (h x (.head _)), lay_strs r fun y hy => h y (.tail _ hy)]
theorem depth_strs : ∀ xs : List Str, PyData.depthAll (xs.map PyData.str) = 0
  | [] => rfl
  | _ :: r => by simp [PyData.depthAll, PyData.depth, depth_strs r]
theorem shaped_strs {xs : List Str} (h : ∀ x ∈ xs, x ∈ UNI) : SeqAt.shaped (dS xs) = true := by
  simp [SeqAt.shaped, PyData.canLay0, PyData.depth, lay_strs xs h, depth_strs]
theorem readsAll_strs {h : Heap} {vs : List Value} {ts : List Str} (x : StrsAre vs ts) : ReadsAll h vs (ts.map PyData.str) [] := by
  induction x with
  | nil => exact .nil
  | cons y t _ ih => exact .cons (as := []) (bs := []) (.str y t) ih
theorem reads_strs {h : Heap} {t : Addr} {vs : List Value} {ts : List Str} (ht : IsTup h t vs.toArray) (hv : StrsAre vs ts) : Reads h (.ref t) (dS ts) [] := by
  obtain ⟨o, ho, hc, n, hd⟩ := ht
  exact .tuple ho hc hd (by simpa using readsAll_strs hv)
section
variable {prog : Program} {w : World} {A : Around} {E : Value → Shared → Prop} {s : Shared}
theorem eq_tups {a b : Addr} {vs us : List Value} {xs ys : List Str} {Q : Value → Shared → Prop} (ht : IsTup s.heap a vs.toArray) (hb : IsTup s.heap b us.toArray) (hx : StrsAre vs xs) (hy : StrsAre us ys) (ux : ∀ x ∈ xs, x ∈ UNI) (uy : ∀ x ∈ ys, x ∈ UNI)
    (hu : A.units + 64 < cLine) (h : Q (.bool (decide (xs = ys))) s) : wpAny (model prog w) A (compareOp .Eq (.ref a) (.ref b)) Q E s := by
  refine SeqAt.compareEq_shaped (reads_strs ht hx) (reads_strs hb hy) (shaped_strs ux) (shaped_strs uy) hu ?_
  simpa only [PyData.eqv, eqv_strs] using h
theorem ne_tups {a b : Addr} {vs us : List Value} {xs ys : List Str} {Q : Value → Shared → Prop} (ht : IsTup s.heap a vs.toArray) (hb : IsTup s.heap b us.toArray) (hx : StrsAre vs xs) (hy : StrsAre us ys) (ux : ∀ x ∈ xs, x ∈ UNI) (uy : ∀ x ∈ ys, x ∈ UNI)
    (hu : A.units + 64 < cLine) (h : Q (.bool (!decide (xs = ys))) s) : wpAny (model prog w) A (compareOp .NotEq (.ref a) (.ref b)) Q E s := by
  refine SeqAt.compareNe_shaped (reads_strs ht hx) (reads_strs hb hy) (shaped_strs ux) (shaped_strs uy) hu ?_
  simpa only [PyData.eqv, eqv_strs] using h
end
theorem six_apart {x d r bd ll : Nat} (h : d < x) (h2 : r < d ∧ bd < d ∧ ll < d) (h3 : bd ≠ r ∧ ll ≠ r) : @Ne Nat x bd ∧ @Ne Nat x ll ∧ @Ne Nat d bd ∧ @Ne Nat d ll ∧ @Ne Nat r bd ∧ @Ne Nat r ll :=
  ⟨Nat.ne_of_gt (Nat.lt_trans h2.2.1 h), Nat.ne_of_gt (Nat.lt_trans h2.2.2 h), Nat.ne_of_gt h2.2.1, Nat.ne_of_gt h2.2.2, Ne.symm h3.1, Ne.symm h3.2⟩
/-- what is new since h, beside what hG holds -/
noncomputable def lift (hG h h' : Heap) : Heap := hideAll h' ((List.range h.objs.size).filter fun b => (h.get? b).isSome && (hG.get? b).isNone)
theorem lift_sub {hG h h' : Heap} : (lift hG h h').StaysIn h' := fun _ _ e => of_hideAll _ e
theorem lift_old {hG h h' : Heap} (k : hG.StaysIn h') : hG.StaysIn (lift hG h h') := fun b o e => hideAll_get _ (k b o e) fun q => by
  have := (List.mem_filter.mp q).2
  rw [e] at this; simp at this
theorem lift_new {hG h h' : Heap} {b : Addr} {o : Obj} (e : h.get? b = none) (e' : h'.get? b = some o) : (lift hG h h').get? b = some o := hideAll_get _ e' fun q => by
  have := (List.mem_filter.mp q).2
  rw [e] at this; simp at this
theorem lift_off {hG h h' : Heap} {b : Addr} {o : Obj} (e : h.get? b = some o) (e' : hG.get? b = none) : (lift hG h h').get? b = none := hideAll_none _ (List.mem_filter.mpr ⟨List.mem_range.mpr (Heap.lt_size e), by rw [e, e']; rfl⟩)
theorem lift_cases {hG h h' : Heap} {b : Addr} {o : Obj} (e : (lift hG h h').get? b = some o) : (∃ o', hG.get? b = some o') ∨ h.get? b = none := by
  cases q : h.get? b with
  | none => exact .inr rfl
  | some o' =>
    cases z : hG.get? b with
    | some x => exact .inl ⟨x, rfl⟩
    | none => rw [lift_off q z] at e; cases e
theorem News.add2 {g h h' : Heap} {L : Addr} {m : Str → Option Value} {news : List (Addr × Obj)} {a b : Addr} {o p : Obj} (F : Fr g L h m) (N : News g L h news) (k : h.StaysIn h') (e : h.get? a = none) (e' : h'.get? a = some o) (d : h.get? b = none) (d' : h'.get? b = some p) :
    News g L h' ((b, p) :: (a, o) :: news) := fun q hq => by
  rcases List.mem_cons.mp hq with rfl | hq
  · exact ⟨d', Fr.fresh F d⟩
  · exact News.add F N k e e' q hq

example : True := by
  k_with "MINE ne9" => (((rename AllNe _ _ => l9); (try simp only [AllNe, AllLt, and_true, List.nil_append, List.cons_append] at l9)); (try (revert l9; intros)))
  trivial
example : True := by
  k_with "MINE grow1" => ((intro _ _ k9 e9 e9'; (rename Fr _ _ _ _ => F9); (rename News _ _ _ _ => N9); (have l9 := News.ne N9 e9); (have F' := Fr.grow F9 k9); (have N' := News.add F9 N9 k9 e9 e9'); clear F9 N9 k9 e9 e9'; (try simp only [AllNe, AllLt, and_true, List.nil_append, List.cons_append] at l9); (try dsimp only); (try (revert l9 F' N'; intros)); (try k_fold)))
  trivial
example : True := by
  k_with "call ref" => ((k_here; (with_reducible show wpAny _ _ (call (Value.ref 82) _) _ _ _); k_dflt (refine' flag_tuple_spec (by first | (assumption) | fail) (by first | (k_extra "MINE stays") | fail) (by first | (k_extra "MINE room") | fail) (by first | (k_extra "MINE room") | fail) (by first | exact .inl (by k_extra "MINE list") | exact .inr (by k_extra "MINE tup") | fail) (by first | (k_extra "MINE strs") | fail) (by first | (assumption) | fail) (by first | (k_extra "MINE ar") | fail) ?_; k_whole); intro _ vs9 h9 tk9 k9 e9 e9' hS9; (have hL9 : vs9.length ≤ 5 := by rw [StrsAre.length hS9]; exact canon_len _); (rename Fr _ _ _ _ => F9; rename News _ _ _ _ => N9; have l9 := News.ne N9 e9; have F' := Fr.grow F9 k9; have N' := News.add F9 N9 k9 e9 e9'; clear F9 N9 k9 e9 e9'; (try simp only [AllNe, AllLt, and_true, List.nil_append, List.cons_append] at l9); (try dsimp only); (try (revert vs9 h9 tk9 hS9 hL9 l9 F' N'; intros)); (try k_fold))))
  trivial
example : True := by
  k_with "call ref" => ((k_here; (with_reducible show wpAny _ _ (call (Value.ref 169) _) _ _ _); k_dflt (refine' raised_spec (by first | (assumption) | fail) (by first | (k_extra "MINE stays") | fail) (by first | (k_extra "MINE room") | fail) (by first | (k_extra "MINE inst") | fail) (by first | (k_extra "MINE boxd") | fail) (by first | (k_extra "MINE ar") | fail) (by first | (assumption) | fail) (by first | (assumption) | fail) ?_; k_whole); intro _ _ _ _ _ k9 e9 B9; (rename Fr _ _ _ _ => F9; rename News _ _ _ _ => N9; refine' mut1K F9 N9 (by first | (k_updF) | fail) k9 e9 ?_; clear F9 N9 k9 e9; intro _ N'; (try dsimp only at N'); (try dsimp only); (try (revert B9 N'; intros)); (try k_fold))))
  trivial
example : True := by
  k_with "call ref" => ((k_here; (with_reducible show wpAny _ _ (call (Value.ref 113) _) _ _ _); k_dflt (refine' make_letter (by first | (assumption) | fail) (by first | (k_extra "MINE stays") | fail) (by first | (k_extra "MINE room") | fail) (by first | (k_extra "MINE tup") | fail) ?_; k_whole); intro _ _ _ _ _ _ k9 ex9 ed9 lx9 lb9 ex9' ed9' LD9; (rename Fr _ _ _ _ => F9; rename News _ _ _ _ => N9; have l9 := News.below N9 lb9; have lx9' := ltN lx9; have F' := Fr.grow F9 k9; have N' := News.add2 F9 N9 k9 ed9 ed9' ex9 ex9'; clear F9 N9 k9 ex9 ed9 ex9' ed9' lx9 lb9; (try simp only [AllNe, AllLt, and_true, List.nil_append, List.cons_append] at l9); (try dsimp only); (try (revert LD9 l9 lx9' F' N'; intros)); (try k_fold))))
  trivial

noncomputable def ALG (w : World) (dp : Nat) (un : Nat) (fr : Option (List Env)) (gd : Option (List Code)) (s : Shared) (mean : ExcName → Option Value) (mg : Str → Option Value) (mb : Str → Option Value) (E : Value → Shared → Prop) (H0 : Heap) (Q : Value → Shared → Prop) (bx : Addr) (bd : Addr) (ll : Addr) (fa : Addr) (es : List DictEntry) (n : Nat) (m0 : Nat) (nx : Int) (top : Int) (las : List Addr) (ds : List Let) (nvs : List Value) (ts : List Str) (oc : Array UInt8) (i : Int) (t1 : Tok) (t2 : Tok) (hG : Heap) : Prop := ∀ (W : Wd w.params mean mg mb H0) (hs : H0.StaysIn s.heap) (hdp : dp + 9 < recursionLimit) (hun : un + 60 < cLine) (hx : s.heap.get? bx = some (instObj 151 bd)) (hd : s.heap.get? bd = some (dictOf es n)) (B : BoxD es ll nx top) (hll : s.heap.get? ll = some (listOf (las.map Value.ref).toArray m0)) (hne : @Ne Nat bx bd) (hne2 : @Ne Nat bx ll) (hne3 : @Ne Nat bd ll) (hd0 : H0.get? bd = none) (hl0 : H0.get? ll = none) (kG : hG.StaysIn s.heap) (gd0 : hG.get? bd = none) (gl0 : hG.get? ll = none) (hds : LetsAt hG las ds) (hlen : las.length ≤ 100) (hfa : s.heap.IsList fa nvs.toArray) (hfl : @Ne Nat fa ll) (hfd : @Ne Nat fa bd) (hnv : StrsAre nvs ts) (hts : ∀ x ∈ ts, x ∈ UNI) (htl : ts.length < 60) (ret : ∀ x h' tk' es' n' m', (hideAll s.heap [bd, ll]).StaysIn h' → h'.get? bd = some (dictOf es' n') → BoxD es' ll (nx + 1) (top + 1) → h'.get? ll = some (listOf ((las ++ [x]).map Value.ref).toArray m') →
      LetsAt (lift hG s.heap h') (las ++ [x]) (ds ++ [⟨nx, canon ts, top + 1⟩]) → Q (.ref x) { s with heap := h', toks := tk' }),
    wpAny (model PySem.Challenge.rw_no0367_01.row.prog w) (Ar dp un fr gd) (call (.ref 176) [.ref bx, .bytes oc t1, .ref fa, .int i t2]) Q E s
noncomputable abbrev ALK : Type _ := (World) × (Nat) × (Nat) × (Option (List Env)) × (Option (List Code)) × (Shared) × (ExcName → Option Value) × (Str → Option Value) × (Str → Option Value) × (Value → Shared → Prop) × (Heap) × (Value → Shared → Prop) × (Addr) × (Addr) × (Addr) × (Addr) × (List DictEntry) × (Nat) × (Nat) × (Int) × (Int) × (List Addr) × (List Let) × (List Value) × (List Str) × (Array UInt8) × (Int) × (Tok) × (Tok) × (Heap)
noncomputable def ALP (k : ALK) : Prop := ALG (k.1) (k.2.1) (k.2.2.1) (k.2.2.2.1) (k.2.2.2.2.1) (k.2.2.2.2.2.1) (k.2.2.2.2.2.2.1) (k.2.2.2.2.2.2.2.1) (k.2.2.2.2.2.2.2.2.1) (k.2.2.2.2.2.2.2.2.2.1) (k.2.2.2.2.2.2.2.2.2.2.1) (k.2.2.2.2.2.2.2.2.2.2.2.1) (k.2.2.2.2.2.2.2.2.2.2.2.2.1) (k.2.2.2.2.2.2.2.2.2.2.2.2.2.1) (k.2.2.2.2.2.2.2.2.2.2.2.2.2.2.1) (k.2.2.2.2.2.2.2.2.2.2.2.2.2.2.2.1) (k.2.2.2.2.2.2.2.2.2.2.2.2.2.2.2.2.1) (k.2.2.2.2.2.2.2.2.2.2.2.2.2.2.2.2.2.1) (k.2.2.2.2.2.2.2.2.2.2.2.2.2.2.2.2.2.2.1) (k.2.2.2.2.2.2.2.2.2.2.2.2.2.2.2.2.2.2.2.1) (k.2.2.2.2.2.2.2.2.2.2.2.2.2.2.2.2.2.2.2.2.1) (k.2.2.2.2.2.2.2.2.2.2.2.2.2.2.2.2.2.2.2.2.2.1) (k.2.2.2.2.2.2.2.2.2.2.2.2.2.2.2.2.2.2.2.2.2.2.1) (k.2.2.2.2.2.2.2.2.2.2.2.2.2.2.2.2.2.2.2.2.2.2.2.1) (k.2.2.2.2.2.2.2.2.2.2.2.2.2.2.2.2.2.2.2.2.2.2.2.2.1) (k.2.2.2.2.2.2.2.2.2.2.2.2.2.2.2.2.2.2.2.2.2.2.2.2.2.1) (k.2.2.2.2.2.2.2.2.2.2.2.2.2.2.2.2.2.2.2.2.2.2.2.2.2.2.1) (k.2.2.2.2.2.2.2.2.2.2.2.2.2.2.2.2.2.2.2.2.2.2.2.2.2.2.2.1) (k.2.2.2.2.2.2.2.2.2.2.2.2.2.2.2.2.2.2.2.2.2.2.2.2.2.2.2.2.1) (k.2.2.2.2.2.2.2.2.2.2.2.2.2.2.2.2.2.2.2.2.2.2.2.2.2.2.2.2.2)
theorem ALne : Nonempty ALK := ⟨((wd0 : World), (0 : Nat), (0 : Nat), (none : Option (List Env)), (none : Option (List Code)), ({} : Shared), (fun _ => none : ExcName → Option Value), (fun _ => none : Str → Option Value), (fun _ => none : Str → Option Value), (fun _ _ => True : Value → Shared → Prop), ({} : Heap), (fun _ _ => True : Value → Shared → Prop), (0 : Addr), (0 : Addr), (0 : Addr), (0 : Addr), ([] : List DictEntry), (0 : Nat), (0 : Nat), (0 : Int), (0 : Int), ([] : List Addr), ([] : List Let), ([] : List Value), ([] : List Str), (#[] : Array UInt8), (0 : Int), (0 : Tok), (0 : Tok), ({} : Heap))⟩
@[irreducible] noncomputable def ALk : ALK := @Classical.epsilon _ ALne fun k => ¬ ALP k
theorem ALc.pf : ALP ALk := by
  refine (?m : ∀ (w : World) (dp : Nat) (un : Nat) (fr : Option (List Env)) (gd : Option (List Code)) (s : Shared) (mean : ExcName → Option Value) (mg : Str → Option Value) (mb : Str → Option Value) (E : Value → Shared → Prop) (H0 : Heap) (Q : Value → Shared → Prop) (bx : Addr) (bd : Addr) (ll : Addr) (fa : Addr) (es : List DictEntry) (n : Nat) (m0 : Nat) (nx : Int) (top : Int) (las : List Addr) (ds : List Let) (nvs : List Value) (ts : List Str) (oc : Array UInt8) (i : Int) (t1 : Tok) (t2 : Tok) (hG : Heap), ∀ (W : Wd w.params mean mg mb H0) (hs : H0.StaysIn s.heap) (hdp : dp + 9 < recursionLimit) (hun : un + 60 < cLine) (hx : s.heap.get? bx = some (instObj 151 bd)) (hd : s.heap.get? bd = some (dictOf es n)) (B : BoxD es ll nx top) (hll : s.heap.get? ll = some (listOf (las.map Value.ref).toArray m0)) (hne : @Ne Nat bx bd) (hne2 : @Ne Nat bx ll) (hne3 : @Ne Nat bd ll) (hd0 : H0.get? bd = none) (hl0 : H0.get? ll = none) (kG : hG.StaysIn s.heap) (gd0 : hG.get? bd = none) (gl0 : hG.get? ll = none) (hds : LetsAt hG las ds) (hlen : las.length ≤ 100) (hfa : s.heap.IsList fa nvs.toArray) (hfl : @Ne Nat fa ll) (hfd : @Ne Nat fa bd) (hnv : StrsAre nvs ts) (hts : ∀ x ∈ ts, x ∈ UNI) (htl : ts.length < 60) (ret : ∀ x h' tk' es' n' m', (hideAll s.heap [bd, ll]).StaysIn h' → h'.get? bd = some (dictOf es' n') → BoxD es' ll (nx + 1) (top + 1) → h'.get? ll = some (listOf ((las ++ [x]).map Value.ref).toArray m') →
      LetsAt (lift hG s.heap h') (las ++ [x]) (ds ++ [⟨nx, canon ts, top + 1⟩]) → Q (.ref x) { s with heap := h', toks := tk' }),
    wpAny (model PySem.Challenge.rw_no0367_01.row.prog w) (Ar dp un fr gd) (call (.ref 176) [.ref bx, .bytes oc t1, .ref fa, .int i t2]) Q E s) (ALk.1) (ALk.2.1) (ALk.2.2.1) (ALk.2.2.2.1) (ALk.2.2.2.2.1) (ALk.2.2.2.2.2.1) (ALk.2.2.2.2.2.2.1) (ALk.2.2.2.2.2.2.2.1) (ALk.2.2.2.2.2.2.2.2.1) (ALk.2.2.2.2.2.2.2.2.2.1) (ALk.2.2.2.2.2.2.2.2.2.2.1) (ALk.2.2.2.2.2.2.2.2.2.2.2.1) (ALk.2.2.2.2.2.2.2.2.2.2.2.2.1) (ALk.2.2.2.2.2.2.2.2.2.2.2.2.2.1) (ALk.2.2.2.2.2.2.2.2.2.2.2.2.2.2.1) (ALk.2.2.2.2.2.2.2.2.2.2.2.2.2.2.2.1) (ALk.2.2.2.2.2.2.2.2.2.2.2.2.2.2.2.2.1) (ALk.2.2.2.2.2.2.2.2.2.2.2.2.2.2.2.2.2.1) (ALk.2.2.2.2.2.2.2.2.2.2.2.2.2.2.2.2.2.2.1) (ALk.2.2.2.2.2.2.2.2.2.2.2.2.2.2.2.2.2.2.2.1) (ALk.2.2.2.2.2.2.2.2.2.2.2.2.2.2.2.2.2.2.2.2.1) (ALk.2.2.2.2.2.2.2.2.2.2.2.2.2.2.2.2.2.2.2.2.2.1) (ALk.2.2.2.2.2.2.2.2.2.2.2.2.2.2.2.2.2.2.2.2.2.2.1) (ALk.2.2.2.2.2.2.2.2.2.2.2.2.2.2.2.2.2.2.2.2.2.2.2.1) (ALk.2.2.2.2.2.2.2.2.2.2.2.2.2.2.2.2.2.2.2.2.2.2.2.2.1) (ALk.2.2.2.2.2.2.2.2.2.2.2.2.2.2.2.2.2.2.2.2.2.2.2.2.2.1) (ALk.2.2.2.2.2.2.2.2.2.2.2.2.2.2.2.2.2.2.2.2.2.2.2.2.2.2.1) (ALk.2.2.2.2.2.2.2.2.2.2.2.2.2.2.2.2.2.2.2.2.2.2.2.2.2.2.2.1) (ALk.2.2.2.2.2.2.2.2.2.2.2.2.2.2.2.2.2.2.2.2.2.2.2.2.2.2.2.2.1) (ALk.2.2.2.2.2.2.2.2.2.2.2.2.2.2.2.2.2.2.2.2.2.2.2.2.2.2.2.2.2)
  intro w dp un fr gd s mean mg mb E H0 Q bx bd ll fa es n m0 nx top las ds nvs ts oc i t1 t2 hG
  intro W hs hdp hun hx hd B hll hne hne2 hne3 hd0 hl0 kG gd0 gl0 hds hlen hfa hfl hfd hnv hts htl ret
  refine' enter (H0 := H0) (mean := mean) (mg := mg) (mb := mb) (binds := [("box", .ref bx), ("octets", .bytes oc t1), ("flags", .ref fa), ("instant", .int i t2)]) W hs [(bd, dictOf es n), (ll, listOf (las.map Value.ref).toArray m0)] (all_cons ⟨hd, hd0⟩ (all_cons ⟨hll, hl0⟩ (List.forall_mem_nil _))) (by show dp < recursionLimit; first | exact room0 (by assumption) | omega) ?ho ?hcd ?hbind ?hloc ?_ ?hcell ?hco ?hgen ?hk
  (case ho => k_is); (case hcd => k_is); (case hbind => exact BindsTo.of_eq rfl); (case hloc => exact locs rfl); (case hcell => decide); (case hco => exact rfl); (case hgen => exact rfl); (case hk => exact rfl)
  intro g L' h₁ hg hst F N X T
  dsimp only [List.reverse, List.reverseAux] at F
  revert hg hst F N X T
  revert g L' h₁
  refine @eps3 _ _ _ ⟨(({} : Heap), (0 : Addr), ({} : Heap))⟩ ?P14 ((?close14 : ∀ a0 a1 a2, ?P14 a0 a1 a2) _ _ _ )
  intro g L' h₁ hg hst F N X T
  have hx' : g.get? bx = some (instObj 151 bd) := hg ▸ hid2 hx hne hne2
  have hfa' : g.IsList fa nvs.toArray := hg ▸ hid2_list hfa hfd hfl
  have hz : (las.map Value.ref).length ≤ 1000 := by rw [List.length_map]; exact le_lit hlen rfl
  try k_fold
  k_extra "MINE steps"
  rename Fr _ _ _ _ => FF
  rename News _ _ _ _ => NN
  rename BoxD _ ll (nx + 1) (top + 1) => BB
  rename LetD _ _ _ _ => LD
  rename StrsAre _ (canon ts) => hS
  try dsimp only
  have kh := stays_trans (hid2_stays kG gd0 gl0) (hg ▸ FF.keep)
  have fresh : ∀ b : Addr, @Ne Nat b bd → @Ne Nat b ll → g.get? b = none → s.heap.get? b = none := fun b h1 h2 e => seen2 (hg ▸ e) h1 h2
  obtain ⟨f1, f2, f3, f4, f5, f6⟩ := six_apart (by assumption) (by assumption) (by assumption)
  have e1 := NN _ (.head _)
  have e2 := NN _ (.tail _ (.head _))
  have e3 := NN _ (.tail _ (.tail _ (.head _)))
  have e4 := NN _ (.tail _ (.tail _ (.tail _ (.head _))))
  have e5 := NN _ (.tail _ (.tail _ (.tail _ (.tail _ (.head _)))))
  dsimp only at e1 e2 e3 e4 e5
  refine ret _ _ _ _ _ _ (hg ▸ FF.keep) e4.1 BB (by simpa using e5.1) ((hds.keeps (lift_old kh)).snoc (LetD.at LD (lift_new (fresh _ f1 f2 e1.2.2) e1.1) (lift_new (fresh _ f3 f4 e2.2.2) e2.1) ⟨_, lift_new (fresh _ f5 f6 e3.2.2) e3.1, rfl, _, rfl⟩ hS))
theorem add_letter_spec {w : World} {dp : Nat} {un : Nat} {fr : Option (List Env)} {gd : Option (List Code)} {s : Shared} {mean : ExcName → Option Value} {mg : Str → Option Value} {mb : Str → Option Value} {E : Value → Shared → Prop} {H0 : Heap} {Q : Value → Shared → Prop} {bx : Addr} {bd : Addr} {ll : Addr} {fa : Addr} {es : List DictEntry} {n : Nat} {m0 : Nat} {nx : Int} {top : Int} {las : List Addr} {ds : List Let} {nvs : List Value} {ts : List Str} {oc : Array UInt8} {i : Int} {t1 : Tok} {t2 : Tok} {hG : Heap} : ∀ (W : Wd w.params mean mg mb H0) (hs : H0.StaysIn s.heap) (hdp : dp + 9 < recursionLimit) (hun : un + 60 < cLine) (hx : s.heap.get? bx = some (instObj 151 bd)) (hd : s.heap.get? bd = some (dictOf es n)) (B : BoxD es ll nx top) (hll : s.heap.get? ll = some (listOf (las.map Value.ref).toArray m0)) (hne : @Ne Nat bx bd) (hne2 : @Ne Nat bx ll) (hne3 : @Ne Nat bd ll) (hd0 : H0.get? bd = none) (hl0 : H0.get? ll = none) (kG : hG.StaysIn s.heap) (gd0 : hG.get? bd = none) (gl0 : hG.get? ll = none) (hds : LetsAt hG las ds) (hlen : las.length ≤ 100) (hfa : s.heap.IsList fa nvs.toArray) (hfl : @Ne Nat fa ll) (hfd : @Ne Nat fa bd) (hnv : StrsAre nvs ts) (hts : ∀ x ∈ ts, x ∈ UNI) (htl : ts.length < 60) (ret : ∀ x h' tk' es' n' m', (hideAll s.heap [bd, ll]).StaysIn h' → h'.get? bd = some (dictOf es' n') → BoxD es' ll (nx + 1) (top + 1) → h'.get? ll = some (listOf ((las ++ [x]).map Value.ref).toArray m') →
      LetsAt (lift hG s.heap h') (las ++ [x]) (ds ++ [⟨nx, canon ts, top + 1⟩]) → Q (.ref x) { s with heap := h', toks := tk' }),
    wpAny (model PySem.Challenge.rw_no0367_01.row.prog w) (Ar dp un fr gd) (call (.ref 176) [.ref bx, .bytes oc t1, .ref fa, .int i t2]) Q E s :=
  eps_all (P := ALP) ALne (by with_unfolding_all exact ALc.pf) (w, dp, un, fr, gd, s, mean, mg, mb, E, H0, Q, bx, bd, ll, fa, es, n, m0, nx, top, las, ds, nvs, ts, oc, i, t1, t2, hG)


section
variable {prog : Program} {w : World} {A : Around} {E : Value → Shared → Prop} {s : Shared} {h₀ : Heap} {L D : Addr} {m : Str → Option Value} {news : List (Addr × Obj)} {gg : Obj → List (Addr × Obj)} {vs : List Value} {n k : Nat} {t u : Tok}
theorem set_l {Q : Unit → Shared → Prop} {v : Value} (F : Fr h₀ L s.heap m) (N : News h₀ L s.heap news) (U : UpdF D (listOf vs.toArray n) news gg) (h1 : k < vs.length) (hz : vs.length ≤ 1000)
    (h : ∀ h', Fr h₀ L h' m → News h₀ L h' (gg (listOf (vs.set k v).toArray n)) → Q () { s with heap := h' }) :
    wpAny (model prog w) A (setItem (.ref D) (.int (k : Int) t) v) Q E s := by
  obtain ⟨pre, post, rfl, hg, a, b⟩ := U.split
  have z := N (D, listOf vs.toArray n) (List.mem_append.mpr (.inr (.head _)))
  have hs : vs.toArray.size = vs.length := List.size_toArray ..
  refine ki_setAt z.1 (by first | exact Int.natCast_nonneg k | omega) (by first | exact pw_lt (Nat.le_of_lt (Nat.lt_of_lt_of_le h1 hz)) | omega) (by first | exact hs ▸ Int.ofNat_lt.mpr h1 | omega) (h _ (F.change (Heap.SameBut.update ..) z.2.1 z.2.2) (hg _ ▸ ki_turn _ N a b ?_ ?_))
  · show vs.toArray.setIfInBounds k v = (vs.set k v).toArray
    apply Array.toList_inj.mp
    simp
  · simp
theorem item_known {value slice : Expr} {x : Value} {items : Array Value} {l : Addr} {Q : Value → Shared → Prop} (hl : s.heap.IsList l items) (hx : items[k]? = some x) (hk : k < 1000) (h : Q x s)
    (hs : subscripted slice false (.ref l) (.int (k : Int) u) = operate [.ref l, .int (k : Int) u] (getItem (.ref l) (.int (k : Int) u))) :
    wpAny (model prog w) A (subscriptTail value slice (.ref l) (.int (k : Int) u)) Q E s := item_l hl (Int.natCast_nonneg k) (by first | exact Int.ofNat_lt.mpr (lt_lit (by assumption) rfl) | exact Int.ofNat_lt.mpr (by assumption) | omega) (by simpa using hx) h hs
end
/-- the i-th letter's uid is i + 1 -/
noncomputable def UidsAt (h : Heap) (las : List Addr) : Prop := ∀ (i : Nat) (a : Addr), las[i]? = some a → ∃ t, Fld h a 113 "uid" (.int ((i : Int) + 1) t)
theorem UidsAt.keeps {h h' : Heap} {las : List Addr} (x : UidsAt h las) (k : h.StaysIn h') : UidsAt h' las := fun i a e => let ⟨t, z⟩ := x i a e; ⟨t, z.keeps k⟩
section
variable {w : World} {dp un : Nat} {fr : Option (List Env)} {gd : Option (List Code)} {E : Value → Shared → Prop} {s : Shared} {H0 : Heap} {mean : ExcName → Option Value} {mg mb : Str → Option Value} {Q : Value → Shared → Prop}
theorem place_at_spec (W : Wd w.params mean mg mb H0) (hs : H0.StaysIn s.heap) (hdp : dp + 1 < recursionLimit) (hun : un + 20 < cLine)
    {ll : Addr} {las : List Addr} (hll : s.heap.IsList ll (las.map Value.ref).toArray) (hlen : las.length ≤ 1000) (hu : UidsAt s.heap las) (uid : Int) (t : Tok)
    {k : Nat} (hk : k < las.length) (huk : uid = (k : Int) + 1)
    (ret : ∀ t' h' tk', s.heap.StaysIn h' → Q (.int (k : Int) t') { s with heap := h', toks := tk' }) :
    wpAny (model PySem.Challenge.rw_no0367_01.row.prog w) (Ar dp un fr gd) (call (.ref 162) [.ref ll, .int uid t]) Q E s := by
  refine place_of_spec W hs hdp hun hll hlen hu fun r t' h' tk' kk hr => ?_
  rw [huk, if_pos ⟨Int.add_le_add_right (Int.natCast_nonneg k) 1, Int.ofNat_le.mpr hk⟩] at hr
  have : r = (k : Int) := hr.trans (Int.add_sub_cancel _ 1)
  subst this
  exact ret _ _ _ kk
end
theorem unhide {h h' : Heap} {bs : List Addr} (k : (hideAll h bs).StaysIn h') (e : ∀ b ∈ bs, ∀ o, h.get? b = some o → h'.get? b = some o) : h.StaysIn h' := fun b o q => by
  by_cases hb : b ∈ bs
  · exact e b hb o q
  · exact k b o (hideAll_get _ q hb)

example : True := by
  k_with "call ref" => ((k_here; (with_reducible show wpAny _ _ (call (Value.ref 162) _) _ _ _); k_dflt (refine' place_at_spec (by first | (assumption) | fail) (by first | (k_extra "MINE stays") | fail) (by first | (k_extra "MINE room") | fail) (by first | (k_extra "MINE room") | fail) (by first | (k_extra "MINE list") | fail) (by first | (k_extra "MINE ar") | fail) (by first | assumption | exact UidsAt.keeps (by assumption) (Fr.keep (by assumption)) | fail) _ _ (by first | (k_extra "MINE ar") | fail) (by first | (assumption) | fail) ?_; k_whole); intro _; k_extra "MINE grow0"))
  trivial
example : True := by
  k_with "MINE halt" => (((fail_if_success (with_reducible show wpAny _ _ (PySem.exec (PySem.Stmt.While _ _ _ _) _) _ _ _)); (fail_if_success (with_reducible show wpAny _ _ (PySem.exec (PySem.Stmt.For _ _ _ _ _) _) _ _ _)); (fail_if_success (with_reducible show wpAny _ _ (PySem.eval (PySem.Expr.ListComp _ _ _ _) _) _ _ _)); (fail_if_success (with_reducible show wpAny _ _ (PySem.exec (PySem.Stmt.Raise _ _ _) _) _ _ _)); (fail_if_success (with_reducible show wpAny _ _ (PySem.exec (PySem.Stmt.Assign _ (PySem.Expr.ListComp _ _ _ _) _) _) _ _ _))))
  trivial
example : True := by
  k_with "subscriptTail" => ((k_here; (with_reducible show wpAny _ _ (subscriptTail _ _ (Value.ref _) (Value.int (Nat.cast _) _)) _ _ _); k_dflt (refine' item_known (by first | (k_extra "MINE list") | fail) (by first | (assumption) | fail) (by first | (k_extra "MINE ar") | fail) ?_ (by with_unfolding_all rfl); k_whole)))
  trivial
example : True := by
  k_with "compareOp Eq ref ref" => ((k_here; (with_reducible show wpAny _ _ (compareOp CmpOp.Eq (Value.ref _) (Value.ref _)) _ _ _); k_dflt (refine' eq_tups (by first | (k_extra "MINE tup") | fail) (by first | (k_extra "MINE tup") | fail) (by first | (k_extra "MINE strs") | fail) (by first | (k_extra "MINE strs") | fail) (by first | (assumption) | fail) (by first | (assumption) | fail) (by first | (k_extra "MINE room") | fail) ?_; k_whole)))
  trivial
example : True := by
  k_with "compareOp NotEq ref ref" => ((k_here; (with_reducible show wpAny _ _ (compareOp CmpOp.NotEq (Value.ref _) (Value.ref _)) _ _ _); k_dflt (refine' ne_tups (by first | (k_extra "MINE tup") | fail) (by first | (k_extra "MINE tup") | fail) (by first | (k_extra "MINE strs") | fail) (by first | (k_extra "MINE strs") | fail) (by first | (assumption) | fail) (by first | (assumption) | fail) (by first | (k_extra "MINE room") | fail) ?_; k_whole)))
  trivial
example : True := by
  k_with "setItem ref int" => ((k_here; (with_reducible show wpAny _ _ (setItem (Value.ref _) (Value.int (Nat.cast _) _) _) _ _ _); k_dflt (refine' set_l (by first | (k_asm) | fail) (by first | (k_asm) | fail) (by first | (k_updF) | fail) (by first | (k_extra "MINE ar") | fail) (by first | (k_extra "MINE ar") | fail) ?_; k_whole); intro _ _ N9; (try dsimp only at N9); (try k_sweep); (try dsimp only); (try (revert N9; intros)); (try k_fold)))
  trivial

noncomputable def SEG (w : World) (dp : Nat) (un : Nat) (fr : Option (List Env)) (gd : Option (List Code)) (s : Shared) (mean : ExcName → Option Value) (mg : Str → Option Value) (mb : Str → Option Value) (E : Value → Shared → Prop) (H0 : Heap) (Q : Value → Shared → Prop) (bx : Addr) (bd : Addr) (ll : Addr) (fa : Addr) (es : List DictEntry) (n : Nat) (m0 : Nat) (nx : Int) (top : Int) (las : List Addr) (ds : List Let) (d : Let) (nvs : List Value) (ts : List Str) (uid : Int) (t : Tok) (k : Nat) (hG : Heap) : Prop := ∀ (W : Wd w.params mean mg mb H0) (hs : H0.StaysIn s.heap) (hdp : dp + 9 < recursionLimit) (hun : un + 80 < cLine) (hx : s.heap.get? bx = some (instObj 151 bd)) (hd : s.heap.get? bd = some (dictOf es n)) (B : BoxD es ll nx top) (hll : s.heap.get? ll = some (listOf (las.map Value.ref).toArray m0)) (hne : @Ne Nat bx bd) (hne2 : @Ne Nat bx ll) (hne3 : @Ne Nat bd ll) (hd0 : H0.get? bd = none) (hl0 : H0.get? ll = none) (kG : hG.StaysIn s.heap) (gd0 : hG.get? bd = none) (gl0 : hG.get? ll = none) (hds : LetsAt hG las ds) (hlen : las.length ≤ 100) (hui : ∀ (i : Nat) (d : Let), ds[i]? = some d → d.uid = (i : Int) + 1) (hdk : ds[k]? = some d) (huid : uid = (k : Int) + 1) (hdu : ∀ x ∈ d.fl, x ∈ UNI) (hfa : IsTup s.heap fa nvs.toArray) (hnv : StrsAre nvs ts) (hts : ∀ x ∈ ts, x ∈ UNI) (htl : ts.length < 60) (ret0 : ∀ h' tk', s.heap.StaysIn h' → d.fl = canon ts → Q (.bool false) { s with heap := h', toks := tk' }) (ret1 : ∀ x h' tk' es' n' m', (hideAll s.heap [bd, ll]).StaysIn h' → h'.get? bd = some (dictOf es' n') → BoxD es' ll nx (top + 1) → h'.get? ll = some (listOf ((las.set k x).map Value.ref).toArray m') →
      LetsAt (lift hG s.heap h') (las.set k x) (ds.set k ⟨uid, canon ts, top + 1⟩) → d.fl ≠ canon ts → Q (.bool true) { s with heap := h', toks := tk' }),
    wpAny (model PySem.Challenge.rw_no0367_01.row.prog w) (Ar dp un fr gd) (call (.ref 183) [.ref bx, .int uid t, .ref fa]) Q E s
noncomputable abbrev SEK : Type _ := (World) × (Nat) × (Nat) × (Option (List Env)) × (Option (List Code)) × (Shared) × (ExcName → Option Value) × (Str → Option Value) × (Str → Option Value) × (Value → Shared → Prop) × (Heap) × (Value → Shared → Prop) × (Addr) × (Addr) × (Addr) × (Addr) × (List DictEntry) × (Nat) × (Nat) × (Int) × (Int) × (List Addr) × (List Let) × (Let) × (List Value) × (List Str) × (Int) × (Tok) × (Nat) × (Heap)
noncomputable def SEP (k : SEK) : Prop := SEG (k.1) (k.2.1) (k.2.2.1) (k.2.2.2.1) (k.2.2.2.2.1) (k.2.2.2.2.2.1) (k.2.2.2.2.2.2.1) (k.2.2.2.2.2.2.2.1) (k.2.2.2.2.2.2.2.2.1) (k.2.2.2.2.2.2.2.2.2.1) (k.2.2.2.2.2.2.2.2.2.2.1) (k.2.2.2.2.2.2.2.2.2.2.2.1) (k.2.2.2.2.2.2.2.2.2.2.2.2.1) (k.2.2.2.2.2.2.2.2.2.2.2.2.2.1) (k.2.2.2.2.2.2.2.2.2.2.2.2.2.2.1) (k.2.2.2.2.2.2.2.2.2.2.2.2.2.2.2.1) (k.2.2.2.2.2.2.2.2.2.2.2.2.2.2.2.2.1) (k.2.2.2.2.2.2.2.2.2.2.2.2.2.2.2.2.2.1) (k.2.2.2.2.2.2.2.2.2.2.2.2.2.2.2.2.2.2.1) (k.2.2.2.2.2.2.2.2.2.2.2.2.2.2.2.2.2.2.2.1) (k.2.2.2.2.2.2.2.2.2.2.2.2.2.2.2.2.2.2.2.2.1) (k.2.2.2.2.2.2.2.2.2.2.2.2.2.2.2.2.2.2.2.2.2.1) (k.2.2.2.2.2.2.2.2.2.2.2.2.2.2.2.2.2.2.2.2.2.2.1) (k.2.2.2.2.2.2.2.2.2.2.2.2.2.2.2.2.2.2.2.2.2.2.2.1) (k.2.2.2.2.2.2.2.2.2.2.2.2.2.2.2.2.2.2.2.2.2.2.2.2.1) (k.2.2.2.2.2.2.2.2.2.2.2.2.2.2.2.2.2.2.2.2.2.2.2.2.2.1) (k.2.2.2.2.2.2.2.2.2.2.2.2.2.2.2.2.2.2.2.2.2.2.2.2.2.2.1) (k.2.2.2.2.2.2.2.2.2.2.2.2.2.2.2.2.2.2.2.2.2.2.2.2.2.2.2.1) (k.2.2.2.2.2.2.2.2.2.2.2.2.2.2.2.2.2.2.2.2.2.2.2.2.2.2.2.2.1) (k.2.2.2.2.2.2.2.2.2.2.2.2.2.2.2.2.2.2.2.2.2.2.2.2.2.2.2.2.2)
theorem SEne : Nonempty SEK := ⟨((wd0 : World), (0 : Nat), (0 : Nat), (none : Option (List Env)), (none : Option (List Code)), ({} : Shared), (fun _ => none : ExcName → Option Value), (fun _ => none : Str → Option Value), (fun _ => none : Str → Option Value), (fun _ _ => True : Value → Shared → Prop), ({} : Heap), (fun _ _ => True : Value → Shared → Prop), (0 : Addr), (0 : Addr), (0 : Addr), (0 : Addr), ([] : List DictEntry), (0 : Nat), (0 : Nat), (0 : Int), (0 : Int), ([] : List Addr), ([] : List Let), (⟨0, [], 0⟩ : Let), ([] : List Value), ([] : List Str), (0 : Int), (0 : Tok), (0 : Nat), ({} : Heap))⟩
@[irreducible] noncomputable def SEk : SEK := @Classical.epsilon _ SEne fun k => ¬ SEP k
theorem SEc.pf : SEP SEk := by
  refine (?m : ∀ (w : World) (dp : Nat) (un : Nat) (fr : Option (List Env)) (gd : Option (List Code)) (s : Shared) (mean : ExcName → Option Value) (mg : Str → Option Value) (mb : Str → Option Value) (E : Value → Shared → Prop) (H0 : Heap) (Q : Value → Shared → Prop) (bx : Addr) (bd : Addr) (ll : Addr) (fa : Addr) (es : List DictEntry) (n : Nat) (m0 : Nat) (nx : Int) (top : Int) (las : List Addr) (ds : List Let) (d : Let) (nvs : List Value) (ts : List Str) (uid : Int) (t : Tok) (k : Nat) (hG : Heap), ∀ (W : Wd w.params mean mg mb H0) (hs : H0.StaysIn s.heap) (hdp : dp + 9 < recursionLimit) (hun : un + 80 < cLine) (hx : s.heap.get? bx = some (instObj 151 bd)) (hd : s.heap.get? bd = some (dictOf es n)) (B : BoxD es ll nx top) (hll : s.heap.get? ll = some (listOf (las.map Value.ref).toArray m0)) (hne : @Ne Nat bx bd) (hne2 : @Ne Nat bx ll) (hne3 : @Ne Nat bd ll) (hd0 : H0.get? bd = none) (hl0 : H0.get? ll = none) (kG : hG.StaysIn s.heap) (gd0 : hG.get? bd = none) (gl0 : hG.get? ll = none) (hds : LetsAt hG las ds) (hlen : las.length ≤ 100) (hui : ∀ (i : Nat) (d : Let), ds[i]? = some d → d.uid = (i : Int) + 1) (hdk : ds[k]? = some d) (huid : uid = (k : Int) + 1) (hdu : ∀ x ∈ d.fl, x ∈ UNI) (hfa : IsTup s.heap fa nvs.toArray) (hnv : StrsAre nvs ts) (hts : ∀ x ∈ ts, x ∈ UNI) (htl : ts.length < 60) (ret0 : ∀ h' tk', s.heap.StaysIn h' → d.fl = canon ts → Q (.bool false) { s with heap := h', toks := tk' }) (ret1 : ∀ x h' tk' es' n' m', (hideAll s.heap [bd, ll]).StaysIn h' → h'.get? bd = some (dictOf es' n') → BoxD es' ll nx (top + 1) → h'.get? ll = some (listOf ((las.set k x).map Value.ref).toArray m') →
      LetsAt (lift hG s.heap h') (las.set k x) (ds.set k ⟨uid, canon ts, top + 1⟩) → d.fl ≠ canon ts → Q (.bool true) { s with heap := h', toks := tk' }),
    wpAny (model PySem.Challenge.rw_no0367_01.row.prog w) (Ar dp un fr gd) (call (.ref 183) [.ref bx, .int uid t, .ref fa]) Q E s) (SEk.1) (SEk.2.1) (SEk.2.2.1) (SEk.2.2.2.1) (SEk.2.2.2.2.1) (SEk.2.2.2.2.2.1) (SEk.2.2.2.2.2.2.1) (SEk.2.2.2.2.2.2.2.1) (SEk.2.2.2.2.2.2.2.2.1) (SEk.2.2.2.2.2.2.2.2.2.1) (SEk.2.2.2.2.2.2.2.2.2.2.1) (SEk.2.2.2.2.2.2.2.2.2.2.2.1) (SEk.2.2.2.2.2.2.2.2.2.2.2.2.1) (SEk.2.2.2.2.2.2.2.2.2.2.2.2.2.1) (SEk.2.2.2.2.2.2.2.2.2.2.2.2.2.2.1) (SEk.2.2.2.2.2.2.2.2.2.2.2.2.2.2.2.1) (SEk.2.2.2.2.2.2.2.2.2.2.2.2.2.2.2.2.1) (SEk.2.2.2.2.2.2.2.2.2.2.2.2.2.2.2.2.2.1) (SEk.2.2.2.2.2.2.2.2.2.2.2.2.2.2.2.2.2.2.1) (SEk.2.2.2.2.2.2.2.2.2.2.2.2.2.2.2.2.2.2.2.1) (SEk.2.2.2.2.2.2.2.2.2.2.2.2.2.2.2.2.2.2.2.2.1) (SEk.2.2.2.2.2.2.2.2.2.2.2.2.2.2.2.2.2.2.2.2.2.1) (SEk.2.2.2.2.2.2.2.2.2.2.2.2.2.2.2.2.2.2.2.2.2.2.1) (SEk.2.2.2.2.2.2.2.2.2.2.2.2.2.2.2.2.2.2.2.2.2.2.2.1) (SEk.2.2.2.2.2.2.2.2.2.2.2.2.2.2.2.2.2.2.2.2.2.2.2.2.1) (SEk.2.2.2.2.2.2.2.2.2.2.2.2.2.2.2.2.2.2.2.2.2.2.2.2.2.1) (SEk.2.2.2.2.2.2.2.2.2.2.2.2.2.2.2.2.2.2.2.2.2.2.2.2.2.2.1) (SEk.2.2.2.2.2.2.2.2.2.2.2.2.2.2.2.2.2.2.2.2.2.2.2.2.2.2.2.1) (SEk.2.2.2.2.2.2.2.2.2.2.2.2.2.2.2.2.2.2.2.2.2.2.2.2.2.2.2.2.1) (SEk.2.2.2.2.2.2.2.2.2.2.2.2.2.2.2.2.2.2.2.2.2.2.2.2.2.2.2.2.2)
  intro w dp un fr gd s mean mg mb E H0 Q bx bd ll fa es n m0 nx top las ds d nvs ts uid t k hG
  intro W hs hdp hun hx hd B hll hne hne2 hne3 hd0 hl0 kG gd0 gl0 hds hlen hui hdk huid hdu hfa hnv hts htl ret0 ret1
  have hfd : @Ne Nat fa bd := tup_ne hfa hd (fun q => absurd (Value.type.inj q) (by decide))
  have hfl : @Ne Nat fa ll := tup_ne hfa hll (fun q => absurd (Value.type.inj q) (by decide))
  refine' enter (H0 := H0) (mean := mean) (mg := mg) (mb := mb) (binds := [("box", .ref bx), ("uid", .int uid t), ("flags", .ref fa)]) W hs [(bd, dictOf es n), (ll, listOf (las.map Value.ref).toArray m0)] (all_cons ⟨hd, hd0⟩ (all_cons ⟨hll, hl0⟩ (List.forall_mem_nil _))) (by show dp < recursionLimit; first | exact room0 (by assumption) | omega) ?ho ?hcd ?hbind ?hloc ?_ ?hcell ?hco ?hgen ?hk
  (case ho => k_is); (case hcd => k_is); (case hbind => exact BindsTo.of_eq rfl); (case hloc => exact locs rfl); (case hcell => decide); (case hco => exact rfl); (case hgen => exact rfl); (case hk => exact rfl)
  intro g L' h₁ hg hst F N X T
  dsimp only [List.reverse, List.reverseAux] at F
  revert hg hst F N X T
  revert g L' h₁
  refine @eps3 _ _ _ ⟨(({} : Heap), (0 : Addr), ({} : Heap))⟩ ?P15 ((?close15 : ∀ a0 a1 a2, ?P15 a0 a1 a2) _ _ _ )
  intro g L' h₁ hg hst F N X T
  have hx' : g.get? bx = some (instObj 151 bd) := hg ▸ hid2 hx hne hne2
  have hfa' : IsTup g fa nvs.toArray := hg ▸ hid2_tup hfa hfd hfl
  have kGg : hG.StaysIn g := hg ▸ hid2_stays kG gd0 gl0
  have hkl : k < las.length := by rw [hds.len]; exact (List.getElem?_eq_some_iff.mp hdk).1
  have hz1 : las.length ≤ 1000 := le_lit hlen rfl
  have hz : (las.map Value.ref).length ≤ 1000 := by rw [List.length_map]; exact hz1
  have hz2 : k < 1000 := Nat.lt_of_lt_of_le hkl hz1
  have hz3 : k < (las.map Value.ref).length := by rw [List.length_map]; exact hkl
  have hus : UidsAt g las := fun i a e => by
    obtain ⟨d', hd', hL⟩ := hds.get e
    obtain ⟨⟨t', h1⟩, _⟩ := hL.keeps kGg
    rw [hui i d' hd'] at h1
    exact ⟨t', h1⟩
  obtain ⟨a0, ha0⟩ : ∃ a0, las[k]? = some a0 := ⟨las[k], List.getElem?_eq_getElem hkl⟩
  have ha1 : (las.map Value.ref).toArray[k]? = some (.ref a0) := by simp [ha0]
  obtain ⟨d2, hd2, hLd⟩ := hds.get ha0
  rw [hdk] at hd2
  cases hd2
  obtain ⟨_, _, ⟨ft, fvs, hff, hft, hfv⟩, ⟨oc, oct, hoc⟩, ⟨ii, iit, hii⟩⟩ := hLd.keeps kGg
  have hcu : ∀ x ∈ canon ts, x ∈ UNI := canon_uni ts
  have hk0 : ¬ ((k : Int) < 0) := Int.not_lt.mpr (Int.natCast_nonneg k)
  try k_fold
  k_extra "MINE steps"
  · rename Fr _ _ _ _ => FF
    rename News _ _ _ _ => NN
    rename (d.fl = canon ts) => hq
    try dsimp only
    refine ret0 _ _ (unhide (hg ▸ FF.keep) fun b hb o e => ?_) hq
    rcases List.mem_cons.mp hb with q | q
    · rw [q, hd] at e; rw [q]; cases e; exact (NN _ (.tail _ (.head _))).1
    · have q' := List.mem_singleton.mp q; rw [q', hll] at e; rw [q']; cases e; exact (NN _ (.tail _ (.tail _ (.head _)))).1
  · rename Fr _ _ _ _ => FF
    rename News _ _ _ _ => NN
    rename BoxD _ ll nx (top + 1) => BB
    rename LetD _ _ _ _ => LD
    rename StrsAre _ (canon ts) => hS
    rename (¬ (d.fl = canon ts)) => hq
    try dsimp only
    have kh := stays_trans kGg FF.keep
    have fresh : ∀ b : Addr, @Ne Nat b bd → @Ne Nat b ll → g.get? b = none → s.heap.get? b = none := fun b h1 h2 e => seen2 (hg ▸ e) h1 h2
    obtain ⟨f1, f2, f3, f4, f5, f6⟩ := six_apart (by assumption) (by assumption) (by assumption)
    have e1 := NN _ (.head _)
    have e2 := NN _ (.tail _ (.head _))
    have e3 := NN _ (.tail _ (.tail _ (.head _)))
    have e4 := NN _ (.tail _ (.tail _ (.tail _ (.head _))))
    have e5 := NN _ (.tail _ (.tail _ (.tail _ (.tail _ (.head _)))))
    dsimp only at e1 e2 e3 e4 e5
    refine ret1 _ _ _ _ _ _ (hg ▸ FF.keep) e4.1 BB (by simpa [List.map_set] using e5.1) ((hds.keeps (lift_old kh)).set k (LetD.at LD (lift_new (fresh _ f1 f2 e1.2.2) e1.1) (lift_new (fresh _ f3 f4 e2.2.2) e2.1) ⟨_, lift_new (fresh _ f5 f6 e3.2.2) e3.1, rfl, _, rfl⟩ hS)) hq
theorem set_flags_spec {w : World} {dp : Nat} {un : Nat} {fr : Option (List Env)} {gd : Option (List Code)} {s : Shared} {mean : ExcName → Option Value} {mg : Str → Option Value} {mb : Str → Option Value} {E : Value → Shared → Prop} {H0 : Heap} {Q : Value → Shared → Prop} {bx : Addr} {bd : Addr} {ll : Addr} {fa : Addr} {es : List DictEntry} {n : Nat} {m0 : Nat} {nx : Int} {top : Int} {las : List Addr} {ds : List Let} {d : Let} {nvs : List Value} {ts : List Str} {uid : Int} {t : Tok} {k : Nat} {hG : Heap} : ∀ (W : Wd w.params mean mg mb H0) (hs : H0.StaysIn s.heap) (hdp : dp + 9 < recursionLimit) (hun : un + 80 < cLine) (hx : s.heap.get? bx = some (instObj 151 bd)) (hd : s.heap.get? bd = some (dictOf es n)) (B : BoxD es ll nx top) (hll : s.heap.get? ll = some (listOf (las.map Value.ref).toArray m0)) (hne : @Ne Nat bx bd) (hne2 : @Ne Nat bx ll) (hne3 : @Ne Nat bd ll) (hd0 : H0.get? bd = none) (hl0 : H0.get? ll = none) (kG : hG.StaysIn s.heap) (gd0 : hG.get? bd = none) (gl0 : hG.get? ll = none) (hds : LetsAt hG las ds) (hlen : las.length ≤ 100) (hui : ∀ (i : Nat) (d : Let), ds[i]? = some d → d.uid = (i : Int) + 1) (hdk : ds[k]? = some d) (huid : uid = (k : Int) + 1) (hdu : ∀ x ∈ d.fl, x ∈ UNI) (hfa : IsTup s.heap fa nvs.toArray) (hnv : StrsAre nvs ts) (hts : ∀ x ∈ ts, x ∈ UNI) (htl : ts.length < 60) (ret0 : ∀ h' tk', s.heap.StaysIn h' → d.fl = canon ts → Q (.bool false) { s with heap := h', toks := tk' }) (ret1 : ∀ x h' tk' es' n' m', (hideAll s.heap [bd, ll]).StaysIn h' → h'.get? bd = some (dictOf es' n') → BoxD es' ll nx (top + 1) → h'.get? ll = some (listOf ((las.set k x).map Value.ref).toArray m') →
      LetsAt (lift hG s.heap h') (las.set k x) (ds.set k ⟨uid, canon ts, top + 1⟩) → d.fl ≠ canon ts → Q (.bool true) { s with heap := h', toks := tk' }),
    wpAny (model PySem.Challenge.rw_no0367_01.row.prog w) (Ar dp un fr gd) (call (.ref 183) [.ref bx, .int uid t, .ref fa]) Q E s :=
  eps_all (P := SEP) SEne (by with_unfolding_all exact SEc.pf) (w, dp, un, fr, gd, s, mean, mg, mb, E, H0, Q, bx, bd, ll, fa, es, n, m0, nx, top, las, ds, d, nvs, ts, uid, t, k, hG)


/-- what hG holds beside the ground g, as a ledger's tail; the addresses in muts are in neither -/
structure Imm (g hG : Heap) (muts : List Addr) (imm : List (Addr × Obj)) : Prop where
  up : g.StaysIn hG
  inn : ∀ b o, hG.get? b = some o → g.get? b = some o ∨ (b, o) ∈ imm
  off : ∀ p ∈ imm, hG.get? p.1 = some p.2 ∧ g.get? p.1 = none
  apart : ∀ b ∈ muts, hG.get? b = none
noncomputable def immOf (g H : Heap) : List (Addr × Obj) := (List.range H.objs.size).filterMap fun b => match g.get? b, H.get? b with | none, some o => some (b, o) | _, _ => none
theorem mem_immOf {g H : Heap} {b : Addr} {o : Obj} : (b, o) ∈ immOf g H ↔ g.get? b = none ∧ H.get? b = some o := by
  unfold immOf
  rw [List.mem_filterMap]
  constructor
  · rintro ⟨c, _, hc⟩
    cases h1 : g.get? c <;> cases h2 : H.get? c <;> rw [h1, h2] at hc <;> simp at hc
    obtain ⟨rfl, rfl⟩ := hc
    exact ⟨h1, h2⟩
  · rintro ⟨h1, h2⟩
    exact ⟨b, List.mem_range.mpr (Heap.lt_size h2), by rw [h1, h2]⟩
theorem Imm.of {g H : Heap} {muts : List Addr} (up : g.StaysIn H) (ap : ∀ b ∈ muts, H.get? b = none) : Imm g H muts (immOf g H) where
  up := up
  inn b o e := by
    cases q : g.get? b with
    | none => exact .inr (mem_immOf.mpr ⟨q, e⟩)
    | some o' => left; rw [up b o' q] at e; exact e
  off p hp := let x := (mem_immOf (b := p.1) (o := p.2)).mp hp; ⟨x.2, x.1⟩
  apart := ap
theorem Imm.nil {g hG : Heap} {muts : List Addr} (e : g = hG) (ap : ∀ b ∈ muts, g.get? b = none) : Imm g hG muts [] where
  up := fun _ _ x => e ▸ x
  inn := fun b o x => .inl (e ▸ x)
  off := fun _ h => nomatch h
  apart := fun b hb => e ▸ ap b hb
theorem Imm.less {g hG : Heap} {muts muts' : List Addr} {imm : List (Addr × Obj)} (I : Imm g hG muts imm) (h : ∀ b ∈ muts', b ∈ muts) : Imm g hG muts' imm := ⟨I.up, I.inn, I.off, fun b hb => I.apart b (h b hb)⟩
theorem Imm.more {g hG : Heap} {muts : List Addr} {imm : List (Addr × Obj)} (I : Imm g hG muts imm) {b : Addr} (h : g.get? b = none) (hn : ∀ p ∈ imm, p.1 ≠ b) : Imm g hG (b :: muts) imm := ⟨I.up, I.inn, I.off, fun c hc => by
  rcases List.mem_cons.mp hc with rfl | hc
  · cases q : hG.get? c with
    | none => rfl
    | some o => exact (I.inn c o q).elim (fun e => by rw [h] at e; cases e) fun e => absurd rfl (hn _ e)
  · exact I.apart c hc⟩
theorem Imm.ne {g hG : Heap} {muts : List Addr} {imm : List (Addr × Obj)} (I : Imm g hG muts imm) {b : Addr} (h : b ∈ muts) : ∀ p ∈ imm, p.1 ≠ b := fun p hp q => by
  have := (I.off p hp).1
  rw [q, I.apart b h] at this; cases this
theorem Imm.stays {g0 g hG h : Heap} {L : Addr} {muts : List Addr} {imm news : List (Addr × Obj)} {m : Str → Option Value} (I : Imm g0 hG muts imm) (kg : g0.StaysIn g) (F : Fr g L h m) (N : News g L h news) (hs : ∀ p ∈ imm, p ∈ news) : hG.StaysIn h := fun b o e =>
  (I.inn b o e).elim (fun q => F.keep b o (kg b o q)) fun q => (N _ (hs _ q)).1
/-- a ledger in which the entries of bd and ll and the tail are told anew -/
inductive UpdT (bd ll : Addr) (imm : List (Addr × Obj)) : List (Addr × Obj) → (Obj → Obj → List (Addr × Obj) → List (Addr × Obj)) → Prop
  | base : UpdT bd ll imm imm (fun _ _ i => i)
  | b {o r g} : UpdT bd ll imm r g → UpdT bd ll imm ((bd, o) :: r) (fun x y i => (bd, x) :: g x y i)
  | l {o r g} : UpdT bd ll imm r g → UpdT bd ll imm ((ll, o) :: r) (fun x y i => (ll, y) :: g x y i)
  | k {p r g} : p.1 ≠ bd → p.1 ≠ ll → UpdT bd ll imm r g → UpdT bd ll imm (p :: r) (fun x y i => p :: g x y i)
theorem UpdT.tail {bd ll : Addr} {imm news : List (Addr × Obj)} {gg : Obj → Obj → List (Addr × Obj) → List (Addr × Obj)} (U : UpdT bd ll imm news gg) : ∀ p ∈ imm, p ∈ news := by
  induction U with
  | base => exact fun _ h => h
  | b _ ih => exact fun p h => .tail _ (ih p h)
  | l _ ih => exact fun p h => .tail _ (ih p h)
  | k _ _ _ ih => exact fun p h => .tail _ (ih p h)
theorem UpdT.mem {bd ll : Addr} {imm news : List (Addr × Obj)} {gg : Obj → Obj → List (Addr × Obj) → List (Addr × Obj)} (U : UpdT bd ll imm news gg) {x y : Obj} {i : List (Addr × Obj)} : ∀ p ∈ gg x y i, p = (bd, x) ∨ p = (ll, y) ∨ p ∈ i ∨ (p ∈ news ∧ p.1 ≠ bd ∧ p.1 ≠ ll) := by
  induction U with
  | base => exact fun _ h => .inr (.inr (.inl h))
  | b _ ih =>
    intro p h
    rcases List.mem_cons.mp h with rfl | h
    · exact .inl rfl
    · exact (ih p h).elim .inl fun q => .inr (q.elim .inl fun q => .inr (q.elim .inl fun q => .inr ⟨.tail _ q.1, q.2⟩))
  | l _ ih =>
    intro p h
    rcases List.mem_cons.mp h with rfl | h
    · exact .inr (.inl rfl)
    · exact (ih p h).elim .inl fun q => .inr (q.elim .inl fun q => .inr (q.elim .inl fun q => .inr ⟨.tail _ q.1, q.2⟩))
  | k h1 h2 _ ih =>
    intro p h
    rcases List.mem_cons.mp h with rfl | h
    · exact .inr (.inr (.inr ⟨.head _, h1, h2⟩))
    · exact (ih p h).elim .inl fun q => .inr (q.elim .inl fun q => .inr (q.elim .inl fun q => .inr ⟨.tail _ q.1, q.2⟩))
theorem mutT {P : Prop} {g0 g hG h h' : Heap} {L bd ll : Addr} {o1 o2 : Obj} {m : Str → Option Value} {muts : List Addr} {imm news : List (Addr × Obj)} {gg : Obj → Obj → List (Addr × Obj) → List (Addr × Obj)} (F : Fr g L h m) (N : News g L h news) (I : Imm g0 hG muts imm) (kg : g0.StaysIn g) (U : UpdT bd ll imm news gg)
    (hb : bd ≠ L ∧ g.get? bd = none) (hl : ll ≠ L ∧ g.get? ll = none) (mb : bd ∈ muts) (ml : ll ∈ muts) (mL : L ∈ muts) (live : ∀ b ∈ muts, ∃ o, h.get? b = some o)
    (k : (hideAll h [bd, ll]).StaysIn h') (e1 : h'.get? bd = some o1) (e2 : h'.get? ll = some o2)
    (c : ∀ imm', Imm g0 (lift hG h h') muts imm' → Fr g L h' m → News g L h' (gg o1 o2 imm') → P) : P := by
  have k' : ∀ b ob, b ≠ bd → b ≠ ll → h.get? b = some ob → h'.get? b = some ob := fun b ob n1 n2 q => k b ob (hideAll_get _ q (by simp [n1, n2]))
  have hGh := I.stays kg F N U.tail
  have hGh' : hG.StaysIn h' := fun b o e => k' b o (by rintro rfl; rw [I.apart _ mb] at e; cases e) (by rintro rfl; rw [I.apart _ ml] at e; cases e) (hGh b o e)
  have F' : Fr g L h' m := ⟨F.ns.at' fun o' q => k' _ _ (Ne.symm hb.1) (Ne.symm hl.1) q, fun b o e => k' b o (by rintro rfl; rw [hb.2] at e; cases e) (by rintro rfl; rw [hl.2] at e; cases e) (F.keep b o e), F.above⟩
  have I' : Imm g0 (lift hG h h') muts (immOf g0 (lift hG h h')) := .of (fun b o e => lift_old hGh' b o (I.up b o e)) fun b hb => let ⟨o, e⟩ := live b hb; lift_off e (I.apart b hb)
  refine c _ I' F' fun p hp => ?_
  rcases U.mem p hp with rfl | rfl | q | ⟨q, n1, n2⟩
  · exact ⟨e1, hb⟩
  · exact ⟨e2, hl⟩
  · refine ⟨lift_sub _ _ (I'.off p q).1, I'.ne mL p q, ?_⟩
    rcases lift_cases (I'.off p q).1 with ⟨o, z⟩ | z
    · rcases I.inn _ _ z with y | y
      · rw [(I'.off p q).2] at y; cases y
      · exact (N _ (U.tail _ y)).2.2
    · exact (Fr.fresh F z).2
  · exact ⟨k' _ _ n1 n2 (N p q).1, (N p q).2⟩
theorem Imm.live {g0 g hG h : Heap} {L : Addr} {m : Str → Option Value} {muts : List Addr} {imm news : List (Addr × Obj)} (_I : Imm g0 hG muts imm) (F : Fr g L h m) (N : News g L h news) (hm : ∀ b ∈ muts, b = L ∨ b ∈ news.map (·.1)) : ∀ b ∈ muts, ∃ o, h.get? b = some o := fun b hb => by
  rcases hm b hb with rfl | q
  · obtain ⟨o, _, _, e, _⟩ := F.ns
    exact ⟨o, e⟩
  · obtain ⟨p, hp, rfl⟩ := List.mem_map.mp q
    exact ⟨_, (N p hp).1⟩
/-- what "unless" refuses -/
noncomputable def RefV (uv : Value) (rf : Let → Bool) : Prop := (uv = .none ∧ rf = fun _ => false) ∨ ∃ u t, uv = .int u t ∧ rf = fun d => decide (u < d.ms)
section
variable {w : World} {dp un : Nat} {fr : Option (List Env)} {gd : Option (List Code)} {E : Value → Shared → Prop} {s : Shared} {H0 : Heap} {mean : ExcName → Option Value} {mg mb : Str → Option Value} {Q : Value → Shared → Prop}
theorem is_refused_spec (W : Wd w.params mean mg mb H0) (hs : H0.StaysIn s.heap) (hdp : dp + 1 < recursionLimit) {a : Addr} {d : Let} {uv : Value} {rf : Let → Bool} (hl : LetAt s.heap a d) (R : RefV uv rf)
    (ret : ∀ h' tk', s.heap.StaysIn h' → Q (.bool (rf d)) { s with heap := h', toks := tk' }) : wpAny (model PySem.Challenge.rw_no0367_01.row.prog w) (Ar dp un fr gd) (call (.ref 210) [.ref a, uv]) Q E s := by
  rcases R with ⟨rfl, rfl⟩ | ⟨u, t, rfl, rfl⟩
  · exact is_refused_none W hs hdp ret
  · exact is_refused_int W hs hdp hl u t fun b h' tk' k e => e ▸ ret h' tk' k
end

example : True := by
  k_with "MINE boxd" => (first | with_reducible assumption | exact Fr.keep (by with_reducible assumption) _ _ (by with_reducible assumption) | exact News.get (by assumption) (by first | k_extra "MINE mem" | k_mem))
  trivial
example : True := by
  k_with "call ref" => ((k_here; (with_reducible show wpAny _ _ (call (Value.ref 162) _) _ _ _); k_dflt (refine' place_of_spec (by first | (assumption) | fail) (by first | (k_extra "MINE stays") | fail) (by first | (k_extra "MINE room") | fail) (by first | (k_extra "MINE room") | fail) (by first | (k_extra "MINE list") | fail) (by first | (k_extra "MINE ar") | fail) (by first | assumption | exact UidsAt.keeps (by assumption) (Fr.keep (by assumption)) | fail) ?_; k_whole); intro _ _ _ _ k9 hr9; (rename Fr _ _ _ _ => F9); (rename News _ _ _ _ => N9); (have F' := Fr.grow F9 k9); (have N' := News.grow N9 k9); clear F9 N9 k9; (try dsimp only); (try (revert hr9 F' N'; intros)); (try k_fold)))
  trivial
example : True := by
  k_with "call ref" => ((k_here; (with_reducible show wpAny _ _ (call (Value.ref 223) _) _ _ _); k_dflt (refine' distinct_spec (by first | (assumption) | fail) (by first | (k_extra "MINE stays") | fail) (by first | (k_extra "MINE room") | fail) (by first | (k_extra "MINE list") | fail) (by first | (k_extra "MINE ints") | fail) (by first | (k_extra "MINE ar") | fail) ?_; k_whole); intro _ _ _ _ _ _ k9 e9 e9' hI9 hP9 hM9 hL9; (rename Fr _ _ _ _ => F9; rename News _ _ _ _ => N9; have l9 := News.ne N9 e9; have F' := Fr.grow F9 k9; have N' := News.add F9 N9 k9 e9 e9'; clear F9 N9 k9 e9 e9'; (try dsimp only); (try (revert hI9 hP9 hM9 hL9 l9 F' N'; intros)); (try k_fold))))
  trivial
example : True := by
  k_with "call ref" => ((k_here; (with_reducible show wpAny _ _ (call (Value.ref 210) _) _ _ _); k_dflt (refine' is_refused_spec (by first | (assumption) | fail) (by first | (k_extra "MINE stays") | fail) (by first | (k_extra "MINE room") | fail) (by first | assumption | exact LetAt.keeps (by assumption) (Fr.keep (by assumption)) | fail) (by first | (assumption) | fail) ?_; k_whole); k_extra "MINE grow0"))
  trivial
example : True := by
  k_with "k_updT" => (first | exact UpdT.base | (refine' UpdT.b ?_; k_extra "k_updT") | (refine' UpdT.l ?_; k_extra "k_updT") | (refine' UpdT.k (by first | (k_ne) | fail) (by first | (k_ne) | fail) ?_; k_extra "k_updT"))
  trivial

noncomputable def stepF (ds0 : List Let) (rf : Let → Bool) (wy : Nat) (ts : List Str) (S : List Let × Int × List Int) (k : Nat) : List Let × Int × List Int :=
  match ds0[k]? with
  | none => S
  | some d => if rf d = true then S else if d.fl = canon (aft wy d.fl ts) then S else (S.1.set k ⟨(k : Int) + 1, canon (aft wy d.fl ts), S.2.1 + 1⟩, S.2.1 + 1, S.2.2 ++ [(k : Int) + 1])
noncomputable def runF (ds0 : List Let) (rf : Let → Bool) (wy : Nat) (ts : List Str) (ks : List Nat) (top : Int) : List Let × Int × List Int := ks.foldl (stepF ds0 rf wy ts) (ds0, top, [])
theorem runF_take {ds0 : List Let} {rf : Let → Bool} {wy : Nat} {ts : List Str} {ks : List Nat} {top : Int} {i k : Nat} (h : ks[i]? = some k) : runF ds0 rf wy ts (ks.take (i + 1)) top = stepF ds0 rf wy ts (runF ds0 rf wy ts (ks.take i) top) k := by
  unfold runF
  rw [List.take_add_one, h, List.foldl_append]; rfl
theorem stepF_out {ds0 : List Let} {rf : Let → Bool} {wy : Nat} {ts : List Str} {S : List Let × Int × List Int} {k : Nat} {d : Let} (h : ds0[k]? = some d) (hq : rf d = true) : stepF ds0 rf wy ts S k = S := by
  unfold stepF; rw [h]; exact if_pos hq
theorem stepF_same {ds0 : List Let} {rf : Let → Bool} {wy : Nat} {ts : List Str} {S : List Let × Int × List Int} {k : Nat} {d : Let} (h : ds0[k]? = some d) (hq : rf d = false) (he : d.fl = canon (aft wy d.fl ts)) : stepF ds0 rf wy ts S k = S := by
  unfold stepF; rw [h]; dsimp only; rw [hq, if_neg Bool.false_ne_true, if_pos he]
theorem stepF_new {ds0 : List Let} {rf : Let → Bool} {wy : Nat} {ts : List Str} {S : List Let × Int × List Int} {k : Nat} {d : Let} (h : ds0[k]? = some d) (hq : rf d = false) (he : d.fl ≠ canon (aft wy d.fl ts)) :
    stepF ds0 rf wy ts S k = (S.1.set k ⟨(k : Int) + 1, canon (aft wy d.fl ts), S.2.1 + 1⟩, S.2.1 + 1, S.2.2 ++ [(k : Int) + 1]) := by
  unfold stepF; rw [h]; dsimp only; rw [hq, if_neg Bool.false_ne_true, if_neg he]
theorem stepF_or {ds0 : List Let} {rf : Let → Bool} {wy : Nat} {ts : List Str} (S : List Let × Int × List Int) (k : Nat) : stepF ds0 rf wy ts S k = S ∨ ∃ fl m cs, stepF ds0 rf wy ts S k = (S.1.set k ⟨(k : Int) + 1, canon fl, m⟩, cs) := by
  cases h : ds0[k]? with
  | none => left; unfold stepF; rw [h]
  | some d =>
    cases hq : rf d with
    | true => exact .inl (stepF_out h hq)
    | false =>
      by_cases he : d.fl = canon (aft wy d.fl ts)
      · exact .inl (stepF_same h hq he)
      · exact .inr ⟨_, _, _, stepF_new h hq he⟩
theorem stepF_len {ds0 : List Let} {rf : Let → Bool} {wy : Nat} {ts : List Str} {S : List Let × Int × List Int} {k : Nat} : (stepF ds0 rf wy ts S k).1.length = S.1.length := by
  rcases stepF_or (ds0 := ds0) (rf := rf) (wy := wy) (ts := ts) S k with e | ⟨_, _, _, e⟩
  · rw [e]
  · rw [e, List.length_set]
theorem stepF_other {ds0 : List Let} {rf : Let → Bool} {wy : Nat} {ts : List Str} {S : List Let × Int × List Int} {k j : Nat} (h : j ≠ k) : (stepF ds0 rf wy ts S k).1[j]? = S.1[j]? := by
  rcases stepF_or (ds0 := ds0) (rf := rf) (wy := wy) (ts := ts) S k with e | ⟨_, _, _, e⟩
  · rw [e]
  · rw [e]; exact List.getElem?_set_ne (Ne.symm h)
theorem stepF_uid {ds0 : List Let} {rf : Let → Bool} {wy : Nat} {ts : List Str} {S : List Let × Int × List Int} {k : Nat} (h : ∀ (i : Nat) (d : Let), S.1[i]? = some d → d.uid = (i : Int) + 1) : ∀ (i : Nat) (d : Let), (stepF ds0 rf wy ts S k).1[i]? = some d → d.uid = (i : Int) + 1 := by
  intro i d e
  rcases stepF_or (ds0 := ds0) (rf := rf) (wy := wy) (ts := ts) S k with z | ⟨_, _, _, z⟩
  · rw [z] at e; exact h i d e
  · rw [z, List.getElem?_set] at e
    by_cases q : k = i
    · rw [if_pos q] at e
      by_cases l : k < S.1.length
      · rw [if_pos l] at e; rw [← Option.some.inj e, q]
      · rw [if_neg l] at e; cases e
    · rw [if_neg q] at e; exact h i d e
theorem runF_len {ds0 : List Let} {rf : Let → Bool} {wy : Nat} {ts : List Str} (ks : List Nat) (S : List Let × Int × List Int) : (ks.foldl (stepF ds0 rf wy ts) S).1.length = S.1.length := by
  induction ks generalizing S with
  | nil => rfl
  | cons k r ih => rw [List.foldl_cons, ih, stepF_len]
theorem runF_other {ds0 : List Let} {rf : Let → Bool} {wy : Nat} {ts : List Str} {j : Nat} (ks : List Nat) (S : List Let × Int × List Int) (h : j ∉ ks) : (ks.foldl (stepF ds0 rf wy ts) S).1[j]? = S.1[j]? := by
  induction ks generalizing S with
  | nil => rfl
  | cons k r ih => rw [List.foldl_cons, ih _ (fun q => h (.tail _ q)), stepF_other (fun q => h (List.mem_cons.mpr (.inl q)))]
theorem runF_uid {ds0 : List Let} {rf : Let → Bool} {wy : Nat} {ts : List Str} (ks : List Nat) (S : List Let × Int × List Int) (h : ∀ (i : Nat) (d : Let), S.1[i]? = some d → d.uid = (i : Int) + 1) : ∀ (i : Nat) (d : Let), (ks.foldl (stepF ds0 rf wy ts) S).1[i]? = some d → d.uid = (i : Int) + 1 := by
  induction ks generalizing S with
  | nil => exact h
  | cons k r ih => rw [List.foldl_cons]; exact ih _ (stepF_uid h)
/-- the places of the uids that are there -/
noncomputable def keysOf (N : Nat) (us : List Int) : List Nat := (us.filter fun (u : Int) => decide (1 ≤ u ∧ u ≤ (N : Int))).map fun (u : Int) => (u - 1).toNat
/-- what place_of answers, among N letters -/
noncomputable abbrev plcOf (N : Nat) (u : Int) : Int := if 1 ≤ u ∧ u ≤ (N : Int) then u - 1 else -1
theorem plc_lt {N : Nat} {u x : Int} (h : plcOf N u = x) (hN : N ≤ 100) : x < N ∧ x < 1000 := by
  have h1 : x < N := by
    by_cases q : 1 ≤ u ∧ u ≤ (N : Int)
    · rw [plcOf, if_pos q] at h; rw [← h]; exact Int.lt_of_lt_of_le (Int.sub_lt_self u (by decide)) q.2
    · rw [plcOf, if_neg q] at h; rw [← h]; exact Int.lt_of_lt_of_le (by decide) (Int.natCast_nonneg _)
  exact ⟨h1, Int.lt_trans h1 (Int.ofNat_lt.mpr (lt_lit hN rfl))⟩
theorem plc_in {N : Nat} {u x : Int} (h : plcOf N u = x) (h0 : 0 ≤ x) : (1 ≤ u ∧ u ≤ (N : Int)) ∧ x.toNat = (u - 1).toNat := by
  by_cases q : 1 ≤ u ∧ u ≤ (N : Int)
  · rw [plcOf, if_pos q] at h; exact ⟨q, by rw [h]⟩
  · rw [plcOf, if_neg q] at h; rw [← h] at h0; exact absurd h0 (by decide)
theorem plc_out {N : Nat} {u x : Int} (h : plcOf N u = x) (h0 : ¬ 0 ≤ x) : ¬ (1 ≤ u ∧ u ≤ (N : Int)) := fun q => h0 (by rw [plcOf, if_pos q] at h; rw [← h]; exact Int.sub_nonneg_of_le q.1)
theorem keysOf_snoc {N : Nat} {us : List Int} {i : Nat} {u : Int} (hu : us[i]? = some u) : keysOf N (us.take (i + 1)) = keysOf N (us.take i) ++ (if 1 ≤ u ∧ u ≤ (N : Int) then [(u - 1).toNat] else []) := by
  unfold keysOf
  rw [take_snoc hu, List.filter_append, List.map_append]
  congr 1
  by_cases q : 1 ≤ u ∧ u ≤ (N : Int) <;> simp [List.filter, q]
theorem keys_in {N : Nat} {us : List Int} {i : Nat} {u x : Int} {las : List Addr} {a : Addr} {zs : List Value} (hz : zs = (keysOf N (us.take i)).map fun k => Value.ref (las.getD k 0)) (hu : us[i]? = some u) (h : plcOf N u = x) (h0 : 0 ≤ x) (ha : las[x.toNat]? = some a) :
    zs ++ [.ref a] = (keysOf N (us.take (i + 1))).map fun k => Value.ref (las.getD k 0) := by
  obtain ⟨h1, h2⟩ := plc_in h h0
  rw [keysOf_snoc hu, if_pos h1, List.map_append, hz, ← h2]
  simp [List.getD_eq_getElem?_getD, ha]
theorem keys_out {N : Nat} {us : List Int} {i : Nat} {u x : Int} {las : List Addr} {zs : List Value} (hz : zs = (keysOf N (us.take i)).map fun k => Value.ref (las.getD k 0)) (hu : us[i]? = some u) (h : plcOf N u = x) (h0 : ¬ 0 ≤ x) :
    zs = (keysOf N (us.take (i + 1))).map fun k => Value.ref (las.getD k 0) := by
  rw [keysOf_snoc hu, if_neg (plc_out h h0), List.append_nil, hz]
theorem keysOf_up {N : Nat} {us : List Int} (h : us.Pairwise (· < ·)) : (keysOf N us).Pairwise (· < ·) := by
  unfold keysOf
  rw [List.pairwise_map]
  refine (List.Pairwise.filter _ h).imp_of_mem fun {a b} ha hb hab => ?_
  have h1 := (of_decide_eq_true (List.mem_filter.mp ha).2).1
  exact toN_lt (Int.sub_lt_sub_right hab 1) (Int.sub_pos_of_lt (Int.lt_of_le_of_lt h1 hab))
theorem mem_keysOf {N : Nat} {us : List Int} {k : Nat} : k ∈ keysOf N us ↔ k < N ∧ ((k : Int) + 1) ∈ us := by
  unfold keysOf
  rw [List.mem_map]
  constructor
  · rintro ⟨u, hu, rfl⟩
    have h1 := of_decide_eq_true (List.mem_filter.mp hu).2
    have h2 := Int.sub_nonneg_of_le h1.1
    refine ⟨(Int.toNat_lt h2).mpr (Int.lt_of_lt_of_le (Int.sub_lt_self u (by decide)) h1.2), ?_⟩
    rw [Int.toNat_of_nonneg h2, Int.sub_add_cancel]
    exact (List.mem_filter.mp hu).1
  · rintro ⟨h1, h2⟩
    exact ⟨(k : Int) + 1, List.mem_filter.mpr ⟨h2, decide_eq_true ⟨Int.add_le_add_right (Int.natCast_nonneg k) 1, Int.ofNat_le.mpr h1⟩⟩, by rw [Int.add_sub_cancel]; rfl⟩
theorem nat_up_ext : ∀ (l k : List Nat), l.Pairwise (· < ·) → k.Pairwise (· < ·) → (∀ x, x ∈ l ↔ x ∈ k) → l = k
  | [], [], _, _, _ => rfl
  | [], b :: k, _, _, h => absurd ((h b).mpr (.head _)) (by simp)
  | a :: l, [], _, _, h => absurd ((h a).mp (.head _)) (by simp)
  | a :: l, b :: k, h1, h2, h => by
    have p1 := List.pairwise_cons.mp h1
    have p2 := List.pairwise_cons.mp h2
    have e : a = b := by
      rcases List.mem_cons.mp ((h a).mp (.head _)) with q | q
      · exact q
      · rcases List.mem_cons.mp ((h b).mpr (.head _)) with z | z
        · exact z.symm
        · exact absurd (p1.1 _ z) (Nat.lt_asymm (p2.1 _ q))
    subst e
    rw [nat_up_ext l k p1.2 p2.2 fun x => ⟨fun q => (List.mem_cons.mp ((h x).mp (.tail _ q))).elim (fun z => absurd (z ▸ p1.1 _ q) (Nat.lt_irrefl _)) id, fun q => (List.mem_cons.mp ((h x).mpr (.tail _ q))).elim (fun z => absurd (z ▸ p2.1 _ q) (Nat.lt_irrefl _)) id⟩]
/-- the same, told from the numbers asked for -/
noncomputable def keysIn (N : Nat) (us : List Int) : List Nat := (List.range N).filter fun (k : Nat) => us.any (· == (k : Int) + 1)
theorem keysOf_eq {N : Nat} {us us' : List Int} (h : us'.Pairwise (· < ·)) (hm : ∀ x, x ∈ us' ↔ x ∈ us) : keysOf N us' = keysIn N us := by
  refine nat_up_ext _ _ (keysOf_up h) (List.pairwise_lt_range.filter _) fun x => ?_
  rw [mem_keysOf, hm, keysIn, List.mem_filter, List.mem_range]
  simp
theorem lt_all {news : List (Addr × Obj)} {D : Addr} (h : ∀ p ∈ news, p.1 < D) : ∀ p ∈ news, p.1 ≠ D := fun p hp => Nat.ne_of_lt (h p hp)
theorem lt_ne1 {news : List (Addr × Obj)} {D a : Addr} {o : Obj} (h : ∀ p ∈ news, p.1 < D) (m : (a, o) ∈ news) : @Ne Nat a D := Nat.ne_of_lt (h _ m)
theorem lt_ne2 {news : List (Addr × Obj)} {D a : Addr} {o : Obj} (h : ∀ p ∈ news, p.1 < D) (m : (a, o) ∈ news) : @Ne Nat D a := Nat.ne_of_gt (h _ m)
theorem an_ne1 {news : List (Addr × Obj)} {D a : Addr} {o : Obj} (h : AllNe D news) (m : (a, o) ∈ news) : @Ne Nat a D := allNe_to news h _ m
theorem an_ne2 {news : List (Addr × Obj)} {D a : Addr} {o : Obj} (h : AllNe D news) (m : (a, o) ∈ news) : @Ne Nat D a := Ne.symm (allNe_to news h _ m)
/-- two places that differ (told so that omega does not see it) -/
noncomputable def NE (a b : Addr) : Prop := @Ne Nat a b
theorem NE.ne {a b : Addr} (h : NE a b) : @Ne Nat a b := h
theorem NE.ne' {a b : Addr} (h : NE a b) : @Ne Nat b a := Ne.symm h
theorem Imm.live2 {g0 g hG h : Heap} {L : Addr} {m : Str → Option Value} {muts : List Addr} {imm news : List (Addr × Obj)} (_I : Imm g0 hG muts imm) (F : Fr g L h m) (N : News g L h news) (hm : ∀ b ∈ muts, b = L ∨ ∃ o, (b, o) ∈ news) : ∀ b ∈ muts, ∃ o, h.get? b = some o := fun b hb => by
  rcases hm b hb with rfl | ⟨o, q⟩
  · obtain ⟨o, _, _, e, _⟩ := F.ns
    exact ⟨o, e⟩
  · exact ⟨_, (N _ q).1⟩
theorem mem_push {its imm : List (Addr × Obj)} {x y : Addr × Obj} : ∀ p ∈ its ++ x :: y :: imm, p ∈ y :: (its ++ x :: imm) := fun p hp => by
  simp only [List.mem_append, List.mem_cons] at hp ⊢
  rcases hp with h | h | h | h <;> simp [h]

local macro_rules | `(tactic| k_lt $_h) => `(tactic| skip)
example : True := by
  k_with "MINE mem" => (repeat (first | with_reducible exact List.mem_cons_self | with_reducible apply List.mem_cons_of_mem))
  trivial
example : True := by
  k_with "MINE k_ne" => ((refine neN ?_; (try dsimp only); first | with_reducible exact NE.ne (by with_reducible assumption) | with_reducible exact NE.ne' (by with_reducible assumption) | with_reducible assumption | with_reducible exact Ne.symm (by with_reducible assumption) | with_reducible exact lt_ne1 (by with_reducible assumption) (by k_extra "MINE mem") | with_reducible exact lt_ne2 (by with_reducible assumption) (by k_extra "MINE mem") | with_reducible exact an_ne1 (by with_reducible assumption) (by k_extra "MINE mem") | with_reducible exact an_ne2 (by with_reducible assumption) (by k_extra "MINE mem") | omega))
  trivial
local macro_rules | `(tactic| k_ne) => `(tactic| k_extra "MINE k_ne")
example : True := by
  k_with "MINE k_all" => (first | with_reducible assumption | exact allLt_to _ (by with_reducible assumption) | exact allNe_to _ (by with_reducible assumption) | exact lt_all (by with_reducible assumption))
  trivial
local macro_rules | `(tactic| k_all) => `(tactic| k_extra "MINE k_all")

theorem isListOf {h : Heap} {a : Addr} {items : Array Value} {n : Nat} (e : h.get? a = some (PySem.W.listOf items n)) : h.IsList a items := ⟨_, e, rfl, n, rfl⟩
theorem ints_snoc {vs : List Value} {ns : List Int} (h : IntsAre vs ns) (x : Int) (t : Tok) : IntsAre (vs ++ [.int x t]) (ns ++ [x]) := h.append (.cons x t .nil)
theorem aft_uni {wy : Nat} {fl ts : List Str} (h : ∀ x ∈ fl, x ∈ UNI) : ∀ x ∈ aft wy fl ts, x ∈ UNI := by
  intro x hx
  unfold aft at hx
  split at hx
  · exact canon_uni _ x hx
  · split at hx
    · exact h x (List.mem_filter.mp hx).1
    · exact canon_uni _ x hx
theorem aft_len {wy : Nat} {fl ts : List Str} (h : fl.length ≤ 5) : (aft wy fl ts).length ≤ 5 := by
  unfold aft
  split
  · exact canon_len _
  · split
    · exact Nat.le_trans (List.length_filter_le _ _) h
    · exact canon_len _
example : True := by
  k_with "MINE halt" => (((fail_if_success (with_reducible show wpAny _ _ (PySem.exec (PySem.Stmt.While _ _ _ _) _) _ _ _)); (fail_if_success (with_reducible show wpAny _ _ (PySem.exec (PySem.Stmt.For _ _ _ _ _) _) _ _ _)); (fail_if_success (with_reducible show wpAny _ _ (PySem.eval (PySem.Expr.ListComp _ _ _ _) _) _ _ _)); (fail_if_success (with_reducible show wpAny _ _ (PySem.exec (PySem.Stmt.Raise _ _ _) _) _ _ _)); (fail_if_success (with_reducible show wpAny _ _ (call (Value.ref 183) _) _ _ _)); (fail_if_success (with_reducible show wpAny _ _ (PySem.exec (PySem.Stmt.Assign _ (PySem.Expr.ListComp _ _ _ _) _) _) _ _ _))))
  trivial
example : True := by
  k_with "call ref" => ((k_here; (with_reducible show wpAny _ _ (call (Value.ref 188) _) _ _ _); k_dflt (refine' flags_after_spec (by first | (assumption) | fail) (by first | (k_extra "MINE stays") | fail) (by first | (k_extra "MINE room") | fail) (by first | (k_extra "MINE room") | fail) (by first | assumption | exact LetAt.keeps (by assumption) (Fr.keep (by assumption)) | fail) (by first | (assumption) | fail) (by first | (assumption) | fail) (by first | (k_extra "MINE list") | fail) (by first | (k_extra "MINE strs") | fail) (by first | (assumption) | fail) (by first | (assumption) | fail) _ _ (by first | (assumption) | fail) ?_; k_whole); intro _ _ _ _ k9 ht9 hS9; (rename Fr _ _ _ _ => F9; rename News _ _ _ _ => N9; have F' := Fr.grow F9 k9; have N' := News.grow N9 k9; clear F9 N9 k9; (try dsimp only); (try (revert ht9 hS9 F' N'; intros)); (try k_fold))))
  trivial
example : True := by
  k_with "MINE k_all" => (with_reducible assumption)
  trivial
local macro_rules | `(tactic| k_all) => `(tactic| k_extra "MINE k_all")
/-- between the turns of store_flags' loop -/
inductive SFJ (hG : Heap) (L c D3 D2 bd ll : Addr) (o1 o2 : Obj) (zs rs : List Value) (e2 e3 : Nat) (fa : Addr) (way : Value) (nx : Int) (R : List Let × Int × List Int) (i : Nat) (m : Str → Option Value) : List (Addr × Obj) → Prop
  | mk (es' : List DictEntry) (n' : Nat) (las' : List Addr) (m' : Nat) (hG' : Heap) (imm : List (Addr × Obj)) (cvs : List Value) (cn : Nat) : m "changed" = some (.ref c) → m "refused" = some (.ref D3) → m "flags" = some (.ref fa) → m "way" = some way →
    Imm hG hG' [L, c, D3, D2, L + 2, L + 1, bd, ll] imm → BoxD es' ll nx R.2.1 → LetsAt hG' las' R.1 → IntsAre cvs R.2.2 → cvs.length ≤ i →
    SFJ hG L c D3 D2 bd ll o1 o2 zs rs e2 e3 fa way nx R i m ((c, PySem.W.listOf cvs.toArray cn) :: (D3, PySem.W.listOf rs.toArray e3) :: (D2, PySem.W.listOf zs.toArray e2) :: (L + 2, o1) :: (L + 1, o2) :: (bd, dictOf es' n') :: (ll, PySem.W.listOf (las'.map Value.ref).toArray m') :: imm)
theorem one_all {news : List (Addr × Obj)} {I : Addr} {o : Obj} (h : ∀ p ∈ news, p.1 ≠ I) : ∀ p ∈ news, ∀ q ∈ [(I, o)], p.1 ≠ q.1 := fun p hp q hq => by rw [List.mem_singleton.mp hq]; exact h p hp
theorem not_before {KS : List Nat} (hup : KS.Pairwise (· < ·)) {i k : Nat} (hk : KS[i]? = some k) : k ∉ KS.take i := fun q => by
  have hil := List.getElem?_eq_some_iff.mp hk
  obtain ⟨j, hj, hjk⟩ := List.mem_iff_getElem.mp q
  rw [List.length_take] at hj
  have hj' : j < i := Nat.lt_of_lt_of_le hj (Nat.min_le_left _ _)
  rw [List.getElem_take] at hjk
  have := List.pairwise_iff_getElem.mp hup j i (Nat.lt_trans hj' hil.1) hil.1 hj'
  rw [hjk, hil.2] at this
  exact Nat.lt_irrefl _ this
noncomputable def SFG (w : World) (dp : Nat) (un : Nat) (fr : Option (List Env)) (gd : Option (List Code)) (s : Shared) (mean : ExcName → Option Value) (mg : Str → Option Value) (mb : Str → Option Value) (E : Value → Shared → Prop) (H0 : Heap) (Q : Value → Shared → Prop) (bx : Addr) (bd : Addr) (ll : Addr) (ul : Addr) (fa : Addr) (es : List DictEntry) (n : Nat) (m0 : Nat) (nx : Int) (top : Int) (las : List Addr) (ds : List Let) (uvs : List Value) (nvs : List Value) (us : List Int) (ts : List Str) (wy : Nat) (t : Tok) (uv : Value) (rf : Let → Bool) (hG : Heap) : Prop := ∀ (W : Wd w.params mean mg mb H0) (hs : H0.StaysIn s.heap) (hdp : dp + 14 < recursionLimit) (hun : un + 100 < cLine)
    (hx : s.heap.get? bx = some (instObj 151 bd)) (hd : s.heap.get? bd = some (dictOf es n)) (B : BoxD es ll nx top) (hll : s.heap.get? ll = some (listOf (las.map Value.ref).toArray m0)) (hne : @Ne Nat bx bd) (hne2 : @Ne Nat bx ll) (hne3 : @Ne Nat bd ll)
    (hd0 : H0.get? bd = none) (hl0 : H0.get? ll = none) (kG : hG.StaysIn s.heap) (gd0 : hG.get? bd = none) (gl0 : hG.get? ll = none) (hds : LetsAt hG las ds) (hlen : las.length ≤ 100)
    (hui : ∀ (i : Nat) (d : Let), ds[i]? = some d → d.uid = (i : Int) + 1) (hdu : ∀ d ∈ ds, ∀ x ∈ d.fl, x ∈ UNI) (hdl : ∀ d ∈ ds, d.fl.length ≤ 5)
    (hul : s.heap.IsList ul uvs.toArray) (huv : IntsAre uvs us) (hus : us.length < 60) (hull : @Ne Nat ul ll) (hfal : @Ne Nat fa ll)
    (hfa : s.heap.IsList fa nvs.toArray) (hnv : StrsAre nvs ts) (hts : ∀ x ∈ ts, x ∈ UNI) (htl : ts.length < 30) (hwy : wy < 3) (R : RefV uv rf)
    (ret : ∀ r h' tk' es' n' m' las', (hideAll s.heap [bd, ll]).StaysIn h' → h'.get? bd = some (dictOf es' n') → BoxD es' ll nx (runF ds rf wy ts (keysIn ds.length us) top).2.1 → h'.get? ll = some (listOf (las'.map Value.ref).toArray m') →
      LetsAt (lift hG s.heap h') las' (runF ds rf wy ts (keysIn ds.length us) top).1 → ∀ c d cvs rvs cn rn, h'.get? r = some { cls := .type "tuple", data := .seq #[.ref c, .ref d] } → h'.get? c = some (listOf (List.toArray cvs) cn) → h'.get? d = some (listOf (List.toArray rvs) rn) → IntsAre cvs (runF ds rf wy ts (keysIn ds.length us) top).2.2 → IntsAre rvs (((keysIn ds.length us).filter fun k => (ds[k]?).any rf).map fun (k : Nat) => (k : Int) + 1) → s.heap.get? r = none → s.heap.get? c = none → s.heap.get? d = none → Q (.ref r) { s with heap := h', toks := tk' }),
    wpAny (model PySem.Challenge.rw_no0367_01.row.prog w) (Ar dp un fr gd) (call (.ref 216) [.ref bx, .ref ul, .str (wayStr wy) t, .ref fa, uv]) Q E s
noncomputable abbrev SFK : Type _ := (World) × (Nat) × (Nat) × (Option (List Env)) × (Option (List Code)) × (Shared) × (ExcName → Option Value) × (Str → Option Value) × (Str → Option Value) × (Value → Shared → Prop) × (Heap) × (Value → Shared → Prop) × (Addr) × (Addr) × (Addr) × (Addr) × (Addr) × (List DictEntry) × (Nat) × (Nat) × (Int) × (Int) × (List Addr) × (List Let) × (List Value) × (List Value) × (List Int) × (List Str) × (Nat) × (Tok) × (Value) × (Let → Bool) × (Heap)
noncomputable def SFP (k : SFK) : Prop := SFG (k.1) (k.2.1) (k.2.2.1) (k.2.2.2.1) (k.2.2.2.2.1) (k.2.2.2.2.2.1) (k.2.2.2.2.2.2.1) (k.2.2.2.2.2.2.2.1) (k.2.2.2.2.2.2.2.2.1) (k.2.2.2.2.2.2.2.2.2.1) (k.2.2.2.2.2.2.2.2.2.2.1) (k.2.2.2.2.2.2.2.2.2.2.2.1) (k.2.2.2.2.2.2.2.2.2.2.2.2.1) (k.2.2.2.2.2.2.2.2.2.2.2.2.2.1) (k.2.2.2.2.2.2.2.2.2.2.2.2.2.2.1) (k.2.2.2.2.2.2.2.2.2.2.2.2.2.2.2.1) (k.2.2.2.2.2.2.2.2.2.2.2.2.2.2.2.2.1) (k.2.2.2.2.2.2.2.2.2.2.2.2.2.2.2.2.2.1) (k.2.2.2.2.2.2.2.2.2.2.2.2.2.2.2.2.2.2.1) (k.2.2.2.2.2.2.2.2.2.2.2.2.2.2.2.2.2.2.2.1) (k.2.2.2.2.2.2.2.2.2.2.2.2.2.2.2.2.2.2.2.2.1) (k.2.2.2.2.2.2.2.2.2.2.2.2.2.2.2.2.2.2.2.2.2.1) (k.2.2.2.2.2.2.2.2.2.2.2.2.2.2.2.2.2.2.2.2.2.2.1) (k.2.2.2.2.2.2.2.2.2.2.2.2.2.2.2.2.2.2.2.2.2.2.2.1) (k.2.2.2.2.2.2.2.2.2.2.2.2.2.2.2.2.2.2.2.2.2.2.2.2.1) (k.2.2.2.2.2.2.2.2.2.2.2.2.2.2.2.2.2.2.2.2.2.2.2.2.2.1) (k.2.2.2.2.2.2.2.2.2.2.2.2.2.2.2.2.2.2.2.2.2.2.2.2.2.2.1) (k.2.2.2.2.2.2.2.2.2.2.2.2.2.2.2.2.2.2.2.2.2.2.2.2.2.2.2.1) (k.2.2.2.2.2.2.2.2.2.2.2.2.2.2.2.2.2.2.2.2.2.2.2.2.2.2.2.2.1) (k.2.2.2.2.2.2.2.2.2.2.2.2.2.2.2.2.2.2.2.2.2.2.2.2.2.2.2.2.2.1) (k.2.2.2.2.2.2.2.2.2.2.2.2.2.2.2.2.2.2.2.2.2.2.2.2.2.2.2.2.2.2.1) (k.2.2.2.2.2.2.2.2.2.2.2.2.2.2.2.2.2.2.2.2.2.2.2.2.2.2.2.2.2.2.2.1) (k.2.2.2.2.2.2.2.2.2.2.2.2.2.2.2.2.2.2.2.2.2.2.2.2.2.2.2.2.2.2.2.2)
theorem SFne : Nonempty SFK := ⟨((wd0 : World), (0 : Nat), (0 : Nat), (none : Option (List Env)), (none : Option (List Code)), ({} : Shared), (fun _ => none : ExcName → Option Value), (fun _ => none : Str → Option Value), (fun _ => none : Str → Option Value), (fun _ _ => True : Value → Shared → Prop), ({} : Heap), (fun _ _ => True : Value → Shared → Prop), (0 : Addr), (0 : Addr), (0 : Addr), (0 : Addr), (0 : Addr), ([] : List DictEntry), (0 : Nat), (0 : Nat), (0 : Int), (0 : Int), ([] : List Addr), ([] : List Let), ([] : List Value), ([] : List Value), ([] : List Int), ([] : List Str), (0 : Nat), (0 : Tok), (.none : Value), (fun _ => false : Let → Bool), ({} : Heap))⟩
@[irreducible] noncomputable def SFk : SFK := @Classical.epsilon _ SFne fun k => ¬ SFP k
theorem SFc.pf : SFP SFk := by
  refine (?m : ∀ (w : World) (dp : Nat) (un : Nat) (fr : Option (List Env)) (gd : Option (List Code)) (s : Shared) (mean : ExcName → Option Value) (mg : Str → Option Value) (mb : Str → Option Value) (E : Value → Shared → Prop) (H0 : Heap) (Q : Value → Shared → Prop) (bx : Addr) (bd : Addr) (ll : Addr) (ul : Addr) (fa : Addr) (es : List DictEntry) (n : Nat) (m0 : Nat) (nx : Int) (top : Int) (las : List Addr) (ds : List Let) (uvs : List Value) (nvs : List Value) (us : List Int) (ts : List Str) (wy : Nat) (t : Tok) (uv : Value) (rf : Let → Bool) (hG : Heap), ∀ (W : Wd w.params mean mg mb H0) (hs : H0.StaysIn s.heap) (hdp : dp + 14 < recursionLimit) (hun : un + 100 < cLine)
    (hx : s.heap.get? bx = some (instObj 151 bd)) (hd : s.heap.get? bd = some (dictOf es n)) (B : BoxD es ll nx top) (hll : s.heap.get? ll = some (listOf (las.map Value.ref).toArray m0)) (hne : @Ne Nat bx bd) (hne2 : @Ne Nat bx ll) (hne3 : @Ne Nat bd ll)
    (hd0 : H0.get? bd = none) (hl0 : H0.get? ll = none) (kG : hG.StaysIn s.heap) (gd0 : hG.get? bd = none) (gl0 : hG.get? ll = none) (hds : LetsAt hG las ds) (hlen : las.length ≤ 100)
    (hui : ∀ (i : Nat) (d : Let), ds[i]? = some d → d.uid = (i : Int) + 1) (hdu : ∀ d ∈ ds, ∀ x ∈ d.fl, x ∈ UNI) (hdl : ∀ d ∈ ds, d.fl.length ≤ 5)
    (hul : s.heap.IsList ul uvs.toArray) (huv : IntsAre uvs us) (hus : us.length < 60) (hull : @Ne Nat ul ll) (hfal : @Ne Nat fa ll)
    (hfa : s.heap.IsList fa nvs.toArray) (hnv : StrsAre nvs ts) (hts : ∀ x ∈ ts, x ∈ UNI) (htl : ts.length < 30) (hwy : wy < 3) (R : RefV uv rf)
    (ret : ∀ r h' tk' es' n' m' las', (hideAll s.heap [bd, ll]).StaysIn h' → h'.get? bd = some (dictOf es' n') → BoxD es' ll nx (runF ds rf wy ts (keysIn ds.length us) top).2.1 → h'.get? ll = some (listOf (las'.map Value.ref).toArray m') →
      LetsAt (lift hG s.heap h') las' (runF ds rf wy ts (keysIn ds.length us) top).1 → ∀ c d cvs rvs cn rn, h'.get? r = some { cls := .type "tuple", data := .seq #[.ref c, .ref d] } → h'.get? c = some (listOf (List.toArray cvs) cn) → h'.get? d = some (listOf (List.toArray rvs) rn) → IntsAre cvs (runF ds rf wy ts (keysIn ds.length us) top).2.2 → IntsAre rvs (((keysIn ds.length us).filter fun k => (ds[k]?).any rf).map fun (k : Nat) => (k : Int) + 1) → s.heap.get? r = none → s.heap.get? c = none → s.heap.get? d = none → Q (.ref r) { s with heap := h', toks := tk' }),
    wpAny (model PySem.Challenge.rw_no0367_01.row.prog w) (Ar dp un fr gd) (call (.ref 216) [.ref bx, .ref ul, .str (wayStr wy) t, .ref fa, uv]) Q E s) (SFk.1) (SFk.2.1) (SFk.2.2.1) (SFk.2.2.2.1) (SFk.2.2.2.2.1) (SFk.2.2.2.2.2.1) (SFk.2.2.2.2.2.2.1) (SFk.2.2.2.2.2.2.2.1) (SFk.2.2.2.2.2.2.2.2.1) (SFk.2.2.2.2.2.2.2.2.2.1) (SFk.2.2.2.2.2.2.2.2.2.2.1) (SFk.2.2.2.2.2.2.2.2.2.2.2.1) (SFk.2.2.2.2.2.2.2.2.2.2.2.2.1) (SFk.2.2.2.2.2.2.2.2.2.2.2.2.2.1) (SFk.2.2.2.2.2.2.2.2.2.2.2.2.2.2.1) (SFk.2.2.2.2.2.2.2.2.2.2.2.2.2.2.2.1) (SFk.2.2.2.2.2.2.2.2.2.2.2.2.2.2.2.2.1) (SFk.2.2.2.2.2.2.2.2.2.2.2.2.2.2.2.2.2.1) (SFk.2.2.2.2.2.2.2.2.2.2.2.2.2.2.2.2.2.2.1) (SFk.2.2.2.2.2.2.2.2.2.2.2.2.2.2.2.2.2.2.2.1) (SFk.2.2.2.2.2.2.2.2.2.2.2.2.2.2.2.2.2.2.2.2.1) (SFk.2.2.2.2.2.2.2.2.2.2.2.2.2.2.2.2.2.2.2.2.2.1) (SFk.2.2.2.2.2.2.2.2.2.2.2.2.2.2.2.2.2.2.2.2.2.2.1) (SFk.2.2.2.2.2.2.2.2.2.2.2.2.2.2.2.2.2.2.2.2.2.2.2.1) (SFk.2.2.2.2.2.2.2.2.2.2.2.2.2.2.2.2.2.2.2.2.2.2.2.2.1) (SFk.2.2.2.2.2.2.2.2.2.2.2.2.2.2.2.2.2.2.2.2.2.2.2.2.2.1) (SFk.2.2.2.2.2.2.2.2.2.2.2.2.2.2.2.2.2.2.2.2.2.2.2.2.2.2.1) (SFk.2.2.2.2.2.2.2.2.2.2.2.2.2.2.2.2.2.2.2.2.2.2.2.2.2.2.2.1) (SFk.2.2.2.2.2.2.2.2.2.2.2.2.2.2.2.2.2.2.2.2.2.2.2.2.2.2.2.2.1) (SFk.2.2.2.2.2.2.2.2.2.2.2.2.2.2.2.2.2.2.2.2.2.2.2.2.2.2.2.2.2.1) (SFk.2.2.2.2.2.2.2.2.2.2.2.2.2.2.2.2.2.2.2.2.2.2.2.2.2.2.2.2.2.2.1) (SFk.2.2.2.2.2.2.2.2.2.2.2.2.2.2.2.2.2.2.2.2.2.2.2.2.2.2.2.2.2.2.2.1) (SFk.2.2.2.2.2.2.2.2.2.2.2.2.2.2.2.2.2.2.2.2.2.2.2.2.2.2.2.2.2.2.2.2)
  intro w dp un fr gd s mean mg mb E H0 Q bx bd ll ul fa es n m0 nx top las ds uvs nvs us ts wy t uv rf hG
  intro W hs hdp hun hx hd B hll hne hne2 hne3 hd0 hl0 kG gd0 gl0 hds hlen hui hdu hdl hul huv hus hull hfal hfa hnv hts htl hwy R ret
  have lo : ∀ {a : Addr} {vs : Array Value}, s.heap.IsList a vs → @Ne Nat a bd := fun h => let ⟨_, ho, hc, _⟩ := h; ne_of_cls (.type "list") (.type "dict") ho hd hc rfl (by decide)
  have hulb := lo hul
  have hfab := lo hfa
  refine' enterC (H0 := H0) (mean := mean) (mg := mg) (mb := mb) (binds := [("box", .ref bx), ("uids", .ref ul), ("way", .str (wayStr wy) t), ("flags", .ref fa), ("unless", uv)]) W hs [(bd, dictOf es n), (ll, listOf (las.map Value.ref).toArray m0)] (all_cons ⟨hd, hd0⟩ (all_cons ⟨hll, hl0⟩ (List.forall_mem_nil _))) (by show dp < recursionLimit; first | exact room0 (by assumption) | omega) ?ho ?hcd ?hbind ?hkind ?hnd ?_ ?hco ?hgen ?hk
  (case ho => k_is); (case hcd => k_is); (case hbind => exact binds_K (Frag.In.keeps W.X hs) rfl (by k_is) rfl rfl rfl); (case hkind => exact rfl); (case hnd => decide +kernel); (case hco => exact rfl); (case hgen => exact rfl); (case hk => exact rfl)
  intro g L' h₁ tk cells hg hst F N Y X T hlt
  obtain ⟨o1, o2, rfl, d1, d2⟩ := CellsAre.two Y
  replace d1 : o1.data = .cell (some uv) := d1
  replace d2 : o2.data = .cell (some (.ref bx)) := d2
  replace F : Fr g L' h₁ (fun y => if y = "flags" then some (.ref fa) else if y = "way" then some (.str (wayStr wy) t) else if y = "uids" then some (.ref ul) else none) := F
  replace N : News g L' h₁ [(L' + 2, o1), (L' + 1, o2), (bd, dictOf es n), (ll, listOf (las.map Value.ref).toArray m0)] := N
  clear Y
  have hb0 := hlt (bd, dictOf es n) (by k_extra "MINE mem")
  have hl1 := hlt (ll, PySem.W.listOf (las.map Value.ref).toArray m0) (by k_extra "MINE mem")
  have eb1 : NE (L' + 1) bd := Nat.ne_of_gt (Nat.lt_succ_of_lt hb0)
  have eb2 : NE (L' + 2) bd := Nat.ne_of_gt (Nat.lt_succ_of_lt (Nat.lt_succ_of_lt hb0))
  have el1 : NE (L' + 1) ll := Nat.ne_of_gt (Nat.lt_succ_of_lt hl1)
  have el2 : NE (L' + 2) ll := Nat.ne_of_gt (Nat.lt_succ_of_lt (Nat.lt_succ_of_lt hl1))
  have e12 : NE (L' + 2) (L' + 1) := Nat.ne_of_gt (Nat.lt_succ_self _)
  clear hb0 hl1 hlt
  revert hg hst X T d1 d2 F N eb1 eb2 el1 el2 e12
  revert g L' h₁ tk o1 o2
  refine @eps6 _ _ _ _ _ _ ⟨(({} : Heap), (0 : Addr), ({} : Heap), (0 : Tok), (default : Obj), (default : Obj))⟩ ?P16 ((?close16 : ∀ a0 a1 a2 a3 a4 a5, ?P16 a0 a1 a2 a3 a4 a5) _ _ _ _ _ _ )
  intro g L' h₁ tk o1 o2 hg hst X T d1 d2 F N eb1 eb2 el1 el2 e12
  have hx' : g.get? bx = some (instObj 151 bd) := hg ▸ hid2 hx hne hne2
  have hul' : g.IsList ul uvs.toArray := hg ▸ hid2_list hul hulb hull
  have hfa' : g.IsList fa nvs.toArray := hg ▸ hid2_list hfa hfab hfal
  have kGg : hG.StaysIn g := hg ▸ hid2_stays kG gd0 gl0
  have hlas := hds.len
  have hz1 : las.length ≤ 1000 := le_lit hlen rfl
  have hz : (las.map Value.ref).length ≤ 1000 := by rw [List.length_map]; exact hz1
  have hLg : LetsAt g las ds := hds.keeps kGg
  have hus' : UidsAt g las := fun i a e => by
    obtain ⟨d', hd', hL⟩ := hLg.get e
    obtain ⟨⟨t', h1⟩, _⟩ := hL
    rw [hui i d' hd'] at h1
    exact ⟨t', h1⟩
  try k_fold
  k_extra "MINE steps"
  refine LCuse (y := "letters") (cl := [("box", L' + 1)]) rfl rfl rfl (by decide) rfl (by decide) rfl rfl ?_ (by intro _; rfl)
  refine LC (cl := [("box", L' + 1)]) rfl rfl (by decide) rfl (by decide) ?_ (by intro _; rfl)
  k_extra "MINE steps"
  rename Fr _ _ _ _ => F1
  rename News _ _ _ _ => N1
  rename IntsAre _ _ => hI9
  rename List.Pairwise _ _ => hP9
  rename (List.length _ ≤ us.length) => hL9
  rename (∀ x, x ∈ _ ↔ x ∈ us) => hM9
  rename List Int => us9
  rename List Value => vs9
  have hv9 : vs9.length = us9.length := hI9.length
  have hv8 : vs9.length ≤ 60 := Nat.le_trans (Nat.le_of_eq hv9) (Nat.le_trans hL9 (Nat.le_of_lt hus))
  have hv7 : vs9.length ≤ 1000 := le_lit hv8 rfl
  refine CompAt.flat g (fun i ys => IntsAre ys ((us9.take i).map (plcOf las.length))) (.list _ _ (News.isList N1 (.head _))) hv7 F1 N1 (fun _ h => nomatch h) .nil ?_ ?_
  · intro g' hg' i v C D h tk2 m ys its e hi hP hJ hys F₂ N₂
    have hys' := hJ
    obtain ⟨u, t', rfl, hu⟩ := ints_get hI9 hP
    have kg1 := nil_stays hg'
    have kg := stays_trans F1.keep kg1
    have X' := X.keeps kg
    have T' := T.keeps kg
    have hx2 := kg _ _ hx'
    have hc := cellKeeps (cellAt (N1 _ (.tail _ (.tail _ (.head _)))).1 d2) kg1
    have hbd2 := kg1 _ _ (N1 _ (.tail _ (.tail _ (.tail _ (.head _))))).1
    have hll2 : g'.IsList ll (las.map Value.ref).toArray := keepsList (News.isList N1 (.tail _ (.tail _ (.tail _ (.tail _ (.head _)))))) kg1
    have hus2 := hus'.keeps kg
    have hsz : ys.length ≤ 1000 := Nat.le_trans hys (Nat.le_trans (Nat.le_of_lt hi) hv7)
    have hst' : H0.StaysIn g' := stays_trans hst kg
    dsimp only at hbd2
    clear F1 N1 X T
    walk1
    refine wpAny_tests_nil ?_
    k_extra "MINE steps"
    rename (_ = if 1 ≤ u ∧ u ≤ (las.length : Int) then u - 1 else -1) => hr9
    replace hr9 : _ = plcOf las.length u := hr9
    rename Fr _ _ _ _ => FF
    rename News _ _ _ _ => NN
    exact .mk FF NN (by rw [map_snoc hu]; exact hr9 ▸ ints_snoc hys' _ _)
  · rintro D h' tk2 ys e hys' hys F₂ N₂ hlt2
    rw [List.take_of_length_le (Nat.le_of_eq hv9.symm)] at hys'
    try dsimp only [List.nil_append] at F₂ N₂ ⊢
    have hyl : ys.length = us9.length := by rw [hys'.length, List.length_map]
    have hy7 : ys.length ≤ 1000 := Nat.le_trans (Nat.le_of_eq (hyl.trans hv9.symm)) hv7
    clear F1 N1
    refine CompAt.flat g (fun i zs => zs = (keysOf las.length (us9.take i)).map fun k => Value.ref (las.getD k 0)) (.list _ _ (News.isList N₂ (.head _))) hy7 F₂ N₂ (fun _ h => nomatch h) rfl ?_ ?_
    · intro g' hg' i v C D2 h tk2 m zs its e hi hP hJ hzs F₃ N₃
      have hzs' := hJ
      obtain ⟨x, t', rfl, hu⟩ := ints_get hys' hP
      obtain ⟨u, hu, hxu⟩ := map_get hu
      have kg1 := nil_stays hg'
      have kg := stays_trans F₂.keep kg1
      have X' := X.keeps kg
      have T' := T.keeps kg
      have hx2 := kg _ _ hx'
      have hc := cellKeeps (cellAt (N₂ (L' + 1, o2) (by k_extra "MINE mem")).1 d2) kg1
      have hbd2 := kg1 _ _ (N₂ (bd, dictOf es n) (by k_extra "MINE mem")).1
      have hll2 : g'.IsList ll (las.map Value.ref).toArray := keepsList (isListOf (N₂ (ll, PySem.W.listOf (las.map Value.ref).toArray m0) (by k_extra "MINE mem")).1) kg1
      obtain ⟨hxN, hx1⟩ := plc_lt hxu hlen
      have hsz : zs.length ≤ 1000 := Nat.le_trans hzs (Nat.le_trans (Nat.le_of_lt hi) hy7)
      have hst' : H0.StaysIn g' := stays_trans hst kg
      dsimp only at hbd2
      clear F₂ N₂ X T
      walk1
      refine wpAny_tests_one ?_
      k_extra "MINE steps"
      · rename Fr _ _ _ _ => FF
        rename News _ _ _ _ => NN
        rename (0 ≤ x) => hx0
        rename (las[x.toNat]? = some _) => hla
        exact .mk FF NN (keys_in hzs' hu hxu hx0 hla)
      · rename Fr _ _ _ _ => FF
        rename News _ _ _ _ => NN
        rename (¬ (0 ≤ x)) => hx0
        exact .mk FF NN (keys_out hzs' hu hxu hx0)
    · rintro D2 h' tk2 zs e2' hzs' hzs F₃ N₃ hlt3
      rw [List.take_of_length_le (Nat.le_of_eq hyl.symm)] at hzs'
      have hkeys := keysOf_eq (N := las.length) hP9 hM9
      rw [hkeys] at hzs'
      try dsimp only [List.nil_append] at F₃ N₃ ⊢
      clear F₂ N₂
      replace F₃ : Fr g L' h' (fun y => if y = "letters" then some (.ref D2) else if y = "flags" then some (.ref fa) else if y = "way" then some (.str (wayStr wy) t) else if y = "uids" then some (.ref ul) else none) := F₃
      replace N₃ : News g L' h' [(D2, PySem.W.listOf zs.toArray e2'), (L' + 2, o1), (L' + 1, o2), (bd, dictOf es n), (ll, PySem.W.listOf (las.map Value.ref).toArray m0)] := News.sub N₃ (by (repeat (refine all_cons (by k_extra "MINE mem") ?_)); first | exact List.forall_mem_nil _ | exact fun p hp => (by repeat (first | with_reducible exact hp | with_reducible exact List.mem_append_right _ hp | with_reducible apply List.mem_cons_of_mem | exact hp)))
      have hKS : ∀ k ∈ keysIn las.length us, k < las.length := fun k hk => List.mem_range.mp (List.mem_filter.mp hk).1
      have hKl : (keysIn las.length us).length = zs.length := by rw [hzs', List.length_map]
      have hz9 : zs.length ≤ 1000 := Nat.le_trans hzs hy7
      have hK : ∀ (i : Nat) (v : Value), zs[i]? = some v → ∃ (k : Nat) (d : Let) (a : Addr), (keysIn las.length us)[i]? = some k ∧ ds[k]? = some d ∧ k < las.length ∧ v = Value.ref a ∧ LetAt g a d := fun i v e => by
        rw [hzs'] at e
        obtain ⟨k, q, e⟩ := map_get e
        have hk := hKS k (List.mem_of_getElem? q)
        obtain ⟨d, hd, hL⟩ := hLg.get (List.getElem?_eq_getElem hk)
        exact ⟨k, d, _, q, hd, hk, by rw [← e, List.getD_eq_getElem?_getD, List.getElem?_eq_getElem hk]; rfl, hL⟩
      generalize hKSe : keysIn las.length us = KS at *
      try k_fold
      k_extra "MINE steps"
      refine LCuse (y := "refused") (cl := [("unless", L' + 2)]) rfl rfl rfl (by decide) rfl (by decide) rfl rfl ?_ (by intro _; rfl)
      k_extra "MINE steps"
      refine CompAt.flat g (fun i rs => IntsAre rs (((KS.take i).filter fun k => (ds[k]?).any rf).map fun (k : Nat) => (k : Int) + 1)) (.list _ _ (News.isList N₃ (.head _))) hz9 F₃ N₃ (fun _ h => nomatch h) .nil ?_ ?_
      · intro g' hg' i v C D3 h tk2 m rs its e hi hP hJ hrs F₄ N₄
        have hrs' := hJ
        obtain ⟨k, d, a, hk, hd, hkl, rfl, hLa⟩ := hK i v hP
        have kg1 := nil_stays hg'
        have kg := stays_trans F₃.keep kg1
        have X' := X.keeps kg
        have T' := T.keeps kg
        have hc := cellKeeps (cellAt (N₃ (L' + 2, o1) (by k_extra "MINE mem")).1 d1) kg1
        have hsz : rs.length ≤ 1000 := Nat.le_trans hrs (Nat.le_trans (Nat.le_of_lt hi) hz9)
        have hst' : H0.StaysIn g' := stays_trans hst kg
        have hLa' := hLa.keeps kg
        obtain ⟨⟨tu, hfu⟩, _⟩ := id hLa'
        have hdk : (ds[k]?).any rf = rf d := by rw [hd]; rfl
        clear F₃ N₃ X T
        walk1
        refine wpAny_tests_one ?_
        k_extra "MINE steps"
        · rename Fr _ _ _ _ => FF
          rename News _ _ _ _ => NN
          rename (rf d = true) => hq
          exact .mk FF NN (by rw [mfilt_in hk (hdk.trans hq)]; exact hui _ _ hd ▸ ints_snoc hrs' _ _)
        · rename Fr _ _ _ _ => FF
          rename News _ _ _ _ => NN
          rename (rf d = false) => hq
          exact .mk FF NN (by rw [mfilt_out hk (hdk.trans hq)]; exact hrs')
      · rintro D3 h' tk2 rs e3 hrs' hrs F₄ N₄ hlt4
        rw [List.take_of_length_le (Nat.le_of_eq hKl)] at hrs'
        try dsimp only [List.nil_append] at F₄ N₄ ⊢
        replace F₄ : Fr g L' h' (fun y => if y = "refused" then some (.ref D3) else if y = "letters" then some (.ref D2) else if y = "flags" then some (.ref fa) else if y = "way" then some (.str (wayStr wy) t) else if y = "uids" then some (.ref ul) else none) := F₄
        replace N₄ : News g L' h' [(D3, PySem.W.listOf rs.toArray e3), (D2, PySem.W.listOf zs.toArray e2'), (L' + 2, o1), (L' + 1, o2), (bd, dictOf es n), (ll, PySem.W.listOf (las.map Value.ref).toArray m0)] := N₄
        clear F₃ N₃
        try k_fold
        k_extra "MINE steps"
        rename_i c hh1 lc hh2 F5 N5
        refine For_it (s := s) (g := g) rfl ?_ (by intro _; rfl) .never
        walk1
        have kg0 : hG.StaysIn g := kGg
        have hL0 : g.get? L' = none := Heap.get?_none_of_le F5.above
        have hN5 : ∀ b o, hG.get? b = some o → ∀ p ∈ [(c, PySem.W.listOf #[] 0), (D3, PySem.W.listOf rs.toArray e3), (D2, PySem.W.listOf zs.toArray e2'), (L' + 2, o1), (L' + 1, o2), (bd, dictOf es n), (ll, PySem.W.listOf (las.map Value.ref).toArray m0)], b ≠ p.1 := fun b o q p hp => ne_of_none (kg0 _ _ q) (N5 p hp).2.2
        have I0 : Imm hG hG [L', c, D3, D2, L' + 2, L' + 1, bd, ll] [] := .nil rfl fun b hb => by
          cases q : hG.get? b with
          | none => rfl
          | some o =>
            rcases List.mem_cons.mp hb with rfl | hb
            · exact absurd rfl (ne_of_none (kg0 _ _ q) hL0)
            · obtain ⟨p, hp, e⟩ := List.mem_map.mp (show b ∈ [(c, PySem.W.listOf #[] 0), (D3, PySem.W.listOf rs.toArray e3), (D2, PySem.W.listOf zs.toArray e2'), (L' + 2, o1), (L' + 1, o2), (bd, dictOf es n), (ll, PySem.W.listOf (las.map Value.ref).toArray m0)].map (·.1) from hb)
              exact absurd e.symm (hN5 b o q p hp)
        have hup : KS.Pairwise (· < ·) := by rw [← hKSe]; exact List.pairwise_lt_range.filter _
        refine list_at zs.length _ _ (fun i m news => SFJ hG L' c D3 D2 bd ll o1 o2 zs rs e2' e3 fa (.str (wayStr wy) t) nx (runF ds rf wy ts (KS.take i) top) i m news) _ _ rfl rfl D2 rfl rfl F5 N5 (.mk es n las m0 hG [] [] 0 rfl rfl rfl rfl I0 B hds .nil (Nat.le_refl _)) ?_ ?_ ?_
        · rintro i m' news' h' _ ⟨es', n', las', m', hG', imm, cvs, cn, _, _⟩ F' N'
          exact ⟨_, isListOf (N' (D2, PySem.W.listOf zs.toArray e2') (by k_extra "MINE mem")).1, rfl⟩
        · rintro i v items m₁ news₁ h₂ tk₂ ⟨I, oI⟩ hi hL hsz hv ⟨es', n', las', m', hG', imm, cvs, cn, hm1, hm2, hm3, hm4, Im, B', hds', hcv, hcl⟩ ha F₂ N₂
          cases isList_fun hL (isListOf (N₂ (D2, PySem.W.listOf zs.toArray e2') (by k_extra "MINE mem")).1)
          obtain ⟨k, d, a, hk, hd, hkl, rfl, hLa⟩ := hK i v (List.getElem?_toArray ▸ hv)
          replace F₂ : Fr g L' h₂ _ := F₂
          replace N₂ : News g L' h₂ _ := N₂
          replace hlt3 : ∀ p ∈ [(L' + 2, o1), (L' + 1, o2), (bd, dictOf es n), (ll, PySem.W.listOf (las.map Value.ref).toArray m0)], p.1 < D2 := fun p hp => hlt3 p (List.mem_cons_of_mem _ (List.mem_cons_of_mem _ hp))
          clear F5 N5 hN5 I0 hzs' hkeys hKS hK hrs' hrs hKSe hzs hKl hL hsz hv hkl
          revert hz9 hlt4 lc hup hi hm1 hm2 hm3 hm4 Im B' hds' hcv hcl ha hk hd hLa F₂ N₂ hlt3
          revert D2 zs e2' KS D3 rs e3 c i m₁ h₂ tk₂ I oI es' n' las' m' hG' imm cvs cn k d a
          refine @eps25 _ _ _ _ _ _ _ _ _ _ _ _ _ _ _ _ _ _ _ _ _ _ _ _ _ ⟨((0 : Addr), ([] : List (Value)), (0 : Nat), ([] : List (Nat)), (0 : Addr), ([] : List (Value)), (0 : Nat), (0 : Addr), (0 : Nat), (fun _ => none : Str → Option (Value)), ({} : Heap), (0 : Nat), (0 : Addr), (default : Obj), ([] : List (DictEntry)), (0 : Nat), ([] : List (Addr)), (0 : Nat), ({} : Heap), ([] : List (Addr×Obj)), ([] : List (Value)), (0 : Nat), (0 : Nat), (⟨0, [], 0⟩ : Let), (0 : Addr))⟩ ?P17 ((?close17 : ∀ a0 a1 a2 a3 a4 a5 a6 a7 a8 a9 a10 a11 a12 a13 a14 a15 a16 a17 a18 a19 a20 a21 a22 a23 a24, ?P17 a0 a1 a2 a3 a4 a5 a6 a7 a8 a9 a10 a11 a12 a13 a14 a15 a16 a17 a18 a19 a20 a21 a22 a23 a24) _ _ _ _ _ _ _ _ _ _ _ _ _ _ _ _ _ _ _ _ _ _ _ _ _ )
          intro D2 zs e2' KS D3 rs e3 c i m₁ h₂ tk₂ I oI es' n' las' m' hG' imm cvs cn k d a hz9 hlt4 lc hup hi hm1 hm2 hm3 hm4 Im B' hds' hcv hcl ha hk hd hLa F₂ N₂ hlt3
          have hki : k ∉ KS.take i := not_before hup hk
          have hSk : (runF ds rf wy ts (KS.take i) top).1[k]? = some d := by
            unfold runF; rw [runF_other _ _ hki]; exact hd
          have hSu : ∀ (i' : Nat) (d : Let), (runF ds rf wy ts (KS.take i) top).1[i']? = some d → d.uid = (i' : Int) + 1 := runF_uid _ _ hui
          have hSl : las'.length ≤ 100 := by rw [hds'.len]; unfold runF; rw [runF_len]; exact hlas ▸ hlen
          have hstep := runF_take (ds0 := ds) (rf := rf) (wy := wy) (ts := ts) (top := top) hk
          have hdm : d ∈ ds := List.mem_of_getElem? hd
          have hdu' := hdu d hdm
          have hdl' := hdl d hdm
          have hau : ∀ x ∈ aft wy d.fl ts, x ∈ UNI := aft_uni hdu'
          have hal : (aft wy d.fl ts).length < 60 := lt_lit (aft_len hdl') rfl
          obtain ⟨⟨tu, hfu⟩, _⟩ := id hLa
          have huid := hui k d hd
          have hIc : @Ne Nat I c := fun q => ha (c, _) (.head _) q.symm
          have hIb : @Ne Nat I bd := fun q => ha (bd, dictOf es' n') (by k_extra "MINE mem") q.symm
          have hIl : @Ne Nat I ll := fun q => ha (ll, PySem.W.listOf (las'.map Value.ref).toArray m') (by k_extra "MINE mem") q.symm
          have hI3 : @Ne Nat I D3 := fun q => ha (D3, PySem.W.listOf rs.toArray e3) (by k_extra "MINE mem") q.symm
          have hI2 : @Ne Nat I D2 := fun q => ha (D2, PySem.W.listOf zs.toArray e2') (by k_extra "MINE mem") q.symm
          have hIx : @Ne Nat I (L' + 2) := fun q => ha (L' + 2, o1) (by k_extra "MINE mem") q.symm
          have hIy : @Ne Nat I (L' + 1) := fun q => ha (L' + 1, o2) (by k_extra "MINE mem") q.symm
          have hcu2 := cellAt (N₂ (L' + 2, o1) (by k_extra "MINE mem")).1 d1
          have hcsz : cvs.length ≤ 1000 := Nat.le_trans hcl (Nat.le_trans (Nat.le_of_lt hi) hz9)
          try k_fold
          k_extra "MINE steps"
          · rename Fr _ _ _ _ => FF
            rename News _ _ _ _ => NN
            rename (rf d = true) => hq
            rw [stepF_out hd hq] at hstep
            exact TurnEnd.next _ FF NN (one_all ha) (by rw [hstep]; exact .mk es' n' las' m' hG' imm cvs cn hm1 hm2 hm3 hm4 Im B' hds' hcv (Nat.le_succ_of_le hcl))
          · rename Fr _ _ _ _ => FA
            rename News _ _ _ _ => NA
            rename (rf d = false) => hq
            rename IsTup _ _ _ => ht9
            rename StrsAre _ (aft wy d.fl ts) => hS9
            have hI0 : hG.get? I = none := by
              cases q : hG.get? I with
              | none => rfl
              | some o => have := (NA (I, oI) (.head _)).2.2; rw [kg0 _ _ q] at this; cases this
            have ImI := Im.more (b := I) hI0 (fun p q => ha p (by repeat (first | with_reducible exact q | with_reducible apply List.mem_cons_of_mem)))
            have kG9 : hG'.StaysIn _ := Im.stays kg0 FA NA (by (repeat (refine all_cons (by k_extra "MINE mem") ?_)); first | exact List.forall_mem_nil _ | exact fun p hp => (by repeat (first | with_reducible exact hp | with_reducible exact List.mem_append_right _ hp | with_reducible apply List.mem_cons_of_mem | exact hp)))
            refine set_flags_spec (H0 := H0) (hG := hG') (las := las') (ds := (runF ds rf wy ts (KS.take i) top).1) (d := d) (k := k) (nx := nx) (ll := ll) (bd := bd) W (fun b o q => FA.keep b o (hst b o q)) (by k_extra "MINE room") (by k_extra "MINE room") (FA.keep _ _ hx') (NA (bd, dictOf es' n') (by k_extra "MINE mem")).1 B' (NA (ll, PySem.W.listOf (las'.map Value.ref).toArray m') (by k_extra "MINE mem")).1 hne hne2 hne3 hd0 hl0 kG9
              (Im.apart _ (by k_extra "MINE mem")) (Im.apart _ (by k_extra "MINE mem")) hds' hSl hSu hSk huid hdu' ht9 hS9 hau hal ?_ ?_
            · intro h9 tk9 k9 heq
              have FB := Fr.grow FA k9
              have NB := News.grow NA k9
              clear FA NA
              rw [stepF_same hd hq heq] at hstep
              try dsimp only
              try k_fold
              k_extra "MINE steps"
              rename Fr _ _ _ _ => FF
              rename News _ _ _ _ => NN
              exact TurnEnd.next _ FF NN (one_all ha) (by rw [hstep]; exact .mk es' n' las' m' hG' imm cvs cn hm1 hm2 hm3 hm4 Im B' hds' hcv (Nat.le_succ_of_le hcl))
            · intro x9 h9 tk9 es9 n9 m9 k9 e1 B9 e2 L9 hne9
              rw [stepF_new hd hq hne9] at hstep
              rw [huid] at L9
              have U : UpdT bd ll imm ((I, oI) :: (c, PySem.W.listOf cvs.toArray cn) :: (D3, PySem.W.listOf rs.toArray e3) :: (D2, PySem.W.listOf zs.toArray e2') :: (L' + 2, o1) :: (L' + 1, o2) :: (bd, dictOf es' n') :: (ll, PySem.W.listOf (las'.map Value.ref).toArray m') :: imm)
                  (fun x y i => (I, oI) :: (c, PySem.W.listOf cvs.toArray cn) :: (D3, PySem.W.listOf rs.toArray e3) :: (D2, PySem.W.listOf zs.toArray e2') :: (L' + 2, o1) :: (L' + 1, o2) :: (bd, x) :: (ll, y) :: i) :=
                .k (by k_ne) (by k_ne) (.k (by k_ne) (by k_ne) (.k (by k_ne) (by k_ne) (.k (by k_ne) (by k_ne) (.k (by k_ne) (by k_ne) (.k (by k_ne) (by k_ne) (.b (.l .base)))))))
              refine mutT FA NA ImI kg0 U (NA (bd, dictOf es' n') (by k_extra "MINE mem")).2 (NA (ll, PySem.W.listOf (las'.map Value.ref).toArray m') (by k_extra "MINE mem")).2 (by k_extra "MINE mem") (by k_extra "MINE mem") (by k_extra "MINE mem") (ImI.live2 FA NA (by (repeat (refine all_cons (by first | exact .inl rfl | exact .inr ⟨_, (by k_extra "MINE mem")⟩) ?_)); exact List.forall_mem_nil _)) k9 e1 e2 ?_
              intro imm9 Im9 FB NB
              have hci : ∀ p ∈ imm9, p.1 ≠ c := Im9.ne (by k_extra "MINE mem")
              try dsimp only at NB
              clear FA NA
              try dsimp only
              try k_fold
              k_extra "MINE steps"
              rename Fr _ _ _ _ => FF
              rename News _ _ _ _ => NN
              exact TurnEnd.next _ FF NN (one_all (all_cons (Ne.symm hIc) (all_cons (Ne.symm hI3) (all_cons (Ne.symm hI2) (all_cons (Ne.symm hIx) (all_cons (Ne.symm hIy) (all_cons (Ne.symm hIb) (all_cons (Ne.symm hIl) (Im9.ne (b := I) (by k_extra "MINE mem"))))))))))
                (by rw [hstep]; exact .mk es9 n9 (las'.set k x9) m9 _ imm9 _ _ hm1 hm2 hm3 hm4 (Im9.less fun _ q => .tail _ q) B9 L9 (by rw [← huid]; exact ints_snoc hcv _ _) (by rw [List.length_append]; exact Nat.succ_le_succ hcl))
        · rintro m' news' h' tk' F' N' ⟨es', n', las', m'', hG', imm, cvs, cn, hm1, hm2, hm3, hm4, Im, B', hds', hcv, hcl⟩
          rw [List.take_of_length_le (Nat.le_of_eq hKl)] at B' hds' hcv
          replace F' : Fr g L' h' m' := F'
          replace N' : News g L' h' _ := N'
          have kG9 : hG'.StaysIn _ := Im.stays kg0 F' N' (by (repeat (refine all_cons (by k_extra "MINE mem") ?_)); first | exact List.forall_mem_nil _ | exact fun p hp => (by repeat (first | with_reducible exact hp | with_reducible exact List.mem_append_right _ hp | with_reducible apply List.mem_cons_of_mem | exact hp)))
          have hGl : ∀ h4 : Heap, hG'.StaysIn h4 → hG'.StaysIn (lift hG s.heap h4) := fun h4 k4 b o e => by
            rcases Im.inn b o e with q | q
            · exact lift_old (fun b o q => k4 b o (Im.up b o q)) b o q
            · have q2 := (N' (b, o) (by repeat (first | with_reducible exact q | with_reducible apply List.mem_cons_of_mem))).2.2
              have n1 : b ≠ bd := fun z => Im.ne (b := bd) (by k_extra "MINE mem") _ q z
              have n2 : b ≠ ll := fun z => Im.ne (b := ll) (by k_extra "MINE mem") _ q z
              exact lift_new (seen2 (hg ▸ q2) n1 n2) (k4 b o e)
          clear F5 N5
          try k_fold
          k_extra "MINE steps"
          rename_i D4 h4 F6 N6 l12
          try dsimp only
          have hKe : keysIn ds.length us = KS := by rw [← hlas]; exact hKSe
          rw [hKe] at ret
          replace N6 : News g L' h4 ((D4, { cls := .type "tuple", data := .seq #[Value.ref c, Value.ref D3] }) :: (c, PySem.W.listOf cvs.toArray cn) :: (D3, PySem.W.listOf rs.toArray e3) :: (D2, PySem.W.listOf zs.toArray e2') :: (L' + 2, o1) :: (L' + 1, o2) :: (bd, dictOf es' n') :: (ll, PySem.W.listOf (las'.map Value.ref).toArray m'') :: imm) := N6
          have q1 := N6 _ (.head _)
          have q2 := N6 _ (.tail _ (.head _))
          have q3 := N6 _ (.tail _ (.tail _ (.head _)))
          dsimp only at q1 q2 q3
          refine ret D4 _ _ es' n' m'' las' (hg ▸ F6.keep) (N6 (bd, dictOf es' n') (by k_extra "MINE mem")).1 B' (N6 (ll, PySem.W.listOf (las'.map Value.ref).toArray m'') (by k_extra "MINE mem")).1 (hds'.keeps (hGl _ (Im.stays kg0 F6 N6 (by (repeat (refine all_cons (by k_extra "MINE mem") ?_)); first | exact List.forall_mem_nil _ | exact fun p hp => (by repeat (first | with_reducible exact hp | with_reducible exact List.mem_append_right _ hp | with_reducible apply List.mem_cons_of_mem | exact hp))))))
            c D3 cvs rs cn e3 q1.1 q2.1 q3.1 hcv hrs' (seen_none (hg ▸ q1.2.2) ?_) (seen_none (hg ▸ q2.2.2) ?_) (seen_none (hg ▸ q3.2.2) ?_)
          all_goals intro z
          · have b1 := l12 (bd, dictOf es' n') (by k_extra "MINE mem")
            have b2 := l12 (ll, PySem.W.listOf (las'.map Value.ref).toArray m'') (by k_extra "MINE mem")
            rcases List.mem_cons.mp z with z | z
            · rw [z] at b1; exact Nat.lt_irrefl _ b1
            · rw [List.mem_singleton.mp z] at b2; exact Nat.lt_irrefl _ b2
          · have b1 := lc (bd, dictOf es n) (by k_extra "MINE mem")
            have b2 := lc (ll, PySem.W.listOf (las.map Value.ref).toArray m0) (by k_extra "MINE mem")
            rcases List.mem_cons.mp z with z | z
            · rw [z] at b1; exact Nat.lt_irrefl _ b1
            · rw [List.mem_singleton.mp z] at b2; exact Nat.lt_irrefl _ b2
          · have b1 := hlt4 (bd, dictOf es n) (by k_extra "MINE mem")
            have b2 := hlt4 (ll, PySem.W.listOf (las.map Value.ref).toArray m0) (by k_extra "MINE mem")
            rcases List.mem_cons.mp z with z | z
            · rw [z] at b1; exact Nat.lt_irrefl _ b1
            · rw [List.mem_singleton.mp z] at b2; exact Nat.lt_irrefl _ b2
theorem store_flags_spec {w : World} {dp : Nat} {un : Nat} {fr : Option (List Env)} {gd : Option (List Code)} {s : Shared} {mean : ExcName → Option Value} {mg : Str → Option Value} {mb : Str → Option Value} {E : Value → Shared → Prop} {H0 : Heap} {Q : Value → Shared → Prop} {bx : Addr} {bd : Addr} {ll : Addr} {ul : Addr} {fa : Addr} {es : List DictEntry} {n : Nat} {m0 : Nat} {nx : Int} {top : Int} {las : List Addr} {ds : List Let} {uvs : List Value} {nvs : List Value} {us : List Int} {ts : List Str} {wy : Nat} {t : Tok} {uv : Value} {rf : Let → Bool} {hG : Heap} : ∀ (W : Wd w.params mean mg mb H0) (hs : H0.StaysIn s.heap) (hdp : dp + 14 < recursionLimit) (hun : un + 100 < cLine)
    (hx : s.heap.get? bx = some (instObj 151 bd)) (hd : s.heap.get? bd = some (dictOf es n)) (B : BoxD es ll nx top) (hll : s.heap.get? ll = some (listOf (las.map Value.ref).toArray m0)) (hne : @Ne Nat bx bd) (hne2 : @Ne Nat bx ll) (hne3 : @Ne Nat bd ll)
    (hd0 : H0.get? bd = none) (hl0 : H0.get? ll = none) (kG : hG.StaysIn s.heap) (gd0 : hG.get? bd = none) (gl0 : hG.get? ll = none) (hds : LetsAt hG las ds) (hlen : las.length ≤ 100)
    (hui : ∀ (i : Nat) (d : Let), ds[i]? = some d → d.uid = (i : Int) + 1) (hdu : ∀ d ∈ ds, ∀ x ∈ d.fl, x ∈ UNI) (hdl : ∀ d ∈ ds, d.fl.length ≤ 5)
    (hul : s.heap.IsList ul uvs.toArray) (huv : IntsAre uvs us) (hus : us.length < 60) (hull : @Ne Nat ul ll) (hfal : @Ne Nat fa ll)
    (hfa : s.heap.IsList fa nvs.toArray) (hnv : StrsAre nvs ts) (hts : ∀ x ∈ ts, x ∈ UNI) (htl : ts.length < 30) (hwy : wy < 3) (R : RefV uv rf)
    (ret : ∀ r h' tk' es' n' m' las', (hideAll s.heap [bd, ll]).StaysIn h' → h'.get? bd = some (dictOf es' n') → BoxD es' ll nx (runF ds rf wy ts (keysIn ds.length us) top).2.1 → h'.get? ll = some (listOf (las'.map Value.ref).toArray m') →
      LetsAt (lift hG s.heap h') las' (runF ds rf wy ts (keysIn ds.length us) top).1 → ∀ c d cvs rvs cn rn, h'.get? r = some { cls := .type "tuple", data := .seq #[.ref c, .ref d] } → h'.get? c = some (listOf (List.toArray cvs) cn) → h'.get? d = some (listOf (List.toArray rvs) rn) → IntsAre cvs (runF ds rf wy ts (keysIn ds.length us) top).2.2 → IntsAre rvs (((keysIn ds.length us).filter fun k => (ds[k]?).any rf).map fun (k : Nat) => (k : Int) + 1) → s.heap.get? r = none → s.heap.get? c = none → s.heap.get? d = none → Q (.ref r) { s with heap := h', toks := tk' }),
    wpAny (model PySem.Challenge.rw_no0367_01.row.prog w) (Ar dp un fr gd) (call (.ref 216) [.ref bx, .ref ul, .str (wayStr wy) t, .ref fa, uv]) Q E s :=
  eps_all (P := SFP) SFne (by with_unfolding_all exact SFc.pf) (w, dp, un, fr, gd, s, mean, mg, mb, E, H0, Q, bx, bd, ll, ul, fa, es, n, m0, nx, top, las, ds, uvs, nvs, us, ts, wy, t, uv, rf, hG)


theorem own_of {g h : Heap} {L : Addr} {m : Str → Option Value} {news : List (Addr × Obj)} (F : Fr g L h m) (N : News g L h news) {b : Addr} (hb : h.objs.size ≤ b) : g.get? b = none ∧ b ≠ L ∧ ∀ p ∈ news, p.1 ≠ b :=
  let z := Fr.fresh F (Heap.get?_none_of_le hb)
  ⟨z.2, z.1, fun p hp q => by have := Heap.lt_size (N p hp).1; rw [q] at this; exact absurd this (Nat.not_lt.mpr hb)⟩
/-- what of the names a comprehension has taken among the first i -/
inductive LNJ (i : Nat) (ys : List Value) : Prop
  | mk (ts : List Str) : StrsAre ys ts → ts.Sublist (UNI.take i) → LNJ i ys
noncomputable def LNG (w : World) (dp : Nat) (un : Nat) (fr : Option (List Env)) (gd : Option (List Code)) (s : Shared) (mean : ExcName → Option Value) (mg : Str → Option Value) (mb : Str → Option Value) (E : Value → Shared → Prop) (H0 : Heap) (Q : Value → Shared → Prop) (mk : Int) (t : Tok) : Prop := ∀ (W : Wd w.params mean mg mb H0) (hs : H0.StaysIn s.heap) (hdp : dp + 2 < recursionLimit) (hun : un + 40 < cLine) (hmk : 0 ≤ mk ∧ mk < 1000) (ret : ∀ r vs ts n h' tk', s.heap.StaysIn h' → s.heap.get? r = none → h'.get? r = some (listOf vs.toArray n) → StrsAre vs ts → ts.Sublist UNI → Q (.ref r) { s with heap := h', toks := tk' }),
    wpAny (model PySem.Challenge.rw_no0367_01.row.prog w) (Ar dp un fr gd) (call (.ref 228) [.int mk t]) Q E s
noncomputable abbrev LNK : Type _ := (World) × (Nat) × (Nat) × (Option (List Env)) × (Option (List Code)) × (Shared) × (ExcName → Option Value) × (Str → Option Value) × (Str → Option Value) × (Value → Shared → Prop) × (Heap) × (Value → Shared → Prop) × (Int) × (Tok)
noncomputable def LNP (k : LNK) : Prop := LNG (k.1) (k.2.1) (k.2.2.1) (k.2.2.2.1) (k.2.2.2.2.1) (k.2.2.2.2.2.1) (k.2.2.2.2.2.2.1) (k.2.2.2.2.2.2.2.1) (k.2.2.2.2.2.2.2.2.1) (k.2.2.2.2.2.2.2.2.2.1) (k.2.2.2.2.2.2.2.2.2.2.1) (k.2.2.2.2.2.2.2.2.2.2.2.1) (k.2.2.2.2.2.2.2.2.2.2.2.2.1) (k.2.2.2.2.2.2.2.2.2.2.2.2.2)
theorem LNne : Nonempty LNK := ⟨((wd0 : World), (0 : Nat), (0 : Nat), (none : Option (List Env)), (none : Option (List Code)), ({} : Shared), (fun _ => none : ExcName → Option Value), (fun _ => none : Str → Option Value), (fun _ => none : Str → Option Value), (fun _ _ => True : Value → Shared → Prop), ({} : Heap), (fun _ _ => True : Value → Shared → Prop), (0 : Int), (0 : Tok))⟩
@[irreducible] noncomputable def LNk : LNK := @Classical.epsilon _ LNne fun k => ¬ LNP k
theorem LNc.pf : LNP LNk := by
  refine (?m : ∀ (w : World) (dp : Nat) (un : Nat) (fr : Option (List Env)) (gd : Option (List Code)) (s : Shared) (mean : ExcName → Option Value) (mg : Str → Option Value) (mb : Str → Option Value) (E : Value → Shared → Prop) (H0 : Heap) (Q : Value → Shared → Prop) (mk : Int) (t : Tok), ∀ (W : Wd w.params mean mg mb H0) (hs : H0.StaysIn s.heap) (hdp : dp + 2 < recursionLimit) (hun : un + 40 < cLine) (hmk : 0 ≤ mk ∧ mk < 1000) (ret : ∀ r vs ts n h' tk', s.heap.StaysIn h' → s.heap.get? r = none → h'.get? r = some (listOf vs.toArray n) → StrsAre vs ts → ts.Sublist UNI → Q (.ref r) { s with heap := h', toks := tk' }),
    wpAny (model PySem.Challenge.rw_no0367_01.row.prog w) (Ar dp un fr gd) (call (.ref 228) [.int mk t]) Q E s) (LNk.1) (LNk.2.1) (LNk.2.2.1) (LNk.2.2.2.1) (LNk.2.2.2.2.1) (LNk.2.2.2.2.2.1) (LNk.2.2.2.2.2.2.1) (LNk.2.2.2.2.2.2.2.1) (LNk.2.2.2.2.2.2.2.2.1) (LNk.2.2.2.2.2.2.2.2.2.1) (LNk.2.2.2.2.2.2.2.2.2.2.1) (LNk.2.2.2.2.2.2.2.2.2.2.2.1) (LNk.2.2.2.2.2.2.2.2.2.2.2.2.1) (LNk.2.2.2.2.2.2.2.2.2.2.2.2.2)
  intro w dp un fr gd s mean mg mb E H0 Q mk t
  intro W hs hdp hun hmk ret
  refine' enterC (H0 := H0) (mean := mean) (mg := mg) (mb := mb) (binds := [("mask", .int mk t)]) W hs [] (fun _ h => nomatch h) (by show dp < recursionLimit; first | exact room0 (by assumption) | omega) ?ho ?hcd ?hbind ?hkind ?hnd ?_ ?hco ?hgen ?hk
  (case ho => k_is); (case hcd => k_is); (case hbind => exact BindsTo.of_eq rfl); (case hkind => exact rfl); (case hnd => decide +kernel); (case hco => exact rfl); (case hgen => exact rfl); (case hk => exact rfl)
  intro g L' h₁ tk cells hg hst F N Y X T hlt
  simp only [List.map_nil, hideAll] at hg
  subst hg
  obtain ⟨o1, rfl, d1⟩ := CellsAre.one Y
  replace d1 : o1.data = .cell (some (.int mk t)) := d1
  replace F : Fr s.heap L' h₁ (fun _ => none) := F
  replace N : News s.heap L' h₁ [(L' + 1, o1)] := N
  clear Y hlt
  revert d1 F N
  revert L' h₁ tk o1
  refine @eps4 _ _ _ _ ⟨((0 : Addr), ({} : Heap), (0 : Tok), (default : Obj))⟩ ?P18 ((?close18 : ∀ a0 a1 a2 a3, ?P18 a0 a1 a2 a3) _ _ _ _ )
  intro L' h₁ tk o1 d1 F N
  try k_fold
  k_extra "MINE steps"
  refine LC (cl := [("mask", L' + 1)]) rfl rfl (by decide) rfl (by decide) ?_ (by intro _; rfl)
  k_extra "MINE steps"
  rename StrsAre _ _ => hS
  rename Fr _ _ _ _ => F1
  rename News _ _ _ _ => N1
  replace hS : StrsAre _ UNI := hS
  have hU5 := hS.length
  refine call_enumerate_list (News.isList N1 (.head _)) fun h' hE hI hsz hk => ?_
  have hls := keepsList (News.isList N1 (.head _)) hk
  have F2 := Fr.grow F1 hk
  have N2 := News.grow N1 hk
  have hlt := Heap.lt_size (N1 _ (.head _)).1
  have hlt2 := Heap.lt_size (N1 _ (.tail _ (.head _))).1
  have hLs := F1.ns.lt
  dsimp only at hlt hlt2
  refine CompAt.flat s.heap LNJ (.enum _ _ _ hls hE hI ?e1 ?e2 ?e3) (le_lit (Nat.le_of_eq hU5) rfl) F2 N2 (?own) (.mk [] .nil .slnil) ?turn ?done
  case e1 => exact Nat.succ_ne_self _
  case e2 => exact Nat.ne_of_lt (Nat.lt_succ_of_lt hlt)
  case e3 => exact Nat.ne_of_lt hlt
  case own => exact fun b hb => own_of F1 N1 (by rcases List.mem_cons.mp hb with rfl | hb; exact Nat.le_succ _; exact Nat.le_of_eq (List.mem_singleton.mp hb).symm)
  case turn =>
    intro g' hg' i v C D h tk2 m ys its e hi hP hJ hys F₃ N₃
    obtain ⟨ts, hts, hsub⟩ := hJ
    obtain ⟨x, tt, T1, hx, hT⟩ := hP
    obtain ⟨nm, tn, rfl, hnm⟩ := strs_get hS hx
    have hT' : IsTup h T1 #[.int (i : Int) tt, .str nm tn] := hT
    have kg : s.heap.StaysIn g' := fun b o q => hg' b o (by
      have q2 := Heap.lt_size (F1.keep b o q)
      intro z
      rcases List.mem_cons.mp z with z | z
      · rw [z] at q2; exact absurd q2 (Nat.not_lt.mpr (Nat.le_succ _))
      · rw [List.mem_singleton.mp z] at q2; exact Nat.lt_irrefl _ q2) (F2.keep b o q)
    have X' := X.keeps kg
    have T' := T.keeps kg
    have hc := cellAt (hg' (L' + 1) o1 (by
      intro z
      rcases List.mem_cons.mp z with z | z
      · rw [z] at hlt2; exact absurd hlt2 (Nat.not_lt.mpr (Nat.le_succ _))
      · rw [List.mem_singleton.mp z] at hlt2; exact Nat.lt_irrefl _ hlt2) (N2 _ (.tail _ (.head _))).1) d1
    have hi5 : i < 5 := Nat.lt_of_lt_of_eq hi hU5
    have hi9 : (i : Int) < 9000 := Int.ofNat_lt.mpr (ltlt_lit hi5 rfl)
    have hi8 : (i : Int) ≤ 1000000 := Int.ofNat_le.mpr (ltle_lit hi5 rfl)
    have hsz : ys.length ≤ 1000 := Nat.le_trans hys (Nat.le_trans (Nat.le_of_lt hi5) (lit_le rfl))
    have htake : UNI.take (i + 1) = UNI.take i ++ [nm] := take_snoc hnm
    clear F1 N1 F2 N2 X T hE hI
    k_extra "MINE steps"
    · rename Fr _ _ _ _ => FF
      rename News _ _ _ _ => NN
      exact .mk FF NN (.mk (ts ++ [nm]) (strs_snoc hts nm tn) (by rw [htake]; exact hsub.append (List.Sublist.refl _)))
    · rename Fr _ _ _ _ => FF
      rename News _ _ _ _ => NN
      exact .mk FF NN (.mk ts hts (by rw [htake]; exact hsub.trans (List.sublist_append_left _ _)))
  case done =>
    rintro D h' tk2 ys e ⟨ts, hts, hsub⟩ hys F₃ N₃ hlt3
    dsimp only
    exact ret D ys ts e h' tk2 F₃.keep (N₃ _ (.head _)).2.2 (N₃ _ (.head _)).1 hts (hsub.trans (List.take_sublist _ _))
theorem law_names_spec {w : World} {dp : Nat} {un : Nat} {fr : Option (List Env)} {gd : Option (List Code)} {s : Shared} {mean : ExcName → Option Value} {mg : Str → Option Value} {mb : Str → Option Value} {E : Value → Shared → Prop} {H0 : Heap} {Q : Value → Shared → Prop} {mk : Int} {t : Tok} : ∀ (W : Wd w.params mean mg mb H0) (hs : H0.StaysIn s.heap) (hdp : dp + 2 < recursionLimit) (hun : un + 40 < cLine) (hmk : 0 ≤ mk ∧ mk < 1000) (ret : ∀ r vs ts n h' tk', s.heap.StaysIn h' → s.heap.get? r = none → h'.get? r = some (listOf vs.toArray n) → StrsAre vs ts → ts.Sublist UNI → Q (.ref r) { s with heap := h', toks := tk' }),
    wpAny (model PySem.Challenge.rw_no0367_01.row.prog w) (Ar dp un fr gd) (call (.ref 228) [.int mk t]) Q E s :=
  eps_all (P := LNP) LNne (by with_unfolding_all exact LNc.pf) (w, dp, un, fr, gd, s, mean, mg, mb, E, H0, Q, mk, t)
theorem sub_uni {ts : List Str} (h : ts.Sublist UNI) : (∀ x ∈ ts, x ∈ UNI) ∧ ts.length ≤ 5 ∧ ts.Nodup ∧ canon ts = ts := by
  refine ⟨fun x hx => h.subset hx, h.length_le, h.nodup (by decide +kernel), ?_⟩
  exact up_ext _ _ (canon_up ts) (uni_up.sublist h) fun x => ⟨fun q => (mem_canon.mp q).2, fun q => mem_canon.mpr ⟨h.subset q, q⟩⟩



/-- the flags behind, as the law tells them -/
noncomputable def beh (wy : Nat) (fl ts : List Str) : List Str := if wy = 0 then canon (fl ++ ts) else if wy = 1 then fl.filter (fun x => !ts.any (· == x)) else canon ts
noncomputable def LAG (w : World) (dp : Nat) (un : Nat) (fr : Option (List Env)) (gd : Option (List Code)) (s : Shared) (mean : ExcName → Option Value) (mg : Str → Option Value) (mb : Str → Option Value) (E : Value → Shared → Prop) (H0 : Heap) (Q : Value → Shared → Prop) (ht : Addr) (nl : Addr) (fvs : List Value) (nvs : List Value) (fl : List Str) (ts : List Str) (t : Tok) : Prop := ∀ (W : Wd w.params mean mg mb H0) (hs : H0.StaysIn s.heap) (hdp : dp + 9 < recursionLimit) (hun : un + 60 < cLine) (hft : IsTup s.heap ht fvs.toArray) (hfv : StrsAre fvs fl) (hfu : fl.Sublist UNI) (hnl : s.heap.IsList nl nvs.toArray) (hnv : StrsAre nvs ts) (hts : ts.Sublist UNI) (ret : ∀ r vs h' tk', s.heap.StaysIn h' → s.heap.get? r = none → h'.get? r = some { cls := .type "tuple", data := .seq vs.toArray } → StrsAre vs (beh 0 fl ts) → Q (.ref r) { s with heap := h', toks := tk' }),
    wpAny (model PySem.Challenge.rw_no0367_01.row.prog w) (Ar dp un fr gd) (call (.ref 233) [.ref ht, .int 0 t, .ref nl]) Q E s
noncomputable abbrev LAK : Type _ := (World) × (Nat) × (Nat) × (Option (List Env)) × (Option (List Code)) × (Shared) × (ExcName → Option Value) × (Str → Option Value) × (Str → Option Value) × (Value → Shared → Prop) × (Heap) × (Value → Shared → Prop) × (Addr) × (Addr) × (List Value) × (List Value) × (List Str) × (List Str) × (Tok)
noncomputable def LAP (k : LAK) : Prop := LAG (k.1) (k.2.1) (k.2.2.1) (k.2.2.2.1) (k.2.2.2.2.1) (k.2.2.2.2.2.1) (k.2.2.2.2.2.2.1) (k.2.2.2.2.2.2.2.1) (k.2.2.2.2.2.2.2.2.1) (k.2.2.2.2.2.2.2.2.2.1) (k.2.2.2.2.2.2.2.2.2.2.1) (k.2.2.2.2.2.2.2.2.2.2.2.1) (k.2.2.2.2.2.2.2.2.2.2.2.2.1) (k.2.2.2.2.2.2.2.2.2.2.2.2.2.1) (k.2.2.2.2.2.2.2.2.2.2.2.2.2.2.1) (k.2.2.2.2.2.2.2.2.2.2.2.2.2.2.2.1) (k.2.2.2.2.2.2.2.2.2.2.2.2.2.2.2.2.1) (k.2.2.2.2.2.2.2.2.2.2.2.2.2.2.2.2.2.1) (k.2.2.2.2.2.2.2.2.2.2.2.2.2.2.2.2.2.2)
theorem LAne : Nonempty LAK := ⟨((wd0 : World), (0 : Nat), (0 : Nat), (none : Option (List Env)), (none : Option (List Code)), ({} : Shared), (fun _ => none : ExcName → Option Value), (fun _ => none : Str → Option Value), (fun _ => none : Str → Option Value), (fun _ _ => True : Value → Shared → Prop), ({} : Heap), (fun _ _ => True : Value → Shared → Prop), (0 : Addr), (0 : Addr), ([] : List Value), ([] : List Value), ([] : List Str), ([] : List Str), (0 : Tok))⟩
@[irreducible] noncomputable def LAk : LAK := @Classical.epsilon _ LAne fun k => ¬ LAP k
theorem LAc.pf : LAP LAk := by
  refine (?m : ∀ (w : World) (dp : Nat) (un : Nat) (fr : Option (List Env)) (gd : Option (List Code)) (s : Shared) (mean : ExcName → Option Value) (mg : Str → Option Value) (mb : Str → Option Value) (E : Value → Shared → Prop) (H0 : Heap) (Q : Value → Shared → Prop) (ht : Addr) (nl : Addr) (fvs : List Value) (nvs : List Value) (fl : List Str) (ts : List Str) (t : Tok), ∀ (W : Wd w.params mean mg mb H0) (hs : H0.StaysIn s.heap) (hdp : dp + 9 < recursionLimit) (hun : un + 60 < cLine) (hft : IsTup s.heap ht fvs.toArray) (hfv : StrsAre fvs fl) (hfu : fl.Sublist UNI) (hnl : s.heap.IsList nl nvs.toArray) (hnv : StrsAre nvs ts) (hts : ts.Sublist UNI) (ret : ∀ r vs h' tk', s.heap.StaysIn h' → s.heap.get? r = none → h'.get? r = some { cls := .type "tuple", data := .seq vs.toArray } → StrsAre vs (beh 0 fl ts) → Q (.ref r) { s with heap := h', toks := tk' }),
    wpAny (model PySem.Challenge.rw_no0367_01.row.prog w) (Ar dp un fr gd) (call (.ref 233) [.ref ht, .int 0 t, .ref nl]) Q E s) (LAk.1) (LAk.2.1) (LAk.2.2.1) (LAk.2.2.2.1) (LAk.2.2.2.2.1) (LAk.2.2.2.2.2.1) (LAk.2.2.2.2.2.2.1) (LAk.2.2.2.2.2.2.2.1) (LAk.2.2.2.2.2.2.2.2.1) (LAk.2.2.2.2.2.2.2.2.2.1) (LAk.2.2.2.2.2.2.2.2.2.2.1) (LAk.2.2.2.2.2.2.2.2.2.2.2.1) (LAk.2.2.2.2.2.2.2.2.2.2.2.2.1) (LAk.2.2.2.2.2.2.2.2.2.2.2.2.2.1) (LAk.2.2.2.2.2.2.2.2.2.2.2.2.2.2.1) (LAk.2.2.2.2.2.2.2.2.2.2.2.2.2.2.2.1) (LAk.2.2.2.2.2.2.2.2.2.2.2.2.2.2.2.2.1) (LAk.2.2.2.2.2.2.2.2.2.2.2.2.2.2.2.2.2.1) (LAk.2.2.2.2.2.2.2.2.2.2.2.2.2.2.2.2.2.2)
  intro w dp un fr gd s mean mg mb E H0 Q ht nl fvs nvs fl ts t
  intro W hs hdp hun hft hfv hfu hnl hnv hts ret
  refine' enterC (H0 := H0) (mean := mean) (mg := mg) (mb := mb) (binds := [("have", .ref ht), ("way", .int 0 t), ("names", .ref nl)]) W hs [] (fun _ h => nomatch h) (by show dp < recursionLimit; first | exact room0 (by assumption) | omega) ?ho ?hcd ?hbind ?hkind ?hnd ?_ ?hco ?hgen ?hk
  (case ho => k_is); (case hcd => k_is); (case hbind => exact BindsTo.of_eq rfl); (case hkind => exact rfl); (case hnd => decide +kernel); (case hco => exact rfl); (case hgen => exact rfl); (case hk => exact rfl)
  intro g L' h₁ tk cells hg hst F N Y X T hlt
  simp only [List.map_nil, hideAll] at hg
  subst hg
  obtain ⟨o1, o2, rfl, d1, d2⟩ := CellsAre.two Y
  replace d1 : o1.data = .cell (some (.ref nl)) := d1
  replace d2 : o2.data = .cell (some (.ref ht)) := d2
  replace F : Fr s.heap L' h₁ (fun y => if y = "way" then some (.int 0 t) else none) := F
  replace N : News s.heap L' h₁ [(L' + 2, o1), (L' + 1, o2)] := N
  clear Y hlt
  revert d1 d2 F N
  revert L' h₁ tk o1 o2
  refine @eps5 _ _ _ _ _ ⟨((0 : Addr), ({} : Heap), (0 : Tok), (default : Obj), (default : Obj))⟩ ?P19 ((?close19 : ∀ a0 a1 a2 a3 a4, ?P19 a0 a1 a2 a3 a4) _ _ _ _ _ )
  intro L' h₁ tk o1 o2 d1 d2 F N
  have hn3 : fvs.length ≤ 5 := Nat.le_trans (Nat.le_of_eq (StrsAre.length hfv)) hfu.length_le
  have hn4 : nvs.length ≤ 5 := Nat.le_trans (Nat.le_of_eq (StrsAre.length hnv)) hts.length_le
  try k_fold
  k_extra "MINE steps"
  refine LC (cl := [("names", L' + 2), ("have", L' + 1)]) rfl rfl (by decide) rfl (by decide) ?_ (by intro _; rfl)
  k_extra "MINE steps"
  rename StrsAre _ _ => hS
  rename Fr _ _ _ _ => F1
  rename News _ _ _ _ => N1
  replace hS : StrsAre _ UNI := hS
  refine CompAt.flat s.heap (fun i ys => StrsAre ys ((UNI.take i).filter fun x => fl.any (· == x) || ts.any (· == x))) (.list _ _ (News.isList N1 (.head _))) (le_lit (Nat.le_of_eq hS.length) rfl) F1 N1 (fun _ h => nomatch h) .nil ?_ ?_
  · intro g' hg' i v C D h tk2 m ys its e hi hP hJ hys F₂ N₂
    have hys' := hJ
    obtain ⟨x, t', rfl, hx⟩ := strs_get hS hP
    have kg1 := nil_stays hg'
    have kg := stays_trans F1.keep kg1
    have X' := X.keeps kg
    have T' := T.keeps kg
    have hc1 := cellKeeps (cellAt (N1 (L' + 2, o1) (by k_extra "MINE mem")).1 d1) kg1
    have hc2 := cellKeeps (cellAt (N1 (L' + 1, o2) (by k_extra "MINE mem")).1 d2) kg1
    have hft2 := keepsTup hft kg
    have hnl2 := keepsList hnl kg
    have hi5 : i < 5 := Nat.lt_of_lt_of_eq hi hS.length
    have hsz : ys.length ≤ 1000 := Nat.le_trans hys (Nat.le_trans (Nat.le_of_lt hi5) (lit_le rfl))
    clear F1 N1 X T
    k_extra "MINE steps"
    · rename Fr _ _ _ _ => FF
      rename News _ _ _ _ => NN
      rename (List.any fl _ = true) => q1
      exact .mk FF NN (by rw [filt_in hx (by rw [q1]; rfl)]; exact strs_snoc hys' x _)
    · rename Fr _ _ _ _ => FF
      rename News _ _ _ _ => NN
      rename (List.any fl _ = false) => q1
      rename (List.any ts _ = true) => q2
      exact .mk FF NN (by rw [filt_in hx (by rw [q1, q2]; rfl)]; exact strs_snoc hys' x _)
    · rename Fr _ _ _ _ => FF
      rename News _ _ _ _ => NN
      rename (List.any fl _ = false) => q1
      rename (List.any ts _ = false) => q2
      exact .mk FF NN (by rw [filt_out hx (by rw [q1, q2]; rfl)]; exact hys')
  · rintro D h' tk2 ys e hys' hys F₂ N₂ hlt
    dsimp only
    rw [List.take_of_length_le (Nat.le_of_eq hS.length.symm)] at hys'
    have hyl : ys.length < 64 := lt_lit (Nat.le_trans hys (Nat.le_of_eq hS.length)) rfl
    have l9 := allLt_of hlt
    simp only [AllLt, and_true] at l9
    clear F1 N1 hlt
    k_extra "MINE steps"
    rename List.Perm _ _ => hP
    rename sortedS _ = true => hSo
    rename StrsAre _ _ => hS'
    rename Fr _ _ _ _ => FF
    rename News _ _ _ _ => NN
    rw [sorted_canon (ts := fl ++ ts) hP (List.filter_sublist.nodup (by decide +kernel)) (fun x => by
      rw [List.mem_filter, List.mem_append]
      simp only [Bool.or_eq_true, List.any_eq_true, beq_iff_eq, exists_eq_right]
      exact ⟨fun q => q.2, fun q => ⟨q.elim (fun z => hfu.subset z) fun z => hts.subset z, q⟩⟩) (fun x hx => (List.mem_append.mp hx).elim (fun z => hfu.subset z) fun z => hts.subset z) hSo] at hS'
    try dsimp only
    exact ret _ _ _ _ FF.keep (NN _ (.head _)).2.2 (NN _ (.head _)).1 hS'
theorem law_behind_0 {w : World} {dp : Nat} {un : Nat} {fr : Option (List Env)} {gd : Option (List Code)} {s : Shared} {mean : ExcName → Option Value} {mg : Str → Option Value} {mb : Str → Option Value} {E : Value → Shared → Prop} {H0 : Heap} {Q : Value → Shared → Prop} {ht : Addr} {nl : Addr} {fvs : List Value} {nvs : List Value} {fl : List Str} {ts : List Str} {t : Tok} : ∀ (W : Wd w.params mean mg mb H0) (hs : H0.StaysIn s.heap) (hdp : dp + 9 < recursionLimit) (hun : un + 60 < cLine) (hft : IsTup s.heap ht fvs.toArray) (hfv : StrsAre fvs fl) (hfu : fl.Sublist UNI) (hnl : s.heap.IsList nl nvs.toArray) (hnv : StrsAre nvs ts) (hts : ts.Sublist UNI) (ret : ∀ r vs h' tk', s.heap.StaysIn h' → s.heap.get? r = none → h'.get? r = some { cls := .type "tuple", data := .seq vs.toArray } → StrsAre vs (beh 0 fl ts) → Q (.ref r) { s with heap := h', toks := tk' }),
    wpAny (model PySem.Challenge.rw_no0367_01.row.prog w) (Ar dp un fr gd) (call (.ref 233) [.ref ht, .int 0 t, .ref nl]) Q E s :=
  eps_all (P := LAP) LAne (by with_unfolding_all exact LAc.pf) (w, dp, un, fr, gd, s, mean, mg, mb, E, H0, Q, ht, nl, fvs, nvs, fl, ts, t)
noncomputable def LBG (w : World) (dp : Nat) (un : Nat) (fr : Option (List Env)) (gd : Option (List Code)) (s : Shared) (mean : ExcName → Option Value) (mg : Str → Option Value) (mb : Str → Option Value) (E : Value → Shared → Prop) (H0 : Heap) (Q : Value → Shared → Prop) (ht : Addr) (nl : Addr) (fvs : List Value) (nvs : List Value) (fl : List Str) (ts : List Str) (t : Tok) : Prop := ∀ (W : Wd w.params mean mg mb H0) (hs : H0.StaysIn s.heap) (hdp : dp + 9 < recursionLimit) (hun : un + 60 < cLine) (hft : IsTup s.heap ht fvs.toArray) (hfv : StrsAre fvs fl) (hfu : fl.Sublist UNI) (hnl : s.heap.IsList nl nvs.toArray) (hnv : StrsAre nvs ts) (hts : ts.Sublist UNI) (ret : ∀ r vs h' tk', s.heap.StaysIn h' → s.heap.get? r = none → h'.get? r = some { cls := .type "tuple", data := .seq vs.toArray } → StrsAre vs (beh 1 fl ts) → Q (.ref r) { s with heap := h', toks := tk' }),
    wpAny (model PySem.Challenge.rw_no0367_01.row.prog w) (Ar dp un fr gd) (call (.ref 233) [.ref ht, .int 1 t, .ref nl]) Q E s
noncomputable abbrev LBK : Type _ := (World) × (Nat) × (Nat) × (Option (List Env)) × (Option (List Code)) × (Shared) × (ExcName → Option Value) × (Str → Option Value) × (Str → Option Value) × (Value → Shared → Prop) × (Heap) × (Value → Shared → Prop) × (Addr) × (Addr) × (List Value) × (List Value) × (List Str) × (List Str) × (Tok)
noncomputable def LBP (k : LBK) : Prop := LBG (k.1) (k.2.1) (k.2.2.1) (k.2.2.2.1) (k.2.2.2.2.1) (k.2.2.2.2.2.1) (k.2.2.2.2.2.2.1) (k.2.2.2.2.2.2.2.1) (k.2.2.2.2.2.2.2.2.1) (k.2.2.2.2.2.2.2.2.2.1) (k.2.2.2.2.2.2.2.2.2.2.1) (k.2.2.2.2.2.2.2.2.2.2.2.1) (k.2.2.2.2.2.2.2.2.2.2.2.2.1) (k.2.2.2.2.2.2.2.2.2.2.2.2.2.1) (k.2.2.2.2.2.2.2.2.2.2.2.2.2.2.1) (k.2.2.2.2.2.2.2.2.2.2.2.2.2.2.2.1) (k.2.2.2.2.2.2.2.2.2.2.2.2.2.2.2.2.1) (k.2.2.2.2.2.2.2.2.2.2.2.2.2.2.2.2.2.1) (k.2.2.2.2.2.2.2.2.2.2.2.2.2.2.2.2.2.2)
theorem LBne : Nonempty LBK := ⟨((wd0 : World), (0 : Nat), (0 : Nat), (none : Option (List Env)), (none : Option (List Code)), ({} : Shared), (fun _ => none : ExcName → Option Value), (fun _ => none : Str → Option Value), (fun _ => none : Str → Option Value), (fun _ _ => True : Value → Shared → Prop), ({} : Heap), (fun _ _ => True : Value → Shared → Prop), (0 : Addr), (0 : Addr), ([] : List Value), ([] : List Value), ([] : List Str), ([] : List Str), (0 : Tok))⟩
@[irreducible] noncomputable def LBk : LBK := @Classical.epsilon _ LBne fun k => ¬ LBP k
theorem LBc.pf : LBP LBk := by
  refine (?m : ∀ (w : World) (dp : Nat) (un : Nat) (fr : Option (List Env)) (gd : Option (List Code)) (s : Shared) (mean : ExcName → Option Value) (mg : Str → Option Value) (mb : Str → Option Value) (E : Value → Shared → Prop) (H0 : Heap) (Q : Value → Shared → Prop) (ht : Addr) (nl : Addr) (fvs : List Value) (nvs : List Value) (fl : List Str) (ts : List Str) (t : Tok), ∀ (W : Wd w.params mean mg mb H0) (hs : H0.StaysIn s.heap) (hdp : dp + 9 < recursionLimit) (hun : un + 60 < cLine) (hft : IsTup s.heap ht fvs.toArray) (hfv : StrsAre fvs fl) (hfu : fl.Sublist UNI) (hnl : s.heap.IsList nl nvs.toArray) (hnv : StrsAre nvs ts) (hts : ts.Sublist UNI) (ret : ∀ r vs h' tk', s.heap.StaysIn h' → s.heap.get? r = none → h'.get? r = some { cls := .type "tuple", data := .seq vs.toArray } → StrsAre vs (beh 1 fl ts) → Q (.ref r) { s with heap := h', toks := tk' }),
    wpAny (model PySem.Challenge.rw_no0367_01.row.prog w) (Ar dp un fr gd) (call (.ref 233) [.ref ht, .int 1 t, .ref nl]) Q E s) (LBk.1) (LBk.2.1) (LBk.2.2.1) (LBk.2.2.2.1) (LBk.2.2.2.2.1) (LBk.2.2.2.2.2.1) (LBk.2.2.2.2.2.2.1) (LBk.2.2.2.2.2.2.2.1) (LBk.2.2.2.2.2.2.2.2.1) (LBk.2.2.2.2.2.2.2.2.2.1) (LBk.2.2.2.2.2.2.2.2.2.2.1) (LBk.2.2.2.2.2.2.2.2.2.2.2.1) (LBk.2.2.2.2.2.2.2.2.2.2.2.2.1) (LBk.2.2.2.2.2.2.2.2.2.2.2.2.2.1) (LBk.2.2.2.2.2.2.2.2.2.2.2.2.2.2.1) (LBk.2.2.2.2.2.2.2.2.2.2.2.2.2.2.2.1) (LBk.2.2.2.2.2.2.2.2.2.2.2.2.2.2.2.2.1) (LBk.2.2.2.2.2.2.2.2.2.2.2.2.2.2.2.2.2.1) (LBk.2.2.2.2.2.2.2.2.2.2.2.2.2.2.2.2.2.2)
  intro w dp un fr gd s mean mg mb E H0 Q ht nl fvs nvs fl ts t
  intro W hs hdp hun hft hfv hfu hnl hnv hts ret
  refine' enterC (H0 := H0) (mean := mean) (mg := mg) (mb := mb) (binds := [("have", .ref ht), ("way", .int 1 t), ("names", .ref nl)]) W hs [] (fun _ h => nomatch h) (by show dp < recursionLimit; first | exact room0 (by assumption) | omega) ?ho ?hcd ?hbind ?hkind ?hnd ?_ ?hco ?hgen ?hk
  (case ho => k_is); (case hcd => k_is); (case hbind => exact BindsTo.of_eq rfl); (case hkind => exact rfl); (case hnd => decide +kernel); (case hco => exact rfl); (case hgen => exact rfl); (case hk => exact rfl)
  intro g L' h₁ tk cells hg hst F N Y X T hlt
  simp only [List.map_nil, hideAll] at hg
  subst hg
  obtain ⟨o1, o2, rfl, d1, d2⟩ := CellsAre.two Y
  replace d1 : o1.data = .cell (some (.ref nl)) := d1
  replace d2 : o2.data = .cell (some (.ref ht)) := d2
  replace F : Fr s.heap L' h₁ (fun y => if y = "way" then some (.int 1 t) else none) := F
  replace N : News s.heap L' h₁ [(L' + 2, o1), (L' + 1, o2)] := N
  clear Y hlt
  revert d1 d2 F N
  revert L' h₁ tk o1 o2
  refine @eps5 _ _ _ _ _ ⟨((0 : Addr), ({} : Heap), (0 : Tok), (default : Obj), (default : Obj))⟩ ?P20 ((?close20 : ∀ a0 a1 a2 a3 a4, ?P20 a0 a1 a2 a3 a4) _ _ _ _ _ )
  intro L' h₁ tk o1 o2 d1 d2 F N
  have hn3 : fvs.length ≤ 5 := Nat.le_trans (Nat.le_of_eq (StrsAre.length hfv)) hfu.length_le
  have hn4 : nvs.length ≤ 5 := Nat.le_trans (Nat.le_of_eq (StrsAre.length hnv)) hts.length_le
  try k_fold
  k_extra "MINE steps"
  refine LC (cl := [("names", L' + 2)]) rfl rfl (by decide) rfl (by decide) ?_ (by intro _; rfl)
  k_extra "MINE steps"
  rename Fr _ _ _ _ => F1
  rename News _ _ _ _ => N1
  refine CompAt.flat s.heap (fun i ys => StrsAre ys ((fl.take i).filter fun x => !ts.any (· == x))) (.tup _ _ (keepsTup hft F1.keep)) (le_lit hn3 rfl) F1 N1 (fun _ h => nomatch h) .nil ?_ ?_
  · intro g' hg' i v C D h tk2 m ys its e hi hP hJ hys F₂ N₂
    have hys' := hJ
    obtain ⟨x, t', rfl, hx⟩ := strs_get hfv hP
    have kg1 := nil_stays hg'
    have kg := stays_trans F1.keep kg1
    have X' := X.keeps kg
    have T' := T.keeps kg
    have hc1 := cellKeeps (cellAt (N1 (L' + 2, o1) (by k_extra "MINE mem")).1 d1) kg1
    have hnl2 := keepsList hnl kg
    have hsz : ys.length ≤ 1000 := Nat.le_trans hys (Nat.le_trans (Nat.le_of_lt hi) (le_lit hn3 rfl))
    clear F1 N1 X T
    walk1
    refine wpAny_tests_one ?_
    k_extra "MINE steps"
    · rename Fr _ _ _ _ => FF
      rename News _ _ _ _ => NN
      rename (List.any ts _ = true) => q2
      exact .mk FF NN (by rw [filt_out hx (not_of_true q2)]; exact hys')
    · rename Fr _ _ _ _ => FF
      rename News _ _ _ _ => NN
      rename (List.any ts _ = false) => q2
      exact .mk FF NN (by rw [filt_in hx (not_of_false q2)]; exact strs_snoc hys' x _)
  · rintro D h' tk2 ys e hys' hys F₂ N₂ hlt
    dsimp only
    rw [List.take_of_length_le (Nat.le_of_eq (StrsAre.length hfv).symm)] at hys'
    have hyl : ys.length < 64 := lt_lit (Nat.le_trans hys hn3) rfl
    have hy2 : ys.length ≤ 1000 := ltle_lit hyl rfl
    clear F1 N1 hlt
    k_extra "MINE steps"
    rename Fr _ _ _ _ => FF
    rename News _ _ _ _ => NN
    try dsimp only
    exact ret _ _ _ _ FF.keep (NN _ (.head _)).2.2 (NN _ (.head _)).1 hys'
theorem law_behind_1 {w : World} {dp : Nat} {un : Nat} {fr : Option (List Env)} {gd : Option (List Code)} {s : Shared} {mean : ExcName → Option Value} {mg : Str → Option Value} {mb : Str → Option Value} {E : Value → Shared → Prop} {H0 : Heap} {Q : Value → Shared → Prop} {ht : Addr} {nl : Addr} {fvs : List Value} {nvs : List Value} {fl : List Str} {ts : List Str} {t : Tok} : ∀ (W : Wd w.params mean mg mb H0) (hs : H0.StaysIn s.heap) (hdp : dp + 9 < recursionLimit) (hun : un + 60 < cLine) (hft : IsTup s.heap ht fvs.toArray) (hfv : StrsAre fvs fl) (hfu : fl.Sublist UNI) (hnl : s.heap.IsList nl nvs.toArray) (hnv : StrsAre nvs ts) (hts : ts.Sublist UNI) (ret : ∀ r vs h' tk', s.heap.StaysIn h' → s.heap.get? r = none → h'.get? r = some { cls := .type "tuple", data := .seq vs.toArray } → StrsAre vs (beh 1 fl ts) → Q (.ref r) { s with heap := h', toks := tk' }),
    wpAny (model PySem.Challenge.rw_no0367_01.row.prog w) (Ar dp un fr gd) (call (.ref 233) [.ref ht, .int 1 t, .ref nl]) Q E s :=
  eps_all (P := LBP) LBne (by with_unfolding_all exact LBc.pf) (w, dp, un, fr, gd, s, mean, mg, mb, E, H0, Q, ht, nl, fvs, nvs, fl, ts, t)
noncomputable def LDG (w : World) (dp : Nat) (un : Nat) (fr : Option (List Env)) (gd : Option (List Code)) (s : Shared) (mean : ExcName → Option Value) (mg : Str → Option Value) (mb : Str → Option Value) (E : Value → Shared → Prop) (H0 : Heap) (Q : Value → Shared → Prop) (ht : Addr) (nl : Addr) (fvs : List Value) (nvs : List Value) (fl : List Str) (ts : List Str) (t : Tok) : Prop := ∀ (W : Wd w.params mean mg mb H0) (hs : H0.StaysIn s.heap) (hdp : dp + 9 < recursionLimit) (hun : un + 60 < cLine) (hft : IsTup s.heap ht fvs.toArray) (hfv : StrsAre fvs fl) (hfu : fl.Sublist UNI) (hnl : s.heap.IsList nl nvs.toArray) (hnv : StrsAre nvs ts) (hts : ts.Sublist UNI) (ret : ∀ r vs h' tk', s.heap.StaysIn h' → s.heap.get? r = none → h'.get? r = some { cls := .type "tuple", data := .seq vs.toArray } → StrsAre vs (beh 2 fl ts) → Q (.ref r) { s with heap := h', toks := tk' }),
    wpAny (model PySem.Challenge.rw_no0367_01.row.prog w) (Ar dp un fr gd) (call (.ref 233) [.ref ht, .int 2 t, .ref nl]) Q E s
noncomputable abbrev LDK : Type _ := (World) × (Nat) × (Nat) × (Option (List Env)) × (Option (List Code)) × (Shared) × (ExcName → Option Value) × (Str → Option Value) × (Str → Option Value) × (Value → Shared → Prop) × (Heap) × (Value → Shared → Prop) × (Addr) × (Addr) × (List Value) × (List Value) × (List Str) × (List Str) × (Tok)
noncomputable def LDP (k : LDK) : Prop := LDG (k.1) (k.2.1) (k.2.2.1) (k.2.2.2.1) (k.2.2.2.2.1) (k.2.2.2.2.2.1) (k.2.2.2.2.2.2.1) (k.2.2.2.2.2.2.2.1) (k.2.2.2.2.2.2.2.2.1) (k.2.2.2.2.2.2.2.2.2.1) (k.2.2.2.2.2.2.2.2.2.2.1) (k.2.2.2.2.2.2.2.2.2.2.2.1) (k.2.2.2.2.2.2.2.2.2.2.2.2.1) (k.2.2.2.2.2.2.2.2.2.2.2.2.2.1) (k.2.2.2.2.2.2.2.2.2.2.2.2.2.2.1) (k.2.2.2.2.2.2.2.2.2.2.2.2.2.2.2.1) (k.2.2.2.2.2.2.2.2.2.2.2.2.2.2.2.2.1) (k.2.2.2.2.2.2.2.2.2.2.2.2.2.2.2.2.2.1) (k.2.2.2.2.2.2.2.2.2.2.2.2.2.2.2.2.2.2)
theorem LDne : Nonempty LDK := ⟨((wd0 : World), (0 : Nat), (0 : Nat), (none : Option (List Env)), (none : Option (List Code)), ({} : Shared), (fun _ => none : ExcName → Option Value), (fun _ => none : Str → Option Value), (fun _ => none : Str → Option Value), (fun _ _ => True : Value → Shared → Prop), ({} : Heap), (fun _ _ => True : Value → Shared → Prop), (0 : Addr), (0 : Addr), ([] : List Value), ([] : List Value), ([] : List Str), ([] : List Str), (0 : Tok))⟩
@[irreducible] noncomputable def LDk : LDK := @Classical.epsilon _ LDne fun k => ¬ LDP k
theorem LDc.pf : LDP LDk := by
  refine (?m : ∀ (w : World) (dp : Nat) (un : Nat) (fr : Option (List Env)) (gd : Option (List Code)) (s : Shared) (mean : ExcName → Option Value) (mg : Str → Option Value) (mb : Str → Option Value) (E : Value → Shared → Prop) (H0 : Heap) (Q : Value → Shared → Prop) (ht : Addr) (nl : Addr) (fvs : List Value) (nvs : List Value) (fl : List Str) (ts : List Str) (t : Tok), ∀ (W : Wd w.params mean mg mb H0) (hs : H0.StaysIn s.heap) (hdp : dp + 9 < recursionLimit) (hun : un + 60 < cLine) (hft : IsTup s.heap ht fvs.toArray) (hfv : StrsAre fvs fl) (hfu : fl.Sublist UNI) (hnl : s.heap.IsList nl nvs.toArray) (hnv : StrsAre nvs ts) (hts : ts.Sublist UNI) (ret : ∀ r vs h' tk', s.heap.StaysIn h' → s.heap.get? r = none → h'.get? r = some { cls := .type "tuple", data := .seq vs.toArray } → StrsAre vs (beh 2 fl ts) → Q (.ref r) { s with heap := h', toks := tk' }),
    wpAny (model PySem.Challenge.rw_no0367_01.row.prog w) (Ar dp un fr gd) (call (.ref 233) [.ref ht, .int 2 t, .ref nl]) Q E s) (LDk.1) (LDk.2.1) (LDk.2.2.1) (LDk.2.2.2.1) (LDk.2.2.2.2.1) (LDk.2.2.2.2.2.1) (LDk.2.2.2.2.2.2.1) (LDk.2.2.2.2.2.2.2.1) (LDk.2.2.2.2.2.2.2.2.1) (LDk.2.2.2.2.2.2.2.2.2.1) (LDk.2.2.2.2.2.2.2.2.2.2.1) (LDk.2.2.2.2.2.2.2.2.2.2.2.1) (LDk.2.2.2.2.2.2.2.2.2.2.2.2.1) (LDk.2.2.2.2.2.2.2.2.2.2.2.2.2.1) (LDk.2.2.2.2.2.2.2.2.2.2.2.2.2.2.1) (LDk.2.2.2.2.2.2.2.2.2.2.2.2.2.2.2.1) (LDk.2.2.2.2.2.2.2.2.2.2.2.2.2.2.2.2.1) (LDk.2.2.2.2.2.2.2.2.2.2.2.2.2.2.2.2.2.1) (LDk.2.2.2.2.2.2.2.2.2.2.2.2.2.2.2.2.2.2)
  intro w dp un fr gd s mean mg mb E H0 Q ht nl fvs nvs fl ts t
  intro W hs hdp hun hft hfv hfu hnl hnv hts ret
  refine' enterC (H0 := H0) (mean := mean) (mg := mg) (mb := mb) (binds := [("have", .ref ht), ("way", .int 2 t), ("names", .ref nl)]) W hs [] (fun _ h => nomatch h) (by show dp < recursionLimit; first | exact room0 (by assumption) | omega) ?ho ?hcd ?hbind ?hkind ?hnd ?_ ?hco ?hgen ?hk
  (case ho => k_is); (case hcd => k_is); (case hbind => exact BindsTo.of_eq rfl); (case hkind => exact rfl); (case hnd => decide +kernel); (case hco => exact rfl); (case hgen => exact rfl); (case hk => exact rfl)
  intro g L' h₁ tk cells hg hst F N Y X T hlt
  simp only [List.map_nil, hideAll] at hg
  subst hg
  obtain ⟨o1, o2, rfl, d1, d2⟩ := CellsAre.two Y
  replace d1 : o1.data = .cell (some (.ref nl)) := d1
  replace d2 : o2.data = .cell (some (.ref ht)) := d2
  replace F : Fr s.heap L' h₁ (fun y => if y = "way" then some (.int 2 t) else none) := F
  replace N : News s.heap L' h₁ [(L' + 2, o1), (L' + 1, o2)] := N
  clear Y hlt
  revert d1 d2 F N
  revert L' h₁ tk o1 o2
  refine @eps5 _ _ _ _ _ ⟨((0 : Addr), ({} : Heap), (0 : Tok), (default : Obj), (default : Obj))⟩ ?P21 ((?close21 : ∀ a0 a1 a2 a3 a4, ?P21 a0 a1 a2 a3 a4) _ _ _ _ _ )
  intro L' h₁ tk o1 o2 d1 d2 F N
  have hn4 : nvs.length < 64 := lt_lit (Nat.le_trans (Nat.le_of_eq (StrsAre.length hnv)) hts.length_le) rfl
  try k_fold
  k_extra "MINE steps"
  rename List.Perm _ _ => hP
  rename sortedS _ = true => hSo
  rename StrsAre _ _ => hS'
  rename Fr _ _ _ _ => FF
  rename News _ _ _ _ => NN
  rw [sorted_canon (ts := ts) hP (sub_uni hts).2.2.1 (fun x => Iff.rfl) (sub_uni hts).1 hSo] at hS'
  try dsimp only
  exact ret _ _ _ _ FF.keep (NN _ (.head _)).2.2 (NN _ (.head _)).1 hS'
theorem law_behind_2 {w : World} {dp : Nat} {un : Nat} {fr : Option (List Env)} {gd : Option (List Code)} {s : Shared} {mean : ExcName → Option Value} {mg : Str → Option Value} {mb : Str → Option Value} {E : Value → Shared → Prop} {H0 : Heap} {Q : Value → Shared → Prop} {ht : Addr} {nl : Addr} {fvs : List Value} {nvs : List Value} {fl : List Str} {ts : List Str} {t : Tok} : ∀ (W : Wd w.params mean mg mb H0) (hs : H0.StaysIn s.heap) (hdp : dp + 9 < recursionLimit) (hun : un + 60 < cLine) (hft : IsTup s.heap ht fvs.toArray) (hfv : StrsAre fvs fl) (hfu : fl.Sublist UNI) (hnl : s.heap.IsList nl nvs.toArray) (hnv : StrsAre nvs ts) (hts : ts.Sublist UNI) (ret : ∀ r vs h' tk', s.heap.StaysIn h' → s.heap.get? r = none → h'.get? r = some { cls := .type "tuple", data := .seq vs.toArray } → StrsAre vs (beh 2 fl ts) → Q (.ref r) { s with heap := h', toks := tk' }),
    wpAny (model PySem.Challenge.rw_no0367_01.row.prog w) (Ar dp un fr gd) (call (.ref 233) [.ref ht, .int 2 t, .ref nl]) Q E s :=
  eps_all (P := LDP) LDne (by with_unfolding_all exact LDc.pf) (w, dp, un, fr, gd, s, mean, mg, mb, E, H0, Q, ht, nl, fvs, nvs, fl, ts, t)
section
variable {w : World} {dp un : Nat} {fr : Option (List Env)} {gd : Option (List Code)} {E : Value → Shared → Prop} {s : Shared} {H0 : Heap} {mean : ExcName → Option Value} {mg mb : Str → Option Value} {Q : Value → Shared → Prop}
theorem law_behind_spec (W : Wd w.params mean mg mb H0) (hs : H0.StaysIn s.heap) (hdp : dp + 9 < recursionLimit) (hun : un + 60 < cLine) {ht nl : Addr} {fvs nvs : List Value} {fl ts : List Str} {t : Tok} {wy : Nat} (hwy : wy < 3) (hft : IsTup s.heap ht fvs.toArray) (hfv : StrsAre fvs fl) (hfu : fl.Sublist UNI) (hnl : s.heap.IsList nl nvs.toArray) (hnv : StrsAre nvs ts) (hts : ts.Sublist UNI)
    (ret : ∀ r vs h' tk', s.heap.StaysIn h' → s.heap.get? r = none → h'.get? r = some { cls := .type "tuple", data := .seq vs.toArray } → StrsAre vs (beh wy fl ts) → Q (.ref r) { s with heap := h', toks := tk' }) :
    wpAny (model PySem.Challenge.rw_no0367_01.row.prog w) (Ar dp un fr gd) (call (.ref 233) [.ref ht, .int (wy : Int) t, .ref nl]) Q E s := by
  rcases three_of hwy with rfl | rfl | rfl
  · exact law_behind_0 W hs hdp hun hft hfv hfu hnl hnv hts ret
  · exact law_behind_1 W hs hdp hun hft hfv hfu hnl hnv hts ret
  · exact law_behind_2 W hs hdp hun hft hfv hfu hnl hnv hts ret
end
theorem beh_sub {wy : Nat} {fl ts : List Str} (h : fl.Sublist UNI) : (beh wy fl ts).Sublist UNI := by
  unfold beh
  split
  · exact List.filter_sublist
  · split
    · exact List.filter_sublist.trans h
    · exact List.filter_sublist
theorem beh_aft {wy : Nat} {fl ts : List Str} (h : fl.Sublist UNI) (ht : ts.Sublist UNI) : canon (aft wy fl ts.reverse) = beh wy fl ts := by
  have hr : canon ts.reverse = ts := by rw [canon_of (us := ts) (fun x _ => List.mem_reverse)]; exact (sub_uni ht).2.2.2
  unfold aft beh
  split
  · rw [canon_canon, hr]
  · split
    · rw [hr]; exact (sub_uni (List.filter_sublist.trans h)).2.2.2
    · rw [canon_canon, hr]; exact ((sub_uni ht).2.2.2).symm


/-- one fresh object of the ledger joins the tail -/
theorem Imm.add {g0 hG h : Heap} {muts : List Addr} {imm : List (Addr × Obj)} (I : Imm g0 hG muts imm) (kh : hG.StaysIn h) {a : Addr} {o : Obj} (e : h.get? a = some o) (h0 : g0.get? a = none) (hn : a ∉ muts) :
    ∃ hG', Imm g0 hG' muts ((a, o) :: imm) ∧ hG.StaysIn hG' ∧ hG'.get? a = some o ∧ hG'.StaysIn h := by
  let H := hideAll h ((List.range h.objs.size).filter fun b => (hG.get? b).isNone && b != a)
  have hsub : H.StaysIn h := fun _ _ q => of_hideAll _ q
  have hold : hG.StaysIn H := fun b o' q => hideAll_get _ (kh b o' q) fun z => by
    have := (List.mem_filter.mp z).2
    rw [q] at this; simp at this
  have hnew : H.get? a = some o := hideAll_get _ e fun z => by
    have := (List.mem_filter.mp z).2
    simp at this
  have hcase : ∀ b o', H.get? b = some o' → b = a ∨ ∃ x, hG.get? b = some x := fun b o' q => by
    by_cases hb : b = a
    · exact .inl hb
    · right
      cases z : hG.get? b with
      | some x => exact ⟨x, rfl⟩
      | none =>
        have hm : b ∈ (List.range h.objs.size).filter fun b => (hG.get? b).isNone && b != a := List.mem_filter.mpr ⟨List.mem_range.mpr (Heap.lt_size (hsub b o' q)), by simp [z, hb]⟩
        rw [show H.get? b = none from hideAll_none _ hm] at q; cases q
  refine ⟨H, ⟨fun b o' q => hold b o' (I.up b o' q), fun b o' q => ?_, fun p hp => ?_, fun b hb => ?_⟩, hold, hnew, hsub⟩
  · rcases hcase b o' q with rfl | ⟨x, z⟩
    · rw [hnew] at q; cases q; exact .inr (.head _)
    · have z2 := hold b x z
      rw [q] at z2; cases z2
      exact (I.inn b o' z).elim .inl fun y => .inr (.tail _ y)
  · rcases List.mem_cons.mp hp with rfl | hp
    · exact ⟨hnew, h0⟩
    · exact ⟨hold _ _ (I.off p hp).1, (I.off p hp).2⟩
  · cases q : H.get? b with
    | none => rfl
    | some o' =>
      rcases hcase b o' q with rfl | ⟨x, z⟩
      · exact absurd hb hn
      · rw [I.apart b hb] at z; cases z

example : True := by
  k_with "call ref" => ((k_here; (with_reducible show wpAny _ _ (call (Value.ref 228) _) _ _ _); k_dflt (refine' law_names_spec (by first | (assumption) | fail) (by first | (k_extra "MINE stays") | fail) (by first | (k_extra "MINE room") | fail) (by first | (k_extra "MINE room") | fail) (by first | (assumption) | fail) ?_; k_whole); intro _ _ _ _ _ _ k9 e9 e9' hS9 hB9; (rename Fr _ _ _ _ => F9; rename News _ _ _ _ => N9; have l9 := News.ne N9 e9; have F' := Fr.grow F9 k9; have N' := News.add F9 N9 k9 e9 e9'; clear F9 N9 k9 e9 e9'; (try dsimp only); (try (revert hS9 hB9 l9 F' N'; intros)); (try k_fold))))
  trivial
example : True := by
  k_with "subscriptTail" => ((k_here; (with_reducible show wpAny _ _ (subscriptTail _ _ (Value.ref _) (Value.int _ _)) _ _ _); k_dflt (refine' item_tuple (by first | (k_extra "MINE tup") | fail) (by first | (decide) | fail) (by first | (decide) | fail) (by first | (exact rfl) | fail) (by first | (exact rfl) | fail) ?_; k_whole)))
  trivial

noncomputable def RowAt (h : Heap) (T : Addr) (d : Let) : Prop := ∃ fa fvs t1 t2, IsTup h T #[.int d.uid t1, .ref fa, .int d.ms t2] ∧ IsTup h fa (List.toArray fvs) ∧ StrsAre fvs d.fl
theorem RowAt.keeps {h h' : Heap} {a : Addr} {d : Let} (x : RowAt h a d) (k : h.StaysIn h') : RowAt h' a d := by
  obtain ⟨fa, fvs, t1, t2, x1, x2, x3⟩ := x
  exact ⟨fa, fvs, t1, t2, keepsTup x1 k, keepsTup x2 k, x3⟩
noncomputable abbrev RowsAt (h : Heap) (as : List Addr) (ds : List Let) : Prop := Pw (RowAt h) as ds
theorem RowsAt.keeps {h h' : Heap} {as : List Addr} {ds : List Let} (x : RowsAt h as ds) (k : h.StaysIn h') : RowsAt h' as ds := Pw.mono x fun _ _ y => y.keeps k
/-- a row, as plain data -/
noncomputable def rowD (d : Let) : PyData := .tuple [.int d.uid, dS d.fl, .int d.ms]
theorem RowAt.reads {h : Heap} {a : Addr} {d : Let} (x : RowAt h a d) : Reads h (.ref a) (rowD d) [] := by
  obtain ⟨fa, fvs, t1, t2, ⟨o, ho, hc, n, hd⟩, x2, x3⟩ := x
  exact .tuple ho hc hd (.cons (as := []) (.int _ _) (.cons (as := []) (reads_strs x2 x3) (.cons (as := []) (.int _ _) .nil)))
theorem RowsAt.reads {h : Heap} : ∀ {as : List Addr} {ds : List Let}, RowsAt h as ds → ReadsAll h (as.map Value.ref) (ds.map rowD) [] := by
  intro as
  induction as with
  | nil => intro ds x; cases ds with
    | nil => exact .nil
    | cons _ _ => exact absurd x.len (by simp)
  | cons a as ih => intro ds x; cases ds with
    | nil => exact absurd x.len (by simp)
    | cons d ds =>
      obtain ⟨d', e, r⟩ := x.get (i := 0) rfl
      obtain rfl := Option.some.inj e
      exact .cons (as := []) (bs := []) r.reads (ih ⟨Nat.succ.inj x.len, fun {i b} e => x.get (i := i + 1) e⟩)
theorem shaped_rows {ds : List Let} (h : ∀ d ∈ ds, ∀ x ∈ d.fl, x ∈ UNI) : SeqAt.shaped (.list (ds.map rowD)) = true := by
  have h1 : PyData.canLayAll0 (ds.map rowD) = true := by
    induction ds with
    | nil => rfl
    | cons d r ih => simp [rowD, PyData.canLayAll0, PyData.canLay0, lay_strs d.fl (h d (.head _)), ih fun x hx => h x (.tail _ hx)]
  have h2 : PyData.depthAll (ds.map rowD) ≤ 2 := by
    clear h h1
    induction ds with
    | nil => simp [PyData.depthAll]
    | cons d r ih => simp [rowD, PyData.depthAll, PyData.depth, depth_strs] at ih ⊢; first | exact ih | exact Nat.max_le.mpr ⟨Nat.le_refl 2, ih⟩ | omega
  simp only [SeqAt.shaped, PyData.canLay0, PyData.depth, h1, Bool.true_and]
  exact decide_eq_true (by first | exact Nat.le_trans (Nat.add_le_add_right h2 1) (by decide) | omega)
theorem shaped_two (a b : List Int) : SeqAt.shaped (.tuple [.list (a.map PyData.int), .list (b.map PyData.int)]) = true := by
  simp [SeqAt.shaped, PyData.canLay0, PyData.canLayAll0, PyData.depth, PyData.depthAll, ke_canLayAll0, ke_depthAll]
section
variable {prog : Program} {w : World} {A : Around} {E : Value → Shared → Prop} {s : Shared}
theorem ne_same {a b : Value} {d : PyData} {as bs : List Addr} {Q : Value → Shared → Prop} (ra : Reads s.heap a d as) (rb : Reads s.heap b d bs) (hd : SeqAt.shaped d = true) (hu : A.units + 64 < cLine) (h : Q (.bool false) s) : wpAny (model prog w) A (compareOp .NotEq a b) Q E s :=
  SeqAt.compareNe_shaped ra rb hd hd hu (by rw [SeqAt.eqv_refl _ (SeqAt.canLay_of_shaped hd)]; exact h)
theorem eq_same {a b : Value} {d : PyData} {as bs : List Addr} {Q : Value → Shared → Prop} (ra : Reads s.heap a d as) (rb : Reads s.heap b d bs) (hd : SeqAt.shaped d = true) (hu : A.units + 64 < cLine) (h : Q (.bool true) s) : wpAny (model prog w) A (compareOp .Eq a b) Q E s :=
  SeqAt.compareEq_shaped ra rb hd hd hu (by rw [SeqAt.eqv_refl _ (SeqAt.canLay_of_shaped hd)]; exact h)
theorem item_tn {value slice : Expr} {l : Addr} {items : Array Value} {k : Int} {u : Tok} {x : Value} {Q : Value → Shared → Prop} (ht : IsTup s.heap l items) (h0 : 0 ≤ k) (h1 : k < 1000) (hx : items.toList[k.toNat]? = some x) (h : Q x s)
    (hs : subscripted slice false (.ref l) (.int k u) = operate [.ref l, .int k u] (getItem (.ref l) (.int k u))) (hg : ∀ r, letTemporaryGo value (.ref l) r = pure ()) :
    wpAny (model prog w) A (subscriptTail value slice (.ref l) (.int k u)) Q E s :=
  item_tuple ht (Int.le_trans (by decide) h0) (Int.lt_trans h1 (by decide)) (seqIndex_of h0 (by
    have := (List.getElem?_eq_some_iff.mp hx).1
    simp at this
    first | exact (Int.toNat_lt h0).mp this | omega)) (by simpa using hx) h hs hg
theorem item_ln {value slice : Expr} {l : Addr} {items : Array Value} {k : Int} {u : Tok} {x : Value} {Q : Value → Shared → Prop} (ht : s.heap.IsList l items) (h0 : 0 ≤ k) (h1 : k < 1000) (hx : items.toList[k.toNat]? = some x) (h : Q x s)
    (hs : subscripted slice false (.ref l) (.int k u) = operate [.ref l, .int k u] (getItem (.ref l) (.int k u))) :
    wpAny (model prog w) A (subscriptTail value slice (.ref l) (.int k u)) Q E s :=
  item_l ht h0 h1 (by simpa using hx) h hs
theorem set_l0 {h₀ : Heap} {L D : Addr} {m : Str → Option Value} {news : List (Addr × Obj)} {gg : Obj → List (Addr × Obj)} {v0 v : Value} {n : Nat} {t : Tok} {Q : Unit → Shared → Prop} (F : Fr h₀ L s.heap m) (N : News h₀ L s.heap news) (U : UpdF D (listOf #[v0] n) news gg)
    (h : ∀ h', Fr h₀ L h' m → News h₀ L h' (gg (listOf #[v] n)) → Q () { s with heap := h' }) :
    wpAny (model prog w) A (setItem (.ref D) (.int 0 t) v) Q E s :=
  set_l (vs := [v0]) (k := 0) F N U (by simp) (by simp) h
end

example : True := by
  k_with "setItem ref int" => ((k_here; (with_reducible show wpAny _ _ (setItem (Value.ref _) (Value.int 0 _) _) _ _ _); k_dflt (refine' set_l0 (by first | (k_asm) | fail) (by first | (k_asm) | fail) (by first | (k_updF) | fail) ?_; k_whole); intro _ _ N9; (try dsimp only at N9); (try k_sweep); (try dsimp only); (try (revert N9; intros)); (try k_fold)))
  trivial
example : True := by
  k_with "subscriptTail" => ((k_here; (with_reducible show wpAny _ _ (subscriptTail _ _ (Value.ref _) (Value.int _ _)) _ _ _); k_dflt (refine' item_tn (by first | (k_extra "MINE tup") | fail) (by first | (decide) | fail) (by first | (decide) | fail) (by first | (exact rfl) | fail) ?_ (by with_unfolding_all rfl) (by intro _; with_unfolding_all rfl); k_whole)))
  trivial

/-- a statement's end that goes on, with P -/
noncomputable def Hold (P : Shared → Prop) (f : Flow) (s' : Shared) : Prop := f = .next ∧ P s'
theorem ints_at {vs : List Value} {ns : List Int} (h : IntsAre vs ns) : ∀ {i : Nat} {x : Int}, ns[i]? = some x → ∃ t, vs[i]? = some (.int x t) := by
  induction h with
  | nil => intro i x e; cases e
  | cons y u _ ih =>
    intro i x e
    cases i with
    | zero => cases e; exact ⟨u, rfl⟩
    | succ i => exact ih e
theorem keysIn_succ {N : Nat} {us : List Int} : keysIn (N + 1) us = keysIn N us ++ (if us.any (· == (N : Int) + 1) = true then [N] else []) := by
  unfold keysIn
  rw [List.range_succ, List.filter_append]
  congr 1
  by_cases h : us.any (· == (N : Int) + 1) = true <;> simp [h]
/-- the body and the scope of the n-th statement of the text, a def -/
noncomputable def fdOf (n : Nat) : Option (List Stmt × Scope) := match PySem.Challenge.pw_no0367_01.main.body.drop n with
  | (.FunctionDef _ _ b _ _ _ sc _ _ _) :: _ => some (b, sc)
  | _ => none
noncomputable def forOf : Stmt → Option (Expr × List Stmt)
  | .For t _ b _ _ => some (t, b)
  | _ => none
/-- the loop of _law_store_right -/
noncomputable def lsTurn : Option (Expr × List Stmt × Scope) := (fdOf 29).bind fun p => (p.1[6]?.bind forOf).map fun q => (q.1, q.2, p.2)
theorem runF_succ {ds0 : List Let} {rf : Let → Bool} {wy : Nat} {ts : List Str} {top : Int} {N : Nat} {us : List Int} : runF ds0 rf wy ts (keysIn (N + 1) us) top = if us.any (· == (N : Int) + 1) = true then stepF ds0 rf wy ts (runF ds0 rf wy ts (keysIn N us) top) N else runF ds0 rf wy ts (keysIn N us) top := by
  rw [keysIn_succ]
  by_cases h : us.any (· == (N : Int) + 1) = true
  · rw [if_pos h, if_pos h]; unfold runF; rw [List.foldl_append]; rfl
  · rw [if_neg h, if_neg h, List.append_nil]
/-- what holds between the turns of _law_store_right's loop -/
inductive LsJ (hG : Heap) (ds : List Let) (rf : Let → Bool) (uv : Value) (wy : Nat) (ts : List Str) (us : List Int) (top : Int) (ras : List Addr) (L' D6 fl5 cl D4 nl bd ll rl tl bx : Addr) (mvs uvs nvs : List Value) (e6 e4 nn : Nat) (oM oD oL : Obj) (r0 : Nat) (i : Nat) (m' : Str → Option Value) (news : List (Addr × Obj)) : Prop
  | mk (ras' : List Addr) (hG' : Heap) (imm : List (Addr × Obj)) (cvs : List Value) (cn : Nat) (rvs : List Value) (rn : Nat) (top' : Int) (tt' : Tok) (tn : Nat) (q1 : m' "names" = some (.ref nl)) (q2 : m' "unless" = some uv) (q3 : ∃ t, m' "way" = some (.int (wy : Int) t)) (q4 : m' "top" = some (.ref tl)) (q5 : m' "rows" = some (.ref rl)) (q6 : m' "box" = some (.ref bx)) (q7 : m' "uids" = some (.ref D4)) (q8 : m' "changed" = some (.ref cl)) (q9 : m' "refused" = some (.ref fl5)) (q10 : m' "modseqs" = some (.ref D6))
    (hn : news = (D6, PySem.W.listOf mvs.toArray e6) :: (fl5, PySem.W.listOf (List.toArray rvs) rn) :: (cl, PySem.W.listOf (List.toArray cvs) cn) :: (D4, PySem.W.listOf uvs.toArray e4) :: (nl, PySem.W.listOf nvs.toArray nn) :: (L' + 1, oM) :: (bd, oD) :: (ll, oL) :: (rl, PySem.W.listOf (List.map Value.ref ras').toArray r0) :: (tl, PySem.W.listOf #[Value.int top' tt'] tn) :: imm)
    (Im : Imm hG hG' [L', D6, fl5, cl, D4, nl, L' + 1, bd, ll, rl, tl] imm) (hra : RowsAt hG' ras' (runF ds rf wy ts.reverse (keysIn i us) top).1) (hcv : IntsAre cvs (runF ds rf wy ts.reverse (keysIn i us) top).2.2) (htp : top' = (runF ds rf wy ts.reverse (keysIn i us) top).2.1) (hrv : IntsAre rvs (((keysIn i us).filter fun k => (ds[k]?).any rf).map fun (k : Nat) => (k : Int) + 1))
    (hsame : ∀ j, i ≤ j → ras'[j]? = ras[j]?) (hcl : cvs.length ≤ i) (hrl : rvs.length ≤ i) (ht1 : top ≤ top') (ht2 : top' ≤ top + i) : LsJ hG ds rf uv wy ts us top ras L' D6 fl5 cl D4 nl bd ll rl tl bx mvs uvs nvs e6 e4 nn oM oD oL r0 i m' news
/-- the places of the loop's lists differ from all the others -/
noncomputable def LsNE (L D6 fl5 cl D4 nl bd ll rl tl : Addr) : Prop :=
  (NE D6 tl ∧ NE fl5 tl ∧ NE cl tl ∧ NE D4 tl ∧ NE nl tl ∧ NE (L + 1) tl ∧ NE bd tl ∧ NE ll tl ∧ NE rl tl) ∧
  (NE D6 rl ∧ NE fl5 rl ∧ NE cl rl ∧ NE D4 rl ∧ NE nl rl ∧ NE (L + 1) rl ∧ NE bd rl ∧ NE ll rl) ∧
  (NE D6 cl ∧ NE fl5 cl ∧ NE D4 cl ∧ NE nl cl ∧ NE (L + 1) cl ∧ NE bd cl ∧ NE ll cl) ∧
  (NE D6 fl5 ∧ NE D4 fl5 ∧ NE nl fl5 ∧ NE (L + 1) fl5 ∧ NE bd fl5 ∧ NE ll fl5)

example : True := by
  k_with "MINE stepsI" => (repeat' (first | (k_extra "MINE halt"; (fail_if_success (with_reducible show wpAny _ _ (PySem.exec (PySem.Stmt.If _ _ _ _) _) _ _ _)); walk1) | (dsimp only; k_extra "MINE halt"; (fail_if_success (with_reducible show wpAny _ _ (PySem.exec (PySem.Stmt.If _ _ _ _) _) _ _ _)); walk1)))
  trivial
example : True := by
  k_with "compareOp NotIn" => ((k_here; (with_reducible show wpAny _ _ (compareOp CmpOp.NotIn (Value.int _ _) (Value.ref _)) _ _ _); k_dflt (refine' notin_list_ints (by first | (k_extra "MINE list") | fail) (by first | (k_extra "MINE ints") | fail) ?_)))
  trivial
example : True := by
  k_with "subscriptTail" => ((k_here; (with_reducible show wpAny _ _ (subscriptTail _ _ (Value.ref _) (Value.int 0 _)) _ _ _); k_dflt (first | (refine' item_tn (by first | (k_extra "MINE tup") | fail) (by first | (decide) | fail) (by first | (decide) | fail) (by first | (exact rfl) | fail) ?_ (by with_unfolding_all rfl) (by intro _; with_unfolding_all rfl); k_whole) | (refine' item_ln (by first | (k_extra "MINE list") | fail) (by first | (decide) | fail) (by first | (decide) | fail) (by first | (exact rfl) | fail) ?_ (by with_unfolding_all rfl); k_whole))))
  trivial
example : True := by
  k_with "call ref" => ((k_here; (with_reducible show wpAny _ _ (call (Value.ref 233) _) _ _ _); k_dflt (refine' law_behind_spec (by first | (assumption) | fail) (by first | (k_extra "MINE stays") | fail) (by first | (k_extra "MINE room") | fail) (by first | (k_extra "MINE room") | fail) (by first | (assumption) | fail) (by first | (k_extra "MINE tup") | fail) (by first | (k_extra "MINE strs") | fail) (by first | (assumption) | fail) (by first | (k_extra "MINE list") | fail) (by first | (k_extra "MINE strs") | fail) (by first | (assumption) | fail) ?_; k_whole); intro _ _ _ _ k9 e9 e9' hS9; (rename Fr _ _ _ _ => F9; rename News _ _ _ _ => N9; have l9 := News.ne N9 e9; have F' := Fr.grow F9 k9; have N' := News.add F9 N9 k9 e9 e9'; clear F9 N9 k9 e9 e9'; (try dsimp only); (try (revert hS9 l9 F' N'; intros)); (try k_fold))))
  trivial

/-- the frame's names that the loop needs are as they were -/
noncomputable def LsSame (m m'' : Str → Option Value) : Prop := m'' "names" = m "names" ∧ m'' "unless" = m "unless" ∧ m'' "way" = m "way" ∧ m'' "top" = m "top" ∧ m'' "rows" = m "rows" ∧ m'' "box" = m "box" ∧ m'' "uids" = m "uids" ∧ m'' "changed" = m "changed" ∧ m'' "refused" = m "refused" ∧ m'' "modseqs" = m "modseqs"
theorem none_below {h h' : Heap} {a : Addr} (k : h.StaysIn h') (e : h'.get? a = none) : h.get? a = none := by
  cases z : h.get? a with
  | none => rfl
  | some o => rw [k _ _ z] at e; cases e
theorem le_up {a b : Int} {i : Nat} (h : a ≤ b + (i : Int)) : a ≤ b + ((i + 1 : Nat) : Int) := Int.le_trans h (Int.add_le_add_left (Int.ofNat_le.mpr (Nat.le_succ i)) b)
theorem up_up {a b : Int} {i : Nat} (h : a ≤ b + (i : Int)) : a + 1 ≤ b + ((i + 1 : Nat) : Int) := Int.le_trans (Int.add_le_add_right h 1) (Int.le_of_eq (Int.add_assoc b i 1))
theorem two_all {news : List (Addr × Obj)} {pe pi : Addr × Obj} (h : ∀ p ∈ news, p.1 ≠ pe.1 ∧ p.1 ≠ pi.1) : ∀ p ∈ news, ∀ q ∈ [pe, pi], p.1 ≠ q.1 := fun p hp q hq => by
  rcases List.mem_cons.mp hq with rfl | hq
  · exact (h p hp).1
  · rw [List.mem_singleton.mp hq]; exact (h p hp).2
theorem keysF_out {N i : Nat} {us : List Int} {ds : List Let} {rf : Let → Bool} (hN : N = i) (h : us.any (· == (i : Int) + 1) = false ∨ (ds[i]?).any rf = false) : ((keysIn (i + 1) us).filter fun k => (ds[k]?).any rf) = ((keysIn i us).filter fun k => (ds[k]?).any rf) := by
  rw [keysIn_succ, List.filter_append]
  rcases h with z | z
  · rw [z, if_neg Bool.false_ne_true]; exact List.append_nil _
  · split
    · simp [List.filter, z]
    · simp
section
variable {hG g : Heap} {ds : List Let} {rf : Let → Bool} {uv : Value} {wy : Nat} {ts : List Str} {us : List Int} {top : Int} {ras : List Addr} {L' D6 fl5 cl D4 nl bd ll rl tl bx : Addr} {mvs uvs nvs : List Value} {e6 e4 nn : Nat} {oM oD oL : Obj} {r0 i : Nat} {m m'' : Str → Option Value} {news ledger : List (Addr × Obj)} {h' : Heap} {tk' : Nat} {pe pi : Addr × Obj} {s : Shared} {QQ : Flow → Shared → Prop}
theorem ls_end_keep (hJ : LsJ hG ds rf uv wy ts us top ras L' D6 fl5 cl D4 nl bd ll rl tl bx mvs uvs nvs e6 e4 nn oM oD oL r0 i m news) (hfl : ∀ d ∈ ds, d.fl.Sublist UNI) (hts : ts.Sublist UNI)
    (hst : us.any (· == (i : Int) + 1) = false ∨ ∃ d, ds[i]? = some d ∧ rf d = false ∧ beh wy d.fl ts = d.fl) (hm : LsSame m m'') (F : Fr g L' h' m'') (N : News g L' h' ledger) (hs : ∀ p ∈ pe :: pi :: news, p ∈ ledger)
    (ha1 : ∀ p ∈ news, p.1 ≠ pe.1) (ha2 : ∀ p ∈ news, p.1 ≠ pi.1) {f : Flow} (hf : f = .next ∨ f = .cont) :
    TurnEnd g L' (LsJ hG ds rf uv wy ts us top ras L' D6 fl5 cl D4 nl bd ll rl tl bx mvs uvs nvs e6 e4 nn oM oD oL r0 (i + 1)) [pe, pi] s QQ f { s with heap := h', toks := tk' } := by
  have hr : runF ds rf wy ts.reverse (keysIn (i + 1) us) top = runF ds rf wy ts.reverse (keysIn i us) top := by
    rw [runF_succ]
    split
    · rename_i q
      rcases hst with z | ⟨d, hd, hrf, hb⟩
      · rw [z] at q; cases q
      · have hb' := beh_aft (wy := wy) (hfl d (List.mem_of_getElem? hd)) hts
        unfold stepF
        simp only [hd, hrf, Bool.false_eq_true, if_false]
        rw [hb', hb, if_pos rfl]
    · rfl
  have hk := keysF_out (us := us) (ds := ds) (rf := rf) (rfl : i = i) (hst.imp id fun ⟨d, hd, hrf, _⟩ => by rw [hd]; exact hrf)
  obtain ⟨c1, c2, c3, c4, c5, c6, c7, c8, c9, c10⟩ := hm
  obtain ⟨ras', hG', imm, cvs, cn, rvs, rn, top', tt', tn, hq1, hq2, hq3, hq4, hq5, hq6, hq7, hq8, hq9, hq10, rfl, Im, hra, hcv, htp, hrv, hsame, hcl, hrl9, htp1, htp2⟩ := hJ
  have J' : LsJ hG ds rf uv wy ts us top ras L' D6 fl5 cl D4 nl bd ll rl tl bx mvs uvs nvs e6 e4 nn oM oD oL r0 (i + 1) m'' _ :=
    ⟨ras', hG', imm, cvs, cn, rvs, rn, top', tt', tn, c1 ▸ hq1, c2 ▸ hq2, c3 ▸ hq3, c4 ▸ hq4, c5 ▸ hq5, c6 ▸ hq6, c7 ▸ hq7, c8 ▸ hq8, c9 ▸ hq9, c10 ▸ hq10, rfl, Im, by rw [hr]; exact hra, by rw [hr]; exact hcv, by rw [hr]; exact htp, by rw [hk]; exact hrv, fun j hj => hsame j (Nat.le_of_succ_le hj), Nat.le_succ_of_le hcl, Nat.le_succ_of_le hrl9, htp1, le_up htp2⟩
  rcases hf with rfl | rfl
  · exact TurnEnd.next _ F (News.sub N hs) (two_all fun p hp => ⟨ha1 p hp, ha2 p hp⟩) J'
  · exact TurnEnd.cont _ F (News.sub N hs) (two_all fun p hp => ⟨ha1 p hp, ha2 p hp⟩) J'
theorem ls_end_refuse {ras' : List Addr} {hG' : Heap} {imm : List (Addr × Obj)} {cvs rvs : List Value} {cn rn' tn : Nat} {top' : Int} {tt' t2 : Tok} {d : Let}
    (hq : ∃ t, m "names" = some (.ref nl) ∧ m "unless" = some uv ∧ m "way" = some (.int (wy : Int) t) ∧ m "top" = some (.ref tl) ∧ m "rows" = some (.ref rl) ∧ m "box" = some (.ref bx) ∧ m "uids" = some (.ref D4) ∧ m "changed" = some (.ref cl) ∧ m "refused" = some (.ref fl5) ∧ m "modseqs" = some (.ref D6))
    (Im : Imm hG hG' [L', D6, fl5, cl, D4, nl, L' + 1, bd, ll, rl, tl] imm) (hra : RowsAt hG' ras' (runF ds rf wy ts.reverse (keysIn i us) top).1) (hcv : IntsAre cvs (runF ds rf wy ts.reverse (keysIn i us) top).2.2) (htp : top' = (runF ds rf wy ts.reverse (keysIn i us) top).2.1) (hrv : IntsAre rvs (((keysIn i us).filter fun k => (ds[k]?).any rf).map fun (k : Nat) => (k : Int) + 1))
    (hsame : ∀ j, i ≤ j → ras'[j]? = ras[j]?) (hcl : cvs.length ≤ i) (hrl9 : rvs.length ≤ i) (htp1 : top ≤ top') (htp2 : top' ≤ top + i)
    (hin : us.any (· == (i : Int) + 1) = true) (hd : ds[i]? = some d) (hrf : rf d = true) (F : Fr g L' h' m) (N : News g L' h' ledger)
    (hs : ∀ p ∈ pe :: pi :: (D6, PySem.W.listOf mvs.toArray e6) :: (fl5, PySem.W.listOf (rvs ++ [Value.int ((i : Int) + 1) t2]).toArray rn') :: (cl, PySem.W.listOf (List.toArray cvs) cn) :: (D4, PySem.W.listOf uvs.toArray e4) :: (nl, PySem.W.listOf nvs.toArray nn) :: (L' + 1, oM) :: (bd, oD) :: (ll, oL) :: (rl, PySem.W.listOf (List.map Value.ref ras').toArray r0) :: (tl, PySem.W.listOf #[Value.int top' tt'] tn) :: imm, p ∈ ledger)
    (ha : ∀ p ∈ (D6, PySem.W.listOf mvs.toArray e6) :: (fl5, PySem.W.listOf (rvs ++ [Value.int ((i : Int) + 1) t2]).toArray rn') :: (cl, PySem.W.listOf (List.toArray cvs) cn) :: (D4, PySem.W.listOf uvs.toArray e4) :: (nl, PySem.W.listOf nvs.toArray nn) :: (L' + 1, oM) :: (bd, oD) :: (ll, oL) :: (rl, PySem.W.listOf (List.map Value.ref ras').toArray r0) :: (tl, PySem.W.listOf #[Value.int top' tt'] tn) :: imm, p.1 ≠ pe.1 ∧ p.1 ≠ pi.1) :
    TurnEnd g L' (LsJ hG ds rf uv wy ts us top ras L' D6 fl5 cl D4 nl bd ll rl tl bx mvs uvs nvs e6 e4 nn oM oD oL r0 (i + 1)) [pe, pi] s QQ .cont { s with heap := h', toks := tk' } := by
  have hr : runF ds rf wy ts.reverse (keysIn (i + 1) us) top = runF ds rf wy ts.reverse (keysIn i us) top := by
    rw [runF_succ, if_pos hin]
    unfold stepF
    simp only [hd, hrf, if_true]
  have hk : ((keysIn (i + 1) us).filter fun k => (ds[k]?).any rf) = ((keysIn i us).filter fun k => (ds[k]?).any rf) ++ [i] := by
    rw [keysIn_succ, List.filter_append, if_pos hin]
    have : (ds[i]?).any rf = true := by rw [hd]; exact hrf
    simp [List.filter, this]
  obtain ⟨t, hq1, hq2, hq3, hq4, hq5, hq6, hq7, hq8, hq9, hq10⟩ := hq
  exact TurnEnd.cont _ F (News.sub N hs) (two_all ha)
    ⟨ras', hG', imm, cvs, cn, _, rn', top', tt', tn, hq1, hq2, ⟨t, hq3⟩, hq4, hq5, hq6, hq7, hq8, hq9, hq10, rfl, Im, by rw [hr]; exact hra, by rw [hr]; exact hcv, by rw [hr]; exact htp, by rw [hk, List.map_append]; exact ints_snoc hrv _ _, fun j hj => hsame j (Nat.le_of_succ_le hj), Nat.le_succ_of_le hcl, by rw [List.length_append]; exact Nat.succ_le_succ hrl9, htp1, le_up htp2⟩
theorem ls_end_change {ras' : List Addr} {hG' : Heap} {imm : List (Addr × Obj)} {cvs rvs bvs : List Value} {cn cn' rn tn tn' : Nat} {top' : Int} {tt' tt2 t2 t3 t4 : Tok} {d : Let} {D9 r9 : Addr}
    (hq : ∃ t, m "names" = some (.ref nl) ∧ m "unless" = some uv ∧ m "way" = some (.int (wy : Int) t) ∧ m "top" = some (.ref tl) ∧ m "rows" = some (.ref rl) ∧ m "box" = some (.ref bx) ∧ m "uids" = some (.ref D4) ∧ m "changed" = some (.ref cl) ∧ m "refused" = some (.ref fl5) ∧ m "modseqs" = some (.ref D6))
    (kGg : hG.StaysIn g) (Im : Imm hG hG' [L', D6, fl5, cl, D4, nl, L' + 1, bd, ll, rl, tl] imm) (hra : RowsAt hG' ras' (runF ds rf wy ts.reverse (keysIn i us) top).1) (hcv : IntsAre cvs (runF ds rf wy ts.reverse (keysIn i us) top).2.2) (htp : top' = (runF ds rf wy ts.reverse (keysIn i us) top).2.1) (hrv : IntsAre rvs (((keysIn i us).filter fun k => (ds[k]?).any rf).map fun (k : Nat) => (k : Int) + 1))
    (hsame : ∀ j, i ≤ j → ras'[j]? = ras[j]?) (hcl : cvs.length ≤ i) (hrl9 : rvs.length ≤ i) (htp1 : top ≤ top') (htp2 : top' ≤ top + i) (hfl : d.fl.Sublist UNI) (hts : ts.Sublist UNI)
    (hin : us.any (· == (i : Int) + 1) = true) (hd : ds[i]? = some d) (hrf : rf d = false) (hbe : ¬ (beh wy d.fl ts = d.fl)) (hbv : StrsAre bvs (beh wy d.fl ts))
    (F : Fr g L' h' m) (N : News g L' h' ((D9, { cls := .type "tuple", data := .seq #[Value.int ((i : Int) + 1) t3, .ref r9, .int (top' + 1) t4] }) :: (r9, { cls := .type "tuple", data := .seq bvs.toArray }) :: pe :: pi :: (D6, PySem.W.listOf mvs.toArray e6) :: (fl5, PySem.W.listOf rvs.toArray rn) :: (cl, PySem.W.listOf (cvs ++ [Value.int ((i : Int) + 1) t2]).toArray cn') :: (D4, PySem.W.listOf uvs.toArray e4) :: (nl, PySem.W.listOf nvs.toArray nn) :: (L' + 1, oM) :: (bd, oD) :: (ll, oL) :: (rl, PySem.W.listOf ((List.map Value.ref ras').set i (.ref D9)).toArray r0) :: (tl, PySem.W.listOf #[Value.int (top' + 1) tt2] tn') :: imm))
    (n1 : ∀ b ∈ [pe.1, pi.1, D6, fl5, cl, D4, nl, L' + 1, bd, ll, rl, tl], @Ne Nat b r9) (n2 : ∀ b ∈ [r9, pe.1, pi.1, D6, fl5, cl, D4, nl, L' + 1, bd, ll, rl, tl], @Ne Nat b D9)
    (ha : ∀ p ∈ (D6, PySem.W.listOf mvs.toArray e6) :: (fl5, PySem.W.listOf rvs.toArray rn) :: (cl, PySem.W.listOf cvs.toArray cn) :: (D4, PySem.W.listOf uvs.toArray e4) :: (nl, PySem.W.listOf nvs.toArray nn) :: (L' + 1, oM) :: (bd, oD) :: (ll, oL) :: (rl, PySem.W.listOf (List.map Value.ref ras').toArray r0) :: (tl, PySem.W.listOf #[Value.int top' tt'] tn) :: imm, p.1 ≠ pe.1 ∧ p.1 ≠ pi.1) :
    TurnEnd g L' (LsJ hG ds rf uv wy ts us top ras L' D6 fl5 cl D4 nl bd ll rl tl bx mvs uvs nvs e6 e4 nn oM oD oL r0 (i + 1)) [pe, pi] s QQ .next { s with heap := h', toks := tk' } := by
  have hb' := beh_aft (wy := wy) hfl hts
  have hr : runF ds rf wy ts.reverse (keysIn (i + 1) us) top = ((runF ds rf wy ts.reverse (keysIn i us) top).1.set i ⟨(i : Int) + 1, beh wy d.fl ts, (runF ds rf wy ts.reverse (keysIn i us) top).2.1 + 1⟩, (runF ds rf wy ts.reverse (keysIn i us) top).2.1 + 1, (runF ds rf wy ts.reverse (keysIn i us) top).2.2 ++ [(i : Int) + 1]) := by
    rw [runF_succ, if_pos hin]
    unfold stepF
    simp only [hd, hrf, Bool.false_eq_true, if_false, hb']
    rw [if_neg (fun z => hbe z.symm)]
  have hk := keysF_out (us := us) (ds := ds) (rf := rf) (rfl : i = i) (.inr (by rw [hd]; exact hrf))
  obtain ⟨t, hq1, hq2, hq3, hq4, hq5, hq6, hq7, hq8, hq9, hq10⟩ := hq
  have q1 := N _ (.head _)
  have q2 := N _ (.tail _ (.head _))
  dsimp only at q1 q2
  have kh : hG'.StaysIn h' := Im.stays kGg F N (by (repeat (refine all_cons (by k_extra "MINE mem") ?_)); first | exact List.forall_mem_nil _ | exact fun p hp => (by repeat (first | with_reducible exact hp | with_reducible exact List.mem_append_right _ hp | with_reducible apply List.mem_cons_of_mem | exact hp)))
  have z1 : hG.get? r9 = none := none_below kGg q2.2.2
  have z2 : hG.get? D9 = none := none_below kGg q1.2.2
  have m1 : r9 ∉ [L', D6, fl5, cl, D4, nl, L' + 1, bd, ll, rl, tl] := fun z => by
    rcases List.mem_cons.mp z with z | z
    · exact q2.2.1 z
    · exact n1 r9 (List.mem_cons_of_mem _ (List.mem_cons_of_mem _ z)) rfl
  have m2 : D9 ∉ [L', D6, fl5, cl, D4, nl, L' + 1, bd, ll, rl, tl] := fun z => by
    rcases List.mem_cons.mp z with z | z
    · exact q1.2.1 z
    · exact n2 D9 (List.mem_cons_of_mem _ (List.mem_cons_of_mem _ (List.mem_cons_of_mem _ z))) rfl
  obtain ⟨G1, Im1, k1, e1, s1⟩ := Im.add kh q2.1 z1 m1
  obtain ⟨G2, Im2, k2, e2, s2⟩ := Im1.add s1 q1.1 z2 m2
  have hrow : RowAt G2 D9 ⟨(i : Int) + 1, beh wy d.fl ts, top' + 1⟩ := ⟨r9, bvs, t3, t4, ⟨_, e2, rfl, _, rfl⟩, ⟨_, k2 _ _ e1, rfl, _, rfl⟩, hbv⟩
  refine TurnEnd.next ((D6, PySem.W.listOf mvs.toArray e6) :: (fl5, PySem.W.listOf rvs.toArray rn) :: (cl, PySem.W.listOf (cvs ++ [Value.int ((i : Int) + 1) t2]).toArray cn') :: (D4, PySem.W.listOf uvs.toArray e4) :: (nl, PySem.W.listOf nvs.toArray nn) :: (L' + 1, oM) :: (bd, oD) :: (ll, oL) :: (rl, PySem.W.listOf (List.map Value.ref (ras'.set i D9)).toArray r0) :: (tl, PySem.W.listOf #[Value.int (top' + 1) tt2] tn') :: (D9, _) :: (r9, _) :: imm) F (News.sub N ?sub) (two_all fun p hp => ?_)
    ⟨ras'.set i D9, G2, _, _, cn', rvs, rn, top' + 1, tt2, tn', hq1, hq2, ⟨t, hq3⟩, hq4, hq5, hq6, hq7, hq8, hq9, hq10, rfl, Im2, by rw [hr, ← htp]; exact ((hra.keeps k1).keeps k2).set i hrow, by rw [hr]; exact ints_snoc hcv _ _, by rw [hr, ← htp], by rw [hk]; exact hrv, fun j hj => ?_, by rw [List.length_append]; exact Nat.succ_le_succ hcl, Nat.le_succ_of_le hrl9, Int.le_trans htp1 (Int.le_of_lt (Int.lt_succ top')), up_up htp2⟩
  case sub =>
    rw [List.map_set]
    exact (by (repeat (refine all_cons (by k_extra "MINE mem") ?_)); first | exact List.forall_mem_nil _ | exact fun p hp => (by repeat (first | with_reducible exact hp | with_reducible exact List.mem_append_right _ hp | with_reducible apply List.mem_cons_of_mem | exact hp)))
  · have ha9 : ∀ (a : Addr) (o : Obj), (a, o) ∈ (D6, PySem.W.listOf mvs.toArray e6) :: (fl5, PySem.W.listOf rvs.toArray rn) :: (cl, PySem.W.listOf cvs.toArray cn) :: (D4, PySem.W.listOf uvs.toArray e4) :: (nl, PySem.W.listOf nvs.toArray nn) :: (L' + 1, oM) :: (bd, oD) :: (ll, oL) :: (rl, PySem.W.listOf (List.map Value.ref ras').toArray r0) :: (tl, PySem.W.listOf #[Value.int top' tt'] tn) :: imm → a ≠ pe.1 ∧ a ≠ pi.1 := fun a o h => ha (a, o) h
    revert p
    refine all_cons (ha9 D6 _ (by k_extra "MINE mem")) (all_cons (ha9 fl5 _ (by k_extra "MINE mem")) (all_cons (ha9 cl _ (by k_extra "MINE mem")) (all_cons (ha9 D4 _ (by k_extra "MINE mem")) (all_cons (ha9 nl _ (by k_extra "MINE mem")) (all_cons (ha9 (L' + 1) _ (by k_extra "MINE mem")) (all_cons (ha9 bd _ (by k_extra "MINE mem")) (all_cons (ha9 ll _ (by k_extra "MINE mem")) (all_cons (ha9 rl _ (by k_extra "MINE mem")) (all_cons (ha9 tl _ (by k_extra "MINE mem")) (all_cons ⟨Ne.symm (n2 _ (by k_extra "MINE mem")), Ne.symm (n2 _ (by k_extra "MINE mem"))⟩ (all_cons ⟨Ne.symm (n1 _ (by k_extra "MINE mem")), Ne.symm (n1 _ (by k_extra "MINE mem"))⟩ (fun p hp => ha p ?_))))))))))))
    repeat (first | with_reducible exact hp | with_reducible apply List.mem_cons_of_mem)
  · rw [List.getElem?_set_ne (Nat.ne_of_lt hj)]; exact hsame j (Nat.le_of_succ_le hj)
end


noncomputable def LTG (w : World) (dp : Nat) (un : Nat) (fr : Option (List Env)) (gd : Option (List Code)) (s : Shared) (mean : ExcName → Option Value) (mg : Str → Option Value) (mb : Str → Option Value) (PE : Flow → Shared → Prop) (H0 : Heap) (g : Heap) (hG : Heap) (bx : Addr) (bd : Addr) (ll : Addr) (rl : Addr) (tl : Addr) (nl : Addr) (D4 : Addr) (D6 : Addr) (fl5 : Addr) (cl : Addr) (L' : Addr) (oM : Obj) (oD : Obj) (oL : Obj) (r0 : Nat) (e4 : Nat) (e6 : Nat) (nn : Nat) (wy : Nat) (top : Int) (ras : List Addr) (ds : List Let) (uvs : List Value) (nvs : List Value) (mvs : List Value) (us : List Int) (ts : List Str) (i : Nat) (T1 : Addr) (t1 : Tok) (m₁ : Str → Option Value) (h₂ : Heap) (tk₂ : Nat) : Prop := ∀ {elts : List Expr} {x1 : Nat} {pt : Pos} {body : List Stmt} {scope : Scope} (hp : lsTurn = some (.Tuple elts x1 pt, body, scope)) (W : Wd w.params mean mg mb H0) (hst : H0.StaysIn g) (X : (hd.heap_39 w.params).In g) (T : TopF mean mg mb g) (hdp : dp + 20 < recursionLimit) (hun : un + 140 < cLine)
    {uv : Value} {rf : Let → Bool}
    (NEs : LsNE L' D6 fl5 cl D4 nl bd ll rl tl) (kGg : hG.StaysIn g) (hrs : RowsAt hG ras ds) (hlen : ds.length ≤ 5) (hui : ∀ (i : Nat) (d : Let), ds[i]? = some d → d.uid = (i : Int) + 1) (hdu : ∀ d ∈ ds, d.fl.Sublist UNI) (htop : 0 ≤ top ∧ top < 500)
    (hwy3 : wy < 3) (R : RefV uv rf) (hS : StrsAre nvs ts) (hsub : ts.Sublist UNI) (hus : IntsAre uvs us) (hul : us.length ≤ 8) (hms : IntsAre mvs (ds.map (·.ms)))
    (v : Value) (items : Array Value) (news₁ : List (Addr × Obj)) (pe pi : Addr × Obj) (hi : i < ds.length) (hL : h₂.IsList rl items) (hsz : items.size = ds.length) (hv : items[i]? = some v) (hT : IsTup h₂ T1 #[.int (i : Int) t1, v])
    (hJ : LsJ hG ds rf uv wy ts us top ras L' D6 fl5 cl D4 nl bd ll rl tl bx mvs uvs nvs e6 e4 nn oM oD oL r0 i m₁ news₁) (ha1 : ∀ p ∈ news₁, p.1 ≠ pe.1) (ha2 : ∀ p ∈ news₁, p.1 ≠ pi.1) (F₂ : Fr g L' h₂ m₁) (N₂ : News g L' h₂ (pe :: pi :: news₁)) {QQ : Flow → Shared → Prop}
    (hPE : ∀ f s', TurnEnd g L' (LsJ hG ds rf uv wy ts us top ras L' D6 fl5 cl D4 nl bd ll rl tl bx mvs uvs nvs e6 e4 nn oM oD oL r0 (i + 1)) [pe, pi] s QQ f s' → PE f s'),
    wpAny (model PySem.Challenge.rw_no0367_01.row.prog w) ((Ar dp un fr gd).deeper (envOfC "_law_store_right" scope L' 238 (.ref 237))) (assign (.Tuple elts x1 pt) (envOfC "_law_store_right" scope L' 238 (.ref 237)) (.ref T1))
      (fun _ s₂ => wpAny (model PySem.Challenge.rw_no0367_01.row.prog w) ((Ar dp un fr gd).deeper (envOfC "_law_store_right" scope L' 238 (.ref 237))) (execs body (envOfC "_law_store_right" scope L' 238 (.ref 237)))
        PE (fun _ _ => False) s₂) (fun _ _ => False) { s with heap := h₂, toks := tk₂ }
noncomputable abbrev LTK : Type _ := (World) × (Nat) × (Nat) × (Option (List Env)) × (Option (List Code)) × (Shared) × (ExcName → Option Value) × (Str → Option Value) × (Str → Option Value) × (Flow → Shared → Prop) × (Heap) × (Heap) × (Heap) × (Addr) × (Addr) × (Addr) × (Addr) × (Addr) × (Addr) × (Addr) × (Addr) × (Addr) × (Addr) × (Addr) × (Obj) × (Obj) × (Obj) × (Nat) × (Nat) × (Nat) × (Nat) × (Nat) × (Int) × (List Addr) × (List Let) × (List Value) × (List Value) × (List Value) × (List Int) × (List Str) × (Nat) × (Addr) × (Tok) × (Str → Option Value) × (Heap) × (Nat)
noncomputable def LTP (k : LTK) : Prop := LTG (k.1) (k.2.1) (k.2.2.1) (k.2.2.2.1) (k.2.2.2.2.1) (k.2.2.2.2.2.1) (k.2.2.2.2.2.2.1) (k.2.2.2.2.2.2.2.1) (k.2.2.2.2.2.2.2.2.1) (k.2.2.2.2.2.2.2.2.2.1) (k.2.2.2.2.2.2.2.2.2.2.1) (k.2.2.2.2.2.2.2.2.2.2.2.1) (k.2.2.2.2.2.2.2.2.2.2.2.2.1) (k.2.2.2.2.2.2.2.2.2.2.2.2.2.1) (k.2.2.2.2.2.2.2.2.2.2.2.2.2.2.1) (k.2.2.2.2.2.2.2.2.2.2.2.2.2.2.2.1) (k.2.2.2.2.2.2.2.2.2.2.2.2.2.2.2.2.1) (k.2.2.2.2.2.2.2.2.2.2.2.2.2.2.2.2.2.1) (k.2.2.2.2.2.2.2.2.2.2.2.2.2.2.2.2.2.2.1) (k.2.2.2.2.2.2.2.2.2.2.2.2.2.2.2.2.2.2.2.1) (k.2.2.2.2.2.2.2.2.2.2.2.2.2.2.2.2.2.2.2.2.1) (k.2.2.2.2.2.2.2.2.2.2.2.2.2.2.2.2.2.2.2.2.2.1) (k.2.2.2.2.2.2.2.2.2.2.2.2.2.2.2.2.2.2.2.2.2.2.1) (k.2.2.2.2.2.2.2.2.2.2.2.2.2.2.2.2.2.2.2.2.2.2.2.1) (k.2.2.2.2.2.2.2.2.2.2.2.2.2.2.2.2.2.2.2.2.2.2.2.2.1) (k.2.2.2.2.2.2.2.2.2.2.2.2.2.2.2.2.2.2.2.2.2.2.2.2.2.1) (k.2.2.2.2.2.2.2.2.2.2.2.2.2.2.2.2.2.2.2.2.2.2.2.2.2.2.1) (k.2.2.2.2.2.2.2.2.2.2.2.2.2.2.2.2.2.2.2.2.2.2.2.2.2.2.2.1) (k.2.2.2.2.2.2.2.2.2.2.2.2.2.2.2.2.2.2.2.2.2.2.2.2.2.2.2.2.1) (k.2.2.2.2.2.2.2.2.2.2.2.2.2.2.2.2.2.2.2.2.2.2.2.2.2.2.2.2.2.1) (k.2.2.2.2.2.2.2.2.2.2.2.2.2.2.2.2.2.2.2.2.2.2.2.2.2.2.2.2.2.2.1) (k.2.2.2.2.2.2.2.2.2.2.2.2.2.2.2.2.2.2.2.2.2.2.2.2.2.2.2.2.2.2.2.1) (k.2.2.2.2.2.2.2.2.2.2.2.2.2.2.2.2.2.2.2.2.2.2.2.2.2.2.2.2.2.2.2.2.1) (k.2.2.2.2.2.2.2.2.2.2.2.2.2.2.2.2.2.2.2.2.2.2.2.2.2.2.2.2.2.2.2.2.2.1) (k.2.2.2.2.2.2.2.2.2.2.2.2.2.2.2.2.2.2.2.2.2.2.2.2.2.2.2.2.2.2.2.2.2.2.1) (k.2.2.2.2.2.2.2.2.2.2.2.2.2.2.2.2.2.2.2.2.2.2.2.2.2.2.2.2.2.2.2.2.2.2.2.1) (k.2.2.2.2.2.2.2.2.2.2.2.2.2.2.2.2.2.2.2.2.2.2.2.2.2.2.2.2.2.2.2.2.2.2.2.2.1) (k.2.2.2.2.2.2.2.2.2.2.2.2.2.2.2.2.2.2.2.2.2.2.2.2.2.2.2.2.2.2.2.2.2.2.2.2.2.1) (k.2.2.2.2.2.2.2.2.2.2.2.2.2.2.2.2.2.2.2.2.2.2.2.2.2.2.2.2.2.2.2.2.2.2.2.2.2.2.1) (k.2.2.2.2.2.2.2.2.2.2.2.2.2.2.2.2.2.2.2.2.2.2.2.2.2.2.2.2.2.2.2.2.2.2.2.2.2.2.2.1) (k.2.2.2.2.2.2.2.2.2.2.2.2.2.2.2.2.2.2.2.2.2.2.2.2.2.2.2.2.2.2.2.2.2.2.2.2.2.2.2.2.1) (k.2.2.2.2.2.2.2.2.2.2.2.2.2.2.2.2.2.2.2.2.2.2.2.2.2.2.2.2.2.2.2.2.2.2.2.2.2.2.2.2.2.1) (k.2.2.2.2.2.2.2.2.2.2.2.2.2.2.2.2.2.2.2.2.2.2.2.2.2.2.2.2.2.2.2.2.2.2.2.2.2.2.2.2.2.2.1) (k.2.2.2.2.2.2.2.2.2.2.2.2.2.2.2.2.2.2.2.2.2.2.2.2.2.2.2.2.2.2.2.2.2.2.2.2.2.2.2.2.2.2.2.1) (k.2.2.2.2.2.2.2.2.2.2.2.2.2.2.2.2.2.2.2.2.2.2.2.2.2.2.2.2.2.2.2.2.2.2.2.2.2.2.2.2.2.2.2.2.1) (k.2.2.2.2.2.2.2.2.2.2.2.2.2.2.2.2.2.2.2.2.2.2.2.2.2.2.2.2.2.2.2.2.2.2.2.2.2.2.2.2.2.2.2.2.2)
theorem LTne : Nonempty LTK := ⟨((wd0 : World), (0 : Nat), (0 : Nat), (none : Option (List Env)), (none : Option (List Code)), ({} : Shared), (fun _ => none : ExcName → Option Value), (fun _ => none : Str → Option Value), (fun _ => none : Str → Option Value), (fun _ _ => True : Flow → Shared → Prop), ({} : Heap), ({} : Heap), ({} : Heap), (0 : Addr), (0 : Addr), (0 : Addr), (0 : Addr), (0 : Addr), (0 : Addr), (0 : Addr), (0 : Addr), (0 : Addr), (0 : Addr), (0 : Addr), (default : Obj), (default : Obj), (default : Obj), (0 : Nat), (0 : Nat), (0 : Nat), (0 : Nat), (0 : Nat), (0 : Int), ([] : List Addr), ([] : List Let), ([] : List Value), ([] : List Value), ([] : List Value), ([] : List Int), ([] : List Str), (0 : Nat), (0 : Addr), (0 : Tok), (fun _ => none : Str → Option Value), ({} : Heap), (0 : Nat))⟩
@[irreducible] noncomputable def LTk : LTK := @Classical.epsilon _ LTne fun k => ¬ LTP k
theorem LTc.pf : LTP LTk := by
  refine (?m : ∀ (w : World) (dp : Nat) (un : Nat) (fr : Option (List Env)) (gd : Option (List Code)) (s : Shared) (mean : ExcName → Option Value) (mg : Str → Option Value) (mb : Str → Option Value) (PE : Flow → Shared → Prop) (H0 : Heap) (g : Heap) (hG : Heap) (bx : Addr) (bd : Addr) (ll : Addr) (rl : Addr) (tl : Addr) (nl : Addr) (D4 : Addr) (D6 : Addr) (fl5 : Addr) (cl : Addr) (L' : Addr) (oM : Obj) (oD : Obj) (oL : Obj) (r0 : Nat) (e4 : Nat) (e6 : Nat) (nn : Nat) (wy : Nat) (top : Int) (ras : List Addr) (ds : List Let) (uvs : List Value) (nvs : List Value) (mvs : List Value) (us : List Int) (ts : List Str) (i : Nat) (T1 : Addr) (t1 : Tok) (m₁ : Str → Option Value) (h₂ : Heap) (tk₂ : Nat), ∀ {elts : List Expr} {x1 : Nat} {pt : Pos} {body : List Stmt} {scope : Scope} (hp : lsTurn = some (.Tuple elts x1 pt, body, scope)) (W : Wd w.params mean mg mb H0) (hst : H0.StaysIn g) (X : (hd.heap_39 w.params).In g) (T : TopF mean mg mb g) (hdp : dp + 20 < recursionLimit) (hun : un + 140 < cLine)
    {uv : Value} {rf : Let → Bool}
    (NEs : LsNE L' D6 fl5 cl D4 nl bd ll rl tl) (kGg : hG.StaysIn g) (hrs : RowsAt hG ras ds) (hlen : ds.length ≤ 5) (hui : ∀ (i : Nat) (d : Let), ds[i]? = some d → d.uid = (i : Int) + 1) (hdu : ∀ d ∈ ds, d.fl.Sublist UNI) (htop : 0 ≤ top ∧ top < 500)
    (hwy3 : wy < 3) (R : RefV uv rf) (hS : StrsAre nvs ts) (hsub : ts.Sublist UNI) (hus : IntsAre uvs us) (hul : us.length ≤ 8) (hms : IntsAre mvs (ds.map (·.ms)))
    (v : Value) (items : Array Value) (news₁ : List (Addr × Obj)) (pe pi : Addr × Obj) (hi : i < ds.length) (hL : h₂.IsList rl items) (hsz : items.size = ds.length) (hv : items[i]? = some v) (hT : IsTup h₂ T1 #[.int (i : Int) t1, v])
    (hJ : LsJ hG ds rf uv wy ts us top ras L' D6 fl5 cl D4 nl bd ll rl tl bx mvs uvs nvs e6 e4 nn oM oD oL r0 i m₁ news₁) (ha1 : ∀ p ∈ news₁, p.1 ≠ pe.1) (ha2 : ∀ p ∈ news₁, p.1 ≠ pi.1) (F₂ : Fr g L' h₂ m₁) (N₂ : News g L' h₂ (pe :: pi :: news₁)) {QQ : Flow → Shared → Prop}
    (hPE : ∀ f s', TurnEnd g L' (LsJ hG ds rf uv wy ts us top ras L' D6 fl5 cl D4 nl bd ll rl tl bx mvs uvs nvs e6 e4 nn oM oD oL r0 (i + 1)) [pe, pi] s QQ f s' → PE f s'),
    wpAny (model PySem.Challenge.rw_no0367_01.row.prog w) ((Ar dp un fr gd).deeper (envOfC "_law_store_right" scope L' 238 (.ref 237))) (assign (.Tuple elts x1 pt) (envOfC "_law_store_right" scope L' 238 (.ref 237)) (.ref T1))
      (fun _ s₂ => wpAny (model PySem.Challenge.rw_no0367_01.row.prog w) ((Ar dp un fr gd).deeper (envOfC "_law_store_right" scope L' 238 (.ref 237))) (execs body (envOfC "_law_store_right" scope L' 238 (.ref 237)))
        PE (fun _ _ => False) s₂) (fun _ _ => False) { s with heap := h₂, toks := tk₂ }) (LTk.1) (LTk.2.1) (LTk.2.2.1) (LTk.2.2.2.1) (LTk.2.2.2.2.1) (LTk.2.2.2.2.2.1) (LTk.2.2.2.2.2.2.1) (LTk.2.2.2.2.2.2.2.1) (LTk.2.2.2.2.2.2.2.2.1) (LTk.2.2.2.2.2.2.2.2.2.1) (LTk.2.2.2.2.2.2.2.2.2.2.1) (LTk.2.2.2.2.2.2.2.2.2.2.2.1) (LTk.2.2.2.2.2.2.2.2.2.2.2.2.1) (LTk.2.2.2.2.2.2.2.2.2.2.2.2.2.1) (LTk.2.2.2.2.2.2.2.2.2.2.2.2.2.2.1) (LTk.2.2.2.2.2.2.2.2.2.2.2.2.2.2.2.1) (LTk.2.2.2.2.2.2.2.2.2.2.2.2.2.2.2.2.1) (LTk.2.2.2.2.2.2.2.2.2.2.2.2.2.2.2.2.2.1) (LTk.2.2.2.2.2.2.2.2.2.2.2.2.2.2.2.2.2.2.1) (LTk.2.2.2.2.2.2.2.2.2.2.2.2.2.2.2.2.2.2.2.1) (LTk.2.2.2.2.2.2.2.2.2.2.2.2.2.2.2.2.2.2.2.2.1) (LTk.2.2.2.2.2.2.2.2.2.2.2.2.2.2.2.2.2.2.2.2.2.1) (LTk.2.2.2.2.2.2.2.2.2.2.2.2.2.2.2.2.2.2.2.2.2.2.1) (LTk.2.2.2.2.2.2.2.2.2.2.2.2.2.2.2.2.2.2.2.2.2.2.2.1) (LTk.2.2.2.2.2.2.2.2.2.2.2.2.2.2.2.2.2.2.2.2.2.2.2.2.1) (LTk.2.2.2.2.2.2.2.2.2.2.2.2.2.2.2.2.2.2.2.2.2.2.2.2.2.1) (LTk.2.2.2.2.2.2.2.2.2.2.2.2.2.2.2.2.2.2.2.2.2.2.2.2.2.2.1) (LTk.2.2.2.2.2.2.2.2.2.2.2.2.2.2.2.2.2.2.2.2.2.2.2.2.2.2.2.1) (LTk.2.2.2.2.2.2.2.2.2.2.2.2.2.2.2.2.2.2.2.2.2.2.2.2.2.2.2.2.1) (LTk.2.2.2.2.2.2.2.2.2.2.2.2.2.2.2.2.2.2.2.2.2.2.2.2.2.2.2.2.2.1) (LTk.2.2.2.2.2.2.2.2.2.2.2.2.2.2.2.2.2.2.2.2.2.2.2.2.2.2.2.2.2.2.1) (LTk.2.2.2.2.2.2.2.2.2.2.2.2.2.2.2.2.2.2.2.2.2.2.2.2.2.2.2.2.2.2.2.1) (LTk.2.2.2.2.2.2.2.2.2.2.2.2.2.2.2.2.2.2.2.2.2.2.2.2.2.2.2.2.2.2.2.2.1) (LTk.2.2.2.2.2.2.2.2.2.2.2.2.2.2.2.2.2.2.2.2.2.2.2.2.2.2.2.2.2.2.2.2.2.1) (LTk.2.2.2.2.2.2.2.2.2.2.2.2.2.2.2.2.2.2.2.2.2.2.2.2.2.2.2.2.2.2.2.2.2.2.1) (LTk.2.2.2.2.2.2.2.2.2.2.2.2.2.2.2.2.2.2.2.2.2.2.2.2.2.2.2.2.2.2.2.2.2.2.2.1) (LTk.2.2.2.2.2.2.2.2.2.2.2.2.2.2.2.2.2.2.2.2.2.2.2.2.2.2.2.2.2.2.2.2.2.2.2.2.1) (LTk.2.2.2.2.2.2.2.2.2.2.2.2.2.2.2.2.2.2.2.2.2.2.2.2.2.2.2.2.2.2.2.2.2.2.2.2.2.1) (LTk.2.2.2.2.2.2.2.2.2.2.2.2.2.2.2.2.2.2.2.2.2.2.2.2.2.2.2.2.2.2.2.2.2.2.2.2.2.2.1) (LTk.2.2.2.2.2.2.2.2.2.2.2.2.2.2.2.2.2.2.2.2.2.2.2.2.2.2.2.2.2.2.2.2.2.2.2.2.2.2.2.1) (LTk.2.2.2.2.2.2.2.2.2.2.2.2.2.2.2.2.2.2.2.2.2.2.2.2.2.2.2.2.2.2.2.2.2.2.2.2.2.2.2.2.1) (LTk.2.2.2.2.2.2.2.2.2.2.2.2.2.2.2.2.2.2.2.2.2.2.2.2.2.2.2.2.2.2.2.2.2.2.2.2.2.2.2.2.2.1) (LTk.2.2.2.2.2.2.2.2.2.2.2.2.2.2.2.2.2.2.2.2.2.2.2.2.2.2.2.2.2.2.2.2.2.2.2.2.2.2.2.2.2.2.1) (LTk.2.2.2.2.2.2.2.2.2.2.2.2.2.2.2.2.2.2.2.2.2.2.2.2.2.2.2.2.2.2.2.2.2.2.2.2.2.2.2.2.2.2.2.1) (LTk.2.2.2.2.2.2.2.2.2.2.2.2.2.2.2.2.2.2.2.2.2.2.2.2.2.2.2.2.2.2.2.2.2.2.2.2.2.2.2.2.2.2.2.2.1) (LTk.2.2.2.2.2.2.2.2.2.2.2.2.2.2.2.2.2.2.2.2.2.2.2.2.2.2.2.2.2.2.2.2.2.2.2.2.2.2.2.2.2.2.2.2.2)
  intro w dp un fr gd s mean mg mb PE H0 g hG bx bd ll rl tl nl D4 D6 fl5 cl L' oM oD oL r0 e4 e6 nn wy top ras ds uvs nvs mvs us ts i T1 t1 m₁ h₂ tk₂
  intro elts x1 pt body scope hp W hst X T hdp hun uv rf NEs kGg hrs hlen hui hdu htop hwy3 R hS hsub hus hul hms v items news₁ pe pi hi hL hsz hv hT hJ ha1 ha2 F₂ N₂ QQ hPE
  conv at hp => lhs; whnf
  dsimp only at hp
  simp only [Option.some.injEq, Prod.mk.injEq, Expr.Tuple.injEq] at hp
  obtain ⟨⟨rfl, rfl, rfl⟩, rfl, rfl⟩ := hp
  obtain ⟨I1, oI1⟩ := pe
  obtain ⟨I2, oI2⟩ := pi
  have hJ0 := hJ
  obtain ⟨ras', hG', imm, cvs, cn, rvs, rn, top', tt', tn, hq1, hq2, ⟨tw', hq3⟩, hq4, hq5, hq6, hq7, hq8, hq9, hq10, rfl, Im, hra, hcv, htp, hrv, hsame, hcl, hrl9, htp1, htp2⟩ := hJ
  cases isList_fun hL (isListOf (N₂ (rl, PySem.W.listOf (ras'.map Value.ref).toArray r0) (by k_extra "MINE mem")).1)
  obtain ⟨a, ha, rfl⟩ := map_get (l := ras') (f := Value.ref) (i := i) (by simpa using hv)
  have ha' : ras[i]? = some a := by rw [← hsame i (Nat.le_refl _)]; exact ha
  obtain ⟨d, hd, fa, fvs, t2, t3, hRT, hFT, hFS⟩ := hrs.get ha'
  have hRTg := keepsTup hRT kGg
  have hFTg := keepsTup hFT kGg
  have hui' := hui i d hd
  rw [hui'] at hRTg
  obtain ⟨tms, hmsi⟩ := ints_at hms (i := i) (x := d.ms) (by simp [hd])
  have hmsi' : mvs.toArray[i]? = some (.int d.ms tms) := by simpa using hmsi
  have hdfs := hdu d (List.mem_of_getElem? hd)
  have hdfu := (sub_uni hdfs).1
  have hbu : ∀ x ∈ beh wy d.fl ts, x ∈ UNI := (sub_uni (beh_sub hdfs)).1
  have hi5 : i < 5 := Nat.lt_of_lt_of_le hi hlen
  have hi6 : i < 1000 := ltlt_lit hi5 rfl
  have hilt : i < (ras'.map Value.ref).length := by rw [List.length_map]; exact (List.getElem?_eq_some_iff.mp ha).1
  have hz9 : (ras'.map Value.ref).length ≤ 1000 := by rw [List.length_map, hra.len]; exact Nat.le_trans (Nat.le_of_eq (runF_len _ _)) (le_lit hlen rfl)
  have hz10 : cvs.length ≤ 1000 := Nat.le_trans hcl (ltle_lit hi5 rfl)
  have hz11 : rvs.length ≤ 1000 := Nat.le_trans hrl9 (ltle_lit hi5 rfl)
  have iT := Im.ne (b := tl) (by k_extra "MINE mem")
  have iR := Im.ne (b := rl) (by k_extra "MINE mem")
  have iC := Im.ne (b := cl) (by k_extra "MINE mem")
  have iF := Im.ne (b := fl5) (by k_extra "MINE mem")
  have a1 : NE I1 tl := fun q => ha1 (tl, PySem.W.listOf #[.int top' tt'] tn) (by k_extra "MINE mem") q.symm
  have a2 : NE I1 rl := fun q => ha1 (rl, PySem.W.listOf (ras'.map Value.ref).toArray r0) (by k_extra "MINE mem") q.symm
  have a3 : NE I1 cl := fun q => ha1 (cl, PySem.W.listOf cvs.toArray cn) (by k_extra "MINE mem") q.symm
  have a4 : NE I1 fl5 := fun q => ha1 (fl5, PySem.W.listOf rvs.toArray rn) (by k_extra "MINE mem") q.symm
  have b1 : NE I2 tl := fun q => ha2 (tl, PySem.W.listOf #[.int top' tt'] tn) (by k_extra "MINE mem") q.symm
  have b2 : NE I2 rl := fun q => ha2 (rl, PySem.W.listOf (ras'.map Value.ref).toArray r0) (by k_extra "MINE mem") q.symm
  have b3 : NE I2 cl := fun q => ha2 (cl, PySem.W.listOf cvs.toArray cn) (by k_extra "MINE mem") q.symm
  have b4 : NE I2 fl5 := fun q => ha2 (fl5, PySem.W.listOf rvs.toArray rn) (by k_extra "MINE mem") q.symm
  obtain ⟨⟨n1, n2, n3, n4, n5, n6, n7, n8, n9⟩, ⟨n10, n11, n12, n13, n14, n15, n16, n17⟩, ⟨n18, n19, n20, n21, n22, n23, n24⟩, n25, n26, n27, n28, n29, n30⟩ := NEs
  clear hL hv hsz hRT hFT hui hms hmsi
  revert R hPE hq2 Im hra hcv htp hrv hsame hcl hrl9 htp1 htp2 hq3 ha1 ha2 N₂ hJ0 ha hT ha' hd hFS hRTg hFTg hui' hmsi' hdfs hdfu hbu hilt hz9 hz10 hz11 iT iR iC iF a1 a2 a3 a4 b1 b2 b3 b4
  revert uv rf QQ I1 oI1 I2 oI2 ras' hG' imm cvs cn rvs rn top' tt' tn tw' a d fa fvs t2 t3 tms
  refine @eps25 _ _ _ _ _ _ _ _ _ _ _ _ _ _ _ _ _ _ _ _ _ _ _ _ _ ⟨((.none : Value), (fun _ => false : Let → Bool), (fun _ _ => True : Flow → Shared → Prop), (0 : Addr), (default : Obj), (0 : Addr), (default : Obj), ([] : List (Addr)), ({} : Heap), ([] : List (Addr×Obj)), ([] : List (Value)), (0 : Nat), ([] : List (Value)), (0 : Nat), (0 : Int), (0 : Tok), (0 : Nat), (0 : Tok), (0 : Addr), (⟨0, [], 0⟩ : Let), (0 : Addr), ([] : List (Value)), (0 : Tok), (0 : Tok), (0 : Tok))⟩ ?P22 ((?close22 : ∀ a0 a1 a2 a3 a4 a5 a6 a7 a8 a9 a10 a11 a12 a13 a14 a15 a16 a17 a18 a19 a20 a21 a22 a23 a24, ?P22 a0 a1 a2 a3 a4 a5 a6 a7 a8 a9 a10 a11 a12 a13 a14 a15 a16 a17 a18 a19 a20 a21 a22 a23 a24) _ _ _ _ _ _ _ _ _ _ _ _ _ _ _ _ _ _ _ _ _ _ _ _ _ )
  intro uv rf QQ I1 oI1 I2 oI2 ras' hG' imm cvs cn rvs rn top' tt' tn tw' a d fa fvs t2 t3 tms R hPE hq2 Im hra hcv htp hrv hsame hcl hrl9 htp1 htp2 hq3 ha1 ha2 N₂ hJ0 ha hT ha' hd hFS hRTg hFTg hui' hmsi' hdfs hdfu hbu hilt hz9 hz10 hz11 iT iR iC iF a1 a2 a3 a4 b1 b2 b3 b4
  rcases R with ⟨rfl, rfl⟩ | ⟨u9, t9, rfl, rfl⟩
  · k_extra "MINE steps"
    · rename Fr _ _ _ _ => FF
      rename News _ _ _ _ => NN
      rename (beh wy d.fl ts = d.fl) => hb
      refine hPE _ _ (ls_end_keep hJ0 hdu hsub (.inr ⟨d, hd, rfl, hb⟩) ?_ FF NN (fun p hp => .tail _ hp) ha1 ha2 (.inl rfl))
      exact ⟨rfl, rfl, rfl, rfl, rfl, rfl, rfl, rfl, rfl, rfl⟩
    · rename Fr _ _ _ _ => FF
      rename News _ _ _ _ => NN
      rename (¬ (beh wy d.fl ts = d.fl)) => hb
      rename StrsAre _ (beh wy d.fl ts) => hbv
      rename (List.any us _ = true) => hin
      refine hPE _ _ (ls_end_change ?_ kGg Im hra hcv htp hrv hsame hcl hrl9 htp1 htp2 hdfs hsub hin hd rfl hb hbv FF NN (by (repeat (refine all_cons (by first | exact an_ne1 (by with_reducible assumption) (by k_extra "MINE mem") | exact lt_ne1 (by with_reducible assumption) (by k_extra "MINE mem")) ?_)); exact List.forall_mem_nil _) (by (repeat (refine all_cons (by first | exact an_ne1 (by with_reducible assumption) (by k_extra "MINE mem") | exact lt_ne1 (by with_reducible assumption) (by k_extra "MINE mem")) ?_)); exact List.forall_mem_nil _) (fun p hp => ⟨ha1 p hp, ha2 p hp⟩))
      exact ⟨_, hq1, hq2, hq3, hq4, hq5, hq6, hq7, hq8, hq9, hq10⟩
    · rename Fr _ _ _ _ => FF
      rename News _ _ _ _ => NN
      rename (List.any us _ = false) => hin
      refine hPE _ _ (ls_end_keep hJ0 hdu hsub (.inl hin) ?_ FF NN (fun p hp => hp) ha1 ha2 (.inr rfl))
      exact ⟨rfl, rfl, rfl, rfl, rfl, rfl, rfl, rfl, rfl, rfl⟩
  · k_extra "MINE steps"
    · rename Fr _ _ _ _ => FF
      rename News _ _ _ _ => NN
      rename (u9 < d.ms) => hnr
      rename (List.any us _ = true) => hin
      refine hPE _ _ (ls_end_refuse ?_ Im hra hcv htp hrv hsame hcl hrl9 htp1 htp2 hin hd (by simpa using hnr) FF NN (fun p hp => hp) (fun p hp => ?_))
      · exact ⟨_, hq1, hq2, hq3, hq4, hq5, hq6, hq7, hq8, hq9, hq10⟩
      · revert p
        refine all_cons ⟨ha1 _ (by k_extra "MINE mem"), ha2 _ (by k_extra "MINE mem")⟩ (all_cons ⟨ha1 (fl5, PySem.W.listOf rvs.toArray rn) (by k_extra "MINE mem"), ha2 (fl5, PySem.W.listOf rvs.toArray rn) (by k_extra "MINE mem")⟩ (fun p hp => ⟨ha1 p (List.mem_cons_of_mem _ (List.mem_cons_of_mem _ hp)), ha2 p (List.mem_cons_of_mem _ (List.mem_cons_of_mem _ hp))⟩))
    · rename Fr _ _ _ _ => FF
      rename News _ _ _ _ => NN
      rename (beh wy d.fl ts = d.fl) => hb
      rename (¬ (u9 < d.ms)) => hnr
      refine hPE _ _ (ls_end_keep hJ0 hdu hsub (.inr ⟨d, hd, by simpa using hnr, hb⟩) ?_ FF NN (fun p hp => .tail _ hp) ha1 ha2 (.inl rfl))
      exact ⟨rfl, rfl, rfl, rfl, rfl, rfl, rfl, rfl, rfl, rfl⟩
    · rename Fr _ _ _ _ => FF
      rename News _ _ _ _ => NN
      rename (¬ (beh wy d.fl ts = d.fl)) => hb
      rename StrsAre _ (beh wy d.fl ts) => hbv
      rename (List.any us _ = true) => hin
      rename (¬ (u9 < d.ms)) => hnr
      refine hPE _ _ (ls_end_change ?_ kGg Im hra hcv htp hrv hsame hcl hrl9 htp1 htp2 hdfs hsub hin hd (by simpa using hnr) hb hbv FF NN (by (repeat (refine all_cons (by first | exact an_ne1 (by with_reducible assumption) (by k_extra "MINE mem") | exact lt_ne1 (by with_reducible assumption) (by k_extra "MINE mem")) ?_)); exact List.forall_mem_nil _) (by (repeat (refine all_cons (by first | exact an_ne1 (by with_reducible assumption) (by k_extra "MINE mem") | exact lt_ne1 (by with_reducible assumption) (by k_extra "MINE mem")) ?_)); exact List.forall_mem_nil _) (fun p hp => ⟨ha1 p hp, ha2 p hp⟩))
      exact ⟨_, hq1, hq2, hq3, hq4, hq5, hq6, hq7, hq8, hq9, hq10⟩
    · rename Fr _ _ _ _ => FF
      rename News _ _ _ _ => NN
      rename (List.any us _ = false) => hin
      refine hPE _ _ (ls_end_keep hJ0 hdu hsub (.inl hin) ?_ FF NN (fun p hp => hp) ha1 ha2 (.inr rfl))
      exact ⟨rfl, rfl, rfl, rfl, rfl, rfl, rfl, rfl, rfl, rfl⟩
theorem ls_turn {w : World} {dp : Nat} {un : Nat} {fr : Option (List Env)} {gd : Option (List Code)} {s : Shared} {mean : ExcName → Option Value} {mg : Str → Option Value} {mb : Str → Option Value} {PE : Flow → Shared → Prop} {H0 : Heap} {g : Heap} {hG : Heap} {bx : Addr} {bd : Addr} {ll : Addr} {rl : Addr} {tl : Addr} {nl : Addr} {D4 : Addr} {D6 : Addr} {fl5 : Addr} {cl : Addr} {L' : Addr} {oM : Obj} {oD : Obj} {oL : Obj} {r0 : Nat} {e4 : Nat} {e6 : Nat} {nn : Nat} {wy : Nat} {top : Int} {ras : List Addr} {ds : List Let} {uvs : List Value} {nvs : List Value} {mvs : List Value} {us : List Int} {ts : List Str} {i : Nat} {T1 : Addr} {t1 : Tok} {m₁ : Str → Option Value} {h₂ : Heap} {tk₂ : Nat} : ∀ {elts : List Expr} {x1 : Nat} {pt : Pos} {body : List Stmt} {scope : Scope} (hp : lsTurn = some (.Tuple elts x1 pt, body, scope)) (W : Wd w.params mean mg mb H0) (hst : H0.StaysIn g) (X : (hd.heap_39 w.params).In g) (T : TopF mean mg mb g) (hdp : dp + 20 < recursionLimit) (hun : un + 140 < cLine)
    {uv : Value} {rf : Let → Bool}
    (NEs : LsNE L' D6 fl5 cl D4 nl bd ll rl tl) (kGg : hG.StaysIn g) (hrs : RowsAt hG ras ds) (hlen : ds.length ≤ 5) (hui : ∀ (i : Nat) (d : Let), ds[i]? = some d → d.uid = (i : Int) + 1) (hdu : ∀ d ∈ ds, d.fl.Sublist UNI) (htop : 0 ≤ top ∧ top < 500)
    (hwy3 : wy < 3) (R : RefV uv rf) (hS : StrsAre nvs ts) (hsub : ts.Sublist UNI) (hus : IntsAre uvs us) (hul : us.length ≤ 8) (hms : IntsAre mvs (ds.map (·.ms)))
    (v : Value) (items : Array Value) (news₁ : List (Addr × Obj)) (pe pi : Addr × Obj) (hi : i < ds.length) (hL : h₂.IsList rl items) (hsz : items.size = ds.length) (hv : items[i]? = some v) (hT : IsTup h₂ T1 #[.int (i : Int) t1, v])
    (hJ : LsJ hG ds rf uv wy ts us top ras L' D6 fl5 cl D4 nl bd ll rl tl bx mvs uvs nvs e6 e4 nn oM oD oL r0 i m₁ news₁) (ha1 : ∀ p ∈ news₁, p.1 ≠ pe.1) (ha2 : ∀ p ∈ news₁, p.1 ≠ pi.1) (F₂ : Fr g L' h₂ m₁) (N₂ : News g L' h₂ (pe :: pi :: news₁)) {QQ : Flow → Shared → Prop}
    (hPE : ∀ f s', TurnEnd g L' (LsJ hG ds rf uv wy ts us top ras L' D6 fl5 cl D4 nl bd ll rl tl bx mvs uvs nvs e6 e4 nn oM oD oL r0 (i + 1)) [pe, pi] s QQ f s' → PE f s'),
    wpAny (model PySem.Challenge.rw_no0367_01.row.prog w) ((Ar dp un fr gd).deeper (envOfC "_law_store_right" scope L' 238 (.ref 237))) (assign (.Tuple elts x1 pt) (envOfC "_law_store_right" scope L' 238 (.ref 237)) (.ref T1))
      (fun _ s₂ => wpAny (model PySem.Challenge.rw_no0367_01.row.prog w) ((Ar dp un fr gd).deeper (envOfC "_law_store_right" scope L' 238 (.ref 237))) (execs body (envOfC "_law_store_right" scope L' 238 (.ref 237)))
        PE (fun _ _ => False) s₂) (fun _ _ => False) { s with heap := h₂, toks := tk₂ } :=
  eps_all (P := LTP) LTne (by with_unfolding_all exact LTc.pf) (w, dp, un, fr, gd, s, mean, mg, mb, PE, H0, g, hG, bx, bd, ll, rl, tl, nl, D4, D6, fl5, cl, L', oM, oD, oL, r0, e4, e6, nn, wy, top, ras, ds, uvs, nvs, mvs, us, ts, i, T1, t1, m₁, h₂, tk₂)


theorem strs_rev {vs : List Value} {ts : List Str} (h : StrsAre vs ts) : StrsAre vs.reverse ts.reverse := by
  induction h with
  | nil => exact .nil
  | cons x t _ ih => rw [List.reverse_cons, List.reverse_cons]; exact strs_snoc ih x t
theorem way_item {wy : Nat} (h : wy < 3) : Txt.item (Str.ofString "+-=") (wy : Int) = wayStr wy := by
  rcases three_of h with rfl | rfl | rfl <;> decide +kernel
theorem runF_fl {ds0 : List Let} {rf : Let → Bool} {wy : Nat} {ts : List Str} (ks : List Nat) (S : List Let × Int × List Int) (h : ∀ d ∈ S.1, d.fl.Sublist UNI) : ∀ d ∈ (ks.foldl (stepF ds0 rf wy ts) S).1, d.fl.Sublist UNI := by
  induction ks generalizing S with
  | nil => exact h
  | cons k r ih =>
    rw [List.foldl_cons]
    refine ih _ fun d hd => ?_
    rcases stepF_or (ds0 := ds0) (rf := rf) (wy := wy) (ts := ts) S k with z | ⟨_, _, _, z⟩
    · rw [z] at hd; exact h d hd
    · rw [z] at hd
      rcases List.mem_or_eq_of_mem_set hd with q | rfl
      · exact h d q
      · exact List.filter_sublist
theorem rows_of {h : Heap} {as : List Addr} {ds : List Let} (e : as.length = ds.length) (hr : ∀ (j : Nat) (a : Addr), as[j]? = some a → ∃ d, ds[j]? = some d ∧ RowAt h a d) : RowsAt h as ds := ⟨e, hr _ _⟩
theorem reads_rows {h : Heap} {a : Addr} {as : List Addr} {ds : List Let} (hl : h.IsList a (as.map Value.ref).toArray) (hr : RowsAt h as ds) : Reads h (.ref a) (.list (ds.map rowD)) [a] := by
  obtain ⟨o, ho, hc, n, hd⟩ := hl
  exact Reads.list ho hc hd (by simpa using hr.reads)
/-- the tuple at a, in imm, tells d -/
inductive RowT (GR : Heap) (imm : List (Addr × Obj)) (a : Addr) (d : Let) : Prop
  | mk (fa : Addr) (fvs : List Value) (t1 t2 : Tok) : (a, { cls := .type "tuple", data := .seq #[.int d.uid t1, .ref fa, .int d.ms t2] }) ∈ imm → IsTup GR fa (List.toArray fvs) → StrsAre fvs d.fl → RowT GR imm a d
theorem RowT.more {GR : Heap} {imm : List (Addr × Obj)} {a : Addr} {d : Let} {p : Addr × Obj} : RowT GR imm a d → RowT GR (p :: imm) a d := fun ⟨fa, fvs, t1, t2, x, y, z⟩ => ⟨fa, fvs, t1, t2, .tail _ x, y, z⟩
/-- the tuples that the comprehension over the letters builds -/
inductive TupJ (ds : List Let) (GR : Heap) (i : Nat) : List Value → List (Addr × Obj) → Prop
  | mk (tas : List Addr) (imm : List (Addr × Obj)) : tas.length = i → (∀ (j : Nat) (a : Addr), tas[j]? = some a → ∃ d, ds[j]? = some d ∧ RowT GR imm a d) → TupJ ds GR i (tas.map Value.ref) imm
theorem TupJ.snoc {ds : List Let} {GR : Heap} {i : Nat} {ys : List Value} {imm : List (Addr × Obj)} (J : TupJ ds GR i ys imm) {d : Let} {D9 ft : Addr} {fvs : List Value} {tu tm : Tok} (hd : ds[i]? = some d) (hft : IsTup GR ft fvs.toArray) (hfv : StrsAre fvs d.fl) :
    TupJ ds GR (i + 1) (ys ++ [.ref D9]) ((D9, { cls := .type "tuple", data := .seq #[.int d.uid tu, .ref ft, .int d.ms tm] }) :: imm) := by
  obtain ⟨tas, _, hl, h⟩ := J
  have q := TupJ.mk (ds := ds) (GR := GR) (i := i + 1) (tas ++ [D9]) ((D9, { cls := .type "tuple", data := .seq #[.int d.uid tu, .ref ft, .int d.ms tm] }) :: imm) (by rw [List.length_append, hl]; rfl) fun j b hb => by
    rcases Nat.lt_or_ge j tas.length with hj | hj
    · rw [List.getElem?_append_left hj] at hb
      obtain ⟨d', c1, c2⟩ := h j b hb
      exact ⟨d', c1, c2.more⟩
    · rw [List.getElem?_append_right hj] at hb
      have hj2 : j - tas.length = 0 := Nat.lt_one_iff.mp (List.getElem?_eq_some_iff.mp hb).1
      rw [hj2] at hb
      obtain rfl := Option.some.inj hb
      exact ⟨d, by rw [Nat.le_antisymm (Nat.le_of_sub_eq_zero hj2) hj, hl]; exact hd, ft, fvs, tu, tm, .head _, hft, hfv⟩
  rwa [List.map_append] at q
theorem below_out {its imm : List (Addr × Obj)} {D D9 : Addr} {o : Obj} (l : ∀ p ∈ its ++ (D, o) :: imm, p.1 < D9) : D9 ∉ its.map (·.1) ∧ D9 ≠ D :=
  ⟨fun q => by
    obtain ⟨p, hp, hq⟩ := List.mem_map.mp q
    have := l p (List.mem_append_left _ hp)
    rw [hq] at this; exact Nat.lt_irrefl _ this, fun q => by
    have := l (D, o) (List.mem_append_right _ List.mem_cons_self)
    rw [q] at this; exact Nat.lt_irrefl _ this⟩
theorem fmod32 (z : Int) : 0 ≤ Int.fmod z 32 ∧ Int.fmod z 32 < 1000 := ⟨Int.fmod_nonneg_of_pos z (by decide), Int.lt_trans (Int.fmod_lt_of_pos z (by decide)) (by decide)⟩
theorem fmod3 (z : Int) : ∃ wy : Nat, wy < 3 ∧ Int.fmod z 3 = (wy : Int) :=
  have h0 := Int.fmod_nonneg_of_pos z (b := 3) (by decide)
  ⟨(Int.fmod z 3).toNat, (Int.toNat_lt h0).mpr (Int.fmod_lt_of_pos z (by decide)), (Int.toNat_of_nonneg h0).symm⟩
theorem six_of {u : Int} (h : u ∈ [6, 1, 5, 2, 4, 3, 1, 2]) : 1 ≤ u ∧ u ≤ 6 :=
  (by decide : ∀ x ∈ ([6, 1, 5, 2, 4, 3, 1, 2] : List Int), 1 ≤ x ∧ x ≤ 6) u h
theorem six_more {u : Int} (h : 1 ≤ u ∧ u ≤ 6) : 0 ≤ u - 1 ∧ u - 1 ≤ 1000000 ∧ u - 1 < 9000 :=
  have h1 : u - 1 ≤ 6 := Int.le_trans (Int.sub_le_self u (by decide)) h.2
  ⟨Int.sub_nonneg_of_le h.1, Int.le_trans h1 (by decide), Int.lt_of_le_of_lt h1 (by decide)⟩
theorem not4 {x a b c d : Addr} (h1 : @Ne Nat x a) (h2 : @Ne Nat x b) (h3 : @Ne Nat x c) (h4 : @Ne Nat x d) : x ∉ [a, b, c, d] := fun h => (List.mem_cons.mp h).elim h1 fun h => (List.mem_cons.mp h).elim h2 fun h => not2 h3 h4 h
/-- ints, no more than i of them -/
inductive IuJ (i : Nat) (ys : List Value) : Prop
  | mk (us : List Int) : IntsAre ys us → us.length ≤ i → IuJ i ys
/-- what stands behind the loop of _law_store_right -/
noncomputable def lsRest : Option (List Stmt × Scope) := (fdOf 29).map fun p => (p.1.drop 7, p.2)
section
variable {prog : Program} {w : World} {A : Around} {E : Value → Shared → Prop} {s : Shared} {h₀ : Heap} {L l : Addr} {m : Str → Option Value} {news : List (Addr × Obj)} {value slice : PySem.Expr} {vs : List Value} {ts : List Str} {vk : Value} {ops : List Value} {Q : Value → Shared → Prop}
theorem rev_strs (F : Fr h₀ L s.heap m) (N : News h₀ L s.heap news) (hl : s.heap.IsList l vs.toArray) (pk : IsPart vk (some (-1))) (hv : StrsAre vs ts) (hn : vs.length ≤ 1000)
    (h : ∀ D ws h', Fr h₀ L h' m → News h₀ L h' ((D, listOf (List.toArray ws) 0) :: news) → (∀ p ∈ news, p.1 < D) → StrsAre ws ts.reverse → Q (.ref D) { s with heap := h' })
    (hs : subscripted slice false (.ref l) (.ref s.heap.objs.size) = operate ops (getItem (.ref l) (.ref s.heap.objs.size))) (ht : ∀ r, letTemporaryGo value (.ref l) r = pure ()) :
    wpAny (model prog w) A (subscriptTail value slice (.ref l) (.ref s.heap.objs.size)) Q E { s with heap := s.heap.push { cls := .type "slice", data := .fields #[.none, .none, vk] } } :=
  krv_lit (its := vs.toArray) (zs := vs.reverse) F N hl pk rfl (fun D h' F' N' l1 => h D vs.reverse h' F' N' l1 (strs_rev hv)) hs ht (by have : sizeLine = 16777216 := rfl; simp only [List.size_toArray]; omega)
end
example : True := by
  k_with "subscriptTail Name Slice ref ref" => ((k_here; (with_reducible show wpAny _ _ (subscriptTail _ (PySem.Expr.Slice none none (some _) _) (Value.ref _) (Value.ref _)) _ _ _); k_dflt (refine' rev_strs (by first | (k_asm) | fail) (by first | (k_asm) | fail) (by first | (k_extra "MINE list") | fail) (by first | (exact IsPart.int _ _) | fail) (by first | (k_extra "MINE strs") | fail) (by first | (k_extra "MINE ar") | fail) ?_ (by first | (with_unfolding_all rfl) | fail) (by first | (kmk_pure) | fail); k_whole); intro _ _ _ _ _ l1 hS'; (try k_lt l1); (try k_sweep)); (try (revert l1 hS'; intros)))
  trivial
example : True := by
  k_with "MINE haltT" => (((fail_if_success (with_reducible show wpAny _ _ (call (Value.ref 216) _) _ _ _)); (fail_if_success (with_reducible show wpAny _ _ (compareOp CmpOp.NotEq (Value.ref _) (Value.ref _)) _ _ _)); (fail_if_success (with_reducible show wpAny _ _ (compareOp CmpOp.Eq (Value.ref _) (Value.ref _)) _ _ _)); k_extra "MINE halt"))
  trivial
example : True := by
  k_with "MINE stepsT" => (repeat' (first | (k_extra "MINE haltT"; walk1) | (dsimp only; k_extra "MINE haltT"; walk1)))
  trivial
noncomputable def LLG (w : World) (dp : Nat) (un : Nat) (fr : Option (List Env)) (gd : Option (List Code)) (s : Shared) (mean : ExcName → Option Value) (mg : Str → Option Value) (mb : Str → Option Value) (H0 : Heap) (Q : Value → Shared → Prop) (g : Heap) (hG : Heap) (hG' : Heap) (bx : Addr) (bd : Addr) (ll : Addr) (rl : Addr) (tl : Addr) (nl : Addr) (D4 : Addr) (D6 : Addr) (fl5 : Addr) (cl : Addr) (L' : Addr) (oM : Obj) (m0 : Nat) (n : Nat) (r0 : Nat) (e4 : Nat) (e6 : Nat) (nn : Nat) (wy : Nat) (cn : Nat) (rn : Nat) (tn : Nat) (es : List DictEntry) (nx : Int) (top : Int) (top' : Int) (tt' : Tok) (tw' : Tok) (las : List Addr) (ras' : List Addr) (ds : List Let) (uvs : List Value) (nvs : List Value) (mvs : List Value) (cvs : List Value) (rvs : List Value) (us : List Int) (ts : List Str) (uv : Value) (rf : Let → Bool) (imm : List (Addr × Obj)) (m : Str → Option Value) (h8 : Heap) (tk8 : Nat) : Prop := ∀ {rest : List Stmt} {scope : Scope} (hp : lsRest = some (rest, scope)) (W : Wd w.params mean mg mb H0) (hst : H0.StaysIn g) (X : (hd.heap_39 w.params).In g) (T : TopF mean mg mb g) (hdp : dp + 20 < recursionLimit) (hun : un + 140 < cLine)
    (NEs : LsNE L' D6 fl5 cl D4 nl bd ll rl tl) (hx' : g.get? bx = some (instObj 151 bd)) (B : BoxD es ll nx top) (hne : @Ne Nat bx bd) (hne2 : @Ne Nat bx ll) (hne3 : @Ne Nat bd ll) (hd0 : H0.get? bd = none) (hl0 : H0.get? ll = none)
    (kGg : hG.StaysIn g) (hds : LetsAt hG las ds) (hlen : ds.length ≤ 5) (hui : ∀ (i : Nat) (d : Let), ds[i]? = some d → d.uid = (i : Int) + 1) (hdu : ∀ d ∈ ds, d.fl.Sublist UNI) (htop : 0 ≤ top ∧ top < 500)
    (hwy3 : wy < 3) (R : RefV uv rf) (hS : StrsAre nvs ts) (hsub : ts.Sublist UNI) (hus : IntsAre uvs us) (hul : us.length ≤ 8) (NEb : (NE D6 bd ∧ NE fl5 bd ∧ NE cl bd ∧ NE D4 bd ∧ NE nl bd ∧ NE (L' + 1) bd) ∧ NE D6 ll ∧ NE fl5 ll ∧ NE cl ll ∧ NE D4 ll ∧ NE nl ll ∧ NE (L' + 1) ll) (hg : g = hideAll s.heap [bd, ll, rl, tl])
    
    (hq1 : m "names" = some (.ref nl)) (hq2 : m "unless" = some uv) (hq3 : m "way" = some (.int (wy : Int) tw')) (hq4 : m "top" = some (.ref tl)) (hq5 : m "rows" = some (.ref rl)) (hq6 : m "box" = some (.ref bx)) (hq7 : m "uids" = some (.ref D4)) (hq8 : m "changed" = some (.ref cl)) (hq9 : m "refused" = some (.ref fl5))
    (Im : Imm hG hG' [L', D6, fl5, cl, D4, nl, L' + 1, bd, ll, rl, tl] imm) (hra : RowsAt hG' ras' (runF ds rf wy ts.reverse (keysIn ds.length us) top).1) (hcv : IntsAre cvs (runF ds rf wy ts.reverse (keysIn ds.length us) top).2.2) (htp : top' = (runF ds rf wy ts.reverse (keysIn ds.length us) top).2.1)
    (hrv : IntsAre rvs (((keysIn ds.length us).filter fun k => (ds[k]?).any rf).map fun (k : Nat) => (k : Int) + 1)) (htp1 : top ≤ top') (htp2 : top' ≤ top + ds.length)
    (F8 : Fr g L' h8 m) (N8 : News g L' h8 ((D6, PySem.W.listOf mvs.toArray e6) :: (fl5, PySem.W.listOf (List.toArray rvs) rn) :: (cl, PySem.W.listOf (List.toArray cvs) cn) :: (D4, PySem.W.listOf uvs.toArray e4) :: (nl, PySem.W.listOf nvs.toArray nn) :: (L' + 1, oM) :: (bd, dictOf es n) :: (ll, PySem.W.listOf (las.map Value.ref).toArray m0) :: (rl, PySem.W.listOf (List.map Value.ref ras').toArray r0) :: (tl, PySem.W.listOf #[Value.int top' tt'] tn) :: imm))
    (ret : ∀ h' tk' es' n' m' las' ras', (hideAll s.heap [bd, ll, rl, tl]).StaysIn h' → h'.get? bd = some (dictOf es' n') → BoxD es' ll nx top' → h'.get? ll = some (listOf (las'.map Value.ref).toArray m') → h'.get? rl = some (listOf (ras'.map Value.ref).toArray r0) → h'.get? tl = some (listOf #[.int top' tt'] tn) →
      LetsAt (lift hG s.heap h') las' (runF ds rf wy ts.reverse (keysIn ds.length us) top).1 → RowsAt (lift hG s.heap h') ras' (runF ds rf wy ts.reverse (keysIn ds.length us) top).1 → Q (.bool true) { s with heap := h', toks := tk' }),
    wpAny (model PySem.Challenge.rw_no0367_01.row.prog w) ((Ar dp un fr gd).deeper (envOfC "_law_store_right" scope L' 238 (.ref 237))) (execs rest (envOfC "_law_store_right" scope L' 238 (.ref 237)))
      (fun fl s' => Q (match fl with | .ret v => v | _ => .none) s') (fun _ _ => False) { s with heap := h8, toks := tk8 }
noncomputable abbrev LLK : Type _ := (World) × (Nat) × (Nat) × (Option (List Env)) × (Option (List Code)) × (Shared) × (ExcName → Option Value) × (Str → Option Value) × (Str → Option Value) × (Heap) × (Value → Shared → Prop) × (Heap) × (Heap) × (Heap) × (Addr) × (Addr) × (Addr) × (Addr) × (Addr) × (Addr) × (Addr) × (Addr) × (Addr) × (Addr) × (Addr) × (Obj) × (Nat) × (Nat) × (Nat) × (Nat) × (Nat) × (Nat) × (Nat) × (Nat) × (Nat) × (Nat) × (List DictEntry) × (Int) × (Int) × (Int) × (Tok) × (Tok) × (List Addr) × (List Addr) × (List Let) × (List Value) × (List Value) × (List Value) × (List Value) × (List Value) × (List Int) × (List Str) × (Value) × (Let → Bool) × (List (Addr × Obj)) × (Str → Option Value) × (Heap) × (Nat)
noncomputable def LLP (k : LLK) : Prop := LLG (k.1) (k.2.1) (k.2.2.1) (k.2.2.2.1) (k.2.2.2.2.1) (k.2.2.2.2.2.1) (k.2.2.2.2.2.2.1) (k.2.2.2.2.2.2.2.1) (k.2.2.2.2.2.2.2.2.1) (k.2.2.2.2.2.2.2.2.2.1) (k.2.2.2.2.2.2.2.2.2.2.1) (k.2.2.2.2.2.2.2.2.2.2.2.1) (k.2.2.2.2.2.2.2.2.2.2.2.2.1) (k.2.2.2.2.2.2.2.2.2.2.2.2.2.1) (k.2.2.2.2.2.2.2.2.2.2.2.2.2.2.1) (k.2.2.2.2.2.2.2.2.2.2.2.2.2.2.2.1) (k.2.2.2.2.2.2.2.2.2.2.2.2.2.2.2.2.1) (k.2.2.2.2.2.2.2.2.2.2.2.2.2.2.2.2.2.1) (k.2.2.2.2.2.2.2.2.2.2.2.2.2.2.2.2.2.2.1) (k.2.2.2.2.2.2.2.2.2.2.2.2.2.2.2.2.2.2.2.1) (k.2.2.2.2.2.2.2.2.2.2.2.2.2.2.2.2.2.2.2.2.1) (k.2.2.2.2.2.2.2.2.2.2.2.2.2.2.2.2.2.2.2.2.2.1) (k.2.2.2.2.2.2.2.2.2.2.2.2.2.2.2.2.2.2.2.2.2.2.1) (k.2.2.2.2.2.2.2.2.2.2.2.2.2.2.2.2.2.2.2.2.2.2.2.1) (k.2.2.2.2.2.2.2.2.2.2.2.2.2.2.2.2.2.2.2.2.2.2.2.2.1) (k.2.2.2.2.2.2.2.2.2.2.2.2.2.2.2.2.2.2.2.2.2.2.2.2.2.1) (k.2.2.2.2.2.2.2.2.2.2.2.2.2.2.2.2.2.2.2.2.2.2.2.2.2.2.1) (k.2.2.2.2.2.2.2.2.2.2.2.2.2.2.2.2.2.2.2.2.2.2.2.2.2.2.2.1) (k.2.2.2.2.2.2.2.2.2.2.2.2.2.2.2.2.2.2.2.2.2.2.2.2.2.2.2.2.1) (k.2.2.2.2.2.2.2.2.2.2.2.2.2.2.2.2.2.2.2.2.2.2.2.2.2.2.2.2.2.1) (k.2.2.2.2.2.2.2.2.2.2.2.2.2.2.2.2.2.2.2.2.2.2.2.2.2.2.2.2.2.2.1) (k.2.2.2.2.2.2.2.2.2.2.2.2.2.2.2.2.2.2.2.2.2.2.2.2.2.2.2.2.2.2.2.1) (k.2.2.2.2.2.2.2.2.2.2.2.2.2.2.2.2.2.2.2.2.2.2.2.2.2.2.2.2.2.2.2.2.1) (k.2.2.2.2.2.2.2.2.2.2.2.2.2.2.2.2.2.2.2.2.2.2.2.2.2.2.2.2.2.2.2.2.2.1) (k.2.2.2.2.2.2.2.2.2.2.2.2.2.2.2.2.2.2.2.2.2.2.2.2.2.2.2.2.2.2.2.2.2.2.1) (k.2.2.2.2.2.2.2.2.2.2.2.2.2.2.2.2.2.2.2.2.2.2.2.2.2.2.2.2.2.2.2.2.2.2.2.1) (k.2.2.2.2.2.2.2.2.2.2.2.2.2.2.2.2.2.2.2.2.2.2.2.2.2.2.2.2.2.2.2.2.2.2.2.2.1) (k.2.2.2.2.2.2.2.2.2.2.2.2.2.2.2.2.2.2.2.2.2.2.2.2.2.2.2.2.2.2.2.2.2.2.2.2.2.1) (k.2.2.2.2.2.2.2.2.2.2.2.2.2.2.2.2.2.2.2.2.2.2.2.2.2.2.2.2.2.2.2.2.2.2.2.2.2.2.1) (k.2.2.2.2.2.2.2.2.2.2.2.2.2.2.2.2.2.2.2.2.2.2.2.2.2.2.2.2.2.2.2.2.2.2.2.2.2.2.2.1) (k.2.2.2.2.2.2.2.2.2.2.2.2.2.2.2.2.2.2.2.2.2.2.2.2.2.2.2.2.2.2.2.2.2.2.2.2.2.2.2.2.1) (k.2.2.2.2.2.2.2.2.2.2.2.2.2.2.2.2.2.2.2.2.2.2.2.2.2.2.2.2.2.2.2.2.2.2.2.2.2.2.2.2.2.1) (k.2.2.2.2.2.2.2.2.2.2.2.2.2.2.2.2.2.2.2.2.2.2.2.2.2.2.2.2.2.2.2.2.2.2.2.2.2.2.2.2.2.2.1) (k.2.2.2.2.2.2.2.2.2.2.2.2.2.2.2.2.2.2.2.2.2.2.2.2.2.2.2.2.2.2.2.2.2.2.2.2.2.2.2.2.2.2.2.1) (k.2.2.2.2.2.2.2.2.2.2.2.2.2.2.2.2.2.2.2.2.2.2.2.2.2.2.2.2.2.2.2.2.2.2.2.2.2.2.2.2.2.2.2.2.1) (k.2.2.2.2.2.2.2.2.2.2.2.2.2.2.2.2.2.2.2.2.2.2.2.2.2.2.2.2.2.2.2.2.2.2.2.2.2.2.2.2.2.2.2.2.2.1) (k.2.2.2.2.2.2.2.2.2.2.2.2.2.2.2.2.2.2.2.2.2.2.2.2.2.2.2.2.2.2.2.2.2.2.2.2.2.2.2.2.2.2.2.2.2.2.1) (k.2.2.2.2.2.2.2.2.2.2.2.2.2.2.2.2.2.2.2.2.2.2.2.2.2.2.2.2.2.2.2.2.2.2.2.2.2.2.2.2.2.2.2.2.2.2.2.1) (k.2.2.2.2.2.2.2.2.2.2.2.2.2.2.2.2.2.2.2.2.2.2.2.2.2.2.2.2.2.2.2.2.2.2.2.2.2.2.2.2.2.2.2.2.2.2.2.2.1) (k.2.2.2.2.2.2.2.2.2.2.2.2.2.2.2.2.2.2.2.2.2.2.2.2.2.2.2.2.2.2.2.2.2.2.2.2.2.2.2.2.2.2.2.2.2.2.2.2.2.1) (k.2.2.2.2.2.2.2.2.2.2.2.2.2.2.2.2.2.2.2.2.2.2.2.2.2.2.2.2.2.2.2.2.2.2.2.2.2.2.2.2.2.2.2.2.2.2.2.2.2.2.1) (k.2.2.2.2.2.2.2.2.2.2.2.2.2.2.2.2.2.2.2.2.2.2.2.2.2.2.2.2.2.2.2.2.2.2.2.2.2.2.2.2.2.2.2.2.2.2.2.2.2.2.2.1) (k.2.2.2.2.2.2.2.2.2.2.2.2.2.2.2.2.2.2.2.2.2.2.2.2.2.2.2.2.2.2.2.2.2.2.2.2.2.2.2.2.2.2.2.2.2.2.2.2.2.2.2.2.1) (k.2.2.2.2.2.2.2.2.2.2.2.2.2.2.2.2.2.2.2.2.2.2.2.2.2.2.2.2.2.2.2.2.2.2.2.2.2.2.2.2.2.2.2.2.2.2.2.2.2.2.2.2.2.1) (k.2.2.2.2.2.2.2.2.2.2.2.2.2.2.2.2.2.2.2.2.2.2.2.2.2.2.2.2.2.2.2.2.2.2.2.2.2.2.2.2.2.2.2.2.2.2.2.2.2.2.2.2.2.2.1) (k.2.2.2.2.2.2.2.2.2.2.2.2.2.2.2.2.2.2.2.2.2.2.2.2.2.2.2.2.2.2.2.2.2.2.2.2.2.2.2.2.2.2.2.2.2.2.2.2.2.2.2.2.2.2.2.1) (k.2.2.2.2.2.2.2.2.2.2.2.2.2.2.2.2.2.2.2.2.2.2.2.2.2.2.2.2.2.2.2.2.2.2.2.2.2.2.2.2.2.2.2.2.2.2.2.2.2.2.2.2.2.2.2.2.1) (k.2.2.2.2.2.2.2.2.2.2.2.2.2.2.2.2.2.2.2.2.2.2.2.2.2.2.2.2.2.2.2.2.2.2.2.2.2.2.2.2.2.2.2.2.2.2.2.2.2.2.2.2.2.2.2.2.2)
theorem LLne : Nonempty LLK := ⟨((wd0 : World), (0 : Nat), (0 : Nat), (none : Option (List Env)), (none : Option (List Code)), ({} : Shared), (fun _ => none : ExcName → Option Value), (fun _ => none : Str → Option Value), (fun _ => none : Str → Option Value), ({} : Heap), (fun _ _ => True : Value → Shared → Prop), ({} : Heap), ({} : Heap), ({} : Heap), (0 : Addr), (0 : Addr), (0 : Addr), (0 : Addr), (0 : Addr), (0 : Addr), (0 : Addr), (0 : Addr), (0 : Addr), (0 : Addr), (0 : Addr), (default : Obj), (0 : Nat), (0 : Nat), (0 : Nat), (0 : Nat), (0 : Nat), (0 : Nat), (0 : Nat), (0 : Nat), (0 : Nat), (0 : Nat), ([] : List DictEntry), (0 : Int), (0 : Int), (0 : Int), (0 : Tok), (0 : Tok), ([] : List Addr), ([] : List Addr), ([] : List Let), ([] : List Value), ([] : List Value), ([] : List Value), ([] : List Value), ([] : List Value), ([] : List Int), ([] : List Str), (.none : Value), (fun _ => false : Let → Bool), ([] : List (Addr × Obj)), (fun _ => none : Str → Option Value), ({} : Heap), (0 : Nat))⟩
@[irreducible] noncomputable def LLk : LLK := @Classical.epsilon _ LLne fun k => ¬ LLP k
theorem LLc.pf : LLP LLk := by
  refine (?m : ∀ (w : World) (dp : Nat) (un : Nat) (fr : Option (List Env)) (gd : Option (List Code)) (s : Shared) (mean : ExcName → Option Value) (mg : Str → Option Value) (mb : Str → Option Value) (H0 : Heap) (Q : Value → Shared → Prop) (g : Heap) (hG : Heap) (hG' : Heap) (bx : Addr) (bd : Addr) (ll : Addr) (rl : Addr) (tl : Addr) (nl : Addr) (D4 : Addr) (D6 : Addr) (fl5 : Addr) (cl : Addr) (L' : Addr) (oM : Obj) (m0 : Nat) (n : Nat) (r0 : Nat) (e4 : Nat) (e6 : Nat) (nn : Nat) (wy : Nat) (cn : Nat) (rn : Nat) (tn : Nat) (es : List DictEntry) (nx : Int) (top : Int) (top' : Int) (tt' : Tok) (tw' : Tok) (las : List Addr) (ras' : List Addr) (ds : List Let) (uvs : List Value) (nvs : List Value) (mvs : List Value) (cvs : List Value) (rvs : List Value) (us : List Int) (ts : List Str) (uv : Value) (rf : Let → Bool) (imm : List (Addr × Obj)) (m : Str → Option Value) (h8 : Heap) (tk8 : Nat), ∀ {rest : List Stmt} {scope : Scope} (hp : lsRest = some (rest, scope)) (W : Wd w.params mean mg mb H0) (hst : H0.StaysIn g) (X : (hd.heap_39 w.params).In g) (T : TopF mean mg mb g) (hdp : dp + 20 < recursionLimit) (hun : un + 140 < cLine)
    (NEs : LsNE L' D6 fl5 cl D4 nl bd ll rl tl) (hx' : g.get? bx = some (instObj 151 bd)) (B : BoxD es ll nx top) (hne : @Ne Nat bx bd) (hne2 : @Ne Nat bx ll) (hne3 : @Ne Nat bd ll) (hd0 : H0.get? bd = none) (hl0 : H0.get? ll = none)
    (kGg : hG.StaysIn g) (hds : LetsAt hG las ds) (hlen : ds.length ≤ 5) (hui : ∀ (i : Nat) (d : Let), ds[i]? = some d → d.uid = (i : Int) + 1) (hdu : ∀ d ∈ ds, d.fl.Sublist UNI) (htop : 0 ≤ top ∧ top < 500)
    (hwy3 : wy < 3) (R : RefV uv rf) (hS : StrsAre nvs ts) (hsub : ts.Sublist UNI) (hus : IntsAre uvs us) (hul : us.length ≤ 8) (NEb : (NE D6 bd ∧ NE fl5 bd ∧ NE cl bd ∧ NE D4 bd ∧ NE nl bd ∧ NE (L' + 1) bd) ∧ NE D6 ll ∧ NE fl5 ll ∧ NE cl ll ∧ NE D4 ll ∧ NE nl ll ∧ NE (L' + 1) ll) (hg : g = hideAll s.heap [bd, ll, rl, tl])
    
    (hq1 : m "names" = some (.ref nl)) (hq2 : m "unless" = some uv) (hq3 : m "way" = some (.int (wy : Int) tw')) (hq4 : m "top" = some (.ref tl)) (hq5 : m "rows" = some (.ref rl)) (hq6 : m "box" = some (.ref bx)) (hq7 : m "uids" = some (.ref D4)) (hq8 : m "changed" = some (.ref cl)) (hq9 : m "refused" = some (.ref fl5))
    (Im : Imm hG hG' [L', D6, fl5, cl, D4, nl, L' + 1, bd, ll, rl, tl] imm) (hra : RowsAt hG' ras' (runF ds rf wy ts.reverse (keysIn ds.length us) top).1) (hcv : IntsAre cvs (runF ds rf wy ts.reverse (keysIn ds.length us) top).2.2) (htp : top' = (runF ds rf wy ts.reverse (keysIn ds.length us) top).2.1)
    (hrv : IntsAre rvs (((keysIn ds.length us).filter fun k => (ds[k]?).any rf).map fun (k : Nat) => (k : Int) + 1)) (htp1 : top ≤ top') (htp2 : top' ≤ top + ds.length)
    (F8 : Fr g L' h8 m) (N8 : News g L' h8 ((D6, PySem.W.listOf mvs.toArray e6) :: (fl5, PySem.W.listOf (List.toArray rvs) rn) :: (cl, PySem.W.listOf (List.toArray cvs) cn) :: (D4, PySem.W.listOf uvs.toArray e4) :: (nl, PySem.W.listOf nvs.toArray nn) :: (L' + 1, oM) :: (bd, dictOf es n) :: (ll, PySem.W.listOf (las.map Value.ref).toArray m0) :: (rl, PySem.W.listOf (List.map Value.ref ras').toArray r0) :: (tl, PySem.W.listOf #[Value.int top' tt'] tn) :: imm))
    (ret : ∀ h' tk' es' n' m' las' ras', (hideAll s.heap [bd, ll, rl, tl]).StaysIn h' → h'.get? bd = some (dictOf es' n') → BoxD es' ll nx top' → h'.get? ll = some (listOf (las'.map Value.ref).toArray m') → h'.get? rl = some (listOf (ras'.map Value.ref).toArray r0) → h'.get? tl = some (listOf #[.int top' tt'] tn) →
      LetsAt (lift hG s.heap h') las' (runF ds rf wy ts.reverse (keysIn ds.length us) top).1 → RowsAt (lift hG s.heap h') ras' (runF ds rf wy ts.reverse (keysIn ds.length us) top).1 → Q (.bool true) { s with heap := h', toks := tk' }),
    wpAny (model PySem.Challenge.rw_no0367_01.row.prog w) ((Ar dp un fr gd).deeper (envOfC "_law_store_right" scope L' 238 (.ref 237))) (execs rest (envOfC "_law_store_right" scope L' 238 (.ref 237)))
      (fun fl s' => Q (match fl with | .ret v => v | _ => .none) s') (fun _ _ => False) { s with heap := h8, toks := tk8 }) (LLk.1) (LLk.2.1) (LLk.2.2.1) (LLk.2.2.2.1) (LLk.2.2.2.2.1) (LLk.2.2.2.2.2.1) (LLk.2.2.2.2.2.2.1) (LLk.2.2.2.2.2.2.2.1) (LLk.2.2.2.2.2.2.2.2.1) (LLk.2.2.2.2.2.2.2.2.2.1) (LLk.2.2.2.2.2.2.2.2.2.2.1) (LLk.2.2.2.2.2.2.2.2.2.2.2.1) (LLk.2.2.2.2.2.2.2.2.2.2.2.2.1) (LLk.2.2.2.2.2.2.2.2.2.2.2.2.2.1) (LLk.2.2.2.2.2.2.2.2.2.2.2.2.2.2.1) (LLk.2.2.2.2.2.2.2.2.2.2.2.2.2.2.2.1) (LLk.2.2.2.2.2.2.2.2.2.2.2.2.2.2.2.2.1) (LLk.2.2.2.2.2.2.2.2.2.2.2.2.2.2.2.2.2.1) (LLk.2.2.2.2.2.2.2.2.2.2.2.2.2.2.2.2.2.2.1) (LLk.2.2.2.2.2.2.2.2.2.2.2.2.2.2.2.2.2.2.2.1) (LLk.2.2.2.2.2.2.2.2.2.2.2.2.2.2.2.2.2.2.2.2.1) (LLk.2.2.2.2.2.2.2.2.2.2.2.2.2.2.2.2.2.2.2.2.2.1) (LLk.2.2.2.2.2.2.2.2.2.2.2.2.2.2.2.2.2.2.2.2.2.2.1) (LLk.2.2.2.2.2.2.2.2.2.2.2.2.2.2.2.2.2.2.2.2.2.2.2.1) (LLk.2.2.2.2.2.2.2.2.2.2.2.2.2.2.2.2.2.2.2.2.2.2.2.2.1) (LLk.2.2.2.2.2.2.2.2.2.2.2.2.2.2.2.2.2.2.2.2.2.2.2.2.2.1) (LLk.2.2.2.2.2.2.2.2.2.2.2.2.2.2.2.2.2.2.2.2.2.2.2.2.2.2.1) (LLk.2.2.2.2.2.2.2.2.2.2.2.2.2.2.2.2.2.2.2.2.2.2.2.2.2.2.2.1) (LLk.2.2.2.2.2.2.2.2.2.2.2.2.2.2.2.2.2.2.2.2.2.2.2.2.2.2.2.2.1) (LLk.2.2.2.2.2.2.2.2.2.2.2.2.2.2.2.2.2.2.2.2.2.2.2.2.2.2.2.2.2.1) (LLk.2.2.2.2.2.2.2.2.2.2.2.2.2.2.2.2.2.2.2.2.2.2.2.2.2.2.2.2.2.2.1) (LLk.2.2.2.2.2.2.2.2.2.2.2.2.2.2.2.2.2.2.2.2.2.2.2.2.2.2.2.2.2.2.2.1) (LLk.2.2.2.2.2.2.2.2.2.2.2.2.2.2.2.2.2.2.2.2.2.2.2.2.2.2.2.2.2.2.2.2.1) (LLk.2.2.2.2.2.2.2.2.2.2.2.2.2.2.2.2.2.2.2.2.2.2.2.2.2.2.2.2.2.2.2.2.2.1) (LLk.2.2.2.2.2.2.2.2.2.2.2.2.2.2.2.2.2.2.2.2.2.2.2.2.2.2.2.2.2.2.2.2.2.2.1) (LLk.2.2.2.2.2.2.2.2.2.2.2.2.2.2.2.2.2.2.2.2.2.2.2.2.2.2.2.2.2.2.2.2.2.2.2.1) (LLk.2.2.2.2.2.2.2.2.2.2.2.2.2.2.2.2.2.2.2.2.2.2.2.2.2.2.2.2.2.2.2.2.2.2.2.2.1) (LLk.2.2.2.2.2.2.2.2.2.2.2.2.2.2.2.2.2.2.2.2.2.2.2.2.2.2.2.2.2.2.2.2.2.2.2.2.2.1) (LLk.2.2.2.2.2.2.2.2.2.2.2.2.2.2.2.2.2.2.2.2.2.2.2.2.2.2.2.2.2.2.2.2.2.2.2.2.2.2.1) (LLk.2.2.2.2.2.2.2.2.2.2.2.2.2.2.2.2.2.2.2.2.2.2.2.2.2.2.2.2.2.2.2.2.2.2.2.2.2.2.2.1) (LLk.2.2.2.2.2.2.2.2.2.2.2.2.2.2.2.2.2.2.2.2.2.2.2.2.2.2.2.2.2.2.2.2.2.2.2.2.2.2.2.2.1) (LLk.2.2.2.2.2.2.2.2.2.2.2.2.2.2.2.2.2.2.2.2.2.2.2.2.2.2.2.2.2.2.2.2.2.2.2.2.2.2.2.2.2.1) (LLk.2.2.2.2.2.2.2.2.2.2.2.2.2.2.2.2.2.2.2.2.2.2.2.2.2.2.2.2.2.2.2.2.2.2.2.2.2.2.2.2.2.2.1) (LLk.2.2.2.2.2.2.2.2.2.2.2.2.2.2.2.2.2.2.2.2.2.2.2.2.2.2.2.2.2.2.2.2.2.2.2.2.2.2.2.2.2.2.2.1) (LLk.2.2.2.2.2.2.2.2.2.2.2.2.2.2.2.2.2.2.2.2.2.2.2.2.2.2.2.2.2.2.2.2.2.2.2.2.2.2.2.2.2.2.2.2.1) (LLk.2.2.2.2.2.2.2.2.2.2.2.2.2.2.2.2.2.2.2.2.2.2.2.2.2.2.2.2.2.2.2.2.2.2.2.2.2.2.2.2.2.2.2.2.2.1) (LLk.2.2.2.2.2.2.2.2.2.2.2.2.2.2.2.2.2.2.2.2.2.2.2.2.2.2.2.2.2.2.2.2.2.2.2.2.2.2.2.2.2.2.2.2.2.2.1) (LLk.2.2.2.2.2.2.2.2.2.2.2.2.2.2.2.2.2.2.2.2.2.2.2.2.2.2.2.2.2.2.2.2.2.2.2.2.2.2.2.2.2.2.2.2.2.2.2.1) (LLk.2.2.2.2.2.2.2.2.2.2.2.2.2.2.2.2.2.2.2.2.2.2.2.2.2.2.2.2.2.2.2.2.2.2.2.2.2.2.2.2.2.2.2.2.2.2.2.2.1) (LLk.2.2.2.2.2.2.2.2.2.2.2.2.2.2.2.2.2.2.2.2.2.2.2.2.2.2.2.2.2.2.2.2.2.2.2.2.2.2.2.2.2.2.2.2.2.2.2.2.2.1) (LLk.2.2.2.2.2.2.2.2.2.2.2.2.2.2.2.2.2.2.2.2.2.2.2.2.2.2.2.2.2.2.2.2.2.2.2.2.2.2.2.2.2.2.2.2.2.2.2.2.2.2.1) (LLk.2.2.2.2.2.2.2.2.2.2.2.2.2.2.2.2.2.2.2.2.2.2.2.2.2.2.2.2.2.2.2.2.2.2.2.2.2.2.2.2.2.2.2.2.2.2.2.2.2.2.2.1) (LLk.2.2.2.2.2.2.2.2.2.2.2.2.2.2.2.2.2.2.2.2.2.2.2.2.2.2.2.2.2.2.2.2.2.2.2.2.2.2.2.2.2.2.2.2.2.2.2.2.2.2.2.2.1) (LLk.2.2.2.2.2.2.2.2.2.2.2.2.2.2.2.2.2.2.2.2.2.2.2.2.2.2.2.2.2.2.2.2.2.2.2.2.2.2.2.2.2.2.2.2.2.2.2.2.2.2.2.2.2.1) (LLk.2.2.2.2.2.2.2.2.2.2.2.2.2.2.2.2.2.2.2.2.2.2.2.2.2.2.2.2.2.2.2.2.2.2.2.2.2.2.2.2.2.2.2.2.2.2.2.2.2.2.2.2.2.2.1) (LLk.2.2.2.2.2.2.2.2.2.2.2.2.2.2.2.2.2.2.2.2.2.2.2.2.2.2.2.2.2.2.2.2.2.2.2.2.2.2.2.2.2.2.2.2.2.2.2.2.2.2.2.2.2.2.2.1) (LLk.2.2.2.2.2.2.2.2.2.2.2.2.2.2.2.2.2.2.2.2.2.2.2.2.2.2.2.2.2.2.2.2.2.2.2.2.2.2.2.2.2.2.2.2.2.2.2.2.2.2.2.2.2.2.2.2.1) (LLk.2.2.2.2.2.2.2.2.2.2.2.2.2.2.2.2.2.2.2.2.2.2.2.2.2.2.2.2.2.2.2.2.2.2.2.2.2.2.2.2.2.2.2.2.2.2.2.2.2.2.2.2.2.2.2.2.2)
  intro w dp un fr gd s mean mg mb H0 Q g hG hG' bx bd ll rl tl nl D4 D6 fl5 cl L' oM m0 n r0 e4 e6 nn wy cn rn tn es nx top top' tt' tw' las ras' ds uvs nvs mvs cvs rvs us ts uv rf imm m h8 tk8
  intro rest scope hp W hst X T hdp hun NEs hx' B hne hne2 hne3 hd0 hl0 kGg hds hlen hui hdu htop hwy3 R hS hsub hus hul NEb hg hq1 hq2 hq3 hq4 hq5 hq6 hq7 hq8 hq9 Im hra hcv htp hrv htp1 htp2 F8 N8 ret
  conv at hp => lhs; whnf
  dsimp only [List.drop] at hp
  simp only [Option.some.injEq, Prod.mk.injEq] at hp
  obtain ⟨rfl, rfl⟩ := hp
  obtain ⟨⟨n1, n2, n3, n4, n5, n6, n7, n8, n9⟩, ⟨n10, n11, n12, n13, n14, n15, n16, n17⟩, ⟨n18, n19, n20, n21, n22, n23, n24⟩, n25, n26, n27, n28, n29, n30⟩ := NEs
  have hnl := StrsAre.length hS
  have hts := (sub_uni hsub).1
  have htl : ts.length ≤ 5 := (sub_uni hsub).2.1
  have hn5 : nvs.length ≤ 1000 := le_lit (Nat.le_trans (Nat.le_of_eq hnl) htl) rfl
  have hw0 : 0 ≤ (wy : Int) ∧ (wy : Int) < 3 := ⟨Int.natCast_nonneg _, Int.ofNat_lt.mpr hwy3⟩
  try k_fold
  k_extra "MINE stepsT"
  rw [way_item hwy3]
  rename_i kx RV rvs9 h9 FA NA lR hSR
  obtain ⟨⟨p1, p2, p3, p4, p5, p6⟩, p7, p8, p9, p10, p11, p12⟩ := NEb
  have z7 : NE RV bd := Nat.ne_of_gt (lR (bd, dictOf es n) (by k_extra "MINE mem"))
  have z8 : NE RV ll := Nat.ne_of_gt (lR (ll, PySem.W.listOf (las.map Value.ref).toArray m0) (by k_extra "MINE mem"))
  have kG9 : hG'.StaysIn h9 := Im.stays kGg FA NA (by (repeat (refine all_cons (by k_extra "MINE mem") ?_)); first | exact List.forall_mem_nil _ | exact fun p hp => (by repeat (first | with_reducible exact hp | with_reducible exact List.mem_append_right _ hp | with_reducible apply List.mem_cons_of_mem | exact hp)))
  have hlas := hds.len
  refine store_flags_spec (H0 := H0) (hG := hG') (ts := ts.reverse) (las := las) (ds := ds) (us := us) (nx := nx) (top := top) (ll := ll) (bd := bd) W (stays_trans hst FA.keep) (by k_extra "MINE room") (by k_extra "MINE room") (FA.keep _ _ hx') (NA (bd, dictOf es n) (by k_extra "MINE mem")).1 B (NA (ll, PySem.W.listOf (las.map Value.ref).toArray m0) (by k_extra "MINE mem")).1 hne hne2 hne3 hd0 hl0 kG9
    (Im.apart _ (by k_extra "MINE mem")) (Im.apart _ (by k_extra "MINE mem")) (hds.keeps Im.up) (Nat.le_trans (Nat.le_of_eq hlas) (le_lit hlen rfl)) hui (fun d hd => (sub_uni (hdu d hd)).1) (fun d hd => (sub_uni (hdu d hd)).2.1) (isListOf (NA (D4, PySem.W.listOf uvs.toArray e4) (by k_extra "MINE mem")).1) hus (lt_lit hul rfl) p10 z8 (isListOf (NA (RV, PySem.W.listOf rvs9.toArray 0) (by k_extra "MINE mem")).1) hSR (fun x hx => hts x (List.mem_reverse.mp hx)) (by rw [List.length_reverse]; exact lt_lit htl rfl) hwy3 R ?_
  intro r h10 tk10 es10 n10 m10 las10 k10 e1 B10 e2 L10 cR dR cvR dvR cnR dnR er ec ed hcR hdR fr0 fc0 fd0
  have U : UpdT bd ll imm ((RV, PySem.W.listOf rvs9.toArray 0) :: (D6, PySem.W.listOf mvs.toArray e6) :: (fl5, PySem.W.listOf (List.toArray rvs) rn) :: (cl, PySem.W.listOf (List.toArray cvs) cn) :: (D4, PySem.W.listOf uvs.toArray e4) :: (nl, PySem.W.listOf nvs.toArray nn) :: (L' + 1, oM) :: (bd, dictOf es n) :: (ll, PySem.W.listOf (las.map Value.ref).toArray m0) :: (rl, PySem.W.listOf (List.map Value.ref ras').toArray r0) :: (tl, PySem.W.listOf #[Value.int top' tt'] tn) :: imm)
      (fun x y i => (RV, PySem.W.listOf rvs9.toArray 0) :: (D6, PySem.W.listOf mvs.toArray e6) :: (fl5, PySem.W.listOf (List.toArray rvs) rn) :: (cl, PySem.W.listOf (List.toArray cvs) cn) :: (D4, PySem.W.listOf uvs.toArray e4) :: (nl, PySem.W.listOf nvs.toArray nn) :: (L' + 1, oM) :: (bd, x) :: (ll, y) :: (rl, PySem.W.listOf (List.map Value.ref ras').toArray r0) :: (tl, PySem.W.listOf #[Value.int top' tt'] tn) :: i) :=
    .k (by k_ne) (by k_ne) (.k (by k_ne) (by k_ne) (.k (by k_ne) (by k_ne) (.k (by k_ne) (by k_ne) (.k (by k_ne) (by k_ne) (.k (by k_ne) (by k_ne) (.k (by k_ne) (by k_ne) (.b (.l (.k (by k_ne) (by k_ne) (.k (by k_ne) (by k_ne) .base))))))))))
  refine mutT FA NA Im kGg U (NA (bd, dictOf es n) (by k_extra "MINE mem")).2 (NA (ll, PySem.W.listOf (las.map Value.ref).toArray m0) (by k_extra "MINE mem")).2 (by k_extra "MINE mem") (by k_extra "MINE mem") (by k_extra "MINE mem") (Im.live2 FA NA (by (repeat (refine all_cons (by first | exact .inl rfl | exact .inr ⟨_, (by k_extra "MINE mem")⟩) ?_)); exact List.forall_mem_nil _)) k10 e1 e2 ?_
  intro imm9 Im9 FB NB0
  have NB : News g L' h10 ((r, { cls := .type "tuple", data := .seq #[.ref cR, .ref dR] }) :: (cR, PySem.W.listOf cvR.toArray cnR) :: (dR, PySem.W.listOf dvR.toArray dnR) :: (cl, PySem.W.listOf cvs.toArray cn) :: (fl5, PySem.W.listOf rvs.toArray rn) :: (bd, dictOf es10 n10) :: (ll, PySem.W.listOf (las10.map Value.ref).toArray m10) :: (rl, PySem.W.listOf (List.map Value.ref ras').toArray r0) :: (tl, PySem.W.listOf #[Value.int top' tt'] tn) :: imm9) := fun p hp => by
    rcases List.mem_cons.mp hp with rfl | hp
    · exact ⟨er, Fr.fresh FA fr0⟩
    rcases List.mem_cons.mp hp with rfl | hp
    · exact ⟨ec, Fr.fresh FA fc0⟩
    rcases List.mem_cons.mp hp with rfl | hp
    · exact ⟨ed, Fr.fresh FA fd0⟩
    exact (News.sub NB0 (by (repeat (refine all_cons (by k_extra "MINE mem") ?_)); first | exact List.forall_mem_nil _ | exact fun p hp => (by repeat (first | with_reducible exact hp | with_reducible exact List.mem_append_right _ hp | with_reducible apply List.mem_cons_of_mem | exact hp)))) p hp
  have kG10 : (lift hG' h9 h10).StaysIn h10 := lift_sub
  have hlift : ∀ h4 : Heap, (hideAll s.heap [bd, ll, rl, tl]).StaysIn h4 → (lift hG' h9 h10).StaysIn h4 → (lift hG' h9 h10).StaysIn (lift hG s.heap h4) := fun h4 k0 k4 b o e => by
    rcases Im9.inn b o e with q | q
    · exact lift_old (fun b o q => k4 b o (Im9.up b o q)) b o q
    · have q2 := (NB0 (b, o) (by repeat (first | with_reducible exact q | with_reducible apply List.mem_cons_of_mem))).2.2
      have n1 : b ≠ bd := fun z => Im9.ne (b := bd) (by k_extra "MINE mem") _ q z
      have n2 : b ≠ ll := fun z => Im9.ne (b := ll) (by k_extra "MINE mem") _ q z
      have n3 : b ≠ rl := fun z => Im9.ne (b := rl) (by k_extra "MINE mem") _ q z
      have n4 : b ≠ tl := fun z => Im9.ne (b := tl) (by k_extra "MINE mem") _ q z
      exact lift_new (seen_none (hg ▸ q2) (not4 n1 n2 n3 n4)) (k4 b o e)
  have hraG : RowsAt (lift hG' h9 h10) ras' (runF ds rf wy ts.reverse (keysIn ds.length us) top).1 := hra.keeps (lift_old fun b o e => k10 b o (hid2 (kG9 b o e) (ne_of_none e (Im.apart bd (by k_extra "MINE mem"))) (ne_of_none e (Im.apart ll (by k_extra "MINE mem")))))
  generalize hGR : lift hG' h9 h10 = GR at *
  generalize hRU : runF ds rf wy ts.reverse (keysIn ds.length us) top = RU at *
  clear FA NA NB0 hra kG9 Im k10
  try dsimp only
  try k_fold
  k_extra "MINE stepsT"
  rename_i D10 h11 F11 N11 l11
  refine ne_same (d := .tuple [.list (RU.2.2.map PyData.int), .list ((((keysIn ds.length us).filter fun k => (ds[k]?).any rf).map fun (k : Nat) => (k : Int) + 1).map PyData.int)])
    (.tuple (N11 _ (.tail _ (.head _))).1 rfl rfl (.cons (reads_of_ints (isListOf (N11 (cR, PySem.W.listOf cvR.toArray cnR) (by k_extra "MINE mem")).1) hcR) (.cons (reads_of_ints (isListOf (N11 (dR, PySem.W.listOf dvR.toArray dnR) (by k_extra "MINE mem")).1) hdR) .nil)))
    (.tuple (N11 _ (.head _)).1 rfl rfl (.cons (reads_of_ints (isListOf (N11 (cl, PySem.W.listOf cvs.toArray cn) (by k_extra "MINE mem")).1) hcv) (.cons (reads_of_ints (isListOf (N11 (fl5, PySem.W.listOf rvs.toArray rn) (by k_extra "MINE mem")).1) hrv) .nil)))
    (shaped_two _ _) (by k_extra "MINE room") ?_
  have N12 : News g L' h11 ((bd, dictOf es10 n10) :: (ll, PySem.W.listOf (las10.map Value.ref).toArray m10) :: (rl, PySem.W.listOf (List.map Value.ref ras').toArray r0) :: (tl, PySem.W.listOf #[Value.int top' tt'] tn) :: imm9) := News.sub N11 (by (repeat (refine all_cons (by k_extra "MINE mem") ?_)); first | exact List.forall_mem_nil _ | exact fun p hp => (by repeat (first | with_reducible exact hp | with_reducible exact List.mem_append_right _ hp | with_reducible apply List.mem_cons_of_mem | exact hp)))
  have kGR : GR.StaysIn h11 := fun b o e => by
    rcases Im9.inn b o e with q | q
    · exact F11.keep b o (kGg b o q)
    · exact (N11 (b, o) (by repeat (first | with_reducible exact q | with_reducible apply List.mem_cons_of_mem))).1
  clear N11
  have hz10 : las10.length ≤ 5 := Nat.le_trans (Nat.le_of_eq (L10.len.trans (by rw [← hRU]; exact runF_len _ _))) hlen
  try k_fold
  k_extra "MINE stepsT"
  refine LC (cl := []) rfl rfl (by decide) rfl (by decide) ?_ (by intro _; rfl)
  k_extra "MINE stepsT"
  refine ⟨[], _, _, g, _, _, TupJ RU.1 GR,
    .list _ _ (isListOf (N12 (ll, PySem.W.listOf (las10.map Value.ref).toArray m10) (by k_extra "MINE mem")).1), by rw [List.length_map]; exact le_lit hz10 rfl, F11, N12, (fun _ h => nomatch h), .mk [] [] rfl (fun _ _ h => nomatch h), ?turn, ?done⟩
  case turn =>
    intro g' hg' i v C D h tk2 m ys imm its e fi hi hP hJ hys hits hDf hCD himm F₆ N₆
    obtain ⟨a, ha, rfl⟩ := map_get hP
    obtain ⟨d, hd, hLa⟩ := L10.get ha
    have kg1 := nil_stays hg'
    have kg := stays_trans F11.keep kg1
    have X' := X.keeps kg
    have T' := T.keeps kg
    have kGR' := stays_trans kGR kg1
    obtain ⟨⟨tu, hfu⟩, ⟨tm, hfm⟩, ⟨ft, fvs, hff, hft, hfv⟩, _⟩ := hLa
    have hfu' := hfu.keeps kGR'
    have hfm' := hfm.keeps kGR'
    have hff' := hff.keeps kGR'
    clear F11 N12 X T
    walk1
    refine wpAny_tests_nil ?_
    k_extra "MINE stepsT"
    rename_i h91 D9 h92 F9 N9 l9
    have hb := below_out l9
    exact .mk _ _ _ ((D9, { cls := .type "tuple", data := .seq #[.int d.uid tu, .ref ft, .int d.ms tm] }) :: imm) F9 (News.sub N9 mem_push) (all_cons ⟨hits ▸ hb.1, hb.2⟩ himm) (hJ.snoc hd hft hfv)
  case done =>
    rintro D h' tk2 ys imm e ⟨tas, _, htl, hta⟩ hys F₂ N₂ hlt
    clear hlt
    replace F₂ : Fr g L' h' m := F₂
    replace N₂ : News g L' h' _ := N₂
    have kGR' : GR.StaysIn h' := fun b o e => by
      rcases Im9.inn b o e with q | q
      · exact F₂.keep b o (kGg b o q)
      · exact (N₂ (b, o) (List.mem_cons_of_mem _ (List.mem_append_right _ (by repeat (first | with_reducible exact q | with_reducible apply List.mem_cons_of_mem))))).1
    have hrows : RowsAt h' tas RU.1 := rows_of (by rw [htl, List.length_map]; exact L10.len) fun j a ha => by
      obtain ⟨d, c1, fa, fvs, t1, t2, c2, c3, c4⟩ := hta j a ha
      exact ⟨d, c1, fa, fvs, t1, t2, ⟨_, (N₂ _ (.tail _ (List.mem_append_left _ c2))).1, rfl, _, rfl⟩, keepsTup c3 kGR', c4⟩
    have hfl : ∀ d ∈ RU.1, ∀ x ∈ d.fl, x ∈ UNI := fun d hd => (sub_uni (by
      rw [← hRU] at hd
      exact runF_fl _ _ hdu d hd)).1
    rw [← htp] at B10
    try dsimp only
    try k_fold
    k_extra "MINE stepsT"
    refine eq_same (reads_rows (isListOf (N₂ _ (.head _)).1) hrows) (reads_rows (isListOf (N₂ (rl, PySem.W.listOf (List.map Value.ref ras').toArray r0) (List.mem_cons_of_mem _ (List.mem_append_right _ (by k_extra "MINE mem")))).1) (hraG.keeps kGR')) (shaped_rows hfl) (by k_extra "MINE room") ?_
    replace N₂ : News g L' h' ((bd, dictOf es10 n10) :: (ll, PySem.W.listOf (las10.map Value.ref).toArray m10) :: (rl, PySem.W.listOf (List.map Value.ref ras').toArray r0) :: (tl, PySem.W.listOf #[Value.int top' tt'] tn) :: imm9) := News.sub N₂ (fun p hp => .tail _ (List.mem_append_right _ hp))
    clear F11 N12
    try k_fold
    k_extra "MINE stepsT"
    rw [show (top' == [top'].getD (Int.toNat 0) 0) = true from beq_iff_eq.mpr rfl]
    have k0 : (hideAll s.heap [bd, ll, rl, tl]).StaysIn h' := hg ▸ F₂.keep
    exact ret _ _ es10 n10 m10 las10 ras' k0 (N₂ (bd, dictOf es10 n10) (by k_extra "MINE mem")).1 B10 (N₂ (ll, PySem.W.listOf (las10.map Value.ref).toArray m10) (by k_extra "MINE mem")).1 (N₂ (rl, PySem.W.listOf (List.map Value.ref ras').toArray r0) (by k_extra "MINE mem")).1 (N₂ (tl, PySem.W.listOf #[Value.int top' tt'] tn) (by k_extra "MINE mem")).1
      (L10.keeps (hlift _ k0 kGR')) (hraG.keeps (hlift _ k0 kGR'))
theorem ls_tail {w : World} {dp : Nat} {un : Nat} {fr : Option (List Env)} {gd : Option (List Code)} {s : Shared} {mean : ExcName → Option Value} {mg : Str → Option Value} {mb : Str → Option Value} {H0 : Heap} {Q : Value → Shared → Prop} {g : Heap} {hG : Heap} {hG' : Heap} {bx : Addr} {bd : Addr} {ll : Addr} {rl : Addr} {tl : Addr} {nl : Addr} {D4 : Addr} {D6 : Addr} {fl5 : Addr} {cl : Addr} {L' : Addr} {oM : Obj} {m0 : Nat} {n : Nat} {r0 : Nat} {e4 : Nat} {e6 : Nat} {nn : Nat} {wy : Nat} {cn : Nat} {rn : Nat} {tn : Nat} {es : List DictEntry} {nx : Int} {top : Int} {top' : Int} {tt' : Tok} {tw' : Tok} {las : List Addr} {ras' : List Addr} {ds : List Let} {uvs : List Value} {nvs : List Value} {mvs : List Value} {cvs : List Value} {rvs : List Value} {us : List Int} {ts : List Str} {uv : Value} {rf : Let → Bool} {imm : List (Addr × Obj)} {m : Str → Option Value} {h8 : Heap} {tk8 : Nat} : ∀ {rest : List Stmt} {scope : Scope} (hp : lsRest = some (rest, scope)) (W : Wd w.params mean mg mb H0) (hst : H0.StaysIn g) (X : (hd.heap_39 w.params).In g) (T : TopF mean mg mb g) (hdp : dp + 20 < recursionLimit) (hun : un + 140 < cLine)
    (NEs : LsNE L' D6 fl5 cl D4 nl bd ll rl tl) (hx' : g.get? bx = some (instObj 151 bd)) (B : BoxD es ll nx top) (hne : @Ne Nat bx bd) (hne2 : @Ne Nat bx ll) (hne3 : @Ne Nat bd ll) (hd0 : H0.get? bd = none) (hl0 : H0.get? ll = none)
    (kGg : hG.StaysIn g) (hds : LetsAt hG las ds) (hlen : ds.length ≤ 5) (hui : ∀ (i : Nat) (d : Let), ds[i]? = some d → d.uid = (i : Int) + 1) (hdu : ∀ d ∈ ds, d.fl.Sublist UNI) (htop : 0 ≤ top ∧ top < 500)
    (hwy3 : wy < 3) (R : RefV uv rf) (hS : StrsAre nvs ts) (hsub : ts.Sublist UNI) (hus : IntsAre uvs us) (hul : us.length ≤ 8) (NEb : (NE D6 bd ∧ NE fl5 bd ∧ NE cl bd ∧ NE D4 bd ∧ NE nl bd ∧ NE (L' + 1) bd) ∧ NE D6 ll ∧ NE fl5 ll ∧ NE cl ll ∧ NE D4 ll ∧ NE nl ll ∧ NE (L' + 1) ll) (hg : g = hideAll s.heap [bd, ll, rl, tl])
    
    (hq1 : m "names" = some (.ref nl)) (hq2 : m "unless" = some uv) (hq3 : m "way" = some (.int (wy : Int) tw')) (hq4 : m "top" = some (.ref tl)) (hq5 : m "rows" = some (.ref rl)) (hq6 : m "box" = some (.ref bx)) (hq7 : m "uids" = some (.ref D4)) (hq8 : m "changed" = some (.ref cl)) (hq9 : m "refused" = some (.ref fl5))
    (Im : Imm hG hG' [L', D6, fl5, cl, D4, nl, L' + 1, bd, ll, rl, tl] imm) (hra : RowsAt hG' ras' (runF ds rf wy ts.reverse (keysIn ds.length us) top).1) (hcv : IntsAre cvs (runF ds rf wy ts.reverse (keysIn ds.length us) top).2.2) (htp : top' = (runF ds rf wy ts.reverse (keysIn ds.length us) top).2.1)
    (hrv : IntsAre rvs (((keysIn ds.length us).filter fun k => (ds[k]?).any rf).map fun (k : Nat) => (k : Int) + 1)) (htp1 : top ≤ top') (htp2 : top' ≤ top + ds.length)
    (F8 : Fr g L' h8 m) (N8 : News g L' h8 ((D6, PySem.W.listOf mvs.toArray e6) :: (fl5, PySem.W.listOf (List.toArray rvs) rn) :: (cl, PySem.W.listOf (List.toArray cvs) cn) :: (D4, PySem.W.listOf uvs.toArray e4) :: (nl, PySem.W.listOf nvs.toArray nn) :: (L' + 1, oM) :: (bd, dictOf es n) :: (ll, PySem.W.listOf (las.map Value.ref).toArray m0) :: (rl, PySem.W.listOf (List.map Value.ref ras').toArray r0) :: (tl, PySem.W.listOf #[Value.int top' tt'] tn) :: imm))
    (ret : ∀ h' tk' es' n' m' las' ras', (hideAll s.heap [bd, ll, rl, tl]).StaysIn h' → h'.get? bd = some (dictOf es' n') → BoxD es' ll nx top' → h'.get? ll = some (listOf (las'.map Value.ref).toArray m') → h'.get? rl = some (listOf (ras'.map Value.ref).toArray r0) → h'.get? tl = some (listOf #[.int top' tt'] tn) →
      LetsAt (lift hG s.heap h') las' (runF ds rf wy ts.reverse (keysIn ds.length us) top).1 → RowsAt (lift hG s.heap h') ras' (runF ds rf wy ts.reverse (keysIn ds.length us) top).1 → Q (.bool true) { s with heap := h', toks := tk' }),
    wpAny (model PySem.Challenge.rw_no0367_01.row.prog w) ((Ar dp un fr gd).deeper (envOfC "_law_store_right" scope L' 238 (.ref 237))) (execs rest (envOfC "_law_store_right" scope L' 238 (.ref 237)))
      (fun fl s' => Q (match fl with | .ret v => v | _ => .none) s') (fun _ _ => False) { s with heap := h8, toks := tk8 } :=
  eps_all (P := LLP) LLne (by with_unfolding_all exact LLc.pf) (w, dp, un, fr, gd, s, mean, mg, mb, H0, Q, g, hG, hG', bx, bd, ll, rl, tl, nl, D4, D6, fl5, cl, L', oM, m0, n, r0, e4, e6, nn, wy, cn, rn, tn, es, nx, top, top', tt', tw', las, ras', ds, uvs, nvs, mvs, cvs, rvs, us, ts, uv, rf, imm, m, h8, tk8)


theorem nz3 {top : Int} (h : 0 ≤ top) : ¬ (top + 3 = 0) := fun q => absurd (q ▸ Int.add_le_add_right h 3 : (0:Int) + 3 ≤ 0) (by decide)
noncomputable def LSG (w : World) (dp : Nat) (un : Nat) (fr : Option (List Env)) (gd : Option (List Code)) (s : Shared) (mean : ExcName → Option Value) (mg : Str → Option Value) (mb : Str → Option Value) (E : Value → Shared → Prop) (H0 : Heap) (Q : Value → Shared → Prop) (bx : Addr) (bd : Addr) (ll : Addr) (rl : Addr) (tl : Addr) (es : List DictEntry) (n : Nat) (m0 : Nat) (r0 : Nat) (t0 : Nat) (nx : Int) (top : Int) (num : Int) (las : List Addr) (ras : List Addr) (ds : List Let) (t : Tok) (tt : Tok) (hG : Heap) : Prop := ∀ (W : Wd w.params mean mg mb H0) (hs : H0.StaysIn s.heap) (hdp : dp + 20 < recursionLimit) (hun : un + 140 < cLine) 
    (hx : s.heap.get? bx = some (instObj 151 bd)) (hd : s.heap.get? bd = some (dictOf es n)) (B : BoxD es ll nx top) (hll : s.heap.get? ll = some (listOf (las.map Value.ref).toArray m0)) (hrl : s.heap.get? rl = some (listOf (ras.map Value.ref).toArray r0)) (htl : s.heap.get? tl = some (listOf #[.int top tt] t0))
    (hne : @Ne Nat bx bd) (hne2 : @Ne Nat bx ll) (hne3 : @Ne Nat bd ll) (hn4 : @Ne Nat bx rl) (hn5 : @Ne Nat bx tl) (hn6 : @Ne Nat bd rl) (hn7 : @Ne Nat bd tl) (hn8 : @Ne Nat ll rl) (hn9 : @Ne Nat ll tl) (hn10 : @Ne Nat rl tl)
    (hd0 : H0.get? bd = none) (hl0 : H0.get? ll = none) (hr0 : H0.get? rl = none) (ht0 : H0.get? tl = none)  (kG : hG.StaysIn s.heap) (gd0 : hG.get? bd = none) (gl0 : hG.get? ll = none) (gr0 : hG.get? rl = none) (gt0 : hG.get? tl = none)
    (hds : LetsAt hG las ds) (hrs : RowsAt hG ras ds) (hlen : ds.length ≤ 5) (hui : ∀ (i : Nat) (d : Let), ds[i]? = some d → d.uid = (i : Int) + 1) (hdu : ∀ d ∈ ds, d.fl.Sublist UNI) (htop : 0 ≤ top ∧ top < 500)
    (ret : ∀ h' tk' es' n' m' r' t' tt' las' ras' ds' top', (hideAll s.heap [bd, ll, rl, tl]).StaysIn h' → h'.get? bd = some (dictOf es' n') → BoxD es' ll nx top' → h'.get? ll = some (listOf (las'.map Value.ref).toArray m') → h'.get? rl = some (listOf (ras'.map Value.ref).toArray r') → h'.get? tl = some (listOf #[.int top' tt'] t') →
      LetsAt (lift hG s.heap h') las' ds' → RowsAt (lift hG s.heap h') ras' ds' → ds'.length = ds.length → (∀ (i : Nat) (d : Let), ds'[i]? = some d → d.uid = (i : Int) + 1) → (∀ d ∈ ds', d.fl.Sublist UNI) → top ≤ top' ∧ top' ≤ top + 5 → Q (.bool true) { s with heap := h', toks := tk' }),
    wpAny (model PySem.Challenge.rw_no0367_01.row.prog w) (Ar dp un fr gd) (call (.ref 238) [.ref bx, .ref rl, .ref tl, .int num t]) Q E s
noncomputable abbrev LSK : Type _ := (World) × (Nat) × (Nat) × (Option (List Env)) × (Option (List Code)) × (Shared) × (ExcName → Option Value) × (Str → Option Value) × (Str → Option Value) × (Value → Shared → Prop) × (Heap) × (Value → Shared → Prop) × (Addr) × (Addr) × (Addr) × (Addr) × (Addr) × (List DictEntry) × (Nat) × (Nat) × (Nat) × (Nat) × (Int) × (Int) × (Int) × (List Addr) × (List Addr) × (List Let) × (Tok) × (Tok) × (Heap)
noncomputable def LSP (k : LSK) : Prop := LSG (k.1) (k.2.1) (k.2.2.1) (k.2.2.2.1) (k.2.2.2.2.1) (k.2.2.2.2.2.1) (k.2.2.2.2.2.2.1) (k.2.2.2.2.2.2.2.1) (k.2.2.2.2.2.2.2.2.1) (k.2.2.2.2.2.2.2.2.2.1) (k.2.2.2.2.2.2.2.2.2.2.1) (k.2.2.2.2.2.2.2.2.2.2.2.1) (k.2.2.2.2.2.2.2.2.2.2.2.2.1) (k.2.2.2.2.2.2.2.2.2.2.2.2.2.1) (k.2.2.2.2.2.2.2.2.2.2.2.2.2.2.1) (k.2.2.2.2.2.2.2.2.2.2.2.2.2.2.2.1) (k.2.2.2.2.2.2.2.2.2.2.2.2.2.2.2.2.1) (k.2.2.2.2.2.2.2.2.2.2.2.2.2.2.2.2.2.1) (k.2.2.2.2.2.2.2.2.2.2.2.2.2.2.2.2.2.2.1) (k.2.2.2.2.2.2.2.2.2.2.2.2.2.2.2.2.2.2.2.1) (k.2.2.2.2.2.2.2.2.2.2.2.2.2.2.2.2.2.2.2.2.1) (k.2.2.2.2.2.2.2.2.2.2.2.2.2.2.2.2.2.2.2.2.2.1) (k.2.2.2.2.2.2.2.2.2.2.2.2.2.2.2.2.2.2.2.2.2.2.1) (k.2.2.2.2.2.2.2.2.2.2.2.2.2.2.2.2.2.2.2.2.2.2.2.1) (k.2.2.2.2.2.2.2.2.2.2.2.2.2.2.2.2.2.2.2.2.2.2.2.2.1) (k.2.2.2.2.2.2.2.2.2.2.2.2.2.2.2.2.2.2.2.2.2.2.2.2.2.1) (k.2.2.2.2.2.2.2.2.2.2.2.2.2.2.2.2.2.2.2.2.2.2.2.2.2.2.1) (k.2.2.2.2.2.2.2.2.2.2.2.2.2.2.2.2.2.2.2.2.2.2.2.2.2.2.2.1) (k.2.2.2.2.2.2.2.2.2.2.2.2.2.2.2.2.2.2.2.2.2.2.2.2.2.2.2.2.1) (k.2.2.2.2.2.2.2.2.2.2.2.2.2.2.2.2.2.2.2.2.2.2.2.2.2.2.2.2.2.1) (k.2.2.2.2.2.2.2.2.2.2.2.2.2.2.2.2.2.2.2.2.2.2.2.2.2.2.2.2.2.2)
theorem LSne : Nonempty LSK := ⟨((wd0 : World), (0 : Nat), (0 : Nat), (none : Option (List Env)), (none : Option (List Code)), ({} : Shared), (fun _ => none : ExcName → Option Value), (fun _ => none : Str → Option Value), (fun _ => none : Str → Option Value), (fun _ _ => True : Value → Shared → Prop), ({} : Heap), (fun _ _ => True : Value → Shared → Prop), (0 : Addr), (0 : Addr), (0 : Addr), (0 : Addr), (0 : Addr), ([] : List DictEntry), (0 : Nat), (0 : Nat), (0 : Nat), (0 : Nat), (0 : Int), (0 : Int), (0 : Int), ([] : List Addr), ([] : List Addr), ([] : List Let), (0 : Tok), (0 : Tok), ({} : Heap))⟩
@[irreducible] noncomputable def LSk : LSK := @Classical.epsilon _ LSne fun k => ¬ LSP k
theorem LSc.pf : LSP LSk := by
  refine (?m : ∀ (w : World) (dp : Nat) (un : Nat) (fr : Option (List Env)) (gd : Option (List Code)) (s : Shared) (mean : ExcName → Option Value) (mg : Str → Option Value) (mb : Str → Option Value) (E : Value → Shared → Prop) (H0 : Heap) (Q : Value → Shared → Prop) (bx : Addr) (bd : Addr) (ll : Addr) (rl : Addr) (tl : Addr) (es : List DictEntry) (n : Nat) (m0 : Nat) (r0 : Nat) (t0 : Nat) (nx : Int) (top : Int) (num : Int) (las : List Addr) (ras : List Addr) (ds : List Let) (t : Tok) (tt : Tok) (hG : Heap), ∀ (W : Wd w.params mean mg mb H0) (hs : H0.StaysIn s.heap) (hdp : dp + 20 < recursionLimit) (hun : un + 140 < cLine) 
    (hx : s.heap.get? bx = some (instObj 151 bd)) (hd : s.heap.get? bd = some (dictOf es n)) (B : BoxD es ll nx top) (hll : s.heap.get? ll = some (listOf (las.map Value.ref).toArray m0)) (hrl : s.heap.get? rl = some (listOf (ras.map Value.ref).toArray r0)) (htl : s.heap.get? tl = some (listOf #[.int top tt] t0))
    (hne : @Ne Nat bx bd) (hne2 : @Ne Nat bx ll) (hne3 : @Ne Nat bd ll) (hn4 : @Ne Nat bx rl) (hn5 : @Ne Nat bx tl) (hn6 : @Ne Nat bd rl) (hn7 : @Ne Nat bd tl) (hn8 : @Ne Nat ll rl) (hn9 : @Ne Nat ll tl) (hn10 : @Ne Nat rl tl)
    (hd0 : H0.get? bd = none) (hl0 : H0.get? ll = none) (hr0 : H0.get? rl = none) (ht0 : H0.get? tl = none)  (kG : hG.StaysIn s.heap) (gd0 : hG.get? bd = none) (gl0 : hG.get? ll = none) (gr0 : hG.get? rl = none) (gt0 : hG.get? tl = none)
    (hds : LetsAt hG las ds) (hrs : RowsAt hG ras ds) (hlen : ds.length ≤ 5) (hui : ∀ (i : Nat) (d : Let), ds[i]? = some d → d.uid = (i : Int) + 1) (hdu : ∀ d ∈ ds, d.fl.Sublist UNI) (htop : 0 ≤ top ∧ top < 500)
    (ret : ∀ h' tk' es' n' m' r' t' tt' las' ras' ds' top', (hideAll s.heap [bd, ll, rl, tl]).StaysIn h' → h'.get? bd = some (dictOf es' n') → BoxD es' ll nx top' → h'.get? ll = some (listOf (las'.map Value.ref).toArray m') → h'.get? rl = some (listOf (ras'.map Value.ref).toArray r') → h'.get? tl = some (listOf #[.int top' tt'] t') →
      LetsAt (lift hG s.heap h') las' ds' → RowsAt (lift hG s.heap h') ras' ds' → ds'.length = ds.length → (∀ (i : Nat) (d : Let), ds'[i]? = some d → d.uid = (i : Int) + 1) → (∀ d ∈ ds', d.fl.Sublist UNI) → top ≤ top' ∧ top' ≤ top + 5 → Q (.bool true) { s with heap := h', toks := tk' }),
    wpAny (model PySem.Challenge.rw_no0367_01.row.prog w) (Ar dp un fr gd) (call (.ref 238) [.ref bx, .ref rl, .ref tl, .int num t]) Q E s) (LSk.1) (LSk.2.1) (LSk.2.2.1) (LSk.2.2.2.1) (LSk.2.2.2.2.1) (LSk.2.2.2.2.2.1) (LSk.2.2.2.2.2.2.1) (LSk.2.2.2.2.2.2.2.1) (LSk.2.2.2.2.2.2.2.2.1) (LSk.2.2.2.2.2.2.2.2.2.1) (LSk.2.2.2.2.2.2.2.2.2.2.1) (LSk.2.2.2.2.2.2.2.2.2.2.2.1) (LSk.2.2.2.2.2.2.2.2.2.2.2.2.1) (LSk.2.2.2.2.2.2.2.2.2.2.2.2.2.1) (LSk.2.2.2.2.2.2.2.2.2.2.2.2.2.2.1) (LSk.2.2.2.2.2.2.2.2.2.2.2.2.2.2.2.1) (LSk.2.2.2.2.2.2.2.2.2.2.2.2.2.2.2.2.1) (LSk.2.2.2.2.2.2.2.2.2.2.2.2.2.2.2.2.2.1) (LSk.2.2.2.2.2.2.2.2.2.2.2.2.2.2.2.2.2.2.1) (LSk.2.2.2.2.2.2.2.2.2.2.2.2.2.2.2.2.2.2.2.1) (LSk.2.2.2.2.2.2.2.2.2.2.2.2.2.2.2.2.2.2.2.2.1) (LSk.2.2.2.2.2.2.2.2.2.2.2.2.2.2.2.2.2.2.2.2.2.1) (LSk.2.2.2.2.2.2.2.2.2.2.2.2.2.2.2.2.2.2.2.2.2.2.1) (LSk.2.2.2.2.2.2.2.2.2.2.2.2.2.2.2.2.2.2.2.2.2.2.2.1) (LSk.2.2.2.2.2.2.2.2.2.2.2.2.2.2.2.2.2.2.2.2.2.2.2.2.1) (LSk.2.2.2.2.2.2.2.2.2.2.2.2.2.2.2.2.2.2.2.2.2.2.2.2.2.1) (LSk.2.2.2.2.2.2.2.2.2.2.2.2.2.2.2.2.2.2.2.2.2.2.2.2.2.2.1) (LSk.2.2.2.2.2.2.2.2.2.2.2.2.2.2.2.2.2.2.2.2.2.2.2.2.2.2.2.1) (LSk.2.2.2.2.2.2.2.2.2.2.2.2.2.2.2.2.2.2.2.2.2.2.2.2.2.2.2.2.1) (LSk.2.2.2.2.2.2.2.2.2.2.2.2.2.2.2.2.2.2.2.2.2.2.2.2.2.2.2.2.2.1) (LSk.2.2.2.2.2.2.2.2.2.2.2.2.2.2.2.2.2.2.2.2.2.2.2.2.2.2.2.2.2.2)
  intro w dp un fr gd s mean mg mb E H0 Q bx bd ll rl tl es n m0 r0 t0 nx top num las ras ds t tt hG
  intro W hs hdp hun hx hd B hll hrl htl hne hne2 hne3 hn4 hn5 hn6 hn7 hn8 hn9 hn10 hd0 hl0 hr0 ht0 kG gd0 gl0 gr0 gt0 hds hrs hlen hui hdu htop ret
  refine' enterC (H0 := H0) (mean := mean) (mg := mg) (mb := mb) (binds := [("box", .ref bx), ("rows", .ref rl), ("top", .ref tl), ("number", .int num t)]) W hs [(bd, dictOf es n), (ll, listOf (las.map Value.ref).toArray m0), (rl, listOf (ras.map Value.ref).toArray r0), (tl, listOf #[.int top tt] t0)] (all_cons ⟨hd, hd0⟩ (all_cons ⟨hll, hl0⟩ (all_cons ⟨hrl, hr0⟩ (all_cons ⟨htl, ht0⟩ (List.forall_mem_nil _))))) (by show dp < recursionLimit; first | exact room0 (by assumption) | omega) ?ho ?hcd ?hbind ?hkind ?hnd ?_ ?hco ?hgen ?hk
  (case ho => k_is); (case hcd => k_is); (case hbind => exact BindsTo.of_eq rfl); (case hkind => exact rfl); (case hnd => decide +kernel); (case hco => exact rfl); (case hgen => exact rfl); (case hk => exact rfl)
  intro g L' h₁ tk cells hg hst F N Y X T hlt
  have eb1 : NE (L' + 1) bd := Nat.ne_of_gt (Nat.lt_succ_of_lt (hlt (bd, dictOf es n) (by k_extra "MINE mem")))
  have el1 : NE (L' + 1) ll := Nat.ne_of_gt (Nat.lt_succ_of_lt (hlt (ll, PySem.W.listOf (las.map Value.ref).toArray m0) (by k_extra "MINE mem")))
  have er1 : NE (L' + 1) rl := Nat.ne_of_gt (Nat.lt_succ_of_lt (hlt (rl, PySem.W.listOf (ras.map Value.ref).toArray r0) (by k_extra "MINE mem")))
  have et1 : NE (L' + 1) tl := Nat.ne_of_gt (Nat.lt_succ_of_lt (hlt (tl, PySem.W.listOf #[.int top tt] t0) (by k_extra "MINE mem")))
  obtain ⟨o1, rfl, d1⟩ := CellsAre.one Y
  replace F : Fr g L' h₁ (fun y => if y = "number" then some (.int num t) else if y = "top" then some (.ref tl) else if y = "rows" then some (.ref rl) else if y = "box" then some (.ref bx) else none) := F
  replace N : News g L' h₁ [(L' + 1, o1), (bd, dictOf es n), (ll, listOf (las.map Value.ref).toArray m0), (rl, listOf (ras.map Value.ref).toArray r0), (tl, listOf #[.int top tt] t0)] := N
  replace d1 : o1.data = .cell none := d1
  clear Y hlt
  revert hg hst X T eb1 el1 er1 et1 F N d1
  revert g L' h₁ tk o1
  refine @eps5 _ _ _ _ _ ⟨(({} : Heap), (0 : Addr), ({} : Heap), (0 : Tok), (default : Obj))⟩ ?P23 ((?close23 : ∀ a0 a1 a2 a3 a4, ?P23 a0 a1 a2 a3 a4) _ _ _ _ _ )
  intro g L' h₁ tk o1 hg hst X T eb1 el1 er1 et1 F N d1
  have hx' : g.get? bx = some (instObj 151 bd) := hg ▸ hideAll_get _ hx (not4 hne hne2 hn4 hn5)
  have kGg : hG.StaysIn g := fun b o e => hg ▸ hideAll_get _ (kG b o e) (not4 (ne_of_none e gd0) (ne_of_none e gl0) (ne_of_none e gr0) (ne_of_none e gt0))
  have hlas := hds.len
  have hras := hrs.len
  have hz1 : las.length ≤ 100 := Nat.le_trans (Nat.le_of_eq hlas) (le_lit hlen rfl)
  have hrm : (ras.map Value.ref).length ≤ 5 := by rw [List.length_map, hras]; exact hlen
  have hfl : 0 ≤ Int.fmod (Int.fdiv num 192) 32 ∧ Int.fmod (Int.fdiv num 192) 32 < 1000 := fmod32 _
  try k_fold
  k_extra "MINE stepsI"
  rename_i D1 hA l1 hB hC oM dM hD hE tkB nl nvs ts nn hF tkC hS hsub l9 D2 hh1 l2 hh3 hh4 hh5 F1 N1
  obtain ⟨wy, hwy3, hwe⟩ := fmod3 (Int.fdiv num 64)
  rw [hwe] at F1
  replace N1 : News g L' hh5 [(nl, listOf nvs.toArray nn), (L' + 1, oM), (bd, dictOf es n), (ll, listOf (las.map Value.ref).toArray m0), (rl, listOf (ras.map Value.ref).toArray r0), (tl, listOf #[.int top tt] t0)] := News.sub N1 (by (repeat (refine all_cons (by k_extra "MINE mem") ?_)); first | exact List.forall_mem_nil _ | exact fun p hp => (by repeat (first | with_reducible exact hp | with_reducible exact List.mem_append_right _ hp | with_reducible apply List.mem_cons_of_mem | exact hp)))
  clear l1 l2 hh3 hh4 hA hB hC hD hE hF
  have hnz : ¬ (top + 3 = 0) := nz3 htop.1
  try dsimp only
  refine wpAny_mono (Q := Hold fun s' => ∃ h' tk' m uv rf, s' = { s with heap := h', toks := tk' } ∧ Fr g L' h' m ∧ News g L' h' [(nl, listOf nvs.toArray nn), (L' + 1, oM), (bd, dictOf es n), (ll, listOf (las.map Value.ref).toArray m0), (rl, listOf (ras.map Value.ref).toArray r0), (tl, listOf #[.int top tt] t0)] ∧ RefV uv rf ∧
    m "names" = some (.ref nl) ∧ m "unless" = some uv ∧ (∃ t, m "way" = some (.int (wy : Int) t)) ∧ m "top" = some (.ref tl) ∧ m "rows" = some (.ref rl) ∧ m "box" = some (.ref bx)) (E := fun _ _ => False) ?ifc ?rest (fun _ _ x => x.elim)
  case ifc =>
    k_extra "MINE steps"
    · rename Fr _ _ _ _ => FF
      rename News _ _ _ _ => NN
      exact ⟨rfl, _, _, _, _, _, rfl, FF, NN, .inr ⟨_, _, rfl, rfl⟩, rfl, rfl, ⟨_, rfl⟩, rfl, rfl, rfl⟩
    · rename Fr _ _ _ _ => FF
      rename News _ _ _ _ => NN
      exact ⟨rfl, _, _, _, _, _, rfl, FF, NN, .inl ⟨rfl, rfl⟩, rfl, rfl, ⟨_, rfl⟩, rfl, rfl, rfl⟩
  case rest =>
    rintro f _ ⟨rfl, h', tk', m, uv, rf, rfl, F2, N2, R, hm1, hm2, ⟨tw, hm3⟩, hm4, hm5, hm6⟩
    clear F1 N1
    try dsimp only
    try k_fold
    k_extra "MINE steps"
    refine LCuse (y := "uids") (cl := [("mask", L' + 1)]) rfl rfl rfl (by decide) rfl (by decide) rfl rfl ?_ (by intro _; rfl)
    k_extra "MINE steps"
    rename_i D3 hh6 F3 N3 l3
    have hI6 := fun q1 q2 q3 q4 q5 q6 q7 q8 => (IntsAre.cons 6 q1 (.cons 1 q2 (.cons 5 q3 (.cons 2 q4 (.cons 4 q5 (.cons 3 q6 (.cons 1 q7 (.cons 2 q8 .nil))))))) : IntsAre _ [6, 1, 5, 2, 4, 3, 1, 2])
    have hD3 := News.isTup N3 (.head _)
    refine CompAt.flat g IuJ (.tup (items := [_, _, _, _, _, _, _, _]) _ _ hD3) (by simp) F3 N3 (fun _ h => nomatch h) (.mk [] .nil (Nat.le_refl _)) ?turn ?done
    case turn =>
      intro g' hg' i v C D h tk2 m ys its e hi hP hJ hys F₄ N₄
      obtain ⟨us, hus, husl⟩ := hJ
      obtain ⟨u, t', rfl, hu⟩ := ints_get (hI6 _ _ _ _ _ _ _ _) hP
      have hub := six_of (List.mem_of_getElem? hu)
      have hub0 : 0 ≤ u - 1 ∧ u - 1 ≤ 1000000 ∧ u - 1 < 9000 := six_more hub
      obtain ⟨hub1, hub2, hub3⟩ := hub0
      have kg1 := nil_stays hg'
      have kg := stays_trans F3.keep kg1
      have X' := X.keeps kg
      have T' := T.keeps kg
      have hc := cellKeeps (cellAt (N3 (L' + 1, oM) (by k_extra "MINE mem")).1 dM) kg1
      have hi8 : i < 8 := hi
      have hsz : ys.length ≤ 1000 := Nat.le_trans hys (ltle_lit (show i < 8 from hi) rfl)
      clear F3 N3 X T
      walk1
      refine wpAny_tests_one ?_
      k_extra "MINE steps"
      · rename Fr _ _ _ _ => FF
        rename News _ _ _ _ => NN
        exact .mk FF NN (.mk (us ++ [u]) (ints_snoc hus _ _) (by rw [List.length_append]; exact Nat.succ_le_succ husl))
      · rename Fr _ _ _ _ => FF
        rename News _ _ _ _ => NN
        exact .mk FF NN (.mk us hus (Nat.le_succ_of_le husl))
    case done =>
      rintro D4 h4 tk4 uvs e4 ⟨us, hus, husl⟩ hys F₄ N₄ hlt4
      try dsimp only [List.nil_append] at F₄ N₄ hlt4 ⊢
      replace N₄ : News g L' h4 [(D4, listOf uvs.toArray e4), (nl, listOf nvs.toArray nn), (L' + 1, oM), (bd, dictOf es n), (ll, listOf (las.map Value.ref).toArray m0), (rl, listOf (ras.map Value.ref).toArray r0), (tl, listOf #[.int top tt] t0)] := News.sub N₄ (by (repeat (refine all_cons (by k_extra "MINE mem") ?_)); first | exact List.forall_mem_nil _ | exact fun p hp => (by repeat (first | with_reducible exact hp | with_reducible exact List.mem_append_right _ hp | with_reducible apply List.mem_cons_of_mem | exact hp)))
      replace F₄ : Fr g L' h4 (fun y => if y = "uids" then some (.ref D4) else m y) := F₄
      clear F3 N3 hD3 hI6
      try k_fold
      k_extra "MINE steps"
      refine LCuse (y := "modseqs") (cl := []) rfl rfl rfl (by decide) rfl (by decide) rfl rfl ?_ (by intro _; rfl)
      k_extra "MINE steps"
      rename_i cl hA l5 fl5 hB l6 D5 hC l7 hD hE hF F5 N5
      replace N5 : News g L' hF [(fl5, listOf #[] 0), (cl, listOf #[] 0), (D4, listOf uvs.toArray e4), (nl, listOf nvs.toArray nn), (L' + 1, oM), (bd, dictOf es n), (ll, listOf (las.map Value.ref).toArray m0), (rl, listOf (ras.map Value.ref).toArray r0), (tl, listOf #[.int top tt] t0)] := News.sub N5 (fun p hp => .tail _ hp)
      refine CompAt.flat g (fun i ys => IntsAre ys ((ds.take i).map (·.ms))) (.list _ _ (isListOf (N5 (rl, listOf (ras.map Value.ref).toArray r0) (by k_extra "MINE mem")).1)) (le_lit hrm rfl) F5 N5 (fun _ h => nomatch h) .nil ?turn ?done
      case turn =>
        intro g' hg' i v C D h tk2 m ys its e hi hP hJ hys F₆ N₆
        have hls := hJ
        obtain ⟨a, ha, rfl⟩ := map_get hP
        obtain ⟨d, hd, fa, fvs, t1, t2, hRT, _⟩ := hrs.get ha
        have kg := stays_trans F5.keep (nil_stays hg')
        have X' := X.keeps kg
        have T' := T.keeps kg
        have hRT' := keepsTup hRT (stays_trans kGg kg)
        have hsz : ys.length ≤ 1000 := Nat.le_trans hys (Nat.le_trans (Nat.le_of_lt hi) (le_lit hrm rfl))
        clear F5 N5 X T
        walk1
        refine wpAny_tests_nil ?_
        k_extra "MINE steps"
        rename Fr _ _ _ _ => FF
        rename News _ _ _ _ => NN
        exact .mk FF NN (by rw [map_snoc hd]; exact ints_snoc hls _ _)
      case done =>
        rintro D6 h6 tk6 mvs e6 hms hys6 F₆ N₆ hlt6
        rw [List.take_of_length_le (by rw [List.length_map, hras]; exact Nat.le_refl _)] at hms
        try dsimp only [List.nil_append] at F₆ N₆ hlt6 ⊢
        replace N₆ : News g L' h6 [(D6, listOf mvs.toArray e6), (fl5, listOf #[] 0), (cl, listOf #[] 0), (D4, listOf uvs.toArray e4), (nl, listOf nvs.toArray nn), (L' + 1, oM), (bd, dictOf es n), (ll, listOf (las.map Value.ref).toArray m0), (rl, listOf (ras.map Value.ref).toArray r0), (tl, listOf #[.int top tt] t0)] := N₆
        replace F₆ : Fr g L' h6 (fun y => if y = "modseqs" then some (.ref D6) else if y = "changed" then some (.ref cl) else if y = "refused" then some (.ref fl5) else if y = "uids" then some (.ref D4) else m y) := F₆
        clear F5 N5
        try k_fold
        k_extra "MINE steps"
        refine For_it (s := s) (g := g) rfl ?_ (by intro _; rfl) .never
        k_extra "MINE steps"
        refine call_enumerate_list (isListOf (N₆ (rl, listOf (ras.map Value.ref).toArray r0) (by k_extra "MINE mem")).1) fun h7 hE7 hI7 hsz7 hk7 => ?_
        have F7 := Fr.grow F₆ hk7
        have N7 := News.grow N₆ hk7
        have hL0 : g.get? L' = none := Heap.get?_none_of_le F₆.above
        have nnG : ∀ {b : Addr}, g.get? b = none → hG.get? b = none := none_below kGg
        have I0 : Imm hG hG [L', D6, fl5, cl, D4, nl, L' + 1, bd, ll, rl, tl] [] := .nil rfl (by
          refine all_cons (nnG hL0) ?_
          (repeat (refine all_cons (nnG (N₆ (_, _) (by k_extra "MINE mem")).2.2) ?_))
          exact List.forall_mem_nil _)
        have NEs : LsNE L' D6 fl5 cl D4 nl bd ll rl tl := by
          refine ⟨⟨?_, ?_, ?_, ?_, ?_, ?_, ?_, ?_, ?_⟩, ⟨?_, ?_, ?_, ?_, ?_, ?_, ?_, ?_⟩, ⟨?_, ?_, ?_, ?_, ?_, ?_, ?_⟩, ?_, ?_, ?_, ?_, ?_, ?_⟩
          all_goals (show @Ne Nat _ _; first | exact NE.ne (by with_reducible assumption) | exact lt_ne2 (by with_reducible assumption) (by k_extra "MINE mem") | exact lt_ne1 (by with_reducible assumption) (by k_extra "MINE mem") | exact an_ne2 (by with_reducible assumption) (by k_extra "MINE mem") | exact an_ne1 (by with_reducible assumption) (by k_extra "MINE mem") | with_reducible assumption)
        have NEb : (NE D6 bd ∧ NE fl5 bd ∧ NE cl bd ∧ NE D4 bd ∧ NE nl bd ∧ NE (L' + 1) bd) ∧ NE D6 ll ∧ NE fl5 ll ∧ NE cl ll ∧ NE D4 ll ∧ NE nl ll ∧ NE (L' + 1) ll := by
          refine ⟨⟨?_, ?_, ?_, ?_, ?_, ?_⟩, ?_, ?_, ?_, ?_, ?_, ?_⟩
          all_goals (show @Ne Nat _ _; first | exact NE.ne (by with_reducible assumption) | exact lt_ne2 (by with_reducible assumption) (by k_extra "MINE mem") | exact lt_ne1 (by with_reducible assumption) (by k_extra "MINE mem") | exact an_ne2 (by with_reducible assumption) (by k_extra "MINE mem") | exact an_ne1 (by with_reducible assumption) (by k_extra "MINE mem") | with_reducible assumption)
        refine enum_at ds.length _ _ (LsJ hG ds rf uv wy ts us top ras L' D6 fl5 cl D4 nl bd ll rl tl bx mvs uvs nvs e6 e4 nn oM (dictOf es n) (PySem.W.listOf (las.map Value.ref).toArray m0) r0) _ _ _ _ rl rfl rfl hE7 hI7 (Nat.succ_ne_self _) ⟨?o1, ?o2, ?o3⟩ ⟨?o4, ?o5, ?o6⟩ F7 N7
          ⟨ras, hG, [], [], 0, [], 0, top, tt, t0, hm1, hm2, ⟨tw, hm3⟩, hm4, hm5, hm6, rfl, rfl, rfl, rfl, rfl, I0, hrs, .nil, rfl, .nil, fun _ _ => rfl, Nat.le_refl _, Nat.le_refl _, Int.le_refl _, Int.le_of_eq (Int.add_zero _).symm⟩ ?lists ?turn ?done
        case o1 => exact (own_of F₆ N₆ (Nat.le_succ _)).2.1
        case o2 => exact (own_of F₆ N₆ (Nat.le_succ _)).1
        case o3 => exact (own_of F₆ N₆ (Nat.le_succ _)).2.2
        case o4 => exact (own_of F₆ N₆ (Nat.le_refl _)).2.1
        case o5 => exact (own_of F₆ N₆ (Nat.le_refl _)).1
        case o6 => exact (own_of F₆ N₆ (Nat.le_refl _)).2.2
        case lists =>
          rintro i m' news' h' _ ⟨ras', hG', imm, cvs, cn, rvs, rn, top', tt', tn, _, _, _, _, _, _, _, _, _, _, rfl, _, hra, _⟩ F' N'
          exact ⟨_, isListOf (N' (rl, PySem.W.listOf (ras'.map Value.ref).toArray r0) (by k_extra "MINE mem")).1, by simp [hra.len, runF, runF_len]⟩
        case turn =>
          intro i v items T1 t1 m₁ news₁ h₂ tk₂ pe pi hi hL hsz hv hT hJ ha1 ha2 F₂ N₂
          exact ls_turn rfl W hst X T hdp hun NEs kGg hrs hlen hui hdu htop hwy3 R hS hsub hus (by simpa using husl) hms v items news₁ pe pi hi hL hsz hv hT hJ ha1 ha2 F₂ N₂ (fun _ _ x => x)
        case done =>
          rintro m' news' h8 tk8 F8 N8 ⟨ras', hG', imm, cvs, cn, rvs, rn, top', tt', tn, hq1, hq2, ⟨tw', hq3⟩, hq4, hq5, hq6, hq7, hq8, hq9, hq10, rfl, Im, hra, hcv, htp, hrv, hsame, hcl, hrl9, htp1, htp2⟩
          replace F8 : Fr g L' h8 m' := F8
          replace N8 : News g L' h8 _ := N8
          clear F7 N7 F₆ N₆ hE7 hI7 hk7 hsz7 I0
          refine ls_tail (s := s) rfl W hst X T hdp hun NEs hx' B hne hne2 hne3 hd0 hl0 kGg hds hlen hui hdu htop hwy3 R hS hsub hus (by simpa using husl) NEb hg hq1 hq2 hq3 hq4 hq5 hq6 hq7 hq8 hq9 Im hra hcv htp hrv htp1 htp2 F8 N8 ?_
          intro h' tk' es' n' m9 las9 ras9 k0 c1 c2 c3 c4 c5 c6 c7
          refine ret h' tk' es' n' m9 _ _ _ las9 ras9 _ _ k0 c1 c2 c3 c4 c5 c6 c7 (by simp [runF, runF_len]) ?_ ?_ ⟨htp1, Int.le_trans htp2 (Int.add_le_add_left (Int.ofNat_le.mpr hlen) _)⟩
          · exact runF_uid _ _ hui
          · exact runF_fl _ _ hdu
theorem law_store_spec {w : World} {dp : Nat} {un : Nat} {fr : Option (List Env)} {gd : Option (List Code)} {s : Shared} {mean : ExcName → Option Value} {mg : Str → Option Value} {mb : Str → Option Value} {E : Value → Shared → Prop} {H0 : Heap} {Q : Value → Shared → Prop} {bx : Addr} {bd : Addr} {ll : Addr} {rl : Addr} {tl : Addr} {es : List DictEntry} {n : Nat} {m0 : Nat} {r0 : Nat} {t0 : Nat} {nx : Int} {top : Int} {num : Int} {las : List Addr} {ras : List Addr} {ds : List Let} {t : Tok} {tt : Tok} {hG : Heap} : ∀ (W : Wd w.params mean mg mb H0) (hs : H0.StaysIn s.heap) (hdp : dp + 20 < recursionLimit) (hun : un + 140 < cLine) 
    (hx : s.heap.get? bx = some (instObj 151 bd)) (hd : s.heap.get? bd = some (dictOf es n)) (B : BoxD es ll nx top) (hll : s.heap.get? ll = some (listOf (las.map Value.ref).toArray m0)) (hrl : s.heap.get? rl = some (listOf (ras.map Value.ref).toArray r0)) (htl : s.heap.get? tl = some (listOf #[.int top tt] t0))
    (hne : @Ne Nat bx bd) (hne2 : @Ne Nat bx ll) (hne3 : @Ne Nat bd ll) (hn4 : @Ne Nat bx rl) (hn5 : @Ne Nat bx tl) (hn6 : @Ne Nat bd rl) (hn7 : @Ne Nat bd tl) (hn8 : @Ne Nat ll rl) (hn9 : @Ne Nat ll tl) (hn10 : @Ne Nat rl tl)
    (hd0 : H0.get? bd = none) (hl0 : H0.get? ll = none) (hr0 : H0.get? rl = none) (ht0 : H0.get? tl = none)  (kG : hG.StaysIn s.heap) (gd0 : hG.get? bd = none) (gl0 : hG.get? ll = none) (gr0 : hG.get? rl = none) (gt0 : hG.get? tl = none)
    (hds : LetsAt hG las ds) (hrs : RowsAt hG ras ds) (hlen : ds.length ≤ 5) (hui : ∀ (i : Nat) (d : Let), ds[i]? = some d → d.uid = (i : Int) + 1) (hdu : ∀ d ∈ ds, d.fl.Sublist UNI) (htop : 0 ≤ top ∧ top < 500)
    (ret : ∀ h' tk' es' n' m' r' t' tt' las' ras' ds' top', (hideAll s.heap [bd, ll, rl, tl]).StaysIn h' → h'.get? bd = some (dictOf es' n') → BoxD es' ll nx top' → h'.get? ll = some (listOf (las'.map Value.ref).toArray m') → h'.get? rl = some (listOf (ras'.map Value.ref).toArray r') → h'.get? tl = some (listOf #[.int top' tt'] t') →
      LetsAt (lift hG s.heap h') las' ds' → RowsAt (lift hG s.heap h') ras' ds' → ds'.length = ds.length → (∀ (i : Nat) (d : Let), ds'[i]? = some d → d.uid = (i : Int) + 1) → (∀ d ∈ ds', d.fl.Sublist UNI) → top ≤ top' ∧ top' ≤ top + 5 → Q (.bool true) { s with heap := h', toks := tk' }),
    wpAny (model PySem.Challenge.rw_no0367_01.row.prog w) (Ar dp un fr gd) (call (.ref 238) [.ref bx, .ref rl, .ref tl, .int num t]) Q E s :=
  eps_all (P := LSP) LSne (by with_unfolding_all exact LSc.pf) (w, dp, un, fr, gd, s, mean, mg, mb, E, H0, Q, bx, bd, ll, rl, tl, es, n, m0, r0, t0, nx, top, num, las, ras, ds, t, tt, hG)


/-- some objects of the ledger were changed by a call, all else stayed -/
theorem mutL {P : Prop} {g0 g hG h h' : Heap} {L : Addr} {m : Str → Option Value} {muts ms : List Addr} {imm news : List (Addr × Obj)} (news1 : List (Addr × Obj)) (F : Fr g L h m) (N : News g L h news) (I : Imm g0 hG muts imm) (kg : g0.StaysIn g) (himm : ∀ p ∈ imm, p ∈ news)
    (hms : ∀ b ∈ ms, b ≠ L ∧ g.get? b = none) (mm : ∀ b ∈ ms, b ∈ muts) (mL : L ∈ muts) (live : ∀ b ∈ muts, ∃ o, h.get? b = some o) (k : (hideAll h ms).StaysIn h')
    (h1 : ∀ p ∈ news1, (p.1 ∈ ms ∧ h'.get? p.1 = some p.2) ∨ (p ∈ news ∧ p.1 ∉ ms))
    (c : ∀ imm', Imm g0 (lift hG h h') muts imm' → Fr g L h' m → News g L h' (news1 ++ imm') → (lift hG h h').StaysIn h' → P) : P := by
  have k' : ∀ b ob, b ∉ ms → h.get? b = some ob → h'.get? b = some ob := fun b ob n1 q => k b ob (hideAll_get _ q n1)
  have hGh := I.stays kg F N himm
  have hGm : ∀ b o, hG.get? b = some o → b ∉ ms := fun b o e z => by rw [I.apart _ (mm b z)] at e; cases e
  have hgm : ∀ b o, g.get? b = some o → b ∉ ms := fun b o e z => by rw [(hms b z).2] at e; cases e
  have hGh' : hG.StaysIn h' := fun b o e => k' b o (hGm b o e) (hGh b o e)
  have F' : Fr g L h' m := ⟨F.ns.at' fun o' q => k' _ _ (fun z => (hms _ z).1 rfl) q, fun b o e => k' b o (hgm b o e) (F.keep b o e), F.above⟩
  have I' : Imm g0 (lift hG h h') muts (immOf g0 (lift hG h h')) := .of (fun b o e => lift_old hGh' b o (I.up b o e)) fun b hb => let ⟨o, e⟩ := live b hb; lift_off e (I.apart b hb)
  refine c _ I' F' (fun p hp => ?_) lift_sub
  rcases List.mem_append.mp hp with q | q
  · rcases h1 p q with ⟨a, b⟩ | ⟨a, b⟩
    · exact ⟨b, hms _ a⟩
    · exact ⟨k' _ _ b (N p a).1, (N p a).2⟩
  · refine ⟨lift_sub _ _ (I'.off p q).1, I'.ne mL p q, ?_⟩
    rcases lift_cases (I'.off p q).1 with ⟨o, z⟩ | z
    · rcases I.inn _ _ z with y | y
      · rw [(I'.off p q).2] at y; cases y
      · exact (N _ (himm _ y)).2.2
    · exact (Fr.fresh F z).2
section
variable {prog : Program} {w : World} {A : Around} {E : Value → Shared → Prop} {Q : Flow → Shared → Prop} {s : Shared} {env : Env} {g : Heap}
theorem ne_ints {a b : Addr} {vs us : List Value} {ns : List Int} {Q : Value → Shared → Prop} (ha : s.heap.IsList a vs.toArray) (hb : s.heap.IsList b us.toArray) (hi : IntsAre vs ns) (hj : IntsAre us ns) (hu : A.units + 64 < cLine) (h : Q (.bool false) s) : wpAny (model prog w) A (compareOp .NotEq (.ref a) (.ref b)) Q E s :=
  ne_same (reads_of_ints ha hi) (reads_of_ints hb hj) (ke_shaped_ints _) hu h
end
theorem boxFld {g h : Heap} {L bx bd ll : Addr} {es : List DictEntry} {n : Nat} {nx top : Int} {news : List (Addr × Obj)} (N : News g L h news) (h1 : (bx, instObj 151 bd) ∈ news) (h2 : (bd, dictOf es n) ∈ news) (B : BoxD es ll nx top) : Fld h bx 151 "letters" (.ref ll) :=
  ⟨bd, es, n, (N _ h1).1, (N _ h2).1, B.1⟩
/-- the loops of law -/
noncomputable def lawLoop (k : Nat) : Option (Expr × List Stmt × Scope) := (fdOf 30).bind fun p => (p.1[k]?.bind forOf).map fun q => (q.1, q.2, p.2)
noncomputable def lawInner : Option (Expr × List Stmt × Scope) := (lawLoop 5).bind fun p => (p.2.1[2]?.bind forOf).map fun q => (q.1, q.2, p.2.2)

example : True := by
  k_with "MINE sub" => ((intro _ hp; repeat (first | exact hp | exact List.mem_append_right _ hp | apply List.Mem.tail)); (try (revert hp; intros)))
  trivial
example : True := by
  k_with "MINE kG" => (first | with_reducible assumption | exact Imm.stays (by with_reducible assumption) (fun _ _ e => e) (by with_reducible assumption) (by with_reducible assumption) (by k_extra "MINE sub"))
  trivial
example : True := by
  k_with "MINE fld" => (first | with_reducible assumption | exact boxFld (by with_reducible assumption) (by first | k_extra "MINE mem" | k_mem) (by first | k_extra "MINE mem" | k_mem) (by with_reducible assumption) | exact Fld.keeps (by with_reducible assumption) (Fr.keep (by with_reducible assumption)))
  trivial
example : True := by
  k_with "call ref" => ((k_here; (with_reducible show wpAny _ _ (call (Value.ref 193) _) _ _ _); k_dflt (refine' changed_since_spec (by first | (assumption) | fail) (by first | (k_extra "MINE stays") | fail) (by first | (k_extra "MINE room") | fail) (by first | (k_extra "MINE room") | fail) (by first | (k_extra "MINE fld") | fail) (by first | (k_extra "MINE list") | fail) (by first | (k_extra "MINE kG") | fail) (by first | (assumption) | fail) (by first | (k_extra "MINE ar") | fail) ?_; k_whole); intro _ _ _ _ _ k9 e9 e9' hls9 hll9; (rename Fr _ _ _ _ => F9; rename News _ _ _ _ => N9; have l9 := News.ne N9 e9; have F' := Fr.grow F9 k9; have N' := News.add F9 N9 k9 e9 e9'; clear F9 N9 k9 e9 e9'; (try dsimp only); (try (revert hls9 hll9 l9 F' N'; intros)); (try k_fold))))
  trivial
example : True := by
  k_with "call ref" => ((k_here; (with_reducible show wpAny _ _ (call (Value.ref 198) _) _ _ _); k_dflt (refine' changed_among_spec (by first | (assumption) | fail) (by first | (k_extra "MINE stays") | fail) (by first | (k_extra "MINE room") | fail) (by first | (k_extra "MINE room") | fail) (by first | (k_extra "MINE fld") | fail) (by first | (k_extra "MINE list") | fail) (by first | (k_extra "MINE kG") | fail) (by first | (assumption) | fail) (by first | (k_extra "MINE ar") | fail) (by first | (k_extra "MINE list") | fail) (by first | (k_extra "MINE ints") | fail) ?_; k_whole); intro _ _ _ _ _ k9 e9 e9' hls9 hll9; (rename Fr _ _ _ _ => F9; rename News _ _ _ _ => N9; have l9 := News.ne N9 e9; have F' := Fr.grow F9 k9; have N' := News.add F9 N9 k9 e9 e9'; clear F9 N9 k9 e9 e9'; (try dsimp only); (try (revert hls9 hll9 l9 F' N'; intros)); (try k_fold))))
  trivial
example : True := by
  k_with "call ref" => ((k_here; (with_reducible show wpAny _ _ (call (Value.ref 203) _) _ _ _); k_dflt (refine' highest_among_spec (by first | (assumption) | fail) (by first | (k_extra "MINE stays") | fail) (by first | (k_extra "MINE room") | fail) (by first | (k_extra "MINE room") | fail) (by first | (k_extra "MINE kG") | fail) (by first | (k_extra "MINE fld") | fail) (by first | (k_extra "MINE list") | fail) (by first | (assumption) | fail) (by first | (k_extra "MINE ar") | fail) (by first | (k_extra "MINE list") | fail) (by first | (k_extra "MINE ints") | fail) ?_; k_whole); intro _ _ _ _ k9 hM9 hM9'; (rename Fr _ _ _ _ => F9; rename News _ _ _ _ => N9; have F' := Fr.grow F9 k9; have N' := News.grow N9 k9; clear F9 N9 k9; (try dsimp only); (try (revert hM9 hM9' F' N'; intros)); (try k_fold))))
  trivial
example : True := by
  k_with "MINE haltS" => (((fail_if_success (with_reducible show Exists _)); (fail_if_success (with_reducible show wpAny _ _ (call (Value.ref 176) _) _ _ _)); (fail_if_success (with_reducible show wpAny _ _ (call (Value.ref 151) _) _ _ _)); (fail_if_success (with_reducible show wpAny _ _ (call (Value.ref 238) _) _ _ _)); (fail_if_success (with_reducible show wpAny _ _ (compareOp CmpOp.NotEq (Value.ref _) (Value.ref _)) _ _ _)); (fail_if_success (with_reducible show wpAny _ _ (compareOp CmpOp.Eq (Value.ref _) (Value.ref _)) _ _ _)); k_extra "MINE halt"))
  trivial
example : True := by
  k_with "MINE stepsS" => (repeat' (first | (k_extra "MINE haltS"; walk1) | (dsimp only; k_extra "MINE haltS"; walk1)))
  trivial
example : True := by
  k_with "MINE grow1" => ((intro _ _ k9 e9 e9'; (rename Fr _ _ _ _ => F9); (rename News _ _ _ _ => N9); (have l9 := News.ne N9 e9); (have F' := Fr.grow F9 k9); (have N' := News.add F9 N9 k9 e9 e9'); clear F9 N9 k9 e9 e9'; (try dsimp only); (try (revert l9 F' N'; intros)); (try k_fold)))
  trivial

/-- between the turns of law's inner loop -/
inductive Law3J (L' bx bd ll rl tl sm : Addr) (es : List DictEntry) (n m0 r0 tn e9 : Nat) (las ras : List Addr) (smvs : List Value) (o1 o2 : Obj) (top : Int) (tt : Tok) (imm rest : List (Addr × Obj)) (_i : Nat) (m' : Str → Option Value) (news : List (Addr × Obj)) : Prop
  | mk (o3 : Obj) (q1 : m' "box" = some (.ref bx)) (q2 : m' "rows" = some (.ref rl)) (q3 : m' "top" = some (.ref tl))
    (hn : news = (L' + 3, o3) :: (L' + 2, o2) :: (L' + 1, o1) :: (sm, PySem.W.listOf smvs.toArray e9) :: (bx, instObj 151 bd) :: (bd, dictOf es n) :: (ll, PySem.W.listOf (las.map Value.ref).toArray m0) :: (rl, PySem.W.listOf (ras.map Value.ref).toArray r0) :: (tl, PySem.W.listOf #[Value.int top tt] tn) :: (rest ++ imm)) (v : Option Value) (hv : o3.data = .cell v) : Law3J L' bx bd ll rl tl sm es n m0 r0 tn e9 las ras smvs o1 o2 top tt imm rest _i m' news
noncomputable def Law3G (w : World) (dp : Nat) (un : Nat) (fr : Option (List Env)) (gd : Option (List Code)) (s : Shared) (mean : ExcName → Option Value) (mg : Str → Option Value) (mb : Str → Option Value) (QQ : Flow → Shared → Prop) (g : Heap) (hG : Heap) (L' : Addr) (fa : Addr) (cdv : Addr) (bx : Addr) (bd : Addr) (ll : Addr) (rl : Addr) (tl : Addr) (sm : Addr) (es : List DictEntry) (n : Nat) (m0 : Nat) (r0 : Nat) (tn : Nat) (e9 : Nat) (las : List Addr) (ras : List Addr) (ds : List Let) (smvs : List Value) (o1 : Obj) (o2 : Obj) (nx : Int) (top : Int) (tt : Tok) (imm : List (Addr × Obj)) (rest : List (Addr × Obj)) (us : List Int) (i : Nat) (t : Tok) (m₁ : Str → Option Value) (h₂ : Heap) (tk₂ : Nat) : Prop := ∀ {x : Str} {px : Pos} {body : List Stmt} {scope : Scope} (hp : lawInner = some (.Name x px, body, scope)) (W : Wd w.params mean mg mb g) (hst : g.StaysIn g) (X : (hd.heap_39 w.params).In g) (T : TopF mean mg mb g) (hdp : dp + 20 < recursionLimit) (hun : un + 140 < cLine)
    (B : BoxD es ll nx top) (Im : Imm g hG [L', L' + 1, L' + 2, L' + 3, bd, ll, rl, tl] imm) (hds : LetsAt hG las ds) (hrs : RowsAt hG ras ds) (hlen : ds.length ≤ 5) (hsm : IntsAre smvs us) (hsl : us.length ≤ 7) (ho2 : o2.data = .cell (some (.ref sm)))
    (NEs : NE bx (L' + 3) ∧ NE bd (L' + 3) ∧ NE ll (L' + 3) ∧ NE rl (L' + 3) ∧ NE tl (L' + 3) ∧ NE sm (L' + 3)) (hrest : ∀ p ∈ rest, p.1 ≠ L' + 3)
    (news₁ : List (Addr × Obj)) (pI : Addr × Obj)
    (hJ : Law3J L' bx bd ll rl tl sm es n m0 r0 tn e9 las ras smvs o1 o2 top tt imm rest i m₁ news₁) (ha : ∀ p ∈ news₁, p.1 ≠ pI.1) (F₂ : Fr g L' h₂ m₁) (N₂ : News g L' h₂ (pI :: news₁)),
    wpAny (model PySem.Challenge.rw_no0367_01.row.prog w) ((Ar dp un fr gd).deeper (envOfC "law" scope L' fa (.ref cdv))) (assign (.Name x px) (envOfC "law" scope L' fa (.ref cdv)) (.int (i : Int) t))
      (fun _ s₂ => wpAny (model PySem.Challenge.rw_no0367_01.row.prog w) ((Ar dp un fr gd).deeper (envOfC "law" scope L' fa (.ref cdv))) (execs body (envOfC "law" scope L' fa (.ref cdv)))
        (TurnEnd g L' (Law3J L' bx bd ll rl tl sm es n m0 r0 tn e9 las ras smvs o1 o2 top tt imm rest (i + 1)) [pI] s QQ) (fun _ _ => False) s₂) (fun _ _ => False) { s with heap := h₂, toks := tk₂ }
noncomputable abbrev Law3K : Type _ := (World) × (Nat) × (Nat) × (Option (List Env)) × (Option (List Code)) × (Shared) × (ExcName → Option Value) × (Str → Option Value) × (Str → Option Value) × (Flow → Shared → Prop) × (Heap) × (Heap) × (Addr) × (Addr) × (Addr) × (Addr) × (Addr) × (Addr) × (Addr) × (Addr) × (Addr) × (List DictEntry) × (Nat) × (Nat) × (Nat) × (Nat) × (Nat) × (List Addr) × (List Addr) × (List Let) × (List Value) × (Obj) × (Obj) × (Int) × (Int) × (Tok) × (List (Addr × Obj)) × (List (Addr × Obj)) × (List Int) × (Nat) × (Tok) × (Str → Option Value) × (Heap) × (Nat)
noncomputable def Law3P (k : Law3K) : Prop := Law3G (k.1) (k.2.1) (k.2.2.1) (k.2.2.2.1) (k.2.2.2.2.1) (k.2.2.2.2.2.1) (k.2.2.2.2.2.2.1) (k.2.2.2.2.2.2.2.1) (k.2.2.2.2.2.2.2.2.1) (k.2.2.2.2.2.2.2.2.2.1) (k.2.2.2.2.2.2.2.2.2.2.1) (k.2.2.2.2.2.2.2.2.2.2.2.1) (k.2.2.2.2.2.2.2.2.2.2.2.2.1) (k.2.2.2.2.2.2.2.2.2.2.2.2.2.1) (k.2.2.2.2.2.2.2.2.2.2.2.2.2.2.1) (k.2.2.2.2.2.2.2.2.2.2.2.2.2.2.2.1) (k.2.2.2.2.2.2.2.2.2.2.2.2.2.2.2.2.1) (k.2.2.2.2.2.2.2.2.2.2.2.2.2.2.2.2.2.1) (k.2.2.2.2.2.2.2.2.2.2.2.2.2.2.2.2.2.2.1) (k.2.2.2.2.2.2.2.2.2.2.2.2.2.2.2.2.2.2.2.1) (k.2.2.2.2.2.2.2.2.2.2.2.2.2.2.2.2.2.2.2.2.1) (k.2.2.2.2.2.2.2.2.2.2.2.2.2.2.2.2.2.2.2.2.2.1) (k.2.2.2.2.2.2.2.2.2.2.2.2.2.2.2.2.2.2.2.2.2.2.1) (k.2.2.2.2.2.2.2.2.2.2.2.2.2.2.2.2.2.2.2.2.2.2.2.1) (k.2.2.2.2.2.2.2.2.2.2.2.2.2.2.2.2.2.2.2.2.2.2.2.2.1) (k.2.2.2.2.2.2.2.2.2.2.2.2.2.2.2.2.2.2.2.2.2.2.2.2.2.1) (k.2.2.2.2.2.2.2.2.2.2.2.2.2.2.2.2.2.2.2.2.2.2.2.2.2.2.1) (k.2.2.2.2.2.2.2.2.2.2.2.2.2.2.2.2.2.2.2.2.2.2.2.2.2.2.2.1) (k.2.2.2.2.2.2.2.2.2.2.2.2.2.2.2.2.2.2.2.2.2.2.2.2.2.2.2.2.1) (k.2.2.2.2.2.2.2.2.2.2.2.2.2.2.2.2.2.2.2.2.2.2.2.2.2.2.2.2.2.1) (k.2.2.2.2.2.2.2.2.2.2.2.2.2.2.2.2.2.2.2.2.2.2.2.2.2.2.2.2.2.2.1) (k.2.2.2.2.2.2.2.2.2.2.2.2.2.2.2.2.2.2.2.2.2.2.2.2.2.2.2.2.2.2.2.1) (k.2.2.2.2.2.2.2.2.2.2.2.2.2.2.2.2.2.2.2.2.2.2.2.2.2.2.2.2.2.2.2.2.1) (k.2.2.2.2.2.2.2.2.2.2.2.2.2.2.2.2.2.2.2.2.2.2.2.2.2.2.2.2.2.2.2.2.2.1) (k.2.2.2.2.2.2.2.2.2.2.2.2.2.2.2.2.2.2.2.2.2.2.2.2.2.2.2.2.2.2.2.2.2.2.1) (k.2.2.2.2.2.2.2.2.2.2.2.2.2.2.2.2.2.2.2.2.2.2.2.2.2.2.2.2.2.2.2.2.2.2.2.1) (k.2.2.2.2.2.2.2.2.2.2.2.2.2.2.2.2.2.2.2.2.2.2.2.2.2.2.2.2.2.2.2.2.2.2.2.2.1) (k.2.2.2.2.2.2.2.2.2.2.2.2.2.2.2.2.2.2.2.2.2.2.2.2.2.2.2.2.2.2.2.2.2.2.2.2.2.1) (k.2.2.2.2.2.2.2.2.2.2.2.2.2.2.2.2.2.2.2.2.2.2.2.2.2.2.2.2.2.2.2.2.2.2.2.2.2.2.1) (k.2.2.2.2.2.2.2.2.2.2.2.2.2.2.2.2.2.2.2.2.2.2.2.2.2.2.2.2.2.2.2.2.2.2.2.2.2.2.2.1) (k.2.2.2.2.2.2.2.2.2.2.2.2.2.2.2.2.2.2.2.2.2.2.2.2.2.2.2.2.2.2.2.2.2.2.2.2.2.2.2.2.1) (k.2.2.2.2.2.2.2.2.2.2.2.2.2.2.2.2.2.2.2.2.2.2.2.2.2.2.2.2.2.2.2.2.2.2.2.2.2.2.2.2.2.1) (k.2.2.2.2.2.2.2.2.2.2.2.2.2.2.2.2.2.2.2.2.2.2.2.2.2.2.2.2.2.2.2.2.2.2.2.2.2.2.2.2.2.2.1) (k.2.2.2.2.2.2.2.2.2.2.2.2.2.2.2.2.2.2.2.2.2.2.2.2.2.2.2.2.2.2.2.2.2.2.2.2.2.2.2.2.2.2.2)
theorem Law3ne : Nonempty Law3K := ⟨((wd0 : World), (0 : Nat), (0 : Nat), (none : Option (List Env)), (none : Option (List Code)), ({} : Shared), (fun _ => none : ExcName → Option Value), (fun _ => none : Str → Option Value), (fun _ => none : Str → Option Value), (fun _ _ => True : Flow → Shared → Prop), ({} : Heap), ({} : Heap), (0 : Addr), (0 : Addr), (0 : Addr), (0 : Addr), (0 : Addr), (0 : Addr), (0 : Addr), (0 : Addr), (0 : Addr), ([] : List DictEntry), (0 : Nat), (0 : Nat), (0 : Nat), (0 : Nat), (0 : Nat), ([] : List Addr), ([] : List Addr), ([] : List Let), ([] : List Value), (default : Obj), (default : Obj), (0 : Int), (0 : Int), (0 : Tok), ([] : List (Addr × Obj)), ([] : List (Addr × Obj)), ([] : List Int), (0 : Nat), (0 : Tok), (fun _ => none : Str → Option Value), ({} : Heap), (0 : Nat))⟩
@[irreducible] noncomputable def Law3k : Law3K := @Classical.epsilon _ Law3ne fun k => ¬ Law3P k
theorem Law3c.pf : Law3P Law3k := by
  refine (?m : ∀ (w : World) (dp : Nat) (un : Nat) (fr : Option (List Env)) (gd : Option (List Code)) (s : Shared) (mean : ExcName → Option Value) (mg : Str → Option Value) (mb : Str → Option Value) (QQ : Flow → Shared → Prop) (g : Heap) (hG : Heap) (L' : Addr) (fa : Addr) (cdv : Addr) (bx : Addr) (bd : Addr) (ll : Addr) (rl : Addr) (tl : Addr) (sm : Addr) (es : List DictEntry) (n : Nat) (m0 : Nat) (r0 : Nat) (tn : Nat) (e9 : Nat) (las : List Addr) (ras : List Addr) (ds : List Let) (smvs : List Value) (o1 : Obj) (o2 : Obj) (nx : Int) (top : Int) (tt : Tok) (imm : List (Addr × Obj)) (rest : List (Addr × Obj)) (us : List Int) (i : Nat) (t : Tok) (m₁ : Str → Option Value) (h₂ : Heap) (tk₂ : Nat), ∀ {x : Str} {px : Pos} {body : List Stmt} {scope : Scope} (hp : lawInner = some (.Name x px, body, scope)) (W : Wd w.params mean mg mb g) (hst : g.StaysIn g) (X : (hd.heap_39 w.params).In g) (T : TopF mean mg mb g) (hdp : dp + 20 < recursionLimit) (hun : un + 140 < cLine)
    (B : BoxD es ll nx top) (Im : Imm g hG [L', L' + 1, L' + 2, L' + 3, bd, ll, rl, tl] imm) (hds : LetsAt hG las ds) (hrs : RowsAt hG ras ds) (hlen : ds.length ≤ 5) (hsm : IntsAre smvs us) (hsl : us.length ≤ 7) (ho2 : o2.data = .cell (some (.ref sm)))
    (NEs : NE bx (L' + 3) ∧ NE bd (L' + 3) ∧ NE ll (L' + 3) ∧ NE rl (L' + 3) ∧ NE tl (L' + 3) ∧ NE sm (L' + 3)) (hrest : ∀ p ∈ rest, p.1 ≠ L' + 3)
    (news₁ : List (Addr × Obj)) (pI : Addr × Obj)
    (hJ : Law3J L' bx bd ll rl tl sm es n m0 r0 tn e9 las ras smvs o1 o2 top tt imm rest i m₁ news₁) (ha : ∀ p ∈ news₁, p.1 ≠ pI.1) (F₂ : Fr g L' h₂ m₁) (N₂ : News g L' h₂ (pI :: news₁)),
    wpAny (model PySem.Challenge.rw_no0367_01.row.prog w) ((Ar dp un fr gd).deeper (envOfC "law" scope L' fa (.ref cdv))) (assign (.Name x px) (envOfC "law" scope L' fa (.ref cdv)) (.int (i : Int) t))
      (fun _ s₂ => wpAny (model PySem.Challenge.rw_no0367_01.row.prog w) ((Ar dp un fr gd).deeper (envOfC "law" scope L' fa (.ref cdv))) (execs body (envOfC "law" scope L' fa (.ref cdv)))
        (TurnEnd g L' (Law3J L' bx bd ll rl tl sm es n m0 r0 tn e9 las ras smvs o1 o2 top tt imm rest (i + 1)) [pI] s QQ) (fun _ _ => False) s₂) (fun _ _ => False) { s with heap := h₂, toks := tk₂ }) (Law3k.1) (Law3k.2.1) (Law3k.2.2.1) (Law3k.2.2.2.1) (Law3k.2.2.2.2.1) (Law3k.2.2.2.2.2.1) (Law3k.2.2.2.2.2.2.1) (Law3k.2.2.2.2.2.2.2.1) (Law3k.2.2.2.2.2.2.2.2.1) (Law3k.2.2.2.2.2.2.2.2.2.1) (Law3k.2.2.2.2.2.2.2.2.2.2.1) (Law3k.2.2.2.2.2.2.2.2.2.2.2.1) (Law3k.2.2.2.2.2.2.2.2.2.2.2.2.1) (Law3k.2.2.2.2.2.2.2.2.2.2.2.2.2.1) (Law3k.2.2.2.2.2.2.2.2.2.2.2.2.2.2.1) (Law3k.2.2.2.2.2.2.2.2.2.2.2.2.2.2.2.1) (Law3k.2.2.2.2.2.2.2.2.2.2.2.2.2.2.2.2.1) (Law3k.2.2.2.2.2.2.2.2.2.2.2.2.2.2.2.2.2.1) (Law3k.2.2.2.2.2.2.2.2.2.2.2.2.2.2.2.2.2.2.1) (Law3k.2.2.2.2.2.2.2.2.2.2.2.2.2.2.2.2.2.2.2.1) (Law3k.2.2.2.2.2.2.2.2.2.2.2.2.2.2.2.2.2.2.2.2.1) (Law3k.2.2.2.2.2.2.2.2.2.2.2.2.2.2.2.2.2.2.2.2.2.1) (Law3k.2.2.2.2.2.2.2.2.2.2.2.2.2.2.2.2.2.2.2.2.2.2.1) (Law3k.2.2.2.2.2.2.2.2.2.2.2.2.2.2.2.2.2.2.2.2.2.2.2.1) (Law3k.2.2.2.2.2.2.2.2.2.2.2.2.2.2.2.2.2.2.2.2.2.2.2.2.1) (Law3k.2.2.2.2.2.2.2.2.2.2.2.2.2.2.2.2.2.2.2.2.2.2.2.2.2.1) (Law3k.2.2.2.2.2.2.2.2.2.2.2.2.2.2.2.2.2.2.2.2.2.2.2.2.2.2.1) (Law3k.2.2.2.2.2.2.2.2.2.2.2.2.2.2.2.2.2.2.2.2.2.2.2.2.2.2.2.1) (Law3k.2.2.2.2.2.2.2.2.2.2.2.2.2.2.2.2.2.2.2.2.2.2.2.2.2.2.2.2.1) (Law3k.2.2.2.2.2.2.2.2.2.2.2.2.2.2.2.2.2.2.2.2.2.2.2.2.2.2.2.2.2.1) (Law3k.2.2.2.2.2.2.2.2.2.2.2.2.2.2.2.2.2.2.2.2.2.2.2.2.2.2.2.2.2.2.1) (Law3k.2.2.2.2.2.2.2.2.2.2.2.2.2.2.2.2.2.2.2.2.2.2.2.2.2.2.2.2.2.2.2.1) (Law3k.2.2.2.2.2.2.2.2.2.2.2.2.2.2.2.2.2.2.2.2.2.2.2.2.2.2.2.2.2.2.2.2.1) (Law3k.2.2.2.2.2.2.2.2.2.2.2.2.2.2.2.2.2.2.2.2.2.2.2.2.2.2.2.2.2.2.2.2.2.1) (Law3k.2.2.2.2.2.2.2.2.2.2.2.2.2.2.2.2.2.2.2.2.2.2.2.2.2.2.2.2.2.2.2.2.2.2.1) (Law3k.2.2.2.2.2.2.2.2.2.2.2.2.2.2.2.2.2.2.2.2.2.2.2.2.2.2.2.2.2.2.2.2.2.2.2.1) (Law3k.2.2.2.2.2.2.2.2.2.2.2.2.2.2.2.2.2.2.2.2.2.2.2.2.2.2.2.2.2.2.2.2.2.2.2.2.1) (Law3k.2.2.2.2.2.2.2.2.2.2.2.2.2.2.2.2.2.2.2.2.2.2.2.2.2.2.2.2.2.2.2.2.2.2.2.2.2.1) (Law3k.2.2.2.2.2.2.2.2.2.2.2.2.2.2.2.2.2.2.2.2.2.2.2.2.2.2.2.2.2.2.2.2.2.2.2.2.2.2.1) (Law3k.2.2.2.2.2.2.2.2.2.2.2.2.2.2.2.2.2.2.2.2.2.2.2.2.2.2.2.2.2.2.2.2.2.2.2.2.2.2.2.1) (Law3k.2.2.2.2.2.2.2.2.2.2.2.2.2.2.2.2.2.2.2.2.2.2.2.2.2.2.2.2.2.2.2.2.2.2.2.2.2.2.2.2.1) (Law3k.2.2.2.2.2.2.2.2.2.2.2.2.2.2.2.2.2.2.2.2.2.2.2.2.2.2.2.2.2.2.2.2.2.2.2.2.2.2.2.2.2.1) (Law3k.2.2.2.2.2.2.2.2.2.2.2.2.2.2.2.2.2.2.2.2.2.2.2.2.2.2.2.2.2.2.2.2.2.2.2.2.2.2.2.2.2.2.1) (Law3k.2.2.2.2.2.2.2.2.2.2.2.2.2.2.2.2.2.2.2.2.2.2.2.2.2.2.2.2.2.2.2.2.2.2.2.2.2.2.2.2.2.2.2)
  intro w dp un fr gd s mean mg mb QQ g hG L' fa cdv bx bd ll rl tl sm es n m0 r0 tn e9 las ras ds smvs o1 o2 nx top tt imm rest us i t m₁ h₂ tk₂
  intro x px body scope hp W hst X T hdp hun B Im hds hrs hlen hsm hsl ho2 NEs hrest news₁ pI hJ ha F₂ N₂
  conv at hp => lhs; whnf
  dsimp only at hp
  simp only [Option.some.injEq, Prod.mk.injEq, Expr.Name.injEq] at hp
  obtain ⟨⟨rfl, rfl⟩, rfl, rfl⟩ := hp
  obtain ⟨I1, oI1⟩ := pI
  obtain ⟨o3, hq1, hq2, hq3, rfl, v3, hv3⟩ := hJ
  obtain ⟨n1, n2, n3, n4, n5, n6⟩ := NEs
  have n7 : NE (L' + 2) (L' + 3) := Nat.ne_of_lt (Nat.lt_succ_self _)
  have n8 : NE (L' + 1) (L' + 3) := Nat.ne_of_lt (Nat.lt_succ_of_lt (Nat.lt_succ_self _))
  have nI1 : NE I1 (L' + 3) := fun q => ha (L' + 3, o3) (by k_extra "MINE mem") q.symm
  have hra : ∀ p ∈ rest ++ imm, p.1 ≠ L' + 3 := fun p hp => (List.mem_append.mp hp).elim (hrest p) (Im.ne (by k_extra "MINE mem") p)
  try k_fold
  k_extra "MINE stepsS"
  rename_i hA oM FA NA dM
  replace NA : News g L' hA ((I1, oI1) :: (L' + 3, oM) :: (L' + 2, o2) :: (L' + 1, o1) :: (sm, PySem.W.listOf smvs.toArray e9) :: (bx, instObj 151 bd) :: (bd, dictOf es n) :: (ll, PySem.W.listOf (las.map Value.ref).toArray m0) :: (rl, PySem.W.listOf (ras.map Value.ref).toArray r0) :: (tl, PySem.W.listOf #[Value.int top tt] tn) :: (rest ++ imm)) := NA
  have hll := hds.len
  have hrl := hrs.len
  have hrm : (ras.map Value.ref).length ≤ 5 := by rw [List.length_map, hrl]; exact hlen
  refine LCuse (y := "due") (cl := [("modseq", L' + 3)]) rfl rfl rfl (by decide) rfl (by decide) rfl rfl ?_ (by intro _; rfl)
  k_extra "MINE stepsS"
  refine CompAt.flat g (fun i' ys => IntsAre ys (((ds.take i').filter fun d => decide ((i : Int) < d.ms)).map (·.uid))) (.list _ _ (isListOf (NA (rl, PySem.W.listOf (ras.map Value.ref).toArray r0) (by k_extra "MINE mem")).1)) (le_lit hrm rfl) FA NA (fun _ h => nomatch h) .nil ?turn1 ?done1
  case turn1 =>
    intro g' hg' i' v C D h tk2 m ys its e hi hP hJ hys F₆ N₆
    have hls := hJ
    obtain ⟨a, ha', rfl⟩ := map_get hP
    obtain ⟨d, hd, fl', fvs, t1, t2, hRT, _⟩ := hrs.get ha'
    have kg1 := nil_stays hg'
    have kg := stays_trans FA.keep kg1
    have X' := X.keeps kg
    have T' := T.keeps kg
    have hc := cellKeeps (cellAt (NA (L' + 3, oM) (by k_extra "MINE mem")).1 dM) kg1
    have kGA : hG.StaysIn hA := Im.stays (fun _ _ e => e) FA NA (by k_extra "MINE sub")
    have hRT' := keepsTup hRT (stays_trans kGA kg1)
    have hsz : ys.length ≤ 1000 := Nat.le_trans hys (Nat.le_trans (Nat.le_of_lt hi) (le_lit hrm rfl))
    clear FA NA X T
    walk1
    refine wpAny_tests_one ?_
    k_extra "MINE stepsS"
    · rename Fr _ _ _ _ => FF
      rename News _ _ _ _ => NN
      rename ((i : Int) < d.ms) => hq
      exact .mk FF NN (by rw [mfilt_in hd (decide_eq_true hq)]; exact ints_snoc hls _ _)
    · rename Fr _ _ _ _ => FF
      rename News _ _ _ _ => NN
      rename (¬ ((i : Int) < d.ms)) => hq
      exact .mk FF NN (by rw [mfilt_out hd (decide_eq_false hq)]; exact hls)
  case done1 =>
    rintro D1 hB tkB dvs eD hdu hys FB NB hlt
    rw [List.take_of_length_le (by rw [List.length_map, hrl]; exact Nat.le_refl _)] at hdu
    clear hlt FA
    dsimp only at FB NB ⊢
    replace FB : Fr g L' hB (fun y => if y = "due" then some (.ref D1) else m₁ y) := FB
    replace NB : News g L' hB ((D1, PySem.W.listOf dvs.toArray eD) :: (I1, oI1) :: (L' + 3, oM) :: (L' + 2, o2) :: (L' + 1, o1) :: (sm, PySem.W.listOf smvs.toArray e9) :: (bx, instObj 151 bd) :: (bd, dictOf es n) :: (ll, PySem.W.listOf (las.map Value.ref).toArray m0) :: (rl, PySem.W.listOf (ras.map Value.ref).toArray r0) :: (tl, PySem.W.listOf #[Value.int top tt] tn) :: (rest ++ imm)) := NB
    clear NA
    have hDUl : ((ds.filter fun d => decide ((i : Int) < d.ms)).map (·.uid)).length ≤ 5 := by rw [List.length_map]; exact Nat.le_trans (List.length_filter_le _ _) hlen
    generalize hDU : (ds.filter fun d => decide ((i : Int) < d.ms)).map (·.uid) = DU at *
    try k_fold
    k_extra "MINE stepsS"
    refine LC (cl := []) rfl rfl (by decide) rfl (by decide) ?_ (by intro _; rfl)
    k_extra "MINE stepsS"
    rename_i r9 las9 n9 hC tkC hls9 hll9 l9 FC NC
    have hl9 := hls9.len
    have hm9 : (las9.map Value.ref).length ≤ 5 := by rw [List.length_map, hl9]; exact Nat.le_trans (List.length_filter_le _ _) hlen
    refine CompAt.flat g (fun i' ys => IntsAre ys (((ds.filter fun d => decide ((i : Int) < d.ms)).take i').map (·.uid))) (.list _ _ (isListOf (NC _ (.head _)).1)) (le_lit hm9 rfl) FC NC (fun _ h => nomatch h) .nil ?turn2 ?done2
    case turn2 =>
      intro g' hg' i' v C D h tk2 m ys its e hi hP hJ hys F₆ N₆
      have hls := hJ
      obtain ⟨a, ha', rfl⟩ := map_get hP
      obtain ⟨d, hd, hLa⟩ := hls9.get ha'
      have kg1 := nil_stays hg'
      have kg := stays_trans FC.keep kg1
      have X' := X.keeps kg
      have T' := T.keeps kg
      have kGA : hG.StaysIn hC := Im.stays (fun _ _ e => e) FC NC (by k_extra "MINE sub")
      obtain ⟨⟨tu, hfu⟩, _⟩ := hLa.keeps (stays_trans kGA kg1)
      have hsz : ys.length ≤ 1000 := Nat.le_trans hys (Nat.le_trans (Nat.le_of_lt hi) (le_lit hm9 rfl))
      clear FC NC X T
      walk1
      refine wpAny_tests_nil ?_
      k_extra "MINE stepsS"
      rename Fr _ _ _ _ => FF
      rename News _ _ _ _ => NN
      exact .mk FF NN (by rw [map_snoc hd]; exact ints_snoc hls _ _)
    case done2 =>
      rintro D2 hE tkE evs eE hdu2 hys2 FE NE2 hlt2
      rw [List.take_of_length_le (by rw [List.length_map, hl9]; exact Nat.le_refl _), hDU] at hdu2
      clear hlt2 FC NC
      dsimp only at FE NE2 ⊢
      replace FE : Fr g L' hE (fun y => if y = "due" then some (.ref D1) else m₁ y) := FE
      have hI2 : hE.IsList D2 evs.toArray := isListOf (NE2 _ (.head _)).1
      replace NE2 : News g L' hE ((D1, PySem.W.listOf dvs.toArray eD) :: (I1, oI1) :: (L' + 3, oM) :: (L' + 2, o2) :: (L' + 1, o1) :: (sm, PySem.W.listOf smvs.toArray e9) :: (bx, instObj 151 bd) :: (bd, dictOf es n) :: (ll, PySem.W.listOf (las.map Value.ref).toArray m0) :: (rl, PySem.W.listOf (ras.map Value.ref).toArray r0) :: (tl, PySem.W.listOf #[Value.int top tt] tn) :: (rest ++ imm)) := News.sub NE2 (fun p hp => .tail _ (.tail _ hp))
      try k_fold
      k_extra "MINE stepsS"
      refine ne_ints hI2 (isListOf (NE2 _ (.head _)).1) hdu2 hdu (by k_extra "MINE room") ?_
      clear hI2 hls9 hll9 l9 hl9 hm9
      try k_fold
      k_extra "MINE stepsS"
      refine LC (cl := []) rfl rfl (by decide) rfl (by decide) ?_ (by intro _; rfl)
      k_extra "MINE stepsS"
      rename_i r9 las9 n9 hC tkC hls9 hll9 l9 FC NC
      have hl9 := hls9.len
      have hm9 : (las9.map Value.ref).length ≤ 5 := by rw [List.length_map, hl9]; exact Nat.le_trans (List.length_filter_le _ _) (Nat.le_trans (List.length_filter_le _ _) hlen)
      refine CompAt.flat g (fun i' ys => IntsAre ys ((((ds.filter fun d => decide ((i : Int) < d.ms)).filter fun d => us.any (· == d.uid)).take i').map (·.uid))) (.list _ _ (isListOf (NC _ (.head _)).1)) (le_lit hm9 rfl) FC NC (fun _ h => nomatch h) .nil ?turn3 ?done3
      case turn3 =>
        intro g' hg' i' v C D h tk2 m ys its e hi hP hJ hys F₆ N₆
        have hls := hJ
        obtain ⟨a, ha', rfl⟩ := map_get hP
        obtain ⟨d, hd, hLa⟩ := hls9.get ha'
        have kg1 := nil_stays hg'
        have kg := stays_trans FC.keep kg1
        have X' := X.keeps kg
        have T' := T.keeps kg
        have kGA : hG.StaysIn hC := Im.stays (fun _ _ e => e) FC NC (by k_extra "MINE sub")
        obtain ⟨⟨tu, hfu⟩, _⟩ := hLa.keeps (stays_trans kGA kg1)
        have hsz : ys.length ≤ 1000 := Nat.le_trans hys (Nat.le_trans (Nat.le_of_lt hi) (le_lit hm9 rfl))
        clear FC NC X T
        walk1
        refine wpAny_tests_nil ?_
        k_extra "MINE stepsS"
        rename Fr _ _ _ _ => FF
        rename News _ _ _ _ => NN
        exact .mk FF NN (by rw [map_snoc hd]; exact ints_snoc hls _ _)
      case done3 =>
        rintro D3 hH tkH fvs3 eH hdu3 hys3 FH NH hlt3
        have hDUf : (((ds.filter fun d => decide ((i : Int) < d.ms)).filter fun d => us.any (· == d.uid)).map (·.uid)) = DU.filter (fun u => us.any (· == u)) := by
          rw [← hDU, List.filter_map]; rfl
        rw [List.take_of_length_le (by rw [List.length_map]; exact Nat.le_of_eq hl9.symm), hDUf] at hdu3
        clear hlt3 FC NC hls9 hll9 l9 hl9 hm9
        dsimp only at FH NH ⊢
        replace FH : Fr g L' hH (fun y => if y = "due" then some (.ref D1) else m₁ y) := FH
        replace NH : News g L' hH ((D3, PySem.W.listOf fvs3.toArray eH) :: (D1, PySem.W.listOf dvs.toArray eD) :: (I1, oI1) :: (L' + 3, oM) :: (L' + 2, o2) :: (L' + 1, o1) :: (sm, PySem.W.listOf smvs.toArray e9) :: (bx, instObj 151 bd) :: (bd, dictOf es n) :: (ll, PySem.W.listOf (las.map Value.ref).toArray m0) :: (rl, PySem.W.listOf (ras.map Value.ref).toArray r0) :: (tl, PySem.W.listOf #[Value.int top tt] tn) :: (rest ++ imm)) := News.sub NH (fun p hp => by
          rcases List.mem_cons.mp hp with h | h
          · exact h ▸ .head _
          · exact .tail _ (.tail _ h))
        have hdvl : dvs.length ≤ 5 := by rw [hdu.length]; exact hDUl
        try k_fold
        k_extra "MINE stepsS"
        refine LC (cl := [("some", L' + 2)]) rfl rfl (by decide) rfl (by decide) ?_ (by intro _; rfl)
        k_extra "MINE stepsS"
        rename Fr _ _ _ _ => FI
        rename News _ _ _ _ => NI
        refine CompAt.flat g (fun i' ys => IntsAre ys ((DU.take i').filter (fun u => us.any (· == u)))) (.list _ _ (isListOf (NI _ (.tail _ (.head _))).1)) (le_lit hdvl rfl) FI NI (fun _ h => nomatch h) .nil ?turn4 ?done4
        case turn4 =>
          intro g' hg' i' v C D h tk2 m ys its e hi hP hJ hys F₆ N₆
          have hls := hJ
          obtain ⟨u, tu, rfl, hu⟩ := ints_get hdu hP
          have kg1 := nil_stays hg'
          have kg := stays_trans FI.keep kg1
          have X' := X.keeps kg
          have T' := T.keeps kg
          have hc := cellKeeps (cellAt (NI (L' + 2, o2) (by k_extra "MINE mem")).1 ho2) kg1
          have hsm' : g'.IsList sm smvs.toArray := keepsList (isListOf (NI (sm, PySem.W.listOf smvs.toArray e9) (by k_extra "MINE mem")).1) kg1
          have hsz : ys.length ≤ 1000 := Nat.le_trans hys (Nat.le_trans (Nat.le_of_lt hi) (le_lit hdvl rfl))
          clear FI NI X T
          walk1
          refine wpAny_tests_one ?_
          k_extra "MINE stepsS"
          · rename Fr _ _ _ _ => FF
            rename News _ _ _ _ => NN
            rename (List.any us _ = true) => hq
            exact .mk FF NN (by rw [filt_in hu hq]; exact ints_snoc hls _ _)
          · rename Fr _ _ _ _ => FF
            rename News _ _ _ _ => NN
            rename (List.any us _ = false) => hq
            exact .mk FF NN (by rw [filt_out hu hq]; exact hls)
        case done4 =>
          rintro D4 hK tkK fvs4 eK hdu4 hys4 FK NK hlt4
          rw [List.take_of_length_le (Nat.le_of_eq hdu.length.symm)] at hdu4
          clear hlt4 FI NI
          dsimp only at FK NK ⊢
          replace FK : Fr g L' hK (fun y => if y = "due" then some (.ref D1) else m₁ y) := FK
          replace NK : News g L' hK ((D4, PySem.W.listOf fvs4.toArray eK) :: (D3, PySem.W.listOf fvs3.toArray eH) :: (D1, PySem.W.listOf dvs.toArray eD) :: (I1, oI1) :: (L' + 3, oM) :: (L' + 2, o2) :: (L' + 1, o1) :: (sm, PySem.W.listOf smvs.toArray e9) :: (bx, instObj 151 bd) :: (bd, dictOf es n) :: (ll, PySem.W.listOf (las.map Value.ref).toArray m0) :: (rl, PySem.W.listOf (ras.map Value.ref).toArray r0) :: (tl, PySem.W.listOf #[Value.int top tt] tn) :: (rest ++ imm)) := NK
          try k_fold
          k_extra "MINE stepsS"
          refine ne_ints (isListOf (NK _ (.tail _ (.head _))).1) (isListOf (NK _ (.head _)).1) hdu3 hdu4 (by k_extra "MINE room") ?_
          try k_fold
          k_extra "MINE stepsS"
          rename Fr _ _ _ _ => FF
          rename News _ _ _ _ => NN
          refine TurnEnd.next ((L' + 3, oM) :: (L' + 2, o2) :: (L' + 1, o1) :: (sm, PySem.W.listOf smvs.toArray e9) :: (bx, instObj 151 bd) :: (bd, dictOf es n) :: (ll, PySem.W.listOf (las.map Value.ref).toArray m0) :: (rl, PySem.W.listOf (ras.map Value.ref).toArray r0) :: (tl, PySem.W.listOf #[Value.int top tt] tn) :: (rest ++ imm)) FF (News.sub NN (fun p hp => .tail _ (.tail _ (.tail _ hp)))) (one_all (all_cons (Ne.symm nI1) (fun p hp => ha p (.tail _ hp)))) ⟨oM, hq1, hq2, hq3, rfl, _, dM⟩
theorem law3_turn {w : World} {dp : Nat} {un : Nat} {fr : Option (List Env)} {gd : Option (List Code)} {s : Shared} {mean : ExcName → Option Value} {mg : Str → Option Value} {mb : Str → Option Value} {QQ : Flow → Shared → Prop} {g : Heap} {hG : Heap} {L' : Addr} {fa : Addr} {cdv : Addr} {bx : Addr} {bd : Addr} {ll : Addr} {rl : Addr} {tl : Addr} {sm : Addr} {es : List DictEntry} {n : Nat} {m0 : Nat} {r0 : Nat} {tn : Nat} {e9 : Nat} {las : List Addr} {ras : List Addr} {ds : List Let} {smvs : List Value} {o1 : Obj} {o2 : Obj} {nx : Int} {top : Int} {tt : Tok} {imm : List (Addr × Obj)} {rest : List (Addr × Obj)} {us : List Int} {i : Nat} {t : Tok} {m₁ : Str → Option Value} {h₂ : Heap} {tk₂ : Nat} : ∀ {x : Str} {px : Pos} {body : List Stmt} {scope : Scope} (hp : lawInner = some (.Name x px, body, scope)) (W : Wd w.params mean mg mb g) (hst : g.StaysIn g) (X : (hd.heap_39 w.params).In g) (T : TopF mean mg mb g) (hdp : dp + 20 < recursionLimit) (hun : un + 140 < cLine)
    (B : BoxD es ll nx top) (Im : Imm g hG [L', L' + 1, L' + 2, L' + 3, bd, ll, rl, tl] imm) (hds : LetsAt hG las ds) (hrs : RowsAt hG ras ds) (hlen : ds.length ≤ 5) (hsm : IntsAre smvs us) (hsl : us.length ≤ 7) (ho2 : o2.data = .cell (some (.ref sm)))
    (NEs : NE bx (L' + 3) ∧ NE bd (L' + 3) ∧ NE ll (L' + 3) ∧ NE rl (L' + 3) ∧ NE tl (L' + 3) ∧ NE sm (L' + 3)) (hrest : ∀ p ∈ rest, p.1 ≠ L' + 3)
    (news₁ : List (Addr × Obj)) (pI : Addr × Obj)
    (hJ : Law3J L' bx bd ll rl tl sm es n m0 r0 tn e9 las ras smvs o1 o2 top tt imm rest i m₁ news₁) (ha : ∀ p ∈ news₁, p.1 ≠ pI.1) (F₂ : Fr g L' h₂ m₁) (N₂ : News g L' h₂ (pI :: news₁)),
    wpAny (model PySem.Challenge.rw_no0367_01.row.prog w) ((Ar dp un fr gd).deeper (envOfC "law" scope L' fa (.ref cdv))) (assign (.Name x px) (envOfC "law" scope L' fa (.ref cdv)) (.int (i : Int) t))
      (fun _ s₂ => wpAny (model PySem.Challenge.rw_no0367_01.row.prog w) ((Ar dp un fr gd).deeper (envOfC "law" scope L' fa (.ref cdv))) (execs body (envOfC "law" scope L' fa (.ref cdv)))
        (TurnEnd g L' (Law3J L' bx bd ll rl tl sm es n m0 r0 tn e9 las ras smvs o1 o2 top tt imm rest (i + 1)) [pI] s QQ) (fun _ _ => False) s₂) (fun _ _ => False) { s with heap := h₂, toks := tk₂ } :=
  eps_all (P := Law3P) Law3ne (by with_unfolding_all exact Law3c.pf) (w, dp, un, fr, gd, s, mean, mg, mb, QQ, g, hG, L', fa, cdv, bx, bd, ll, rl, tl, sm, es, n, m0, r0, tn, e9, las, ras, ds, smvs, o1, o2, nx, top, tt, imm, rest, us, i, t, m₁, h₂, tk₂)


/-- between the turns of law's loop over the cells -/
inductive Law2J (g : Heap) (L' bx bd ll rl tl sl : Addr) (slo : Obj) (nx : Int) (i : Nat) (m' : Str → Option Value) (news : List (Addr × Obj)) : Prop
  | mk (hG : Heap) (imm : List (Addr × Obj)) (es : List DictEntry) (n m0 r0 tn : Nat) (las ras : List Addr) (ds : List Let) (o1 o2 o3 : Obj) (top : Int) (tt : Tok) (q1 : m' "box" = some (.ref bx)) (q2 : m' "rows" = some (.ref rl)) (q3 : m' "top" = some (.ref tl))
    (hn : news = (L' + 3, o3) :: (L' + 2, o2) :: (L' + 1, o1) :: (sl, slo) :: (bx, instObj 151 bd) :: (bd, dictOf es n) :: (ll, PySem.W.listOf (las.map Value.ref).toArray m0) :: (rl, PySem.W.listOf (ras.map Value.ref).toArray r0) :: (tl, PySem.W.listOf #[Value.int top tt] tn) :: imm)
    (c1 : ∃ v, o1.data = .cell v) (c2 : ∃ v, o2.data = .cell v) (c3 : ∃ v, o3.data = .cell v) (Im : Imm g hG [L', L' + 1, L' + 2, L' + 3, bd, ll, rl, tl] imm) (B : BoxD es ll nx top) (hds : LetsAt hG las ds) (hrs : RowsAt hG ras ds) (hlen : ds.length ≤ 5)
    (hui : ∀ (i : Nat) (d : Let), ds[i]? = some d → d.uid = (i : Int) + 1) (hdu : ∀ d ∈ ds, d.fl.Sublist UNI) (t0 : 0 ≤ top) (t1 : top ≤ 6 + 5 * i) : Law2J g L' bx bd ll rl tl sl slo nx i m' news
/-- the places that law changes differ -/
noncomputable def LawNE (L' bx bd ll rl tl sl : Addr) : Prop :=
  (NE bx bd ∧ NE bx ll ∧ NE bd ll ∧ NE bx rl ∧ NE bx tl ∧ NE bd rl ∧ NE bd tl ∧ NE ll rl ∧ NE ll tl ∧ NE rl tl) ∧
  (NE sl bd ∧ NE sl ll ∧ NE sl rl ∧ NE sl tl) ∧
  (NE bx (L' + 1) ∧ NE bd (L' + 1) ∧ NE ll (L' + 1) ∧ NE rl (L' + 1) ∧ NE tl (L' + 1) ∧ NE sl (L' + 1)) ∧ (NE bx (L' + 2) ∧ NE bd (L' + 2) ∧ NE ll (L' + 2) ∧ NE rl (L' + 2) ∧ NE tl (L' + 2) ∧ NE sl (L' + 2)) ∧ (NE bx (L' + 3) ∧ NE bd (L' + 3) ∧ NE ll (L' + 3) ∧ NE rl (L' + 3) ∧ NE tl (L' + 3) ∧ NE sl (L' + 3))
theorem notin4 {x a b c d : Addr} (h1 : NE x a) (h2 : NE x b) (h3 : NE x c) (h4 : NE x d) : x ∉ [a, b, c, d] := fun h => by
  rcases List.mem_cons.mp h with q | h
  · exact h1 q
  rcases List.mem_cons.mp h with q | h
  · exact h2 q
  rcases List.mem_cons.mp h with q | h
  · exact h3 q
  exact h4 (List.mem_singleton.mp h)
theorem top5 {top : Int} {i : Nat} (hi : i < 6) (h : top ≤ 6 + 5 * (i : Int)) : top < 500 := Int.lt_of_le_of_lt h (Int.lt_of_le_of_lt (Int.add_le_add_left (Int.mul_le_mul_of_nonneg_left (Int.ofNat_le.mpr (Nat.le_of_lt_succ hi)) (by decide)) 6) (by decide))
theorem top_up {top top2 : Int} {i : Nat} (h : top ≤ 6 + 5 * (i : Int)) (h2 : top2 ≤ top + 5) : top2 ≤ 6 + 5 * ((i + 1 : Nat) : Int) := Int.le_trans h2 (Int.le_trans (Int.add_le_add_right h 5) (Int.le_of_eq (by rw [Int.natCast_add, Int.mul_add, Int.add_assoc]; rfl)))
theorem top_n {top top2 : Int} (h : top < 500) (h2 : top2 ≤ top + 5) : (top2 + 2).toNat ≤ 1000 := Int.toNat_le.mpr (Int.le_trans (Int.add_le_add_right h2 2) (Int.le_trans (Int.add_le_add_right (Int.add_le_add_right (Int.le_of_lt h) 5) 2) (by decide)))
noncomputable def L2G (w : World) (dp : Nat) (un : Nat) (fr : Option (List Env)) (gd : Option (List Code)) (s : Shared) (mean : ExcName → Option Value) (mg : Str → Option Value) (mb : Str → Option Value) (QQ : Flow → Shared → Prop) (g : Heap) (L' : Addr) (fa : Addr) (cdv : Addr) (bx : Addr) (bd : Addr) (ll : Addr) (rl : Addr) (tl : Addr) (sl : Addr) (slo : Obj) (nx : Int) (i : Nat) (c : Int) (t : Tok) (m₁ : Str → Option Value) (h₂ : Heap) (tk₂ : Nat) (hG : Heap) (imm : List (Addr × Obj)) (es : List DictEntry) (n : Nat) (m0 : Nat) (r0 : Nat) (tn : Nat) (las : List Addr) (ras : List Addr) (ds : List Let) (o1 : Obj) (o2 : Obj) (o3 : Obj) (oI1 : Obj) (top : Int) (tt : Tok) (I1 : Addr) : Prop := ∀ {x : Str} {px : Pos} {body : List Stmt} {scope : Scope} (hp : lawLoop 5 = some (.Name x px, body, scope)) (W : Wd w.params mean mg mb g) (hst : g.StaysIn g) (X : (hd.heap_39 w.params).In g) (T : TopF mean mg mb g) (hdp : dp + 30 < recursionLimit) (hun : un + 240 < cLine)
    (NEs : LawNE L' bx bd ll rl tl sl) (hi6 : i < 6) (hq1 : m₁ "box" = some (.ref bx)) (hq2 : m₁ "rows" = some (.ref rl)) (hq3 : m₁ "top" = some (.ref tl))
    (hw1 : ∃ v, o1.data = .cell v) (hw2 : ∃ v, o2.data = .cell v) (hw3 : ∃ v, o3.data = .cell v) (Im : Imm g hG [L', L' + 1, L' + 2, L' + 3, bd, ll, rl, tl] imm) (B : BoxD es ll nx top) (hds : LetsAt hG las ds) (hrs : RowsAt hG ras ds) (hlen : ds.length ≤ 5)
    (hui : ∀ (i : Nat) (d : Let), ds[i]? = some d → d.uid = (i : Int) + 1) (hdu : ∀ d ∈ ds, d.fl.Sublist UNI) (htp0 : 0 ≤ top) (htp1 : top ≤ 6 + 5 * i)
    (ha : ∀ p ∈ (L' + 3, o3) :: (L' + 2, o2) :: (L' + 1, o1) :: (sl, slo) :: (bx, instObj 151 bd) :: (bd, dictOf es n) :: (ll, PySem.W.listOf (las.map Value.ref).toArray m0) :: (rl, PySem.W.listOf (ras.map Value.ref).toArray r0) :: (tl, PySem.W.listOf #[Value.int top tt] tn) :: imm, p.1 ≠ I1) (F₂ : Fr g L' h₂ m₁) (N₂ : News g L' h₂ ((I1, oI1) :: (L' + 3, o3) :: (L' + 2, o2) :: (L' + 1, o1) :: (sl, slo) :: (bx, instObj 151 bd) :: (bd, dictOf es n) :: (ll, PySem.W.listOf (las.map Value.ref).toArray m0) :: (rl, PySem.W.listOf (ras.map Value.ref).toArray r0) :: (tl, PySem.W.listOf #[Value.int top tt] tn) :: imm)),
    wpAny (model PySem.Challenge.rw_no0367_01.row.prog w) ((Ar dp un fr gd).deeper (envOfC "law" scope L' fa (.ref cdv))) (assign (.Name x px) (envOfC "law" scope L' fa (.ref cdv)) (.int c t))
      (fun _ s₂ => wpAny (model PySem.Challenge.rw_no0367_01.row.prog w) ((Ar dp un fr gd).deeper (envOfC "law" scope L' fa (.ref cdv))) (execs body (envOfC "law" scope L' fa (.ref cdv)))
        (TurnEnd g L' (Law2J g L' bx bd ll rl tl sl slo nx (i + 1)) [(I1, oI1)] s QQ) (fun _ _ => False) s₂) (fun _ _ => False) { s with heap := h₂, toks := tk₂ }
noncomputable abbrev L2K : Type _ := (World) × (Nat) × (Nat) × (Option (List Env)) × (Option (List Code)) × (Shared) × (ExcName → Option Value) × (Str → Option Value) × (Str → Option Value) × (Flow → Shared → Prop) × (Heap) × (Addr) × (Addr) × (Addr) × (Addr) × (Addr) × (Addr) × (Addr) × (Addr) × (Addr) × (Obj) × (Int) × (Nat) × (Int) × (Tok) × (Str → Option Value) × (Heap) × (Nat) × (Heap) × (List (Addr × Obj)) × (List DictEntry) × (Nat) × (Nat) × (Nat) × (Nat) × (List Addr) × (List Addr) × (List Let) × (Obj) × (Obj) × (Obj) × (Obj) × (Int) × (Tok) × (Addr)
noncomputable def L2P (k : L2K) : Prop := L2G (k.1) (k.2.1) (k.2.2.1) (k.2.2.2.1) (k.2.2.2.2.1) (k.2.2.2.2.2.1) (k.2.2.2.2.2.2.1) (k.2.2.2.2.2.2.2.1) (k.2.2.2.2.2.2.2.2.1) (k.2.2.2.2.2.2.2.2.2.1) (k.2.2.2.2.2.2.2.2.2.2.1) (k.2.2.2.2.2.2.2.2.2.2.2.1) (k.2.2.2.2.2.2.2.2.2.2.2.2.1) (k.2.2.2.2.2.2.2.2.2.2.2.2.2.1) (k.2.2.2.2.2.2.2.2.2.2.2.2.2.2.1) (k.2.2.2.2.2.2.2.2.2.2.2.2.2.2.2.1) (k.2.2.2.2.2.2.2.2.2.2.2.2.2.2.2.2.1) (k.2.2.2.2.2.2.2.2.2.2.2.2.2.2.2.2.2.1) (k.2.2.2.2.2.2.2.2.2.2.2.2.2.2.2.2.2.2.1) (k.2.2.2.2.2.2.2.2.2.2.2.2.2.2.2.2.2.2.2.1) (k.2.2.2.2.2.2.2.2.2.2.2.2.2.2.2.2.2.2.2.2.1) (k.2.2.2.2.2.2.2.2.2.2.2.2.2.2.2.2.2.2.2.2.2.1) (k.2.2.2.2.2.2.2.2.2.2.2.2.2.2.2.2.2.2.2.2.2.2.1) (k.2.2.2.2.2.2.2.2.2.2.2.2.2.2.2.2.2.2.2.2.2.2.2.1) (k.2.2.2.2.2.2.2.2.2.2.2.2.2.2.2.2.2.2.2.2.2.2.2.2.1) (k.2.2.2.2.2.2.2.2.2.2.2.2.2.2.2.2.2.2.2.2.2.2.2.2.2.1) (k.2.2.2.2.2.2.2.2.2.2.2.2.2.2.2.2.2.2.2.2.2.2.2.2.2.2.1) (k.2.2.2.2.2.2.2.2.2.2.2.2.2.2.2.2.2.2.2.2.2.2.2.2.2.2.2.1) (k.2.2.2.2.2.2.2.2.2.2.2.2.2.2.2.2.2.2.2.2.2.2.2.2.2.2.2.2.1) (k.2.2.2.2.2.2.2.2.2.2.2.2.2.2.2.2.2.2.2.2.2.2.2.2.2.2.2.2.2.1) (k.2.2.2.2.2.2.2.2.2.2.2.2.2.2.2.2.2.2.2.2.2.2.2.2.2.2.2.2.2.2.1) (k.2.2.2.2.2.2.2.2.2.2.2.2.2.2.2.2.2.2.2.2.2.2.2.2.2.2.2.2.2.2.2.1) (k.2.2.2.2.2.2.2.2.2.2.2.2.2.2.2.2.2.2.2.2.2.2.2.2.2.2.2.2.2.2.2.2.1) (k.2.2.2.2.2.2.2.2.2.2.2.2.2.2.2.2.2.2.2.2.2.2.2.2.2.2.2.2.2.2.2.2.2.1) (k.2.2.2.2.2.2.2.2.2.2.2.2.2.2.2.2.2.2.2.2.2.2.2.2.2.2.2.2.2.2.2.2.2.2.1) (k.2.2.2.2.2.2.2.2.2.2.2.2.2.2.2.2.2.2.2.2.2.2.2.2.2.2.2.2.2.2.2.2.2.2.2.1) (k.2.2.2.2.2.2.2.2.2.2.2.2.2.2.2.2.2.2.2.2.2.2.2.2.2.2.2.2.2.2.2.2.2.2.2.2.1) (k.2.2.2.2.2.2.2.2.2.2.2.2.2.2.2.2.2.2.2.2.2.2.2.2.2.2.2.2.2.2.2.2.2.2.2.2.2.1) (k.2.2.2.2.2.2.2.2.2.2.2.2.2.2.2.2.2.2.2.2.2.2.2.2.2.2.2.2.2.2.2.2.2.2.2.2.2.2.1) (k.2.2.2.2.2.2.2.2.2.2.2.2.2.2.2.2.2.2.2.2.2.2.2.2.2.2.2.2.2.2.2.2.2.2.2.2.2.2.2.1) (k.2.2.2.2.2.2.2.2.2.2.2.2.2.2.2.2.2.2.2.2.2.2.2.2.2.2.2.2.2.2.2.2.2.2.2.2.2.2.2.2.1) (k.2.2.2.2.2.2.2.2.2.2.2.2.2.2.2.2.2.2.2.2.2.2.2.2.2.2.2.2.2.2.2.2.2.2.2.2.2.2.2.2.2.1) (k.2.2.2.2.2.2.2.2.2.2.2.2.2.2.2.2.2.2.2.2.2.2.2.2.2.2.2.2.2.2.2.2.2.2.2.2.2.2.2.2.2.2.1) (k.2.2.2.2.2.2.2.2.2.2.2.2.2.2.2.2.2.2.2.2.2.2.2.2.2.2.2.2.2.2.2.2.2.2.2.2.2.2.2.2.2.2.2.1) (k.2.2.2.2.2.2.2.2.2.2.2.2.2.2.2.2.2.2.2.2.2.2.2.2.2.2.2.2.2.2.2.2.2.2.2.2.2.2.2.2.2.2.2.2)
theorem L2ne : Nonempty L2K := ⟨((wd0 : World), (0 : Nat), (0 : Nat), (none : Option (List Env)), (none : Option (List Code)), ({} : Shared), (fun _ => none : ExcName → Option Value), (fun _ => none : Str → Option Value), (fun _ => none : Str → Option Value), (fun _ _ => True : Flow → Shared → Prop), ({} : Heap), (0 : Addr), (0 : Addr), (0 : Addr), (0 : Addr), (0 : Addr), (0 : Addr), (0 : Addr), (0 : Addr), (0 : Addr), (default : Obj), (0 : Int), (0 : Nat), (0 : Int), (0 : Tok), (fun _ => none : Str → Option Value), ({} : Heap), (0 : Nat), ({} : Heap), ([] : List (Addr × Obj)), ([] : List DictEntry), (0 : Nat), (0 : Nat), (0 : Nat), (0 : Nat), ([] : List Addr), ([] : List Addr), ([] : List Let), (default : Obj), (default : Obj), (default : Obj), (default : Obj), (0 : Int), (0 : Tok), (0 : Addr))⟩
@[irreducible] noncomputable def L2k : L2K := @Classical.epsilon _ L2ne fun k => ¬ L2P k
namespace L2c
@[irreducible] noncomputable def w : World := L2k.1
@[irreducible] noncomputable def dp : Nat := L2k.2.1
@[irreducible] noncomputable def un : Nat := L2k.2.2.1
@[irreducible] noncomputable def fr : Option (List Env) := L2k.2.2.2.1
@[irreducible] noncomputable def gd : Option (List Code) := L2k.2.2.2.2.1
@[irreducible] noncomputable def s : Shared := L2k.2.2.2.2.2.1
@[irreducible] noncomputable def mean : ExcName → Option Value := L2k.2.2.2.2.2.2.1
@[irreducible] noncomputable def mg : Str → Option Value := L2k.2.2.2.2.2.2.2.1
@[irreducible] noncomputable def mb : Str → Option Value := L2k.2.2.2.2.2.2.2.2.1
@[irreducible] noncomputable def QQ : Flow → Shared → Prop := L2k.2.2.2.2.2.2.2.2.2.1
@[irreducible] noncomputable def g : Heap := L2k.2.2.2.2.2.2.2.2.2.2.1
@[irreducible] noncomputable def L' : Addr := L2k.2.2.2.2.2.2.2.2.2.2.2.1
@[irreducible] noncomputable def fa : Addr := L2k.2.2.2.2.2.2.2.2.2.2.2.2.1
@[irreducible] noncomputable def cdv : Addr := L2k.2.2.2.2.2.2.2.2.2.2.2.2.2.1
@[irreducible] noncomputable def bx : Addr := L2k.2.2.2.2.2.2.2.2.2.2.2.2.2.2.1
@[irreducible] noncomputable def bd : Addr := L2k.2.2.2.2.2.2.2.2.2.2.2.2.2.2.2.1
@[irreducible] noncomputable def ll : Addr := L2k.2.2.2.2.2.2.2.2.2.2.2.2.2.2.2.2.1
@[irreducible] noncomputable def rl : Addr := L2k.2.2.2.2.2.2.2.2.2.2.2.2.2.2.2.2.2.1
@[irreducible] noncomputable def tl : Addr := L2k.2.2.2.2.2.2.2.2.2.2.2.2.2.2.2.2.2.2.1
@[irreducible] noncomputable def sl : Addr := L2k.2.2.2.2.2.2.2.2.2.2.2.2.2.2.2.2.2.2.2.1
@[irreducible] noncomputable def slo : Obj := L2k.2.2.2.2.2.2.2.2.2.2.2.2.2.2.2.2.2.2.2.2.1
@[irreducible] noncomputable def nx : Int := L2k.2.2.2.2.2.2.2.2.2.2.2.2.2.2.2.2.2.2.2.2.2.1
@[irreducible] noncomputable def i : Nat := L2k.2.2.2.2.2.2.2.2.2.2.2.2.2.2.2.2.2.2.2.2.2.2.1
@[irreducible] noncomputable def c : Int := L2k.2.2.2.2.2.2.2.2.2.2.2.2.2.2.2.2.2.2.2.2.2.2.2.1
@[irreducible] noncomputable def t : Tok := L2k.2.2.2.2.2.2.2.2.2.2.2.2.2.2.2.2.2.2.2.2.2.2.2.2.1
@[irreducible] noncomputable def m₁ : Str → Option Value := L2k.2.2.2.2.2.2.2.2.2.2.2.2.2.2.2.2.2.2.2.2.2.2.2.2.2.1
@[irreducible] noncomputable def h₂ : Heap := L2k.2.2.2.2.2.2.2.2.2.2.2.2.2.2.2.2.2.2.2.2.2.2.2.2.2.2.1
@[irreducible] noncomputable def tk₂ : Nat := L2k.2.2.2.2.2.2.2.2.2.2.2.2.2.2.2.2.2.2.2.2.2.2.2.2.2.2.2.1
@[irreducible] noncomputable def hG : Heap := L2k.2.2.2.2.2.2.2.2.2.2.2.2.2.2.2.2.2.2.2.2.2.2.2.2.2.2.2.2.1
@[irreducible] noncomputable def imm : List (Addr × Obj) := L2k.2.2.2.2.2.2.2.2.2.2.2.2.2.2.2.2.2.2.2.2.2.2.2.2.2.2.2.2.2.1
@[irreducible] noncomputable def es : List DictEntry := L2k.2.2.2.2.2.2.2.2.2.2.2.2.2.2.2.2.2.2.2.2.2.2.2.2.2.2.2.2.2.2.1
@[irreducible] noncomputable def n : Nat := L2k.2.2.2.2.2.2.2.2.2.2.2.2.2.2.2.2.2.2.2.2.2.2.2.2.2.2.2.2.2.2.2.1
@[irreducible] noncomputable def m0 : Nat := L2k.2.2.2.2.2.2.2.2.2.2.2.2.2.2.2.2.2.2.2.2.2.2.2.2.2.2.2.2.2.2.2.2.1
@[irreducible] noncomputable def r0 : Nat := L2k.2.2.2.2.2.2.2.2.2.2.2.2.2.2.2.2.2.2.2.2.2.2.2.2.2.2.2.2.2.2.2.2.2.1
@[irreducible] noncomputable def tn : Nat := L2k.2.2.2.2.2.2.2.2.2.2.2.2.2.2.2.2.2.2.2.2.2.2.2.2.2.2.2.2.2.2.2.2.2.2.1
@[irreducible] noncomputable def las : List Addr := L2k.2.2.2.2.2.2.2.2.2.2.2.2.2.2.2.2.2.2.2.2.2.2.2.2.2.2.2.2.2.2.2.2.2.2.2.1
@[irreducible] noncomputable def ras : List Addr := L2k.2.2.2.2.2.2.2.2.2.2.2.2.2.2.2.2.2.2.2.2.2.2.2.2.2.2.2.2.2.2.2.2.2.2.2.2.1
@[irreducible] noncomputable def ds : List Let := L2k.2.2.2.2.2.2.2.2.2.2.2.2.2.2.2.2.2.2.2.2.2.2.2.2.2.2.2.2.2.2.2.2.2.2.2.2.2.1
@[irreducible] noncomputable def o1 : Obj := L2k.2.2.2.2.2.2.2.2.2.2.2.2.2.2.2.2.2.2.2.2.2.2.2.2.2.2.2.2.2.2.2.2.2.2.2.2.2.2.1
@[irreducible] noncomputable def o2 : Obj := L2k.2.2.2.2.2.2.2.2.2.2.2.2.2.2.2.2.2.2.2.2.2.2.2.2.2.2.2.2.2.2.2.2.2.2.2.2.2.2.2.1
@[irreducible] noncomputable def o3 : Obj := L2k.2.2.2.2.2.2.2.2.2.2.2.2.2.2.2.2.2.2.2.2.2.2.2.2.2.2.2.2.2.2.2.2.2.2.2.2.2.2.2.2.1
@[irreducible] noncomputable def oI1 : Obj := L2k.2.2.2.2.2.2.2.2.2.2.2.2.2.2.2.2.2.2.2.2.2.2.2.2.2.2.2.2.2.2.2.2.2.2.2.2.2.2.2.2.2.1
@[irreducible] noncomputable def top : Int := L2k.2.2.2.2.2.2.2.2.2.2.2.2.2.2.2.2.2.2.2.2.2.2.2.2.2.2.2.2.2.2.2.2.2.2.2.2.2.2.2.2.2.2.1
@[irreducible] noncomputable def tt : Tok := L2k.2.2.2.2.2.2.2.2.2.2.2.2.2.2.2.2.2.2.2.2.2.2.2.2.2.2.2.2.2.2.2.2.2.2.2.2.2.2.2.2.2.2.2.1
@[irreducible] noncomputable def I1 : Addr := L2k.2.2.2.2.2.2.2.2.2.2.2.2.2.2.2.2.2.2.2.2.2.2.2.2.2.2.2.2.2.2.2.2.2.2.2.2.2.2.2.2.2.2.2.2
theorem pf : L2G w dp un fr gd s mean mg mb QQ g L' fa cdv bx bd ll rl tl sl slo nx i c t m₁ h₂ tk₂ hG imm es n m0 r0 tn las ras ds o1 o2 o3 oI1 top tt I1 := by
  unfold L2G
  intro x px body scope hp W hst X T hdp hun NEs hi6 hq1 hq2 hq3 hw1 hw2 hw3 Im B hds hrs hlen hui hdu htp0 htp1 ha F₂ N₂
  conv at hp => lhs; whnf
  dsimp only at hp
  simp only [Option.some.injEq, Prod.mk.injEq, Expr.Name.injEq] at hp
  obtain ⟨⟨rfl, rfl⟩, rfl, rfl⟩ := hp
  obtain ⟨v1, hv1⟩ := hw1
  obtain ⟨v2, hv2⟩ := hw2
  obtain ⟨v3, hv3⟩ := hw3
  obtain ⟨⟨d1, d2, d3, d4, d5, d6⟩, ⟨d7, d8, d9, d10, d11, d12⟩, d13, d14, d15, d16, d17, d18⟩ := NEs.2.2
  obtain ⟨⟨n1, n2, n3, n4, n5, n6, n7, n8, n9, n10⟩, ⟨n11, n12, n13, n14⟩, _⟩ := NEs
  have nI : ∀ p ∈ (L' + 3, o3) :: (L' + 2, o2) :: (L' + 1, o1) :: (sl, slo) :: (bx, instObj 151 bd) :: (bd, dictOf es n) :: (ll, PySem.W.listOf (las.map Value.ref).toArray m0) :: (rl, PySem.W.listOf (ras.map Value.ref).toArray r0) :: (tl, PySem.W.listOf #[Value.int top tt] tn) :: imm, NE p.1 I1 := fun p hp => ha p hp
  have k1 : NE I1 (L' + 1) := (nI (L' + 1, o1) (by k_extra "MINE mem")).symm
  have k2 : NE I1 (L' + 2) := (nI (L' + 2, o2) (by k_extra "MINE mem")).symm
  have k3 : NE I1 (L' + 3) := (nI (L' + 3, o3) (by k_extra "MINE mem")).symm
  have c1 : NE (L' + 2) (L' + 1) := Nat.ne_of_gt (Nat.lt_succ_self _)
  have c2 : NE (L' + 3) (L' + 1) := Nat.ne_of_gt (Nat.lt_succ_of_lt (Nat.lt_succ_self _))
  have c3 : NE (L' + 3) (L' + 2) := Nat.ne_of_gt (Nat.lt_succ_self _)
  have i1 := Im.ne (b := L' + 1) (by k_extra "MINE mem")
  have i2 := Im.ne (b := L' + 2) (by k_extra "MINE mem")
  have i3 := Im.ne (b := L' + 3) (by k_extra "MINE mem")
  try k_fold
  k_extra "MINE stepsS"
  rename_i hA oC FA NA dC
  have htp5 : top < 500 := top5 hi6 htp1
  refine law_store_spec (H0 := g) (hG := hG) (nx := nx) (top := top) (es := es) (ds := ds) W FA.keep (by k_extra "MINE room") (by k_extra "MINE room") (NA (bx, instObj 151 bd) (by k_extra "MINE mem")).1 (NA (bd, dictOf es n) (by k_extra "MINE mem")).1 B (NA (ll, PySem.W.listOf (las.map Value.ref).toArray m0) (by k_extra "MINE mem")).1 (NA (rl, PySem.W.listOf (ras.map Value.ref).toArray r0) (by k_extra "MINE mem")).1 (NA (tl, PySem.W.listOf #[Value.int top tt] tn) (by k_extra "MINE mem")).1 n1 n2 n3 n4 n5 n6 n7 n8 n9 n10
    (NA (bd, dictOf es n) (by k_extra "MINE mem")).2.2 (NA (ll, PySem.W.listOf (las.map Value.ref).toArray m0) (by k_extra "MINE mem")).2.2 (NA (rl, PySem.W.listOf (ras.map Value.ref).toArray r0) (by k_extra "MINE mem")).2.2 (NA (tl, PySem.W.listOf #[Value.int top tt] tn) (by k_extra "MINE mem")).2.2
    (Im.stays (fun _ _ e => e) FA NA (by k_extra "MINE sub")) (Im.apart _ (by k_extra "MINE mem")) (Im.apart _ (by k_extra "MINE mem")) (Im.apart _ (by k_extra "MINE mem")) (Im.apart _ (by k_extra "MINE mem")) hds hrs hlen hui hdu ⟨htp0, htp5⟩ ?_
  intro hB tkB es2 n2' m2 r2 t2 tt2 las2 ras2 ds2 top2 kk e1 B2 e2 e3 e4 hds2 hrs2 hl2 hui2 hdu2 htop2
  have ImI := Im.more (b := I1) (NA (I1, oI1) (.head _)).2.2 (fun p hp => ha p (by repeat (first | with_reducible exact hp | with_reducible apply List.mem_cons_of_mem)))
  refine mutL (ms := [bd, ll, rl, tl]) ((I1, oI1) :: (L' + 3, o3) :: (L' + 2, o2) :: (L' + 1, oC) :: (sl, slo) :: (bx, instObj 151 bd) :: (bd, dictOf es2 n2') :: (ll, PySem.W.listOf (las2.map Value.ref).toArray m2) :: (rl, PySem.W.listOf (ras2.map Value.ref).toArray r2) :: [(tl, PySem.W.listOf #[Value.int top2 tt2] t2)]) FA NA ImI (fun _ _ e => e) (by k_extra "MINE sub") ?hms (by (repeat (refine all_cons (by k_extra "MINE mem") ?_)); first | exact List.forall_mem_nil _ | exact fun p hp => (by repeat (first | with_reducible exact hp | with_reducible exact List.mem_append_right _ hp | with_reducible apply List.mem_cons_of_mem | exact hp))) (by k_extra "MINE mem") (ImI.live2 FA NA (by (repeat (refine all_cons (by first | exact .inl rfl | exact .inr ⟨_, (by k_extra "MINE mem")⟩) ?_)); exact List.forall_mem_nil _)) kk ?h1 ?_
  case hms => exact all_cons ((NA (bd, dictOf es n) (by k_extra "MINE mem")).2) (all_cons ((NA (ll, PySem.W.listOf (las.map Value.ref).toArray m0) (by k_extra "MINE mem")).2) (all_cons ((NA (rl, PySem.W.listOf (ras.map Value.ref).toArray r0) (by k_extra "MINE mem")).2) (all_cons ((NA (tl, PySem.W.listOf #[Value.int top tt] tn) (by k_extra "MINE mem")).2) (List.forall_mem_nil _))))
  case h1 =>
    refine all_cons (.inr ⟨(by k_extra "MINE mem"), notin4 (nI (bd, dictOf es n) (by k_extra "MINE mem")).symm (nI (ll, PySem.W.listOf (las.map Value.ref).toArray m0) (by k_extra "MINE mem")).symm (nI (rl, PySem.W.listOf (ras.map Value.ref).toArray r0) (by k_extra "MINE mem")).symm (nI (tl, PySem.W.listOf #[Value.int top tt] tn) (by k_extra "MINE mem")).symm⟩) ?_
    refine all_cons (.inr ⟨(by k_extra "MINE mem"), notin4 d14.symm d15.symm d16.symm d17.symm⟩) ?_
    refine all_cons (.inr ⟨(by k_extra "MINE mem"), notin4 d8.symm d9.symm d10.symm d11.symm⟩) ?_
    refine all_cons (.inr ⟨(by k_extra "MINE mem"), notin4 d2.symm d3.symm d4.symm d5.symm⟩) ?_
    refine all_cons (.inr ⟨(by k_extra "MINE mem"), notin4 n11 n12 n13 n14⟩) ?_
    refine all_cons (.inr ⟨(by k_extra "MINE mem"), notin4 n1 n2 n4 n5⟩) ?_
    exact all_cons (.inl ⟨(by k_extra "MINE mem"), e1⟩) (all_cons (.inl ⟨(by k_extra "MINE mem"), e2⟩) (all_cons (.inl ⟨(by k_extra "MINE mem"), e3⟩) (all_cons (.inl ⟨(by k_extra "MINE mem"), e4⟩) (List.forall_mem_nil _))))
  intro imm2 Im3 FB NB kGB
  have Im2 : Imm g _ [L', L' + 1, L' + 2, L' + 3, bd, ll, rl, tl] imm2 := Im3.less (fun b hb => .tail _ hb)
  have i7 := Im3.ne (b := I1) (by k_extra "MINE mem")
  generalize lift hG hA hB = hG2 at *
  dsimp only [List.cons_append, List.nil_append] at NB
  have i4 := Im2.ne (b := L' + 1) (by k_extra "MINE mem")
  have i5 := Im2.ne (b := L' + 2) (by k_extra "MINE mem")
  have i6 := Im2.ne (b := L' + 3) (by k_extra "MINE mem")
  have hl25 : ds2.length ≤ 5 := hl2 ▸ hlen
  have htp20 : 0 ≤ top2 := Int.le_trans htp0 htop2.1
  clear FA NA kk hds hrs B hui hdu Im ImI i1 i2 i3
  try dsimp only
  try k_fold
  k_extra "MINE stepsS"
  walk1
  refine LC (cl := [("cell", L' + 1)]) rfl rfl (by decide) rfl (by decide) ?_ (by intro _; rfl)
  k_extra "MINE stepsS"
  rename_i hC tkC t91 t92 t93 hR FC NC kC
  refine CompAt.flat (n := 7) g IuJ (.range _ _ hR rfl (lit_le rfl)) (lit_le rfl) FC NC (fun _ h => nomatch h) (.mk [] .nil (Nat.le_refl _)) ?turn1 ?done1
  case turn1 =>
    intro g' hg' i' v C D h tk2 m ys its e hi hP hJ hys F₆ N₆
    obtain ⟨us, hus, husl⟩ := hJ
    obtain ⟨t', rfl⟩ := hP
    have kg1 := nil_stays hg'
    have kg := stays_trans FC.keep kg1
    have X' := X.keeps kg
    have T' := T.keeps kg
    have hc := cellKeeps (cellAt (NC (L' + 1, oC) (by k_extra "MINE mem")).1 dC) kg1
    have hi7 : i' < 7 := hi
    have hsz : ys.length ≤ 1000 := Nat.le_trans hys (ltle_lit hi7 rfl)
    have hub : 0 ≤ (i' : Int) ∧ (i' : Int) ≤ 6 := ⟨Int.natCast_nonneg _, Int.ofNat_le.mpr (Nat.le_of_lt_succ hi7)⟩
    have hub1 : (i' : Int) < 9000 := Int.ofNat_lt.mpr (ltlt_lit hi7 rfl)
    have hub2 : (i' : Int) ≤ 1000000 := Int.ofNat_le.mpr (ltle_lit hi7 rfl)
    clear FC NC X T
    walk1
    refine wpAny_tests_one ?_
    k_extra "MINE stepsS"
    · rename Fr _ _ _ _ => FF
      rename News _ _ _ _ => NN
      exact .mk FF NN (.mk (us ++ [(i' : Int)]) (ints_snoc hus _ _) (by rw [List.length_append]; exact Nat.succ_le_succ husl))
    · rename Fr _ _ _ _ => FF
      rename News _ _ _ _ => NN
      exact .mk FF NN (.mk us hus (Nat.le_succ_of_le husl))
  case done1 =>
    rintro sm hD tkD smvs e9 ⟨us, hus, husl⟩ hys FD ND hlt
    try dsimp only [List.nil_append] at hlt
    have z2 : NE sm (L' + 2) := Nat.ne_of_gt (hlt (L' + 2, o2) (by k_extra "MINE mem"))
    have z3 : NE sm (L' + 3) := Nat.ne_of_gt (hlt (L' + 3, o3) (by k_extra "MINE mem"))
    dsimp only at FD ND ⊢
    replace FD : Fr g L' hD m₁ := FD
    replace ND : News g L' hD ((sm, PySem.W.listOf smvs.toArray e9) :: (I1, oI1) :: (L' + 3, o3) :: (L' + 2, o2) :: (L' + 1, oC) :: (sl, slo) :: (bx, instObj 151 bd) :: (bd, dictOf es2 n2') :: (ll, PySem.W.listOf (las2.map Value.ref).toArray m2) :: (rl, PySem.W.listOf (ras2.map Value.ref).toArray r2) :: (tl, PySem.W.listOf #[Value.int top2 tt2] t2) :: imm2) := ND
    clear FC NC hR kC
    try k_fold
    k_extra "MINE stepsS"
    refine For_it (s := s) (g := g) rfl ?_ (by intro _; rfl) .never
    k_extra "MINE stepsS"
    rename_i hE oE FE0 NE0 dE hF tkF t94 t95 t96 hRF FF NF kF
    have htn : ((top2 + 2).toNat : Int) = top2 + 2 := Int.toNat_of_nonneg (Int.add_nonneg htp20 (by decide))
    have htn2 : (top2 + 2).toNat ≤ 1000 := top_n htp5 htop2.2
    refine range_at (top2 + 2).toNat m₁ ((L' + 3, o3) :: (L' + 2, oE) :: (L' + 1, oC) :: (sm, PySem.W.listOf smvs.toArray e9) :: (bx, instObj 151 bd) :: (bd, dictOf es2 n2') :: (ll, PySem.W.listOf (las2.map Value.ref).toArray m2) :: (rl, PySem.W.listOf (ras2.map Value.ref).toArray r2) :: (tl, PySem.W.listOf #[Value.int top2 tt2] t2) :: ([(I1, oI1), (sl, slo)] ++ imm2))
      (Law3J L' bx bd ll rl tl sm es2 n2' m2 r2 t2 e9 las2 ras2 smvs oC oE top2 tt2 imm2 [(I1, oI1), (sl, slo)]) _ _ _ rfl rfl hRF htn.symm htn2 FF (News.sub NF (by (repeat (refine all_cons (by k_extra "MINE mem") ?_)); first | exact List.forall_mem_nil _ | exact fun p hp => (by repeat (first | with_reducible exact hp | with_reducible exact List.mem_append_right _ hp | with_reducible apply List.mem_cons_of_mem | exact hp)))) ⟨o3, hq1, hq2, hq3, rfl, _, hv3⟩ ?turn ?done
    case turn =>
      intro i3 t3 m3 news3 h3 tk3 pI3 hi3 hJ3 ha3 F3 N3
      exact law3_turn rfl W hst X T (by k_extra "MINE room") (by k_extra "MINE room") B2 Im2 hds2 hrs2 hl25 hus husl dE ⟨d13, d14, d15, d16, d17, z3⟩ (rest := [(I1, oI1), (sl, slo)]) (all_cons k3 (all_cons d18 (List.forall_mem_nil _))) news3 pI3 hJ3 ha3 F3 N3
    case done =>
      rintro m3 news3 h3 tk3 F3 N3 ⟨o4, hr1, hr2, hr3, rfl, v4, hv4⟩
      replace F3 : Fr g L' h3 m3 := F3
      replace N3 : News g L' h3 ((L' + 3, o4) :: (L' + 2, oE) :: (L' + 1, oC) :: (sm, PySem.W.listOf smvs.toArray e9) :: (bx, instObj 151 bd) :: (bd, dictOf es2 n2') :: (ll, PySem.W.listOf (las2.map Value.ref).toArray m2) :: (rl, PySem.W.listOf (ras2.map Value.ref).toArray r2) :: (tl, PySem.W.listOf #[Value.int top2 tt2] t2) :: ([(I1, oI1), (sl, slo)] ++ imm2)) := N3
      clear FF NF kF hRF FE0 NE0
      have q1 : las2.length ≤ 100 := Nat.le_trans (Nat.le_of_eq hds2.len) (le_lit hl25 rfl)
      have q2 : (ras2.map Value.ref).length ≤ 5 := by rw [List.length_map, hrs2.len]; exact hl25
      have q3 : smvs.length ≤ 7 := hys
      replace N3 : News g L' h3 ((L' + 3, o4) :: (L' + 2, oE) :: (L' + 1, oC) :: (sm, PySem.W.listOf smvs.toArray e9) :: (bx, instObj 151 bd) :: (bd, dictOf es2 n2') :: (ll, PySem.W.listOf (las2.map Value.ref).toArray m2) :: (rl, PySem.W.listOf (ras2.map Value.ref).toArray r2) :: (tl, PySem.W.listOf #[Value.int top2 tt2] t2) :: (I1, oI1) :: (sl, slo) :: imm2) := N3
      try k_fold
      k_extra "MINE stepsS"
      rename_i M9 t97 h97 tk97 hM hM' l97 hG9 FG NG l98
      refine LC (cl := [("some", L' + 2)]) rfl rfl (by decide) rfl (by decide) ?_ (by intro _; rfl)
      k_extra "MINE stepsS"
      rename Fr _ _ _ _ => FI
      rename News _ _ _ _ => NI
      refine CompAt.flat g (fun i' ys => IntsAre ys (((ds2.take i').filter fun d => us.any (· == d.uid)).map (·.ms))) (.list _ _ (isListOf (NI (rl, PySem.W.listOf (ras2.map Value.ref).toArray r2) (by k_extra "MINE mem")).1)) (le_lit q2 rfl) FI NI (fun _ h => nomatch h) .nil ?turn5 ?done5
      case turn5 =>
        intro g' hg' i' v C D h tk2 m ys its e hi hP hJ hys F₆ N₆
        have hls := hJ
        obtain ⟨a, ha', rfl⟩ := map_get hP
        obtain ⟨d, hd, fl', fvs, t1, t2, hRT, _⟩ := hrs2.get ha'
        have kg1 := nil_stays hg'
        have kg := stays_trans FI.keep kg1
        have X' := X.keeps kg
        have T' := T.keeps kg
        have hc := cellKeeps (cellAt (NI (L' + 2, oE) (by k_extra "MINE mem")).1 dE) kg1
        have hsm' : g'.IsList sm smvs.toArray := keepsList (isListOf (NI (sm, PySem.W.listOf smvs.toArray e9) (by k_extra "MINE mem")).1) kg1
        have kGA := Im2.stays (fun _ _ e => e) FI NI (by k_extra "MINE sub")
        have hRT' := keepsTup hRT (stays_trans kGA kg1)
        have hsz : ys.length ≤ 1000 := Nat.le_trans hys (Nat.le_trans (Nat.le_of_lt hi) (le_lit q2 rfl))
        clear FI NI X T
        walk1
        refine wpAny_tests_one ?_
        k_extra "MINE stepsS"
        · rename Fr _ _ _ _ => FF
          rename News _ _ _ _ => NN
          rename (List.any us _ = true) => hq
          exact .mk FF NN (by rw [mfilt_in hd hq]; exact ints_snoc hls _ _)
        · rename Fr _ _ _ _ => FF
          rename News _ _ _ _ => NN
          rename (List.any us _ = false) => hq
          exact .mk FF NN (by rw [mfilt_out hd hq]; exact hls)
      case done5 =>
        rintro D5 hK tkK ovs eK hov hys5 FK NK hlt5
        rw [List.take_of_length_le (by rw [List.length_map, hrs2.len]; exact Nat.le_refl _)] at hov
        clear FI NI
        try dsimp only [List.nil_append] at FK NK ⊢
        replace FK : Fr g L' hK m3 := FK
        replace NK : News g L' hK ((D5, PySem.W.listOf ovs.toArray eK) :: (l97, PySem.W.listOf #[Value.int 0 tk97] 0) :: (L' + 3, o4) :: (L' + 2, oE) :: (L' + 1, oC) :: (sm, PySem.W.listOf smvs.toArray e9) :: (bx, instObj 151 bd) :: (bd, dictOf es2 n2') :: (ll, PySem.W.listOf (las2.map Value.ref).toArray m2) :: (rl, PySem.W.listOf (ras2.map Value.ref).toArray r2) :: (tl, PySem.W.listOf #[Value.int top2 tt2] t2) :: (I1, oI1) :: (sl, slo) :: imm2) := NK
        have hovl : (((ds2.filter fun d => us.any (· == d.uid)).map (·.ms))).length ≤ 5 := by rw [List.length_map]; exact Nat.le_trans (List.length_filter_le _ _) hl25
        generalize hMS : ((ds2.filter fun d => us.any (· == d.uid)).map (·.ms)) = MS at *
        try k_fold
        k_extra "MINE stepsS"
        · exfalso
          rename (_ ≠ _) => hne
          rename (∀ a, a ∈ _ → a ≤ _) => hB2
          rename (_ ∈ _) => hA2
          exact hne (Int.le_antisymm (hB2 _ (List.mem_append.mpr (List.mem_append.mp hM).symm)) (hM' _ (List.mem_append.mpr (List.mem_append.mp hA2).symm)))
        · rename Fr _ _ _ _ => FF
          rename News _ _ _ _ => NN
          refine TurnEnd.next ((L' + 3, o4) :: (L' + 2, oE) :: (L' + 1, oC) :: (sl, slo) :: (bx, instObj 151 bd) :: (bd, dictOf es2 n2') :: (ll, PySem.W.listOf (las2.map Value.ref).toArray m2) :: (rl, PySem.W.listOf (ras2.map Value.ref).toArray r2) :: (tl, PySem.W.listOf #[Value.int top2 tt2] t2) :: imm2) FF (News.sub NN (by (repeat (refine all_cons (by k_extra "MINE mem") ?_)); first | exact List.forall_mem_nil _ | exact fun p hp => (by repeat (first | with_reducible exact hp | with_reducible exact List.mem_append_right _ hp | with_reducible apply List.mem_cons_of_mem | exact hp)))) (one_all (all_cons k3.symm (all_cons k2.symm (all_cons k1.symm (all_cons (nI (sl, slo) (by k_extra "MINE mem")) (all_cons (nI (bx, instObj 151 bd) (by k_extra "MINE mem")) (all_cons (nI (bd, dictOf es n) (by k_extra "MINE mem")) (all_cons (nI (ll, PySem.W.listOf (las.map Value.ref).toArray m0) (by k_extra "MINE mem")) (all_cons (nI (rl, PySem.W.listOf (ras.map Value.ref).toArray r0) (by k_extra "MINE mem")) (all_cons (nI (tl, PySem.W.listOf #[Value.int top tt] tn) (by k_extra "MINE mem")) i7)))))))))) ⟨hG2, imm2, es2, n2', m2, r2, t2, las2, ras2, ds2, oC, oE, o4, top2, tt2, hr1, hr2, hr3, rfl, ⟨_, dC⟩, ⟨_, dE⟩, ⟨_, hv4⟩, Im2, B2, hds2, hrs2, hl25, hui2, hdu2, htp20, top_up htp1 htop2.2⟩
end L2c
theorem law2_turn {w : World} {dp un : Nat} {fr : Option (List Env)} {gd : Option (List Code)} {s : Shared} {mean : ExcName → Option Value} {mg mb : Str → Option Value} {QQ : Flow → Shared → Prop} {g : Heap} {L' fa cdv bx bd ll rl tl sl : Addr} {slo : Obj} {nx : Int} {i : Nat} {c : Int} {t : Tok} {m₁ : Str → Option Value} {h₂ : Heap} {tk₂ : Nat} : ∀ {x : Str} {px : Pos} {body : List Stmt} {scope : Scope} (hp : lawLoop 5 = some (.Name x px, body, scope)) (W : Wd w.params mean mg mb g) (hst : g.StaysIn g) (X : (hd.heap_39 w.params).In g) (T : TopF mean mg mb g) (hdp : dp + 30 < recursionLimit) (hun : un + 240 < cLine)
    (NEs : LawNE L' bx bd ll rl tl sl) (hi6 : i < 6) (news₁ : List (Addr × Obj)) (pI : Addr × Obj)
    (hJ : Law2J g L' bx bd ll rl tl sl slo nx i m₁ news₁) (ha : ∀ p ∈ news₁, p.1 ≠ pI.1) (F₂ : Fr g L' h₂ m₁) (N₂ : News g L' h₂ (pI :: news₁)),
    wpAny (model PySem.Challenge.rw_no0367_01.row.prog w) ((Ar dp un fr gd).deeper (envOfC "law" scope L' fa (.ref cdv))) (assign (.Name x px) (envOfC "law" scope L' fa (.ref cdv)) (.int c t))
      (fun _ s₂ => wpAny (model PySem.Challenge.rw_no0367_01.row.prog w) ((Ar dp un fr gd).deeper (envOfC "law" scope L' fa (.ref cdv))) (execs body (envOfC "law" scope L' fa (.ref cdv)))
        (TurnEnd g L' (Law2J g L' bx bd ll rl tl sl slo nx (i + 1)) [pI] s QQ) (fun _ _ => False) s₂) (fun _ _ => False) { s with heap := h₂, toks := tk₂ } := by
  intro x px body scope hp W hst X T hdp hun NEs hi6 news₁ pI hJ ha F₂ N₂
  obtain ⟨I1, oI1⟩ := pI
  obtain ⟨hG, imm, es, n, m0, r0, tn, las, ras, ds, o1, o2, o3, top, tt, hq1, hq2, hq3, rfl, hw1, hw2, hw3, Im, B, hds, hrs, hlen, hui, hdu, htp0, htp1⟩ := hJ
  exact (eps_all (P := L2P) L2ne (by with_unfolding_all exact L2c.pf) (w, dp, un, fr, gd, s, mean, mg, mb, QQ, g, L', fa, cdv, bx, bd, ll, rl, tl, sl, slo, nx, i, c, t, m₁, h₂, tk₂, hG, imm, es, n, m0, r0, tn, las, ras, ds, o1, o2, o3, oI1, top, tt, I1)) hp W hst X T hdp hun NEs hi6 hq1 hq2 hq3 hw1 hw2 hw3 Im B hds hrs hlen hui hdu htp0 htp1 ha F₂ N₂



/-- between the turns of law's building loop -/
inductive Law1J (g : Heap) (L' bx bd ll rl tl sl : Addr) (slo : Obj) (f : Int) (i : Nat) (m' : Str → Option Value) (news : List (Addr × Obj)) : Prop
  | mk (hG : Heap) (imm : List (Addr × Obj)) (es : List DictEntry) (n m0 r0 tn : Nat) (las ras : List Addr) (ds : List Let) (o1 o2 o3 : Obj) (tt : Tok) (q1 : m' "box" = some (.ref bx)) (q2 : m' "rows" = some (.ref rl)) (q3 : m' "top" = some (.ref tl)) (q4 : ∃ t, m' "first" = some (.int f t)) (q5 : m' "cells" = some (.ref sl))
    (hn : news = (L' + 3, o3) :: (L' + 2, o2) :: (L' + 1, o1) :: (sl, slo) :: (bx, instObj 151 bd) :: (bd, dictOf es n) :: (ll, PySem.W.listOf (las.map Value.ref).toArray m0) :: (rl, PySem.W.listOf (ras.map Value.ref).toArray r0) :: (tl, PySem.W.listOf #[Value.int ((i : Int) + 1) tt] tn) :: imm)
    (c1 : ∃ v, o1.data = .cell v) (c2 : ∃ v, o2.data = .cell v) (c3 : ∃ v, o3.data = .cell v) (Im : Imm g hG [L', L' + 1, L' + 2, L' + 3, bd, ll, rl, tl] imm) (B : BoxD es ll ((i : Int) + 1) ((i : Int) + 1)) (hds : LetsAt hG las ds) (hrs : RowsAt hG ras ds) (hlen : ds.length = i)
    (hui : ∀ (i : Nat) (d : Let), ds[i]? = some d → d.uid = (i : Int) + 1) (hdu : ∀ d ∈ ds, d.fl.Sublist UNI) : Law1J g L' bx bd ll rl tl sl slo f i m' news
theorem notin8 {x a b c d e f k m : Addr} (h1 : NE x a) (h2 : NE x b) (h3 : NE x c) (h4 : NE x d) (h5 : NE x e) (h6 : NE x f) (h7 : NE x k) (h8 : NE x m) : x ∉ [a, b, c, d, e, f, k, m] := fun h => by
  rcases List.mem_cons.mp h with q | h
  · exact h1 q
  rcases List.mem_cons.mp h with q | h
  · exact h2 q
  rcases List.mem_cons.mp h with q | h
  · exact h3 q
  rcases List.mem_cons.mp h with q | h
  · exact h4 q
  exact notin4 h5 h6 h7 h8 h
theorem notin2 {x a b : Addr} (h1 : NE x a) (h2 : NE x b) : x ∉ [a, b] := fun h => by
  rcases List.mem_cons.mp h with q | h
  · exact h1 q
  exact h2 (List.mem_singleton.mp h)
theorem uid_snoc {ds : List Let} {d0 : Let} (hui : ∀ (i : Nat) (d : Let), ds[i]? = some d → d.uid = (i : Int) + 1) (h0 : d0.uid = (ds.length : Int) + 1) : ∀ (i : Nat) (d : Let), (ds ++ [d0])[i]? = some d → d.uid = (i : Int) + 1 := fun j d hd => by
  rcases Nat.lt_or_ge j ds.length with hj | hj
  · rw [List.getElem?_append_left hj] at hd; exact hui j d hd
  · rw [List.getElem?_append_right hj] at hd
    have hj2 : j - ds.length = 0 := Nat.lt_one_iff.mp (List.getElem?_eq_some_iff.mp hd).1
    rw [hj2] at hd
    obtain rfl := Option.some.inj hd
    rw [h0, Nat.le_antisymm (Nat.le_of_sub_eq_zero hj2) hj]
theorem ras_len {las : List Addr} {ds : List Let} {h : Heap} {i : Nat} (x : LetsAt h las ds) (e : ds.length = i) (h5 : i < 5) : las.length ≤ 100 := by rw [x.len, e]; exact ltle_lit h5 rfl
noncomputable def L1G (w : World) (dp : Nat) (un : Nat) (fr : Option (List Env)) (gd : Option (List Code)) (s : Shared) (mean : ExcName → Option Value) (mg : Str → Option Value) (mb : Str → Option Value) (QQ : Flow → Shared → Prop) (g : Heap) (L' : Addr) (fa : Addr) (cdv : Addr) (bx : Addr) (bd : Addr) (ll : Addr) (rl : Addr) (tl : Addr) (sl : Addr) (slo : Obj) (f : Int) (i : Nat) (t : Tok) (m₁ : Str → Option Value) (h₂ : Heap) (tk₂ : Nat) (hG : Heap) (imm : List (Addr × Obj)) (es : List DictEntry) (n : Nat) (m0 : Nat) (r0 : Nat) (tn : Nat) (las : List Addr) (ras : List Addr) (ds : List Let) (o1 : Obj) (o2 : Obj) (o3 : Obj) (oI1 : Obj) (tt : Tok) (t4 : Tok) (I1 : Addr) : Prop := ∀ {x : Str} {px : Pos} {body : List Stmt} {scope : Scope} (hp : lawLoop 4 = some (.Name x px, body, scope)) (W : Wd w.params mean mg mb g) (hst : g.StaysIn g) (X : (hd.heap_39 w.params).In g) (T : TopF mean mg mb g) (hdp : dp + 30 < recursionLimit) (hun : un + 240 < cLine)
    (NEs : LawNE L' bx bd ll rl tl sl) (hi5 : i < 5)
    (hq1 : m₁ "box" = some (.ref bx)) (hq2 : m₁ "rows" = some (.ref rl)) (hq3 : m₁ "top" = some (.ref tl)) (hq4 : m₁ "first" = some (.int f t4)) (hq5 : m₁ "cells" = some (.ref sl))
    (hv1 : ∃ v, o1.data = .cell v) (hv2 : ∃ v, o2.data = .cell v) (hv3 : ∃ v, o3.data = .cell v) (Im : Imm g hG [L', L' + 1, L' + 2, L' + 3, bd, ll, rl, tl] imm) (B : BoxD es ll ((i : Int) + 1) ((i : Int) + 1)) (hds : LetsAt hG las ds) (hrs : RowsAt hG ras ds) (hlen : ds.length = i)
    (hui : ∀ (i : Nat) (d : Let), ds[i]? = some d → d.uid = (i : Int) + 1) (hdu : ∀ d ∈ ds, d.fl.Sublist UNI)
    (ha : ∀ p ∈ (L' + 3, o3) :: (L' + 2, o2) :: (L' + 1, o1) :: (sl, slo) :: (bx, instObj 151 bd) :: (bd, dictOf es n) :: (ll, PySem.W.listOf (las.map Value.ref).toArray m0) :: (rl, PySem.W.listOf (ras.map Value.ref).toArray r0) :: (tl, PySem.W.listOf #[Value.int ((i : Int) + 1) tt] tn) :: imm, p.1 ≠ I1) (F₂ : Fr g L' h₂ m₁) (N₂ : News g L' h₂ ((I1, oI1) :: (L' + 3, o3) :: (L' + 2, o2) :: (L' + 1, o1) :: (sl, slo) :: (bx, instObj 151 bd) :: (bd, dictOf es n) :: (ll, PySem.W.listOf (las.map Value.ref).toArray m0) :: (rl, PySem.W.listOf (ras.map Value.ref).toArray r0) :: (tl, PySem.W.listOf #[Value.int ((i : Int) + 1) tt] tn) :: imm)),
    wpAny (model PySem.Challenge.rw_no0367_01.row.prog w) ((Ar dp un fr gd).deeper (envOfC "law" scope L' fa (.ref cdv))) (assign (.Name x px) (envOfC "law" scope L' fa (.ref cdv)) (.int (i : Int) t))
      (fun _ s₂ => wpAny (model PySem.Challenge.rw_no0367_01.row.prog w) ((Ar dp un fr gd).deeper (envOfC "law" scope L' fa (.ref cdv))) (execs body (envOfC "law" scope L' fa (.ref cdv)))
        (TurnEnd g L' (Law1J g L' bx bd ll rl tl sl slo f (i + 1)) [(I1, oI1)] s QQ) (fun _ _ => False) s₂) (fun _ _ => False) { s with heap := h₂, toks := tk₂ }
noncomputable abbrev L1K : Type _ := (World) × (Nat) × (Nat) × (Option (List Env)) × (Option (List Code)) × (Shared) × (ExcName → Option Value) × (Str → Option Value) × (Str → Option Value) × (Flow → Shared → Prop) × (Heap) × (Addr) × (Addr) × (Addr) × (Addr) × (Addr) × (Addr) × (Addr) × (Addr) × (Addr) × (Obj) × (Int) × (Nat) × (Tok) × (Str → Option Value) × (Heap) × (Nat) × (Heap) × (List (Addr × Obj)) × (List DictEntry) × (Nat) × (Nat) × (Nat) × (Nat) × (List Addr) × (List Addr) × (List Let) × (Obj) × (Obj) × (Obj) × (Obj) × (Tok) × (Tok) × (Addr)
noncomputable def L1P (k : L1K) : Prop := L1G (k.1) (k.2.1) (k.2.2.1) (k.2.2.2.1) (k.2.2.2.2.1) (k.2.2.2.2.2.1) (k.2.2.2.2.2.2.1) (k.2.2.2.2.2.2.2.1) (k.2.2.2.2.2.2.2.2.1) (k.2.2.2.2.2.2.2.2.2.1) (k.2.2.2.2.2.2.2.2.2.2.1) (k.2.2.2.2.2.2.2.2.2.2.2.1) (k.2.2.2.2.2.2.2.2.2.2.2.2.1) (k.2.2.2.2.2.2.2.2.2.2.2.2.2.1) (k.2.2.2.2.2.2.2.2.2.2.2.2.2.2.1) (k.2.2.2.2.2.2.2.2.2.2.2.2.2.2.2.1) (k.2.2.2.2.2.2.2.2.2.2.2.2.2.2.2.2.1) (k.2.2.2.2.2.2.2.2.2.2.2.2.2.2.2.2.2.1) (k.2.2.2.2.2.2.2.2.2.2.2.2.2.2.2.2.2.2.1) (k.2.2.2.2.2.2.2.2.2.2.2.2.2.2.2.2.2.2.2.1) (k.2.2.2.2.2.2.2.2.2.2.2.2.2.2.2.2.2.2.2.2.1) (k.2.2.2.2.2.2.2.2.2.2.2.2.2.2.2.2.2.2.2.2.2.1) (k.2.2.2.2.2.2.2.2.2.2.2.2.2.2.2.2.2.2.2.2.2.2.1) (k.2.2.2.2.2.2.2.2.2.2.2.2.2.2.2.2.2.2.2.2.2.2.2.1) (k.2.2.2.2.2.2.2.2.2.2.2.2.2.2.2.2.2.2.2.2.2.2.2.2.1) (k.2.2.2.2.2.2.2.2.2.2.2.2.2.2.2.2.2.2.2.2.2.2.2.2.2.1) (k.2.2.2.2.2.2.2.2.2.2.2.2.2.2.2.2.2.2.2.2.2.2.2.2.2.2.1) (k.2.2.2.2.2.2.2.2.2.2.2.2.2.2.2.2.2.2.2.2.2.2.2.2.2.2.2.1) (k.2.2.2.2.2.2.2.2.2.2.2.2.2.2.2.2.2.2.2.2.2.2.2.2.2.2.2.2.1) (k.2.2.2.2.2.2.2.2.2.2.2.2.2.2.2.2.2.2.2.2.2.2.2.2.2.2.2.2.2.1) (k.2.2.2.2.2.2.2.2.2.2.2.2.2.2.2.2.2.2.2.2.2.2.2.2.2.2.2.2.2.2.1) (k.2.2.2.2.2.2.2.2.2.2.2.2.2.2.2.2.2.2.2.2.2.2.2.2.2.2.2.2.2.2.2.1) (k.2.2.2.2.2.2.2.2.2.2.2.2.2.2.2.2.2.2.2.2.2.2.2.2.2.2.2.2.2.2.2.2.1) (k.2.2.2.2.2.2.2.2.2.2.2.2.2.2.2.2.2.2.2.2.2.2.2.2.2.2.2.2.2.2.2.2.2.1) (k.2.2.2.2.2.2.2.2.2.2.2.2.2.2.2.2.2.2.2.2.2.2.2.2.2.2.2.2.2.2.2.2.2.2.1) (k.2.2.2.2.2.2.2.2.2.2.2.2.2.2.2.2.2.2.2.2.2.2.2.2.2.2.2.2.2.2.2.2.2.2.2.1) (k.2.2.2.2.2.2.2.2.2.2.2.2.2.2.2.2.2.2.2.2.2.2.2.2.2.2.2.2.2.2.2.2.2.2.2.2.1) (k.2.2.2.2.2.2.2.2.2.2.2.2.2.2.2.2.2.2.2.2.2.2.2.2.2.2.2.2.2.2.2.2.2.2.2.2.2.1) (k.2.2.2.2.2.2.2.2.2.2.2.2.2.2.2.2.2.2.2.2.2.2.2.2.2.2.2.2.2.2.2.2.2.2.2.2.2.2.1) (k.2.2.2.2.2.2.2.2.2.2.2.2.2.2.2.2.2.2.2.2.2.2.2.2.2.2.2.2.2.2.2.2.2.2.2.2.2.2.2.1) (k.2.2.2.2.2.2.2.2.2.2.2.2.2.2.2.2.2.2.2.2.2.2.2.2.2.2.2.2.2.2.2.2.2.2.2.2.2.2.2.2.1) (k.2.2.2.2.2.2.2.2.2.2.2.2.2.2.2.2.2.2.2.2.2.2.2.2.2.2.2.2.2.2.2.2.2.2.2.2.2.2.2.2.2.1) (k.2.2.2.2.2.2.2.2.2.2.2.2.2.2.2.2.2.2.2.2.2.2.2.2.2.2.2.2.2.2.2.2.2.2.2.2.2.2.2.2.2.2.1) (k.2.2.2.2.2.2.2.2.2.2.2.2.2.2.2.2.2.2.2.2.2.2.2.2.2.2.2.2.2.2.2.2.2.2.2.2.2.2.2.2.2.2.2)
theorem L1ne : Nonempty L1K := ⟨((wd0 : World), (0 : Nat), (0 : Nat), (none : Option (List Env)), (none : Option (List Code)), ({} : Shared), (fun _ => none : ExcName → Option Value), (fun _ => none : Str → Option Value), (fun _ => none : Str → Option Value), (fun _ _ => True : Flow → Shared → Prop), ({} : Heap), (0 : Addr), (0 : Addr), (0 : Addr), (0 : Addr), (0 : Addr), (0 : Addr), (0 : Addr), (0 : Addr), (0 : Addr), (default : Obj), (0 : Int), (0 : Nat), (0 : Tok), (fun _ => none : Str → Option Value), ({} : Heap), (0 : Nat), ({} : Heap), ([] : List (Addr × Obj)), ([] : List DictEntry), (0 : Nat), (0 : Nat), (0 : Nat), (0 : Nat), ([] : List Addr), ([] : List Addr), ([] : List Let), (default : Obj), (default : Obj), (default : Obj), (default : Obj), (0 : Tok), (0 : Tok), (0 : Addr))⟩
@[irreducible] noncomputable def L1k : L1K := @Classical.epsilon _ L1ne fun k => ¬ L1P k
namespace L1c
@[irreducible] noncomputable def w : World := L1k.1
@[irreducible] noncomputable def dp : Nat := L1k.2.1
@[irreducible] noncomputable def un : Nat := L1k.2.2.1
@[irreducible] noncomputable def fr : Option (List Env) := L1k.2.2.2.1
@[irreducible] noncomputable def gd : Option (List Code) := L1k.2.2.2.2.1
@[irreducible] noncomputable def s : Shared := L1k.2.2.2.2.2.1
@[irreducible] noncomputable def mean : ExcName → Option Value := L1k.2.2.2.2.2.2.1
@[irreducible] noncomputable def mg : Str → Option Value := L1k.2.2.2.2.2.2.2.1
@[irreducible] noncomputable def mb : Str → Option Value := L1k.2.2.2.2.2.2.2.2.1
@[irreducible] noncomputable def QQ : Flow → Shared → Prop := L1k.2.2.2.2.2.2.2.2.2.1
@[irreducible] noncomputable def g : Heap := L1k.2.2.2.2.2.2.2.2.2.2.1
@[irreducible] noncomputable def L' : Addr := L1k.2.2.2.2.2.2.2.2.2.2.2.1
@[irreducible] noncomputable def fa : Addr := L1k.2.2.2.2.2.2.2.2.2.2.2.2.1
@[irreducible] noncomputable def cdv : Addr := L1k.2.2.2.2.2.2.2.2.2.2.2.2.2.1
@[irreducible] noncomputable def bx : Addr := L1k.2.2.2.2.2.2.2.2.2.2.2.2.2.2.1
@[irreducible] noncomputable def bd : Addr := L1k.2.2.2.2.2.2.2.2.2.2.2.2.2.2.2.1
@[irreducible] noncomputable def ll : Addr := L1k.2.2.2.2.2.2.2.2.2.2.2.2.2.2.2.2.1
@[irreducible] noncomputable def rl : Addr := L1k.2.2.2.2.2.2.2.2.2.2.2.2.2.2.2.2.2.1
@[irreducible] noncomputable def tl : Addr := L1k.2.2.2.2.2.2.2.2.2.2.2.2.2.2.2.2.2.2.1
@[irreducible] noncomputable def sl : Addr := L1k.2.2.2.2.2.2.2.2.2.2.2.2.2.2.2.2.2.2.2.1
@[irreducible] noncomputable def slo : Obj := L1k.2.2.2.2.2.2.2.2.2.2.2.2.2.2.2.2.2.2.2.2.1
@[irreducible] noncomputable def f : Int := L1k.2.2.2.2.2.2.2.2.2.2.2.2.2.2.2.2.2.2.2.2.2.1
@[irreducible] noncomputable def i : Nat := L1k.2.2.2.2.2.2.2.2.2.2.2.2.2.2.2.2.2.2.2.2.2.2.1
@[irreducible] noncomputable def t : Tok := L1k.2.2.2.2.2.2.2.2.2.2.2.2.2.2.2.2.2.2.2.2.2.2.2.1
@[irreducible] noncomputable def m₁ : Str → Option Value := L1k.2.2.2.2.2.2.2.2.2.2.2.2.2.2.2.2.2.2.2.2.2.2.2.2.1
@[irreducible] noncomputable def h₂ : Heap := L1k.2.2.2.2.2.2.2.2.2.2.2.2.2.2.2.2.2.2.2.2.2.2.2.2.2.1
@[irreducible] noncomputable def tk₂ : Nat := L1k.2.2.2.2.2.2.2.2.2.2.2.2.2.2.2.2.2.2.2.2.2.2.2.2.2.2.1
@[irreducible] noncomputable def hG : Heap := L1k.2.2.2.2.2.2.2.2.2.2.2.2.2.2.2.2.2.2.2.2.2.2.2.2.2.2.2.1
@[irreducible] noncomputable def imm : List (Addr × Obj) := L1k.2.2.2.2.2.2.2.2.2.2.2.2.2.2.2.2.2.2.2.2.2.2.2.2.2.2.2.2.1
@[irreducible] noncomputable def es : List DictEntry := L1k.2.2.2.2.2.2.2.2.2.2.2.2.2.2.2.2.2.2.2.2.2.2.2.2.2.2.2.2.2.1
@[irreducible] noncomputable def n : Nat := L1k.2.2.2.2.2.2.2.2.2.2.2.2.2.2.2.2.2.2.2.2.2.2.2.2.2.2.2.2.2.2.1
@[irreducible] noncomputable def m0 : Nat := L1k.2.2.2.2.2.2.2.2.2.2.2.2.2.2.2.2.2.2.2.2.2.2.2.2.2.2.2.2.2.2.2.1
@[irreducible] noncomputable def r0 : Nat := L1k.2.2.2.2.2.2.2.2.2.2.2.2.2.2.2.2.2.2.2.2.2.2.2.2.2.2.2.2.2.2.2.2.1
@[irreducible] noncomputable def tn : Nat := L1k.2.2.2.2.2.2.2.2.2.2.2.2.2.2.2.2.2.2.2.2.2.2.2.2.2.2.2.2.2.2.2.2.2.1
@[irreducible] noncomputable def las : List Addr := L1k.2.2.2.2.2.2.2.2.2.2.2.2.2.2.2.2.2.2.2.2.2.2.2.2.2.2.2.2.2.2.2.2.2.2.1
@[irreducible] noncomputable def ras : List Addr := L1k.2.2.2.2.2.2.2.2.2.2.2.2.2.2.2.2.2.2.2.2.2.2.2.2.2.2.2.2.2.2.2.2.2.2.2.1
@[irreducible] noncomputable def ds : List Let := L1k.2.2.2.2.2.2.2.2.2.2.2.2.2.2.2.2.2.2.2.2.2.2.2.2.2.2.2.2.2.2.2.2.2.2.2.2.1
@[irreducible] noncomputable def o1 : Obj := L1k.2.2.2.2.2.2.2.2.2.2.2.2.2.2.2.2.2.2.2.2.2.2.2.2.2.2.2.2.2.2.2.2.2.2.2.2.2.1
@[irreducible] noncomputable def o2 : Obj := L1k.2.2.2.2.2.2.2.2.2.2.2.2.2.2.2.2.2.2.2.2.2.2.2.2.2.2.2.2.2.2.2.2.2.2.2.2.2.2.1
@[irreducible] noncomputable def o3 : Obj := L1k.2.2.2.2.2.2.2.2.2.2.2.2.2.2.2.2.2.2.2.2.2.2.2.2.2.2.2.2.2.2.2.2.2.2.2.2.2.2.2.1
@[irreducible] noncomputable def oI1 : Obj := L1k.2.2.2.2.2.2.2.2.2.2.2.2.2.2.2.2.2.2.2.2.2.2.2.2.2.2.2.2.2.2.2.2.2.2.2.2.2.2.2.2.1
@[irreducible] noncomputable def tt : Tok := L1k.2.2.2.2.2.2.2.2.2.2.2.2.2.2.2.2.2.2.2.2.2.2.2.2.2.2.2.2.2.2.2.2.2.2.2.2.2.2.2.2.2.1
@[irreducible] noncomputable def t4 : Tok := L1k.2.2.2.2.2.2.2.2.2.2.2.2.2.2.2.2.2.2.2.2.2.2.2.2.2.2.2.2.2.2.2.2.2.2.2.2.2.2.2.2.2.2.1
@[irreducible] noncomputable def I1 : Addr := L1k.2.2.2.2.2.2.2.2.2.2.2.2.2.2.2.2.2.2.2.2.2.2.2.2.2.2.2.2.2.2.2.2.2.2.2.2.2.2.2.2.2.2.2
theorem pf : L1G w dp un fr gd s mean mg mb QQ g L' fa cdv bx bd ll rl tl sl slo f i t m₁ h₂ tk₂ hG imm es n m0 r0 tn las ras ds o1 o2 o3 oI1 tt t4 I1 := by
  unfold L1G
  intro x px body scope hp W hst X T hdp hun NEs hi5 hq1 hq2 hq3 hq4 hq5 hv1 hv2 hv3 Im B hds hrs hlen hui hdu ha F₂ N₂
  conv at hp => lhs; whnf
  dsimp only at hp
  simp only [Option.some.injEq, Prod.mk.injEq, Expr.Name.injEq] at hp
  obtain ⟨⟨rfl, rfl⟩, rfl, rfl⟩ := hp
  obtain ⟨⟨d1, d2, d3, d4, d5, d6⟩, ⟨d7, d8, d9, d10, d11, d12⟩, d13, d14, d15, d16, d17, d18⟩ := NEs.2.2
  obtain ⟨⟨n1, n2, n3, n4, n5, n6, n7, n8, n9, n10⟩, ⟨n11, n12, n13, n14⟩, _⟩ := NEs
  have nI : ∀ p ∈ (L' + 3, o3) :: (L' + 2, o2) :: (L' + 1, o1) :: (sl, slo) :: (bx, instObj 151 bd) :: (bd, dictOf es n) :: (ll, PySem.W.listOf (las.map Value.ref).toArray m0) :: (rl, PySem.W.listOf (ras.map Value.ref).toArray r0) :: (tl, PySem.W.listOf #[Value.int ((i : Int) + 1) tt] tn) :: imm, NE p.1 I1 := fun p hp => ha p hp
  have k1 : NE I1 tl := (nI (tl, PySem.W.listOf #[Value.int ((i : Int) + 1) tt] tn) (by k_extra "MINE mem")).symm
  have k2 : NE I1 rl := (nI (rl, PySem.W.listOf (ras.map Value.ref).toArray r0) (by k_extra "MINE mem")).symm
  have iT := Im.ne (b := tl) (by k_extra "MINE mem")
  have iR := Im.ne (b := rl) (by k_extra "MINE mem")
  have hz : (ras.map Value.ref).length ≤ 1000 := by rw [List.length_map, hrs.len, hlen]; exact ltle_lit hi5 rfl
  have hib : 0 ≤ (i : Int) ∧ (i : Int) ≤ 4 := ⟨Int.natCast_nonneg _, Int.ofNat_le.mpr (Nat.le_of_lt_succ hi5)⟩
  have hib1 : (i : Int) < 9000 := Int.ofNat_lt.mpr (ltlt_lit hi5 rfl)
  have hib2 : (i : Int) ≤ 1000000 := Int.ofNat_le.mpr (ltle_lit hi5 rfl)
  have hfl : 0 ≤ Int.fmod (Int.fdiv (Int.fdiv f 5) (2 ^ ((i : Int)).toNat)) 32 ∧ Int.fmod (Int.fdiv (Int.fdiv f 5) (2 ^ ((i : Int)).toNat)) 32 < 1000 := fmod32 _
  try k_fold
  k_extra "MINE stepsS"
  rename StrsAre _ _ => hSf
  rename List.Sublist _ UNI => hBf
  have hLf := StrsAre.length hSf
  have hLg : List.length _ ≤ 5 := hBf.length_le
  rename_i r9 vs9 ts9 n9' h99 tk99 l99 hA tkA hB FB NB
  have hL5 : vs9.length ≤ 5 := Nat.le_trans (Nat.le_of_eq hLf) hLg
  have hL64 : vs9.length < 64 := lt_lit hL5 rfl
  have hL63 : vs9.length ≤ 1000 := le_lit hL5 rfl
  k_extra "MINE stepsS"
  rename_i SL svs ss eS hS1 hSS hPe hSo hSl hlS FT hT tkT lT DR hR lR hF FF NF
  obtain ⟨tt8, tT, tt9, NF⟩ : ∃ tt8 tT tt9 : Tok, News g L' hF ((DR, { cls := .type "tuple", data := .seq #[.int ((i : Int) + 1) tt8, .ref FT, .int ((i : Int) + 1 + 1) tT] }) :: (FT, { cls := .type "tuple", data := .seq svs.toArray }) :: (SL, PySem.W.listOf svs.toArray eS) :: (r9, PySem.W.listOf vs9.toArray n9') :: (I1, oI1) :: (L' + 3, o3) :: (L' + 2, o2) :: (L' + 1, o1) :: (sl, slo) :: (bx, instObj 151 bd) :: (bd, dictOf es n) :: (ll, PySem.W.listOf (las.map Value.ref).toArray m0) :: (rl, PySem.W.listOf (ras.map Value.ref ++ [Value.ref DR]).toArray (r0 + 1)) :: (tl, PySem.W.listOf #[Value.int ((i : Int) + 1 + 1) tt9] tn) :: imm) := ⟨_, _, _, NF⟩
  rw [show ras.map Value.ref ++ [Value.ref DR] = (ras ++ [DR]).map Value.ref by rw [List.map_append]; rfl] at NF
  have hcan : ss = canon ts9 := sorted_canon hPe (sub_uni hBf).2.2.1 (fun x => Iff.rfl) (sub_uni hBf).1 hSo
  have hcan2 : canon ts9 = ts9 := (sub_uni hBf).2.2.2
  rw [hcan, hcan2] at hSS
  have kh : hG.StaysIn hF := Im.stays (fun _ _ e => e) FF NF (by k_extra "MINE sub")
  have q1 := NF _ (.head _)
  have q2 := NF _ (.tail _ (.head _))
  dsimp only at q1 q2
  obtain ⟨G1, Im1, kk1, e1, s1⟩ := Im.add kh q2.1 q2.2.2 (notin8 q2.2.1 (an_ne2 lT (by k_extra "MINE mem")) (an_ne2 lT (by k_extra "MINE mem")) (an_ne2 lT (by k_extra "MINE mem")) (an_ne2 lT (by k_extra "MINE mem")) (an_ne2 lT (by k_extra "MINE mem")) (an_ne2 lT (by k_extra "MINE mem")) (an_ne2 lT (by k_extra "MINE mem")))
  obtain ⟨G2, Im2, kk2, e2, s2⟩ := Im1.add s1 q1.1 q1.2.2 (notin8 q1.2.1 (lt_ne2 lR (by k_extra "MINE mem")) (lt_ne2 lR (by k_extra "MINE mem")) (lt_ne2 lR (by k_extra "MINE mem")) (lt_ne2 lR (by k_extra "MINE mem")) (lt_ne2 lR (by k_extra "MINE mem")) (lt_ne2 lR (by k_extra "MINE mem")) (lt_ne2 lR (by k_extra "MINE mem")))
  have hrow : RowAt G2 DR ⟨(i : Int) + 1, ts9, (i : Int) + 1 + 1⟩ := ⟨FT, svs, _, _, ⟨_, e2, rfl, _, rfl⟩, ⟨_, kk2 _ _ e1, rfl, _, rfl⟩, hSS⟩
  have hrs2 : RowsAt G2 _ _ := ((hrs.keeps kk1).keeps kk2).snoc hrow
  have hds2 := (hds.keeps kk1).keeps kk2
  have hll := hds.len
  have ImI := Im2.more (b := I1) (NF (I1, oI1) (by k_extra "MINE mem")).2.2 (fun p hp => by
    rcases List.mem_cons.mp hp with rfl | hp
    · exact lt_ne2 lR (by k_extra "MINE mem")
    rcases List.mem_cons.mp hp with rfl | hp
    · exact an_ne2 lT (by k_extra "MINE mem")
    exact ha p (by repeat (first | with_reducible exact hp | with_reducible apply List.mem_cons_of_mem)))
  refine add_letter_spec (H0 := g) (hG := G2) (las := las) (ds := ds) (nx := (i : Int) + 1) (top := (i : Int) + 1) (ts := ts9) W FF.keep (by k_extra "MINE room") (by k_extra "MINE room") (NF (bx, instObj 151 bd) (by k_extra "MINE mem")).1 (NF (bd, dictOf es n) (by k_extra "MINE mem")).1 B (NF (ll, PySem.W.listOf (las.map Value.ref).toArray m0) (by k_extra "MINE mem")).1 n1 n2 n3
    (NF (bd, dictOf es n) (by k_extra "MINE mem")).2.2 (NF (ll, PySem.W.listOf (las.map Value.ref).toArray m0) (by k_extra "MINE mem")).2.2 s2 (Im2.apart _ (by k_extra "MINE mem")) (Im2.apart _ (by k_extra "MINE mem")) hds2 (ras_len hds hlen hi5) (isListOf (NF (r9, PySem.W.listOf vs9.toArray n9') (by k_extra "MINE mem")).1) (an_ne2 l99 (by k_extra "MINE mem")) (an_ne2 l99 (by k_extra "MINE mem")) hSf (sub_uni hBf).1 (lt_lit hLg rfl) ?_
  intro x9 hH tkH es2 n2' m2 kk e5 B2 e6 hds3
  rw [hcan2] at hds3
  refine mutL (ms := [bd, ll]) ((I1, oI1) :: (L' + 3, o3) :: (L' + 2, o2) :: (L' + 1, o1) :: (sl, slo) :: (bx, instObj 151 bd) :: (bd, dictOf es2 n2') :: (ll, PySem.W.listOf ((las ++ [x9]).map Value.ref).toArray m2) :: (rl, PySem.W.listOf ((ras ++ [DR]).map Value.ref).toArray (r0 + 1)) :: [(tl, PySem.W.listOf #[Value.int ((i : Int) + 1 + 1) tt9] tn)]) FF NF ImI (fun _ _ e => e) (by (repeat (refine all_cons (by k_extra "MINE mem") ?_)); first | exact List.forall_mem_nil _ | exact fun p hp => (by repeat (first | with_reducible exact hp | with_reducible exact List.mem_append_right _ hp | with_reducible apply List.mem_cons_of_mem | exact hp))) ?hms (by (repeat (refine all_cons (by k_extra "MINE mem") ?_)); first | exact List.forall_mem_nil _ | exact fun p hp => (by repeat (first | with_reducible exact hp | with_reducible exact List.mem_append_right _ hp | with_reducible apply List.mem_cons_of_mem | exact hp))) (by k_extra "MINE mem") (ImI.live2 FF NF (by (repeat (refine all_cons (by first | exact .inl rfl | exact .inr ⟨_, (by k_extra "MINE mem")⟩) ?_)); exact List.forall_mem_nil _)) kk ?h1 ?_
  case hms => exact all_cons ((NF (bd, dictOf es n) (by k_extra "MINE mem")).2) (all_cons ((NF (ll, PySem.W.listOf (las.map Value.ref).toArray m0) (by k_extra "MINE mem")).2) (List.forall_mem_nil _))
  case h1 =>
    refine all_cons (.inr ⟨(by k_extra "MINE mem"), notin2 (nI (bd, dictOf es n) (by k_extra "MINE mem")).symm (nI (ll, PySem.W.listOf (las.map Value.ref).toArray m0) (by k_extra "MINE mem")).symm⟩) ?_
    refine all_cons (.inr ⟨(by k_extra "MINE mem"), notin2 d14.symm d15.symm⟩) ?_
    refine all_cons (.inr ⟨(by k_extra "MINE mem"), notin2 d8.symm d9.symm⟩) ?_
    refine all_cons (.inr ⟨(by k_extra "MINE mem"), notin2 d2.symm d3.symm⟩) ?_
    refine all_cons (.inr ⟨(by k_extra "MINE mem"), notin2 n11 n12⟩) ?_
    refine all_cons (.inr ⟨(by k_extra "MINE mem"), notin2 n1 n2⟩) ?_
    refine all_cons (.inl ⟨(by k_extra "MINE mem"), e5⟩) (all_cons (.inl ⟨(by k_extra "MINE mem"), e6⟩) ?_)
    refine all_cons (.inr ⟨(by k_extra "MINE mem"), notin2 n6.symm n8.symm⟩) ?_
    exact all_cons (.inr ⟨(by k_extra "MINE mem"), notin2 n7.symm n9.symm⟩) (List.forall_mem_nil _)
  intro imm3 Im3 FH NH kGH
  have hrs3 : RowsAt (lift G2 hF hH) (ras ++ [DR]) (ds ++ [⟨(i : Int) + 1, ts9, (i : Int) + 1 + 1⟩]) := hrs2.keeps (lift_old fun b o e => kk b o (hid2 (s2 b o e) (ne_of_none e (Im2.apart _ (by k_extra "MINE mem"))) (ne_of_none e (Im2.apart _ (by k_extra "MINE mem")))))
  generalize lift G2 hF hH = hG3 at *
  dsimp only [List.cons_append, List.nil_append] at NH
  have Im4 : Imm g hG3 [L', L' + 1, L' + 2, L' + 3, bd, ll, rl, tl] imm3 := Im3.less (fun b hb => .tail _ hb)
  have i7 := Im3.ne (b := I1) (by k_extra "MINE mem")
  clear FF NF
  try dsimp only
  try k_fold
  k_extra "MINE stepsS"
  have hc : (i : Int) + 1 = ((i + 1 : Nat) : Int) := rfl
  rw [hc] at NH B2 hds3 hrs3
  refine TurnEnd.next ((L' + 3, o3) :: (L' + 2, o2) :: (L' + 1, o1) :: (sl, slo) :: (bx, instObj 151 bd) :: (bd, dictOf es2 n2') :: (ll, PySem.W.listOf ((las ++ [x9]).map Value.ref).toArray m2) :: (rl, PySem.W.listOf ((ras ++ [DR]).map Value.ref).toArray (r0 + 1)) :: (tl, PySem.W.listOf #[Value.int (((i + 1 : Nat) : Int) + 1) tt9] tn) :: imm3) FH NH (one_all (all_cons (nI (L' + 3, o3) (by k_extra "MINE mem")) (all_cons (nI (L' + 2, o2) (by k_extra "MINE mem")) (all_cons (nI (L' + 1, o1) (by k_extra "MINE mem")) (all_cons (nI (sl, slo) (by k_extra "MINE mem")) (all_cons (nI (bx, instObj 151 bd) (by k_extra "MINE mem")) (all_cons (nI (bd, dictOf es n) (by k_extra "MINE mem")) (all_cons (nI (ll, PySem.W.listOf (las.map Value.ref).toArray m0) (by k_extra "MINE mem")) (all_cons k2.symm (all_cons k1.symm i7)))))))))) ⟨hG3, imm3, es2, n2', m2, r0 + 1, tn, las ++ [x9], ras ++ [DR], _, o1, o2, o3, tt9, hq1, hq2, hq3, ⟨t4, hq4⟩, hq5, rfl, hv1, hv2, hv3, Im4, B2, hds3, hrs3, by rw [List.length_append, hlen]; rfl, uid_snoc hui (by rw [hlen]; exact hc.symm), fun d hd => (List.mem_append.mp hd).elim (hdu d) fun h => by rw [List.mem_singleton.mp h]; exact hBf⟩
end L1c
theorem law1_turn {w : World} {dp un : Nat} {fr : Option (List Env)} {gd : Option (List Code)} {s : Shared} {mean : ExcName → Option Value} {mg mb : Str → Option Value} {QQ : Flow → Shared → Prop} {g : Heap} {L' fa cdv bx bd ll rl tl sl : Addr} {slo : Obj} {f : Int} {i : Nat} {t : Tok} {m₁ : Str → Option Value} {h₂ : Heap} {tk₂ : Nat} : ∀ {x : Str} {px : Pos} {body : List Stmt} {scope : Scope} (hp : lawLoop 4 = some (.Name x px, body, scope)) (W : Wd w.params mean mg mb g) (hst : g.StaysIn g) (X : (hd.heap_39 w.params).In g) (T : TopF mean mg mb g) (hdp : dp + 30 < recursionLimit) (hun : un + 240 < cLine)
    (NEs : LawNE L' bx bd ll rl tl sl) (news₁ : List (Addr × Obj)) (pI : Addr × Obj) (hi5 : i < 5)
    (hJ : Law1J g L' bx bd ll rl tl sl slo f i m₁ news₁) (ha : ∀ p ∈ news₁, p.1 ≠ pI.1) (F₂ : Fr g L' h₂ m₁) (N₂ : News g L' h₂ (pI :: news₁)),
    wpAny (model PySem.Challenge.rw_no0367_01.row.prog w) ((Ar dp un fr gd).deeper (envOfC "law" scope L' fa (.ref cdv))) (assign (.Name x px) (envOfC "law" scope L' fa (.ref cdv)) (.int (i : Int) t))
      (fun _ s₂ => wpAny (model PySem.Challenge.rw_no0367_01.row.prog w) ((Ar dp un fr gd).deeper (envOfC "law" scope L' fa (.ref cdv))) (execs body (envOfC "law" scope L' fa (.ref cdv)))
        (TurnEnd g L' (Law1J g L' bx bd ll rl tl sl slo f (i + 1)) [pI] s QQ) (fun _ _ => False) s₂) (fun _ _ => False) { s with heap := h₂, toks := tk₂ } := by
  intro x px body scope hp W hst X T hdp hun NEs news₁ pI hi5 hJ ha F₂ N₂
  obtain ⟨I1, oI1⟩ := pI
  obtain ⟨hG, imm, es, n, m0, r0, tn, las, ras, ds, o1, o2, o3, tt, hq1, hq2, hq3, ⟨t4, hq4⟩, hq5, rfl, hv1, hv2, hv3, Im, B, hds, hrs, hlen, hui, hdu⟩ := hJ
  exact (eps_all (P := L1P) L1ne (by with_unfolding_all exact L1c.pf) (w, dp, un, fr, gd, s, mean, mg, mb, QQ, g, L', fa, cdv, bx, bd, ll, rl, tl, sl, slo, f, i, t, m₁, h₂, tk₂, hG, imm, es, n, m0, r0, tn, las, ras, ds, o1, o2, o3, oI1, tt, t4, I1)) hp W hst X T hdp hun NEs hi5 hq1 hq2 hq3 hq4 hq5 hv1 hv2 hv3 Im B hds hrs hlen hui hdu ha F₂ N₂



example : True := by
  k_with "MINE haltB" => (((fail_if_success (with_reducible show Exists _)); (fail_if_success (with_reducible show wpAny _ _ (PySem.exec (PySem.Stmt.Assign _ (PySem.Expr.IfExp _ _ _ _) _) _) _ _ _)); (fail_if_success (with_reducible show wpAny _ _ (call (Value.ref 151) _) _ _ _)); k_extra "MINE halt"))
  trivial
example : True := by
  k_with "MINE stepsB" => (repeat' (first | (k_extra "MINE haltB"; walk1) | (dsimp only; k_extra "MINE haltB"; walk1)))
  trivial
theorem fmod5 (f : Int) : ((1 + Int.fmod f 5).toNat : Int) = 1 + Int.fmod f 5 ∧ (1 + Int.fmod f 5).toNat ≤ 5 :=
  ⟨Int.toNat_of_nonneg (Int.add_nonneg (by decide) (Int.fmod_nonneg_of_pos f (by decide))), Int.toNat_le.mpr (by rw [Int.add_comm]; exact Int.fmod_lt_of_pos f (by decide))⟩
theorem topb {n : Nat} (h : n ≤ 5) : 0 ≤ (n : Int) + 1 ∧ (n : Int) + 1 ≤ 6 + 5 * ((0 : Nat) : Int) := ⟨Int.natCast_nonneg (n + 1), Int.le_trans (Int.add_le_add_right (Int.ofNat_le.mpr h) 1) (by decide)⟩
noncomputable def LWG (w : World) (dp : Nat) (un : Nat) (fr : Option (List Env)) (gd : Option (List Code)) (s : Shared) (mean : ExcName → Option Value) (mg : Str → Option Value) (mb : Str → Option Value) (QQ : Flow → Shared → Prop) (g : Heap) (L' : Addr) (fa : Addr) (cdv : Addr) (sc : Addr) (o1 : Obj) (o2 : Obj) (o3 : Obj) (vs : List Value) (ns : List Int) (m : Str → Option Value) (h₁ : Heap) (tk₁ : Nat) : Prop := ∀ {body : List Stmt} {scope : Scope} (hp : fdOf 30 = some (body, scope)) (W : Wd w.params mean mg mb g) (hst : g.StaysIn g) (X : (hd.heap_39 w.params).In g) (T : TopF mean mg mb g) (hdp : dp + 30 < recursionLimit) (hun : un + 240 < cLine)
    (hm : m "script" = some (.ref sc)) (hsc : g.IsList sc vs.toArray) (hI : IntsAre vs ns) (hn : ns.length ≤ 63)
    (F : Fr g L' h₁ m) (N : News g L' h₁ [(L' + 3, o3), (L' + 2, o2), (L' + 1, o1)]) (ho1 : ∃ v, o1.data = .cell v) (ho2 : ∃ v, o2.data = .cell v) (ho3 : ∃ v, o3.data = .cell v)
    (ret : ∀ h' tk' m' news', Fr g L' h' m' → News g L' h' news' → QQ (.ret (.bool true)) { s with heap := h', toks := tk' }),
    wpAny (model PySem.Challenge.rw_no0367_01.row.prog w) ((Ar dp un fr gd).deeper (envOfC "law" scope L' fa (.ref cdv))) (execs body (envOfC "law" scope L' fa (.ref cdv))) QQ (fun _ _ => False) { s with heap := h₁, toks := tk₁ }
noncomputable abbrev LWK : Type _ := (World) × (Nat) × (Nat) × (Option (List Env)) × (Option (List Code)) × (Shared) × (ExcName → Option Value) × (Str → Option Value) × (Str → Option Value) × (Flow → Shared → Prop) × (Heap) × (Addr) × (Addr) × (Addr) × (Addr) × (Obj) × (Obj) × (Obj) × (List Value) × (List Int) × (Str → Option Value) × (Heap) × (Nat)
noncomputable def LWP (k : LWK) : Prop := LWG (k.1) (k.2.1) (k.2.2.1) (k.2.2.2.1) (k.2.2.2.2.1) (k.2.2.2.2.2.1) (k.2.2.2.2.2.2.1) (k.2.2.2.2.2.2.2.1) (k.2.2.2.2.2.2.2.2.1) (k.2.2.2.2.2.2.2.2.2.1) (k.2.2.2.2.2.2.2.2.2.2.1) (k.2.2.2.2.2.2.2.2.2.2.2.1) (k.2.2.2.2.2.2.2.2.2.2.2.2.1) (k.2.2.2.2.2.2.2.2.2.2.2.2.2.1) (k.2.2.2.2.2.2.2.2.2.2.2.2.2.2.1) (k.2.2.2.2.2.2.2.2.2.2.2.2.2.2.2.1) (k.2.2.2.2.2.2.2.2.2.2.2.2.2.2.2.2.1) (k.2.2.2.2.2.2.2.2.2.2.2.2.2.2.2.2.2.1) (k.2.2.2.2.2.2.2.2.2.2.2.2.2.2.2.2.2.2.1) (k.2.2.2.2.2.2.2.2.2.2.2.2.2.2.2.2.2.2.2.1) (k.2.2.2.2.2.2.2.2.2.2.2.2.2.2.2.2.2.2.2.2.1) (k.2.2.2.2.2.2.2.2.2.2.2.2.2.2.2.2.2.2.2.2.2.1) (k.2.2.2.2.2.2.2.2.2.2.2.2.2.2.2.2.2.2.2.2.2.2)
theorem LWne : Nonempty LWK := ⟨((wd0 : World), (0 : Nat), (0 : Nat), (none : Option (List Env)), (none : Option (List Code)), ({} : Shared), (fun _ => none : ExcName → Option Value), (fun _ => none : Str → Option Value), (fun _ => none : Str → Option Value), (fun _ _ => True : Flow → Shared → Prop), ({} : Heap), (0 : Addr), (0 : Addr), (0 : Addr), (0 : Addr), (default : Obj), (default : Obj), (default : Obj), ([] : List Value), ([] : List Int), (fun _ => none : Str → Option Value), ({} : Heap), (0 : Nat))⟩
@[irreducible] noncomputable def LWk : LWK := @Classical.epsilon _ LWne fun k => ¬ LWP k
theorem LWc.pf : LWP LWk := by
  refine (?m : ∀ (w : World) (dp : Nat) (un : Nat) (fr : Option (List Env)) (gd : Option (List Code)) (s : Shared) (mean : ExcName → Option Value) (mg : Str → Option Value) (mb : Str → Option Value) (QQ : Flow → Shared → Prop) (g : Heap) (L' : Addr) (fa : Addr) (cdv : Addr) (sc : Addr) (o1 : Obj) (o2 : Obj) (o3 : Obj) (vs : List Value) (ns : List Int) (m : Str → Option Value) (h₁ : Heap) (tk₁ : Nat), ∀ {body : List Stmt} {scope : Scope} (hp : fdOf 30 = some (body, scope)) (W : Wd w.params mean mg mb g) (hst : g.StaysIn g) (X : (hd.heap_39 w.params).In g) (T : TopF mean mg mb g) (hdp : dp + 30 < recursionLimit) (hun : un + 240 < cLine)
    (hm : m "script" = some (.ref sc)) (hsc : g.IsList sc vs.toArray) (hI : IntsAre vs ns) (hn : ns.length ≤ 63)
    (F : Fr g L' h₁ m) (N : News g L' h₁ [(L' + 3, o3), (L' + 2, o2), (L' + 1, o1)]) (ho1 : ∃ v, o1.data = .cell v) (ho2 : ∃ v, o2.data = .cell v) (ho3 : ∃ v, o3.data = .cell v)
    (ret : ∀ h' tk' m' news', Fr g L' h' m' → News g L' h' news' → QQ (.ret (.bool true)) { s with heap := h', toks := tk' }),
    wpAny (model PySem.Challenge.rw_no0367_01.row.prog w) ((Ar dp un fr gd).deeper (envOfC "law" scope L' fa (.ref cdv))) (execs body (envOfC "law" scope L' fa (.ref cdv))) QQ (fun _ _ => False) { s with heap := h₁, toks := tk₁ }) (LWk.1) (LWk.2.1) (LWk.2.2.1) (LWk.2.2.2.1) (LWk.2.2.2.2.1) (LWk.2.2.2.2.2.1) (LWk.2.2.2.2.2.2.1) (LWk.2.2.2.2.2.2.2.1) (LWk.2.2.2.2.2.2.2.2.1) (LWk.2.2.2.2.2.2.2.2.2.1) (LWk.2.2.2.2.2.2.2.2.2.2.1) (LWk.2.2.2.2.2.2.2.2.2.2.2.1) (LWk.2.2.2.2.2.2.2.2.2.2.2.2.1) (LWk.2.2.2.2.2.2.2.2.2.2.2.2.2.1) (LWk.2.2.2.2.2.2.2.2.2.2.2.2.2.2.1) (LWk.2.2.2.2.2.2.2.2.2.2.2.2.2.2.2.1) (LWk.2.2.2.2.2.2.2.2.2.2.2.2.2.2.2.2.1) (LWk.2.2.2.2.2.2.2.2.2.2.2.2.2.2.2.2.2.1) (LWk.2.2.2.2.2.2.2.2.2.2.2.2.2.2.2.2.2.2.1) (LWk.2.2.2.2.2.2.2.2.2.2.2.2.2.2.2.2.2.2.2.1) (LWk.2.2.2.2.2.2.2.2.2.2.2.2.2.2.2.2.2.2.2.2.1) (LWk.2.2.2.2.2.2.2.2.2.2.2.2.2.2.2.2.2.2.2.2.2.1) (LWk.2.2.2.2.2.2.2.2.2.2.2.2.2.2.2.2.2.2.2.2.2.2)
  intro w dp un fr gd s mean mg mb QQ g L' fa cdv sc o1 o2 o3 vs ns m h₁ tk₁
  intro body scope hp W hst X T hdp hun hm hsc hI hn F N ho1 ho2 ho3 ret
  conv at hp => lhs; whnf
  try dsimp only at hp
  simp only [Option.some.injEq, Prod.mk.injEq] at hp
  obtain ⟨rfl, rfl⟩ := hp
  have hvl := hI.length
  try k_fold
  k_extra "MINE stepsB"
  rename_i D1 cvs hA lA hcI hcC hcL hB FB NB
  have y1 := lA (L' + 3, o3) (by k_extra "MINE mem")
  have y2 := lA (L' + 2, o2) (by k_extra "MINE mem")
  have y3 := lA (L' + 1, o1) (by k_extra "MINE mem")
  have hcl : cvs.length ≤ 8 := Nat.le_trans (Nat.le_of_eq hcI.length) (List.length_take_le _ _)
  refine wpAny_mono (Q := Hold fun s' => ∃ h' tk' f t, s' = { s with heap := h', toks := tk' } ∧ Fr g L' h' (fun y => if y = "first" then some (.int f t) else if y = "cells" then some (.ref D1) else m y) ∧ News g L' h' [(D1, PySem.W.listOf cvs.toArray 0), (L' + 3, o3), (L' + 2, o2), (L' + 1, o1)]) (E := fun _ _ => False) ?ifc ?rest (fun _ _ x => x.elim)
  case ifc =>
    k_extra "MINE steps"
    · rename Fr _ _ _ _ => FF
      rename News _ _ _ _ => NN
      exact ⟨rfl, _, _, _, _, rfl, FF, News.sub NN (fun p hp => .tail _ hp)⟩
    · rename (decide _ = false) => hne
      generalize List.take 8 ns = cs at *
      cases hcI with
      | nil => simp at hne
      | cons c0 t0 hr =>
        k_extra "MINE steps"
        rename Fr _ _ _ _ => FF
        rename News _ _ _ _ => NN
        exact ⟨rfl, _, _, _, _, rfl, FF, News.sub NN (fun p hp => .tail _ hp)⟩
  case rest =>
    rintro f' _ ⟨rfl, hC, tkC, f, t, rfl, FC, NC⟩
    clear FB NB
    try dsimp only
    try k_fold
    k_extra "MINE stepsB"
    refine make_box (H0 := g) W (fun b o q => FC.keep b o q) (by k_extra "MINE room") ?_
    intro bx bd hD tkD es n ll n' kD f1 f2 f3 lx nx nd below e1 e2 B e3
    have hC3 := NC (L' + 3, o3) (by k_extra "MINE mem")
    have hC2 := NC (L' + 2, o2) (by k_extra "MINE mem")
    have hC1 := NC (L' + 1, o1) (by k_extra "MINE mem")
    have hCD := NC (D1, PySem.W.listOf cvs.toArray 0) (by k_extra "MINE mem")
    dsimp only at hC1 hC2 hC3 hCD
    have apart : ∀ {a b : Addr} {o : Obj}, hC.get? a = none → hC.get? b = some o → NE a b := fun {a b o} h1 h2 z => by
      rw [show a = b from z, h2] at h1; cases h1
    have FD : Fr g L' hD (fun y => if y = "first" then some (.int f t) else if y = "cells" then some (.ref D1) else m y) := Fr.grow FC kD
    have ND : News g L' hD [(bx, instObj 151 bd), (bd, dictOf es n), (ll, PySem.W.listOf #[] n'), (D1, PySem.W.listOf cvs.toArray 0), (L' + 3, o3), (L' + 2, o2), (L' + 1, o1)] := fun p hp => by
      rcases List.mem_cons.mp hp with rfl | hp
      · exact ⟨e1, Fr.fresh FC f1⟩
      rcases List.mem_cons.mp hp with rfl | hp
      · exact ⟨e2, Fr.fresh FC f2⟩
      rcases List.mem_cons.mp hp with rfl | hp
      · exact ⟨e3, Fr.fresh FC f3⟩
      exact News.grow NC kD p hp
    have a1 := apart f1 hC1.1
    have a2 := apart f1 hC2.1
    have a3 := apart f1 hC3.1
    have a4 := apart f1 hCD.1
    have b1 := apart f2 hC1.1
    have b2 := apart f2 hC2.1
    have b3 := apart f2 hC3.1
    have b4 := apart f2 hCD.1
    have c1 := apart f3 hC1.1
    have c2 := apart f3 hC2.1
    have c3 := apart f3 hC3.1
    have c4 := apart f3 hCD.1
    have n1 : NE bx bd := Nat.ne_of_gt lx
    have n2 : NE bx ll := Ne.symm nx
    have n3 : NE bd ll := Ne.symm nd
    clear FC NC kD hC1 hC2 hC3 hCD apart f1 f2 f3 nx nd lx below
    try dsimp only
    try k_fold
    k_extra "MINE stepsB"
    rename_i hE tkE rl hF lR tl hG0 lT DT hH lDT hI' hJ hK FE NE0
    have NEs : LawNE L' bx bd ll rl tl D1 := by
      refine ⟨⟨n1, n2, n3, lt_ne1 lR (by k_extra "MINE mem"), lt_ne1 lT (by k_extra "MINE mem"), lt_ne1 lR (by k_extra "MINE mem"), lt_ne1 lT (by k_extra "MINE mem"), lt_ne1 lR (by k_extra "MINE mem"), lt_ne1 lT (by k_extra "MINE mem"), lt_ne1 lT (by k_extra "MINE mem")⟩, ⟨Ne.symm b4, Ne.symm c4, lt_ne1 lR (by k_extra "MINE mem"), lt_ne1 lT (by k_extra "MINE mem")⟩, ⟨a1, b1, c1, lt_ne2 lR (by k_extra "MINE mem"), lt_ne2 lT (by k_extra "MINE mem"), Nat.ne_of_gt y3⟩, ⟨a2, b2, c2, lt_ne2 lR (by k_extra "MINE mem"), lt_ne2 lT (by k_extra "MINE mem"), Nat.ne_of_gt y2⟩, a3, b3, c3, lt_ne2 lR (by k_extra "MINE mem"), lt_ne2 lT (by k_extra "MINE mem"), Nat.ne_of_gt y1⟩
    refine For_it (s := s) (g := g) rfl ?_ (by intro _; rfl) .never
    k_extra "MINE stepsB"
    rename Fr _ _ _ _ => FF
    rename News _ _ _ _ => NF
    rename IsRange _ _ _ _ _ _ _ _ => hRF
    have hfn := fmod5 f
    have hL0 : g.get? L' = none := Heap.get?_none_of_le FF.above
    have I0 : Imm g g [L', L' + 1, L' + 2, L' + 3, bd, ll, rl, tl] [] := .nil rfl (by
      refine all_cons hL0 ?_
      (repeat (refine all_cons ((NF (_, _) (by k_extra "MINE mem")).2.2) ?_))
      exact List.forall_mem_nil _)
    have NG : News g L' _ [(tl, PySem.W.listOf #[Value.int 1 tkE] 0), (rl, PySem.W.listOf (([] : List Addr).map Value.ref).toArray 0), (bx, instObj 151 bd), (bd, dictOf es n), (ll, PySem.W.listOf (([] : List Addr).map Value.ref).toArray n'), (D1, PySem.W.listOf cvs.toArray 0), (L' + 3, o3), (L' + 2, o2), (L' + 1, o1)] := News.sub NF (fun p hp => .tail _ hp)
    refine range_at (1 + Int.fmod f 5).toNat _ ((L' + 3, o3) :: (L' + 2, o2) :: (L' + 1, o1) :: (D1, PySem.W.listOf cvs.toArray 0) :: (bx, instObj 151 bd) :: (bd, dictOf es n) :: (ll, PySem.W.listOf (([] : List Addr).map Value.ref).toArray n') :: (rl, PySem.W.listOf (([] : List Addr).map Value.ref).toArray 0) :: [(tl, PySem.W.listOf #[Value.int 1 tkE] 0)])
      (Law1J g L' bx bd ll rl tl D1 (PySem.W.listOf cvs.toArray 0) f) _ _ _ rfl rfl hRF hfn.1.symm (le_lit hfn.2 rfl) FF (News.sub NG (by (repeat (refine all_cons (by k_extra "MINE mem") ?_)); first | exact List.forall_mem_nil _ | exact fun p hp => (by repeat (first | with_reducible exact hp | with_reducible exact List.mem_append_right _ hp | with_reducible apply List.mem_cons_of_mem | exact hp)))) ?j0 ?turn ?done
    case j0 => exact ⟨g, [], es, n, n', 0, 0, [], [], [], o1, o2, o3, tkE, rfl, rfl, rfl, ⟨t, rfl⟩, rfl, rfl, ho1, ho2, ho3, I0, B, .nil, .nil, rfl, fun _ _ h => by simp at h, fun _ h => nomatch h⟩
    case turn =>
      intro i3 t3 m3 news3 h3 tk3 pI3 hi3 hJ3 ha3 F3 N3
      exact law1_turn rfl W hst X T (by k_extra "MINE room") (by k_extra "MINE room") NEs news3 pI3 (Nat.lt_of_lt_of_le hi3 hfn.2) hJ3 ha3 F3 N3
    case done =>
      rintro m3 news3 h3 tk3 F3 N3 ⟨hG, imm, es2, n2, m2, r0, tn, las, ras, ds, p1, p2, p3, tt, hq1, hq2, hq3, ⟨t4, hq4⟩, hq5, rfl, hv1, hv2, hv3, Im, B2, hds, hrs, hlen, hui, hdu⟩
      replace F3 : Fr g L' h3 m3 := F3
      replace N3 : News g L' h3 _ := N3
      clear FF NF hRF
      try k_fold
      k_extra "MINE stepsB"
      refine For_it (s := s) (g := g) rfl ?_ (by intro _; rfl) .never
      k_extra "MINE stepsB"
      rename_i D2 ws hM F5 N5 l5 hwI hwC hwL
      have NEs2 : LawNE L' bx bd ll rl tl D2 :=
        ⟨NEs.1, ⟨lt_ne2 l5 (by k_extra "MINE mem"), lt_ne2 l5 (by k_extra "MINE mem"), lt_ne2 l5 (by k_extra "MINE mem"), lt_ne2 l5 (by k_extra "MINE mem")⟩, ⟨a1, b1, c1, lt_ne2 lR (by k_extra "MINE mem"), lt_ne2 lT (by k_extra "MINE mem"), lt_ne2 l5 (by k_extra "MINE mem")⟩, ⟨a2, b2, c2, lt_ne2 lR (by k_extra "MINE mem"), lt_ne2 lT (by k_extra "MINE mem"), lt_ne2 l5 (by k_extra "MINE mem")⟩, a3, b3, c3, lt_ne2 lR (by k_extra "MINE mem"), lt_ne2 lT (by k_extra "MINE mem"), lt_ne2 l5 (by k_extra "MINE mem")⟩
      have hwl : ws.length ≤ 6 := Nat.le_trans (Nat.le_of_eq hwI.length) (Nat.le_trans (List.length_take_le _ _) (Nat.sub_le_sub_right (Nat.min_le_left 7 _) 1))
      refine listC_at ws.length _ ((L' + 3, p3) :: (L' + 2, p2) :: (L' + 1, p1) :: (D2, PySem.W.listOf ws.toArray 0) :: (bx, instObj 151 bd) :: (bd, dictOf es2 n2) :: (ll, PySem.W.listOf (las.map Value.ref).toArray m2) :: (rl, PySem.W.listOf (ras.map Value.ref).toArray r0) :: (tl, PySem.W.listOf #[Value.int (((1 + Int.fmod f 5).toNat : Int) + 1) tt] tn) :: imm)
        (Law2J g L' bx bd ll rl tl D2 (PySem.W.listOf ws.toArray 0) (((1 + Int.fmod f 5).toNat : Int) + 1)) _ _ D2 rfl rfl F5 (News.sub N5 (by (repeat (refine all_cons (by k_extra "MINE mem") ?_)); first | exact List.forall_mem_nil _ | exact fun p hp => (by repeat (first | with_reducible exact hp | with_reducible exact List.mem_append_right _ hp | with_reducible apply List.mem_cons_of_mem | exact hp)))) ?j0 ?lists ?turn ?done
      case j0 => exact ⟨hG, imm, es2, n2, m2, r0, tn, las, ras, ds, p1, p2, p3, _, tt, hq1, hq2, hq3, rfl, hv1, hv2, hv3, Im, B2, hds, hrs, hlen ▸ hfn.2, hui, hdu, (topb hfn.2).1, (topb hfn.2).2⟩
      case lists =>
        rintro i m' news' h' _ ⟨_, _, _, _, _, _, _, _, _, _, _, _, _, _, _, _, _, _, rfl, _⟩ F' N'
        exact ⟨_, isListOf (N' (D2, PySem.W.listOf ws.toArray 0) (by k_extra "MINE mem")).1, by simp⟩
      case turn =>
        intro i3 v items m4 news4 h4 tk4 pI4 hi4 hL4 hsz4 hv4 hJ4 ha4 F4 N4
        have hmem : (D2, PySem.W.listOf ws.toArray 0) ∈ news4 := by
          obtain ⟨_, _, _, _, _, _, _, _, _, _, _, _, _, _, _, _, _, _, rfl, _⟩ := hJ4
          exact (by k_extra "MINE mem")
        cases isList_fun hL4 (isListOf (N4 _ (.tail _ hmem)).1)
        obtain ⟨c, tc, rfl, hc⟩ := ints_get hwI (by simpa using hv4)
        exact law2_turn rfl W hst X T (by k_extra "MINE room") (by k_extra "MINE room") NEs2 (Nat.lt_of_lt_of_le hi4 hwl) news4 pI4 hJ4 ha4 F4 N4
      case done =>
        intro m5 news5 h5 tk5 F6 N6 hJ6
        replace F6 : Fr g L' h5 m5 := F6
        replace N6 : News g L' h5 news5 := N6
        clear F5 N5
        try k_fold
        k_extra "MINE stepsB"
        rename Fr _ _ _ _ => FF
        rename News _ _ _ _ => NN
        exact ret _ _ _ _ FF NN
theorem law_body {w : World} {dp : Nat} {un : Nat} {fr : Option (List Env)} {gd : Option (List Code)} {s : Shared} {mean : ExcName → Option Value} {mg : Str → Option Value} {mb : Str → Option Value} {QQ : Flow → Shared → Prop} {g : Heap} {L' : Addr} {fa : Addr} {cdv : Addr} {sc : Addr} {o1 : Obj} {o2 : Obj} {o3 : Obj} {vs : List Value} {ns : List Int} {m : Str → Option Value} {h₁ : Heap} {tk₁ : Nat} : ∀ {body : List Stmt} {scope : Scope} (hp : fdOf 30 = some (body, scope)) (W : Wd w.params mean mg mb g) (hst : g.StaysIn g) (X : (hd.heap_39 w.params).In g) (T : TopF mean mg mb g) (hdp : dp + 30 < recursionLimit) (hun : un + 240 < cLine)
    (hm : m "script" = some (.ref sc)) (hsc : g.IsList sc vs.toArray) (hI : IntsAre vs ns) (hn : ns.length ≤ 63)
    (F : Fr g L' h₁ m) (N : News g L' h₁ [(L' + 3, o3), (L' + 2, o2), (L' + 1, o1)]) (ho1 : ∃ v, o1.data = .cell v) (ho2 : ∃ v, o2.data = .cell v) (ho3 : ∃ v, o3.data = .cell v)
    (ret : ∀ h' tk' m' news', Fr g L' h' m' → News g L' h' news' → QQ (.ret (.bool true)) { s with heap := h', toks := tk' }),
    wpAny (model PySem.Challenge.rw_no0367_01.row.prog w) ((Ar dp un fr gd).deeper (envOfC "law" scope L' fa (.ref cdv))) (execs body (envOfC "law" scope L' fa (.ref cdv))) QQ (fun _ _ => False) { s with heap := h₁, toks := tk₁ } :=
  eps_all (P := LWP) LWne (by with_unfolding_all exact LWc.pf) (w, dp, un, fr, gd, s, mean, mg, mb, QQ, g, L', fa, cdv, sc, o1, o2, o3, vs, ns, m, h₁, tk₁)

end Mine.Internal
theorem PySem.Challenge.cw_no0367_01_holds : PySem.Challenge.rw_no0367_01.Holds :=
  Mine.Internal.hd (by
  k_go0
  all_goals (try k_fold)
  rename Fr _ _ _ _ => F0
  rename News _ _ _ _ => N0
  rename IntsAre _ _ => I0
  rename ¬ ((63 : Nat) : Int) < _ => hc0
  rename Frag.In _ _ => hX
  rename Top _ _ _ _ _ _ => hT
  refine' wpAny_mono (Mine.Internal.law_body (dp := 1 + claimMargin) (un := 4) (fr := some []) (gd := some []) rfl ⟨hX, hT⟩ (fun _ _ e => e) hX hT (by decide) (by decide) ?hm ?hsc I0 ?hn F0 N0 ?o1 ?o2 ?o3 ?ret) (fun _ _ x => x) (fun _ _ x => x.elim)
  case hm => rfl
  case hsc => assumption
  case hn => first | exact Int.ofNat_le.mp (Int.not_lt.mp (by assumption)) | omega
  case o1 => exact ⟨_, by assumption⟩
  case o2 => exact ⟨_, by assumption⟩
  case o3 => exact ⟨_, by assumption⟩
  case ret =>
    intro h' tk' m' news' F' N'
    try dsimp only
    k_steps)

