/- Plain facts about the programs' small steps: indices, counters, rooms. -/
import Derived.Test.YteobdlimfbjjnaaDoorCoreD
namespace Go.Abs
theorem w64_of {n : Int} (h : -9223372036854775808 ≤ n) (h2 : n < 9223372036854775808) : w64 n = n := by simp only [w64, IntKind.wrap, IntKind.bits, IntKind.signed]; simp; omega
theorem w64_succ {i : Nat} (h : i < 9223372036854775807) : w64 ((i : Int) + 1) = ((i + 1 : Nat) : Int) := by rw [w64_of (by omega) (by omega)]; rfl
theorem gt_nat {α : Type} (l : List α) (i : Nat) : gt l (i : Int) = l[i]? := by simp [gt]
theorem gt_lt {α : Type} {l : List α} {i : Nat} (h : i < l.length) : gt l (i : Int) = some l[i] := by rw [gt_nat]; simp [h]
def inB (i : Int) (n : Nat) : Bool := decide (0 ≤ i) && decide (i < (n : Int))
def ix {α : Type} [Inhabited α] (l : List α) (i : Int) : α := (l[i.toNat]?).getD default
theorem inB_iff {i : Int} {n : Nat} : inB i n = true ↔ 0 ≤ i ∧ i < n := by simp [inB]
theorem inB_nat {i n : Nat} : inB (i : Int) n = decide (i < n) := by simp [inB]
theorem gt_ix {α : Type} [Inhabited α] {l : List α} {i : Int} (h : inB i l.length = true) : gt l i = some (ix l i) := by
 obtain ⟨h0, h1⟩ := inB_iff.1 h
 have : i.toNat < l.length := by omega
 simp [gt, ix, h0, this]
theorem ix_nat {α : Type} [Inhabited α] {l : List α} {i : Nat} (h : i < l.length) : ix l (i : Int) = l[i] := by simp [ix, h]
theorem room_of {n b : Nat} (h : n * b ≤ 70368744177664) : roomOK n b = true := by simp [roomOK, h]
theorem ite_room {α : Type} {n b : Nat} {x y : α} (h : n * b ≤ 70368744177664) : (if roomOK n b = true then x else y) = x := if_pos (room_of h)
theorem ite_d {α : Type} {p : Prop} [Decidable p] {x y : α} (h : p) : (if decide p = true then x else y) = x := by rw [if_pos (by simpa using h)]
theorem ite_nd {α : Type} {p : Prop} [Decidable p] {x y : α} (h : ¬ p) : (if decide p = true then x else y) = y := by rw [if_neg (by simpa using h)]
theorem dropc {α : Type} {l : List α} {i : Nat} (h : i < l.length) : l.drop i = l[i] :: l.drop (i + 1) := List.drop_eq_getElem_cons h
theorem dropn {α : Type} {l : List α} {i : Nat} (h : ¬ i < l.length) : l.drop i = [] := List.drop_eq_nil_of_le (by omega)
theorem big_eq : big = 18446744073709551616 := rfl
theorem kinds {P : Int → Prop} (h1 : P 1) (h2 : P 2) (h3 : P 3) (h4 : P 4) (h5 : P 5) (h6 : P 6) (h7 : P 7) (h8 : P 8) (h9 : P 9) (h10 : P 10) (h11 : P 11) (h12 : P 12) (h13 : P 13) (h14 : P 14) (h15 : P 15) (h16 : P 16) (h17 : P 17) (h18 : P 18) (h19 : P 19) (h20 : P 20) (h21 : P 21) (h22 : P 22) (h23 : P 23)
 (ho : ∀ k, k ≠ 1 → k ≠ 2 → k ≠ 3 → k ≠ 4 → k ≠ 5 → k ≠ 6 → k ≠ 7 → k ≠ 8 → k ≠ 9 → k ≠ 10 → k ≠ 11 → k ≠ 12 → k ≠ 13 → k ≠ 14 → k ≠ 15 → k ≠ 16 → k ≠ 17 → k ≠ 18 → k ≠ 19 → k ≠ 20 → k ≠ 21 → k ≠ 22 → k ≠ 23 → P k) (k : Int) : P k := by
 by_cases e1 : k = 1; · exact e1 ▸ h1
 by_cases e2 : k = 2; · exact e2 ▸ h2
 by_cases e3 : k = 3; · exact e3 ▸ h3
 by_cases e4 : k = 4; · exact e4 ▸ h4
 by_cases e5 : k = 5; · exact e5 ▸ h5
 by_cases e6 : k = 6; · exact e6 ▸ h6
 by_cases e7 : k = 7; · exact e7 ▸ h7
 by_cases e8 : k = 8; · exact e8 ▸ h8
 by_cases e9 : k = 9; · exact e9 ▸ h9
 by_cases e10 : k = 10; · exact e10 ▸ h10
 by_cases e11 : k = 11; · exact e11 ▸ h11
 by_cases e12 : k = 12; · exact e12 ▸ h12
 by_cases e13 : k = 13; · exact e13 ▸ h13
 by_cases e14 : k = 14; · exact e14 ▸ h14
 by_cases e15 : k = 15; · exact e15 ▸ h15
 by_cases e16 : k = 16; · exact e16 ▸ h16
 by_cases e17 : k = 17; · exact e17 ▸ h17
 by_cases e18 : k = 18; · exact e18 ▸ h18
 by_cases e19 : k = 19; · exact e19 ▸ h19
 by_cases e20 : k = 20; · exact e20 ▸ h20
 by_cases e21 : k = 21; · exact e21 ▸ h21
 by_cases e22 : k = 22; · exact e22 ▸ h22
 by_cases e23 : k = 23; · exact e23 ▸ h23
 exact ho k e1 e2 e3 e4 e5 e6 e7 e8 e9 e10 e11 e12 e13 e14 e15 e16 e17 e18 e19 e20 e21 e22 e23
end Go.Abs
