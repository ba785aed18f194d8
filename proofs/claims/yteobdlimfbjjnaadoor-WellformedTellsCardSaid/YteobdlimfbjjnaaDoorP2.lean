/- Names: both sides recognize the same ones. -/
import Derived.Test.YteobdlimfbjjnaaDoorP1
import Derived.Test.YteobdlimfbjjnaaDoorTF0
import Derived.Test.YteobdlimfbjjnaaDoorTF10
namespace Go.Abs
def letterB (c : Int) : Bool := (decide (97 ≤ c) && decide (c ≤ 122)) || (decide (65 ≤ c) && decide (c ≤ 90))
def innerB (c : Int) : Bool := letterB c || ((decide (48 ≤ c) && decide (c ≤ 57)) || c == 95)
def byteI (s : ByteArray) (i : Nat) : Int := ((s.get! i).toNat : Int)
def goodB (s : ByteArray) (i : Nat) : Bool := letterB (byteI s i) || (decide (0 < i) && ((decide (48 ≤ byteI s i) && decide (byteI s i ≤ 57)) || byteI s i == 95))
theorem decode_small (s : ByteArray) (i : Nat) (h : (s.get! i).toNat < 128) : Utf8.decode s i = ((s.get! i).toNat, 1) := by
 unfold Utf8.decode; simp [h]
theorem decode_big (s : ByteArray) (i : Nat) (h : ¬ (s.get! i).toNat < 128) : 128 ≤ (Utf8.decode s i).1 := by
 unfold Utf8.decode
 simp only [Nat.add_zero, h, if_false]
 have hr : 128 ≤ Utf8.runeError := by decide
 split
 · split
   · assumption
   · exact hr
 · split
   · split
     · rename_i hx; simp only [Bool.and_eq_true, decide_eq_true_eq] at hx; exact Nat.le_trans (by decide) hx.1
     · exact hr
   · split
     · split
       · rename_i hx; simp only [Bool.and_eq_true, decide_eq_true_eq] at hx; exact Nat.le_trans (by decide) hx.1
       · exact hr
     · exact hr
def goodC (c : Int) (pos : Nat) : Bool := letterB c || (decide (0 < pos) && ((decide (48 ≤ c) && decide (c ≤ 57)) || c == 95))
theorem token_IsName_step (s : ByteArray) (L : Nat → Option Bool) (pos : Nat) (hp : pos < s.size) :
 t_IsNa_L1 s L pos = if goodC ((Utf8.decode s pos).1 : Int) pos = true then L (pos + (Utf8.decode s pos).2) else some false := by
 unfold t_IsNa_L1
 rw [ite_d hp]
 unfold t_IsNa_J2 t_IsNa_J3 goodC letterB
 generalize ((Utf8.decode s pos).1 : Int) = c
 have e : decide ((pos : Int) > 0) = decide (0 < pos) := by simp
 rw [e]
 generalize decide (97 ≤ c) = b1
 generalize decide (c ≤ 122) = b2
 generalize decide (65 ≤ c) = b3
 generalize decide (c ≤ 90) = b4
 generalize decide (48 ≤ c) = b5
 generalize decide (c ≤ 57) = b6
 generalize decide (0 < pos) = b7
 generalize (c == 95) = b8
 cases b1 <;> cases b2 <;> cases b3 <;> cases b4 <;> cases b5 <;> cases b6 <;> cases b7 <;> cases b8 <;> rfl
theorem token_IsName_loop (s : ByteArray) : ∀ (n pos : Nat), pos ≤ s.size → s.size < n + pos → t_IsNa_L1r s n pos = some ((List.range' pos (s.size - pos)).all (goodB s))
 | 0, pos, h1, h2 => by omega
 | n + 1, pos, h1, h2 => by
  unfold t_IsNa_L1r
  by_cases hp : pos < s.size
  · rw [token_IsName_step s _ pos hp]
    have hR : List.range' pos (s.size - pos) = pos :: List.range' (pos + 1) (s.size - (pos + 1)) := by
     rw [show s.size - pos = (s.size - (pos + 1)) + 1 from by omega, List.range'_succ]
    rw [hR, List.all_cons]
    by_cases hb : (s.get! pos).toNat < 128
    · rw [decode_small s pos hb, token_IsName_loop s n (pos + 1) (by omega) (by omega)]
      show (if goodB s pos = true then _ else _) = _
      cases goodB s pos <;> simp
    · have hbig := decode_big s pos hb
      have hg : goodB s pos = false := by
       unfold goodB letterB byteI; simp; omega
      have hc : goodC ((Utf8.decode s pos).1 : Int) pos = false := by
       unfold goodC letterB; simp; omega
      rw [hg, hc, Bool.false_and]; rfl
  · unfold t_IsNa_L1
    rw [ite_nd hp]
    have : s.size - pos = 0 := by omega
    simp [t_IsNa_J4, this]
theorem sgt_nat {s : ByteArray} {i : Nat} (h : i < s.size) : sgt s (i : Int) = some (s.get! i) := by
 unfold sgt
 rw [if_pos (by omega)]
 simp only [Int.toNat_natCast]
 rw [getElem?_pos s i h]
 congr 1
 have e : s.get! i = s[i] := by
  simp [ByteArray.get!, getElem!_pos, h]
  rfl
 exact e.symm
theorem ref01_Letter_eq (c : Int) : r01_Le c = some (letterB c) := by
 unfold r01_Le r01_Le_J1 letterB
 simp only [ge_iff_le]
 generalize decide (97 ≤ c) = b1
 generalize decide (c ≤ 122) = b2
 generalize decide (65 ≤ c) = b3
 generalize decide (c ≤ 90) = b4
 cases b1 <;> cases b2 <;> cases b3 <;> cases b4 <;> rfl
theorem ref01_inner_eq (c : Int) : r01_in c = some (innerB c) := by
 unfold r01_in r01_Di
 rw [ref01_Letter_eq, Option.bind_some]
 unfold r01_in_J1 r01_Di_J1 innerB
 simp only [ge_iff_le]
 generalize letterB c = b1
 generalize decide (48 ≤ c) = b5
 generalize decide (c ≤ 57) = b6
 generalize (c == 95) = b8
 cases b1 <;> cases b5 <;> cases b6 <;> cases b8 <;> rfl
theorem ref01_IsName_loop (s : ByteArray) (hs : s.size ≤ 12) : ∀ (n i : Nat), i ≤ s.size → s.size < n + i → r01_IsNa_L1r s n i = some ((List.range' i (s.size - i)).all fun k => innerB (byteI s k))
 | 0, pos, h1, h2 => by omega
 | n + 1, i, h1, h2 => by
  unfold r01_IsNa_L1r r01_IsNa_L1
  by_cases hp : i < s.size
  · rw [ite_d (by omega), sgt_nat hp, Option.bind_some, ref01_inner_eq, Option.bind_some, w64_succ (by omega), ref01_IsName_loop s hs n (i + 1) (by omega) (by omega)]
    have hR : List.range' i (s.size - i) = i :: List.range' (i + 1) (s.size - (i + 1)) := by
     rw [show s.size - i = (s.size - (i + 1)) + 1 from by omega, List.range'_succ]
    rw [hR, List.all_cons]
    show (if (!(innerB (byteI s i))) = true then _ else _) = _
    cases innerB (byteI s i) <;> simp
  · rw [ite_nd (by omega)]
    have : s.size - i = 0 := by omega
    simp [r01_IsNa_J2, this]
theorem isKeyword_loop (s : ByteArray) : ∀ (n i : Nat), i ≤ 22 → 22 < n + i → t_IsKe_L1r s n i = some ((gamS0.drop i).any fun x => s.toList == x.toList)
 | 0, pos, h1, h2 => by omega
 | n + 1, i, h1, h2 => by
  have hl : gamS0.length = 22 := rfl
  unfold t_IsKe_L1r t_IsKe_L1
  by_cases hp : i < 22
  · have hp' : i < gamS0.length := by omega
    rw [ite_d (by omega), if_pos (by omega), gt_lt hp', Option.bind_some, w64_succ (by omega), isKeyword_loop s n (i + 1) (by omega) (by omega), dropc hp', List.any_cons]
    cases (s.toList == gamS0[i].toList) <;> simp
  · rw [ite_nd (by omega)]
    have : gamS0.drop i = [] := List.drop_eq_nil_of_le (by omega)
    simp [t_IsKe_J1, this]
def isKw (s : ByteArray) : Bool := gamS0.any fun x => s.toList == x.toList
theorem token_IsKeyword_eq (s : ByteArray) : t_IsKe s = some (isKw s) := isKeyword_loop s big 0 (by omega) (by decide)
theorem ref01_Keywords_eq : r01_Ke = some gamS0 := rfl
theorem ref01_isKeyword_loop (s : ByteArray) (v : List ByteArray) (hv : v.length ≤ 100) : ∀ (n i : Nat), i ≤ v.length → v.length < n + i → r01_IsKe_L1r s v n i = some ((v.drop i).any fun x => x.toList == s.toList)
 | 0, pos, h1, h2 => by omega
 | n + 1, i, h1, h2 => by
  unfold r01_IsKe_L1r r01_IsKe_L1
  by_cases hp : i < v.length
  · rw [ite_d (by omega), gt_lt hp, Option.bind_some, w64_succ (by omega), ref01_isKeyword_loop s v hv n (i + 1) (by omega) (by omega), dropc hp, List.any_cons]
    cases (v[i].toList == s.toList) <;> simp
  · rw [ite_nd (by omega)]
    have : v.drop i = [] := List.drop_eq_nil_of_le (by omega)
    simp [r01_IsKe_J1, this]
theorem ref01_IsKeyword_eq (s : ByteArray) : r01_IsKe s = some (isKw s) := by
 unfold r01_IsKe
 rw [ref01_Keywords_eq, Option.bind_some]
 refine (ref01_isKeyword_loop s gamS0 (by decide) big 0 (by omega) (by decide)).trans ?_
 rw [List.drop_zero]
 congr 1
 unfold isKw
 congr 1
 funext x
 exact Bool.beq_comm
def nameB (s : ByteArray) : Bool := decide (1 ≤ s.size) && decide (s.size ≤ 12) && !isKw s && (List.range' 0 s.size).all (goodB s)
theorem token_IsName_eq (s : ByteArray) : t_IsNa s = some (nameB s) := by
 unfold t_IsNa
 by_cases h1 : s.size < 1
 · rw [ite_d (by omega)]
   simp [t_IsNa_J1, nameB]; omega
 · rw [ite_nd (by omega)]
   by_cases h2 : s.size > 12
   · rw [ite_d (by omega)]
     simp [t_IsNa_J1, nameB]; omega
   · rw [ite_nd (by omega), token_IsKeyword_eq, Option.bind_some]
     unfold t_IsNa_J1
     rw [token_IsName_loop s big 0 (by omega) (by have : big = 18446744073709551616 := rfl; omega)]
     have a1 : 1 ≤ s.size := by omega
     have a2 : s.size ≤ 12 := by omega
     simp only [nameB, a1, a2, decide_true, Bool.true_and, Nat.sub_zero]
     cases isKw s <;> simp
theorem inner_good (s : ByteArray) (h : 0 < s.size) : (letterB (byteI s 0) && (List.range' 0 s.size).all fun k => innerB (byteI s k)) = (List.range' 0 s.size).all (goodB s) := by
 have hR : List.range' 0 s.size = 0 :: List.range' 1 (s.size - 1) := by
  rw [show s.size = (s.size - 1) + 1 from by omega, List.range'_succ]; simp
 rw [hR, List.all_cons, List.all_cons]
 have h0 : goodB s 0 = letterB (byteI s 0) := by simp [goodB]
 have h1 : innerB (byteI s 0) = (letterB (byteI s 0) || ((decide (48 ≤ byteI s 0) && decide (byteI s 0 ≤ 57)) || byteI s 0 == 95)) := rfl
 have h2 : (List.range' 1 (s.size - 1)).all (goodB s) = (List.range' 1 (s.size - 1)).all fun k => innerB (byteI s k) := by
  rw [Bool.eq_iff_iff, List.all_eq_true, List.all_eq_true]
  have e : ∀ k ∈ List.range' 1 (s.size - 1), goodB s k = innerB (byteI s k) := fun k hk => by
   have : 0 < k := by have := List.mem_range'_1.1 hk; omega
   simp [goodB, innerB, this]
  exact ⟨fun h k hk => e k hk ▸ h k hk, fun h k hk => (e k hk).symm ▸ h k hk⟩
 rw [h0, h1, h2]
 cases letterB (byteI s 0) <;> simp
theorem ref01_IsName_eq (s : ByteArray) : r01_IsNa s = some (nameB s) := by
 unfold r01_IsNa
 by_cases h1 : s.size < 1
 · rw [ite_d (by omega)]
   simp [r01_IsNa_J1, nameB]; omega
 · rw [ite_nd (by omega)]
   by_cases h2 : s.size > 12
   · rw [ite_d (by omega)]
     simp [r01_IsNa_J1, nameB]; omega
   · rw [ite_nd (by omega), show (0 : Int) = ((0 : Nat) : Int) from rfl, sgt_nat (by omega), Option.bind_some, ref01_Letter_eq, Option.bind_some, ref01_IsKeyword_eq, Option.bind_some]
     unfold r01_IsNa_J1
     rw [show (0 : Int) = ((0 : Nat) : Int) from rfl, ref01_IsName_loop s (by omega) big 0 (by omega) (by have : big = 18446744073709551616 := rfl; omega)]
     have a1 : 1 ≤ s.size := by omega
     have a2 : s.size ≤ 12 := by omega
     simp only [nameB, a1, a2, decide_true, Bool.true_and, Nat.sub_zero]
     rw [← inner_good s (by omega)]
     show (if (!letterB (byteI s 0)) = true then _ else _) = _
     cases isKw s <;> cases letterB (byteI s 0) <;> simp
end Go.Abs
