/- Plain: sorted lists without duplicates. -/
import Derived.Lib.SlicesCompact
namespace Go.Abs

theorem eq_of_sorted {a b : List Int} (ha : a.Pairwise (· < ·)) (hb : b.Pairwise (· < ·)) (h : ∀ x, x ∈ a ↔ x ∈ b) : a = b := by
  induction a generalizing b with
  | nil =>
    cases b with
    | nil => rfl
    | cons y b => have := (h y).2 (by simp); simp at this
  | cons x a ih =>
    cases b with
    | nil => have := (h x).1 (by simp); simp at this
    | cons y b =>
      rw [List.pairwise_cons] at ha hb
      have hxy : x = y := by
        have h1 := (h x).1 (by simp)
        have h2 := (h y).2 (by simp)
        rcases List.mem_cons.1 h1 with e | h1
        · exact e
        · rcases List.mem_cons.1 h2 with e | h2
          · exact e.symm
          · have := hb.1 x h1; have := ha.1 y h2; omega
      subst hxy
      congr 1
      refine ih ha.2 hb.2 fun z => ?_
      have hz := h z
      simp only [List.mem_cons] at hz
      constructor
      · intro hm
        have := ha.1 z hm
        rcases hz.1 (.inr hm) with e | e
        · omega
        · exact e
      · intro hm
        have := hb.1 z hm
        rcases hz.2 (.inr hm) with e | e
        · omega
        · exact e

theorem compactUpTo_sorted (d : Array Int) (hd : ∀ i j, i ≤ j → j < d.size → d[i]! ≤ d[j]!) : ∀ m, m ≤ d.size → (∀ x, x ∈ Lib.compactUpTo d m ↔ ∃ i, i < m ∧ d[i]! = x) ∧ (Lib.compactUpTo d m).Pairwise (· < ·) := by
  intro m
  induction m with
  | zero => intro _; exact ⟨fun x => by simp [Lib.compactUpTo], by simp [Lib.compactUpTo]⟩
  | succ m ih =>
    intro hm
    obtain ⟨h1, h2⟩ := ih (by omega)
    rw [Lib.compactUpTo_succ]
    by_cases hk : Lib.keeps d m = true
    · rw [if_pos hk]
      refine ⟨fun x => ?_, ?_⟩
      · rw [List.mem_append, h1 x, List.mem_singleton]
        constructor
        · rintro (⟨i, hi, e⟩ | e)
          · exact ⟨i, by omega, e⟩
          · exact ⟨m, by omega, e.symm⟩
        · rintro ⟨i, hi, e⟩
          by_cases him : i = m
          · exact .inr (by rw [← e, him])
          · exact .inl ⟨i, by omega, e⟩
      · rw [List.pairwise_append]
        refine ⟨h2, by simp, fun x hx y hy => ?_⟩
        rw [List.mem_singleton] at hy
        subst hy
        obtain ⟨i, hi, e⟩ := (h1 x).1 hx
        have hk' : m = 0 ∨ d[m]! ≠ d[m - 1]! := by simpa [Lib.keeps] using hk
        have h3 := hd i (m - 1) (by omega) (by omega)
        have h4 := hd (m - 1) m (by omega) (by omega)
        rcases hk' with h5 | h5
        · omega
        · rw [← e]; omega
    · rw [if_neg hk, List.append_nil]
      refine ⟨fun x => ?_, h2⟩
      have hk' : ¬ (m = 0 ∨ d[m]! ≠ d[m - 1]!) := by simpa [Lib.keeps] using hk
      rw [not_or] at hk'
      have he : d[m]! = d[m - 1]! := by have := hk'.2; simpa using this
      rw [h1 x]
      constructor
      · rintro ⟨i, hi, e⟩; exact ⟨i, by omega, e⟩
      · rintro ⟨i, hi, e⟩
        by_cases him : i = m
        · exact ⟨m - 1, by omega, by rw [← he, ← him, e]⟩
        · exact ⟨i, by omega, e⟩

def msort (l : List Int) : List Int := l.mergeSort fun x y => decide (x ≤ y)
def setOf (l : List Int) : List Int := Lib.compact (msort l)
theorem msort_length (l : List Int) : (msort l).length = l.length := by simp [msort]
theorem mem_msort (l : List Int) (x : Int) : x ∈ msort l ↔ x ∈ l := by simp [msort]
theorem msort_sorted (l : List Int) : (msort l).Pairwise (· ≤ ·) := by
  have := List.pairwise_mergeSort (le := fun x y : Int => decide (x ≤ y)) (by simp; omega) (by simp; omega) l
  simpa [msort] using this
theorem compact_facts (l : List Int) (h : l.Pairwise (· ≤ ·)) : (∀ x, x ∈ Lib.compact l ↔ x ∈ l) ∧ (Lib.compact l).Pairwise (· < ·) := by
  have hd : ∀ i j, i ≤ j → j < l.toArray.size → l.toArray[i]! ≤ l.toArray[j]! := by
    intro i j hij hj
    have hj' : j < l.length := by simpa using hj
    rcases Nat.lt_or_eq_of_le hij with h1 | rfl
    · have := List.pairwise_iff_getElem.1 h i j (by omega) hj' h1
      rw [getElem!_pos l.toArray i (by simp; omega), getElem!_pos l.toArray j (by simpa using hj')]
      simpa using this
    · exact Int.le_refl _
  obtain ⟨h1, h2⟩ := compactUpTo_sorted l.toArray hd l.length (by simp)
  refine ⟨fun x => ?_, h2⟩
  show x ∈ Lib.compactUpTo l.toArray l.length ↔ _
  rw [h1 x, List.mem_iff_getElem]
  constructor
  · rintro ⟨i, hi, e⟩
    rw [getElem!_pos l.toArray i (by simpa using hi)] at e
    exact ⟨i, hi, by simpa using e⟩
  · rintro ⟨i, hi, e⟩
    exact ⟨i, hi, by rw [getElem!_pos l.toArray i (by simpa using hi)]; simpa using e⟩
theorem compact_length (l : List Int) : (Lib.compact l).length ≤ l.length := by
  unfold Lib.compact Lib.compactUpTo
  rw [List.length_map]
  exact Nat.le_trans (List.length_filter_le _ _) (by simp)
theorem mem_setOf (l : List Int) (x : Int) : x ∈ setOf l ↔ x ∈ l := by
  unfold setOf; rw [(compact_facts _ (msort_sorted l)).1, mem_msort]
theorem setOf_sorted (l : List Int) : (setOf l).Pairwise (· < ·) := (compact_facts _ (msort_sorted l)).2
theorem setOf_length (l : List Int) : (setOf l).length ≤ l.length := by
  have := compact_length (msort l); rw [msort_length] at this; exact this
end Go.Abs
