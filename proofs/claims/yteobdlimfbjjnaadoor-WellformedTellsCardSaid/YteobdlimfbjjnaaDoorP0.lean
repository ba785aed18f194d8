/- Plain facts: sorted lists of numbers. -/
import Derived.Lib.SlicesCompact
import Derived.Test.YteobdlimfbjjnaaDoorP1
namespace Go.Abs
theorem eq_of_sorted {a b : List Int} (ha : a.Pairwise (· < ·)) (hb : b.Pairwise (· < ·)) (h : ∀ x, x ∈ a ↔ x ∈ b) : a = b := by
 induction a generalizing b with
 | nil =>
  cases b with
  | nil => rfl
  | cons y b => have := (h y).2 (by simp); simp at this
 | cons x a ih =>
  cases b with
  | nil => have := (h x).1 (by simp); simp at this
  | cons y b =>
   rw [List.pairwise_cons] at ha hb
   have hxy : x = y := by
    have h1 := (h x).1 (by simp)
    have h2 := (h y).2 (by simp)
    rcases List.mem_cons.1 h1 with e | h1
    · exact e
    · rcases List.mem_cons.1 h2 with e | h2
      · exact e.symm
      · have := hb.1 x h1; have := ha.1 y h2; omega
   subst hxy
   congr 1
   refine ih ha.2 hb.2 fun z => ?_
   have hz := h z
   simp only [List.mem_cons] at hz
   constructor
   · intro hm
     have := ha.1 z hm
     rcases hz.1 (.inr hm) with e | e
     · omega
     · exact e
   · intro hm
     have := hb.1 z hm
     rcases hz.2 (.inr hm) with e | e
     · omega
     · exact e
theorem compactUpTo_sorted (d : Array Int) (hd : ∀ i j, i ≤ j → j < d.size → d[i]! ≤ d[j]!) : ∀ m, m ≤ d.size → (∀ x, x ∈ Lib.compactUpTo d m ↔ ∃ i, i < m ∧ d[i]! = x) ∧ (Lib.compactUpTo d m).Pairwise (· < ·) := by
 intro m
 induction m with
 | zero => intro _; exact ⟨fun x => by simp [Lib.compactUpTo], by simp [Lib.compactUpTo]⟩
 | succ m ih =>
  intro hm
  obtain ⟨h1, h2⟩ := ih (by omega)
  rw [Lib.compactUpTo_succ]
  by_cases hk : Lib.keeps d m = true
  · rw [if_pos hk]
    refine ⟨fun x => ?_, ?_⟩
    · rw [List.mem_append, h1 x, List.mem_singleton]
      constructor
      · rintro (⟨i, hi, e⟩ | e)
        · exact ⟨i, by omega, e⟩
        · exact ⟨m, by omega, e.symm⟩
      · rintro ⟨i, hi, e⟩
        by_cases him : i = m
        · exact .inr (by rw [← e, him])
        · exact .inl ⟨i, by omega, e⟩
    · rw [List.pairwise_append]
      refine ⟨h2, by simp, fun x hx y hy => ?_⟩
      rw [List.mem_singleton] at hy
      subst hy
      obtain ⟨i, hi, e⟩ := (h1 x).1 hx
      have hk' : m = 0 ∨ d[m]! ≠ d[m - 1]! := by simpa [Lib.keeps] using hk
      have h3 := hd i (m - 1) (by omega) (by omega)
      have h4 := hd (m - 1) m (by omega) (by omega)
      rcases hk' with h5 | h5
      · omega
      · rw [← e]; omega
  · rw [if_neg hk, List.append_nil]
    refine ⟨fun x => ?_, h2⟩
    have hk' : ¬ (m = 0 ∨ d[m]! ≠ d[m - 1]!) := by simpa [Lib.keeps] using hk
    rw [not_or] at hk'
    have he : d[m]! = d[m - 1]! := by have := hk'.2; simpa using this
    rw [h1 x]
    constructor
    · rintro ⟨i, hi, e⟩; exact ⟨i, by omega, e⟩
    · rintro ⟨i, hi, e⟩
      by_cases him : i = m
      · exact ⟨m - 1, by omega, by rw [← he, ← him, e]⟩
      · exact ⟨i, by omega, e⟩
def msort (l : List Int) : List Int := l.mergeSort fun x y => decide (x ≤ y)
def setOf (l : List Int) : List Int := Lib.compact (msort l)
theorem msort_length (l : List Int) : (msort l).length = l.length := by simp [msort]
theorem mem_msort (l : List Int) (x : Int) : x ∈ msort l ↔ x ∈ l := by simp [msort]
theorem msort_sorted (l : List Int) : (msort l).Pairwise (· ≤ ·) := by
 have := List.pairwise_mergeSort (le := fun x y : Int => decide (x ≤ y)) (by simp; omega) (by simp; omega) l
 simpa [msort] using this
theorem compact_facts (l : List Int) (h : l.Pairwise (· ≤ ·)) : (∀ x, x ∈ Lib.compact l ↔ x ∈ l) ∧ (Lib.compact l).Pairwise (· < ·) := by
 have hd : ∀ i j, i ≤ j → j < l.toArray.size → l.toArray[i]! ≤ l.toArray[j]! := by
  intro i j hij hj
  have hj' : j < l.length := by simpa using hj
  rcases Nat.lt_or_eq_of_le hij with h1 | rfl
  · have := List.pairwise_iff_getElem.1 h i j (by omega) hj' h1
    rw [getElem!_pos l.toArray i (by simp; omega), getElem!_pos l.toArray j (by simpa using hj')]
    simpa using this
  · exact Int.le_refl _
 obtain ⟨h1, h2⟩ := compactUpTo_sorted l.toArray hd l.length (by simp)
 refine ⟨fun x => ?_, h2⟩
 show x ∈ Lib.compactUpTo l.toArray l.length ↔ _
 rw [h1 x, List.mem_iff_getElem]
 constructor
 · rintro ⟨i, hi, e⟩
   rw [getElem!_pos l.toArray i (by simpa using hi)] at e
   exact ⟨i, hi, by simpa using e⟩
 · rintro ⟨i, hi, e⟩
   exact ⟨i, hi, by rw [getElem!_pos l.toArray i (by simpa using hi)]; simpa using e⟩
theorem compact_le (l : List Int) : (Lib.compact l).length ≤ l.length := by
 unfold Lib.compact Lib.compactUpTo
 rw [List.length_map]
 exact Nat.le_trans (List.length_filter_le _ _) (by simp)
theorem mem_setOf (l : List Int) (x : Int) : x ∈ setOf l ↔ x ∈ l := by
 unfold setOf; rw [(compact_facts _ (msort_sorted l)).1, mem_msort]
theorem setOf_sorted (l : List Int) : (setOf l).Pairwise (· < ·) := (compact_facts _ (msort_sorted l)).2
theorem setOf_length (l : List Int) : (setOf l).length ≤ l.length := by
 have := compact_le (msort l); rw [msort_length] at this; exact this
def insPos (out : List Int) (x : Int) : Nat := (out.takeWhile fun y => decide (y < x)).length
def ins (out : List Int) (x : Int) : List Int := if out[insPos out x]? = some x then out else out.take (insPos out x) ++ x :: out.drop (insPos out x)
theorem insPos_eq (out : List Int) (x : Int) (i : Nat) (hi : i ≤ out.length) (h1 : ∀ (k : Nat) (hk : k < out.length), k < i → out[k] < x) (h2 : ∀ (hl : i < out.length), ¬ out[i] < x) : insPos out x = i := by
 unfold insPos
 induction out generalizing i with
 | nil => simp at hi; simp [hi]
 | cons y out ih =>
  by_cases hy : y < x
  · cases i with
    | zero => exact absurd hy (h2 (by simp))
    | succ i =>
     rw [List.takeWhile_cons_of_pos (by simpa using hy), List.length_cons]
     rw [ih i (by simpa using hi) (fun k hk hki => by have := h1 (k + 1) (by simpa using hk) (by omega); simpa using this) (fun hl => by have := h2 (by simpa using hl); simpa using this)]
  · cases i with
    | zero => rw [List.takeWhile_cons_of_neg (by simpa using hy)]; rfl
    | succ i => have := h1 0 (by simp) (by omega); simp at this; exact absurd this hy
theorem ins_length (out : List Int) (x : Int) : (ins out x).length ≤ out.length + 1 := by
 unfold ins; split
 · omega
 · simp; omega
def insAll (l : List Int) : List Int := l.foldl ins []
theorem insAll_length (l : List Int) : (insAll l).length ≤ l.length := by
 have : ∀ (l acc : List Int), (l.foldl ins acc).length ≤ acc.length + l.length := by
  intro l
  induction l with
  | nil => simp
  | cons x l ih => intro acc; have h1 := ih (ins acc x); have h2 := ins_length acc x; simp only [List.foldl_cons, List.length_cons]; omega
 simpa [insAll] using this l []
theorem insAll_take (l : List Int) (j : Nat) (hj : j < l.length) : insAll (l.take (j + 1)) = ins (insAll (l.take j)) l[j] := by
 rw [List.take_succ_eq_append_getElem hj, insAll, List.foldl_append]; rfl
theorem ins_facts (out : List Int) (x : Int) (h : out.Pairwise (· < ·)) : (ins out x).Pairwise (· < ·) ∧ ∀ z, z ∈ ins out x ↔ z ∈ out ∨ z = x := by
 have key : ∀ (out : List Int), out.Pairwise (· < ·) → (∀ (k : Nat) (hk : k < out.length), k < insPos out x → out[k] < x) ∧ (∀ (k : Nat) (hk : k < out.length), insPos out x ≤ k → x ≤ out[k]) ∧ insPos out x ≤ out.length := by
  intro out
  induction out with
  | nil => intro _; simp [insPos]
  | cons y out ih =>
   intro hp
   rw [List.pairwise_cons] at hp
   obtain ⟨g1, g2, g3⟩ := ih hp.2
   by_cases hy : y < x
   · have e : insPos (y :: out) x = insPos out x + 1 := by unfold insPos; rw [List.takeWhile_cons_of_pos (by simpa using hy)]; rfl
     rw [e]
     refine ⟨fun k hk hki => ?_, fun k hk hki => ?_, by simp; omega⟩
     · cases k with
       | zero => simpa using hy
       | succ k => have := g1 k (by simpa using hk) (by omega); simpa using this
     · cases k with
       | zero => omega
       | succ k => have := g2 k (by simpa using hk) (by omega); simpa using this
   · have e : insPos (y :: out) x = 0 := by unfold insPos; rw [List.takeWhile_cons_of_neg (by simpa using hy)]; rfl
     rw [e]
     refine ⟨fun k hk hki => by omega, fun k hk _ => ?_, by simp⟩
     cases k with
     | zero => simp; omega
     | succ k =>
      have hk' : k < out.length := by simpa using hk
      have := hp.1 out[k] (List.getElem_mem hk')
      simp; omega
 obtain ⟨g1, g2, g3⟩ := key out h
 unfold ins
 split
 · rename_i he
   obtain ⟨hl, he⟩ := List.getElem?_eq_some_iff.1 he
   refine ⟨h, fun z => ⟨.inl, ?_⟩⟩
   rintro (hz | rfl)
   · exact hz
   · rw [← he]; exact List.getElem_mem hl
 · rename_i he
   have htd : out = out.take (insPos out x) ++ out.drop (insPos out x) := (List.take_append_drop _ _).symm
   refine ⟨?_, fun z => ?_⟩
   · rw [List.pairwise_append, List.pairwise_cons]
     refine ⟨h.sublist (List.take_sublist _ _), ⟨fun z hz => ?_, h.sublist (List.drop_sublist _ _)⟩, fun y hy z hz => ?_⟩
     · obtain ⟨k, hk, rfl⟩ := List.mem_iff_getElem.1 hz
       rw [List.getElem_drop]
       rw [List.length_drop] at hk
       have h1 := g2 (insPos out x + k) (by omega) (by omega)
       by_cases hk0 : k = 0
       · subst hk0
         have : out[insPos out x + 0] ≠ x := fun e => he (by rw [List.getElem?_eq_getElem (by omega)]; simpa using e)
         omega
       · have h2 := g2 (insPos out x) (by omega) (by omega)
         have h3 := List.pairwise_iff_getElem.1 h (insPos out x) (insPos out x + k) (by omega) (by omega) (by omega)
         omega
     · obtain ⟨k, hk, rfl⟩ := List.mem_iff_getElem.1 hy
       rw [List.getElem_take]
       rw [List.length_take] at hk
       have h1 := g1 k (by omega) (by omega)
       rcases List.mem_cons.1 hz with rfl | hz
       · exact h1
       · obtain ⟨k', hk', rfl⟩ := List.mem_iff_getElem.1 hz
         rw [List.getElem_drop]
         rw [List.length_drop] at hk'
         have h2 := g2 (insPos out x + k') (by omega) (by omega)
         omega
   · rw [List.mem_append, List.mem_cons]
     constructor
     · rintro (hz | rfl | hz)
       · exact .inl (List.mem_of_mem_take hz)
       · exact .inr rfl
       · exact .inl (List.mem_of_mem_drop hz)
     · rintro (hz | rfl)
       · rw [htd, List.mem_append] at hz
         exact hz.imp id .inr
       · exact .inr (.inl rfl)
theorem insAll_eq (l : List Int) : insAll l = setOf l := by
 have key : ∀ (l acc : List Int), acc.Pairwise (· < ·) → (l.foldl ins acc).Pairwise (· < ·) ∧ ∀ z, z ∈ l.foldl ins acc ↔ z ∈ acc ∨ z ∈ l := by
  intro l
  induction l with
  | nil => intro acc h; exact ⟨h, by simp⟩
  | cons x l ih =>
   intro acc h
   obtain ⟨h1, h2⟩ := ins_facts acc x h
   obtain ⟨h3, h4⟩ := ih (ins acc x) h1
   refine ⟨h3, fun z => ?_⟩
   rw [List.foldl_cons, h4 z, h2 z, List.mem_cons]
   constructor
   · rintro ((h | h) | h)
     · exact .inl h
     · exact .inr (.inl h)
     · exact .inr (.inr h)
   · rintro (h | h | h)
     · exact .inl (.inl h)
     · exact .inl (.inr h)
     · exact .inr h
 obtain ⟨h1, h2⟩ := key l [] (by simp)
 exact eq_of_sorted h1 (setOf_sorted l) fun z => by rw [mem_setOf]; have := h2 z; simpa [insAll] using this
end Go.Abs
