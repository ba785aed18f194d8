/- What comes in: lists of triples of bytes. -/
import Derived.Test.YtejicekieoclaaaK9
import Derived.Test.YtejicekieoclaaaK8
set_option linter.unusedSimpArgs false
namespace Go.Abs
open Go.Proofs Go.Sort
set_option maxRecDepth 100000
set_option maxHeartbeats 4000000
theorem rows_trip : ∀ (rows : List (List AV)), (∀ row ∈ rows, (∃ parts : List (List AV), parts.length = 3 ∧ row = parts.flatten ∧ ∀ p ∈ parts, (∃ n, p = [u8 n] ∧ (Lit.int .u8 n).wf = true) ∧ p.length = 1) ∧ row.length = 3) → ∃ l : List (Int × Int × Int), rows = trip l
  | [], _ => ⟨[], rfl⟩
  | r :: rs, h => by
    obtain ⟨l, hl⟩ := rows_trip rs (fun row hr => h row (by simp [hr]))
    obtain ⟨⟨parts, hp, he, hx⟩, _⟩ := h r (by simp)
    match parts, hp with
    | [p1, p2, p3], _ =>
      obtain ⟨⟨n1, h1, _⟩, _⟩ := hx p1 (by simp)
      obtain ⟨⟨n2, h2, _⟩, _⟩ := hx p2 (by simp)
      obtain ⟨⟨n3, h3, _⟩, _⟩ := hx p3 (by simp)
      exact ⟨(n1, n2, n3) :: l, by rw [he, hl, h1, h2, h3]; rfl⟩
def XT (avs : List AV) : Prop := ∃ l : List (Int × Int × Int), avs = [.sl false 3 (trip l)] ∧ l.length < 1000000000000000
theorem op22 : Opens Try.prog 22 XT := by
  refine (opens_slice (k := 3) Try.underlying22 (by kernel_rfl) (by omega) (opens_array (k := 1) Try.underlying26 (by kernel_rfl) (by kernel_rfl) (opens_int Try.underlying5))).mono ?_
  rintro avs ⟨rows, rfl, hr, hb⟩
  obtain ⟨l, rfl⟩ := rows_trip rows hr
  refine ⟨l, rfl, ?_⟩
  have hby : Try.prog.bytesOf 26 = 3 := by kernel_rfl
  rw [hby, trip_length] at hb
  unfold reachBytes at hb
  omega
theorem arg22 (a : AV) : argAV Try.prog 22 [a] = a := by unfold argAV; rw [Try.underlying22]; rfl
end Go.Abs
