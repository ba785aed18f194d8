/- What comes in. -/
import Derived.Test.YtejicekieoclaaaCoreJ
import Derived.Test.YtejicekieoclaaaK7
import Derived.Test.YtejicekieoclaaaRows
set_option linter.unusedSimpArgs false
namespace Go.Abs
open Go.Proofs Go.Sort
set_option maxRecDepth 100000
set_option maxHeartbeats 4000000

theorem rows_ints : ∀ (rows : List (List AV)), (∀ row ∈ rows, (∃ n, row = [.sc (.int .i64 n)] ∧ (Lit.int .i64 n).wf = true) ∧ row.length = 1) → ∃ l : List Int, rows = ints l
  | [], _ => ⟨[], rfl⟩
  | r :: rs, h => by
    obtain ⟨l, hl⟩ := rows_ints rs (fun row hr => h row (by simp [hr]))
    obtain ⟨⟨n, hn, _⟩, _⟩ := h r (by simp)
    exact ⟨n :: l, by rw [hn, hl]; rfl⟩
def XI (avs : List AV) : Prop := ∃ l : List Int, avs = [isl l] ∧ l.length < 1000000000000000
def XH (avs : List AV) : Prop := ∃ E S : List Int, avs = [isl E, isl S] ∧ E.length < 1000000000000000 ∧ S.length < 1000000000000000
theorem op23 : Opens Try.prog 23 XI := by
  refine (opens_slice (k := 1) Try.underlying23 (by kernel_rfl) (by omega) (opens_int Try.underlying3)).mono ?_
  rintro avs ⟨rows, rfl, hr, hb⟩
  obtain ⟨l, rfl⟩ := rows_ints rows hr
  refine ⟨l, rfl, ?_⟩
  have hby : Try.prog.bytesOf 3 = 8 := by kernel_rfl
  rw [hby, ints_length] at hb
  unfold reachBytes at hb
  omega
theorem op28 : Opens Try.prog 28 XH := by
  refine (opens_struct (Xs := [XI, XI]) Try.underlying28 ⟨by kernel_rfl, op23, by kernel_rfl, op23, trivial⟩ (by kernel_rfl)).mono ?_
  rintro avs ⟨a, r, rfl, ⟨E, rfl, hE⟩, b, r', rfl, ⟨S, rfl, hS⟩, rfl⟩
  exact ⟨E, S, rfl, hE, hS⟩
theorem op3 : Opens Try.prog 3 (fun avs => ∃ n, avs = [si n]) := (opens_int Try.underlying3).mono fun _ ⟨n, h, _⟩ => ⟨n, h⟩
theorem op4 : Opens Try.prog 4 (fun avs => ∃ b, avs = [sb b]) := opens_bool Try.underlying4
theorem arg28 (avs : List AV) : argAV Try.prog 28 avs = .agg avs := by unfold argAV; rw [Try.underlying28]; rfl
theorem arg3 (a : AV) : argAV Try.prog 3 [a] = a := by unfold argAV; rw [Try.underlying3]; rfl
theorem arg4 (a : AV) : argAV Try.prog 4 [a] = a := by unfold argAV; rw [Try.underlying4]; rfl
theorem laid : laidOutB Try.prog = true := by kernel_rfl
theorem own0 : ownKnob Try.prog.godebug = none := by kernel_rfl
end Go.Abs
