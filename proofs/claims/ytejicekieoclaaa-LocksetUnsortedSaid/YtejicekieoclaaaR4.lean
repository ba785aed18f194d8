/- LocksetUnsorted: for every input the law returns true, and its arguments read behind the call as before. -/
import Derived.Test.YtejicekieoclaaaK9
namespace Go.Proofs.Ytejicekieoclaaa.lawUns
open Go.ChangeShapes Go.WideShapes Go.ChangeAt Go.RowKit Go.Abs
set_option maxRecDepth 100000 in
theorem lifted (os : Os) (started : os.Started) (H : Type) (enc : TypeId × Value → H) :
    ReturnsInHanded {} Try.checked os 4 .any (Rows.locksetUnsortedSpec.pre6 enc Try.prog Try.f4 Rows.locksetUnsortedRow.domain false) (Rows.locksetUnsortedSpec.post enc Try.prog Try.f4 false true false false) := by
  refine returnsInHanded_of_change_sized (C := Try.checked) own0 started (by kernel_rfl) Try.func4
    (ChangeSpec.witness6 (enc := enc) (C := Try.checked) false ⟨#[], #[.int .i64 0, .int .i64 0, .bool false, .agg #[.slice none 0 0, .slice none 0 0], .agg #[.slice none 0 0, .slice none 0 0]], []⟩ 8 (by kernel_rfl) (by kernel_rfl) (by kernel_rfl) (by kernel_rfl)) ?_
  intro W base args ds gs before hval hW _ hwt _
  refine law_contract (P := Try.prog) (Xs := [fun avs => ∃ n, avs = [si n], fun avs => ∃ n, avs = [si n], fun avs => ∃ b, avs = [sb b], XH, XH]) rfl (by kernel_rfl) Try.underlying4 laid ?_ ?_ ?_ ?_ hval hW hwt
  · rw [Try.params4]; intro t ht
    have : t = 3 ∨ t = 4 ∨ t = 28 := by simpa using ht
    rcases this with rfl | rfl | rfl <;> exact ⟨by kernel_rfl, of_decide_eq_true (by kernel_rfl)⟩
  · rw [Try.params4]; exact ⟨op3, op3, op4, op28, op28, trivial⟩
  · rw [Try.params4]
    rintro avs ⟨a1, r1, rfl, ⟨n1, rfl⟩, a2, r2, rfl, ⟨n2, rfl⟩, a3, r3, rfl, ⟨b, rfl⟩, a4, r4, rfl, ⟨E, S, rfl, hE, hS⟩, a5, r5, rfl, ⟨E', S', rfl, hE', hS'⟩, rfl⟩
    rw [arg28, arg28, arg3, arg3, arg4]
    exact lawUnsorted n1 n2 b E S E' S' hE hS hE' hS'
  · rw [Try.params4]
    intro ds hl
    obtain ⟨d0, d1, d2, d3, d4, rfl⟩ : ∃ d0 d1 d2 d3 d4, ds = [d0, d1, d2, d3, d4] := by
      match ds, hl with
      | [d0, d1, d2, d3, d4], _ => exact ⟨d0, d1, d2, d3, d4, rfl⟩
    rfl
theorem proved : Rows.LocksetUnsortedSaid :=
  OpenClaim.holds_of_wide 4 Try.f4 rfl rfl rfl rfl rfl rfl rfl ⟨rfl, rfl, rfl, rfl, rfl⟩ rfl rfl rfl rfl rfl (by kernel_rfl) Try.func4 (by kernel_rfl)
    (of_decide_eq_true (by kernel_rfl)) (by unfold Func.isWrapper; first | (rw [if_pos (by decide +kernel)]; kernel_rfl) | (rw [if_neg (by decide +kernel)]; exact ⟨rfl, rfl⟩))
    (fun os started H enc _ => lifted os started H enc)
end Go.Proofs.Ytejicekieoclaaa.lawUns
