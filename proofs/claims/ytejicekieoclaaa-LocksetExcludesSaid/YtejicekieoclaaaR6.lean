/- LocksetExcludes: for every input the law returns true, and its arguments read behind the call as before. -/
import Derived.Test.YtejicekieoclaaaK9
namespace Go.Proofs.Ytejicekieoclaaa.lawExcl
open Go.ChangeShapes Go.WideShapes Go.ChangeAt Go.RowKit Go.Abs
set_option maxRecDepth 100000 in
theorem lifted (os : Os) (started : os.Started) (H : Type) (enc : TypeId × Value → H) :
    ReturnsInHanded {} Try.checked os 6 .any (Rows.locksetExcludesSpec.pre6 enc Try.prog Try.f6 Rows.locksetExcludesRow.domain false) (Rows.locksetExcludesSpec.post enc Try.prog Try.f6 false true false false) := by
  refine returnsInHanded_of_change_sized (C := Try.checked) own0 started (by kernel_rfl) Try.func6
    (ChangeSpec.witness6 (enc := enc) (C := Try.checked) false ⟨#[], #[.agg #[.slice none 0 0, .slice none 0 0], .agg #[.slice none 0 0, .slice none 0 0]], []⟩ 8 (by kernel_rfl) (by kernel_rfl) (by kernel_rfl) (by kernel_rfl)) ?_
  intro W base args ds gs before hval hW _ hwt _
  refine law_contract (P := Try.prog) (Xs := [XH, XH]) rfl (by kernel_rfl) Try.underlying4 laid ?_ ?_ ?_ ?_ hval hW hwt
  · rw [Try.params6]; intro t ht
    have : t = 28 := by simpa using ht
    rcases this with rfl <;> exact ⟨by kernel_rfl, of_decide_eq_true (by kernel_rfl)⟩
  · rw [Try.params6]; exact ⟨op28, op28, trivial⟩
  · rw [Try.params6]
    rintro avs ⟨a, r, rfl, ⟨E, S, rfl, hE, hS⟩, b, r', rfl, ⟨E', S', rfl, hE', hS'⟩, rfl⟩
    rw [arg28, arg28]
    exact lawExcludes E S E' S' hE hS hE' hS'
  · rw [Try.params6]
    intro ds hl
    obtain ⟨d0, d1, rfl⟩ : ∃ d0 d1, ds = [d0, d1] := by
      match ds, hl with
      | [d0, d1], _ => exact ⟨d0, d1, rfl⟩
    rfl
theorem proved : Rows.LocksetExcludesSaid :=
  OpenClaim.holds_of_wide 6 Try.f6 rfl rfl rfl rfl rfl rfl rfl ⟨rfl, rfl, rfl, rfl, rfl⟩ rfl rfl rfl rfl rfl (by kernel_rfl) Try.func6 (by kernel_rfl)
    (of_decide_eq_true (by kernel_rfl)) (by unfold Func.isWrapper; first | (rw [if_pos (by decide +kernel)]; kernel_rfl) | (rw [if_neg (by decide +kernel)]; exact ⟨rfl, rfl⟩))
    (fun os started H enc _ => lifted os started H enc)
end Go.Proofs.Ytejicekieoclaaa.lawExcl
