/- LocksetShrinks: for every input the law returns true, and its arguments read behind the call as before. -/
import Derived.Test.YtejicekieoclaaaK10
import Derived.Test.YtejicekieoclaaaK11
namespace Go.Proofs.Ytejicekieoclaaa.lawShr
open Go.ChangeShapes Go.WideShapes Go.ChangeAt Go.RowKit Go.Abs
set_option maxRecDepth 100000 in
theorem lifted (os : Os) (started : os.Started) (H : Type) (enc : TypeId × Value → H) :
    ReturnsInHanded {} Try.checked os 5 .any (Rows.locksetShrinksSpec.pre6 enc Try.prog Try.f5 Rows.locksetShrinksRow.domain false) (Rows.locksetShrinksSpec.post enc Try.prog Try.f5 false true false false) := by
  refine returnsInHanded_of_change_sized (C := Try.checked) own0 started (by kernel_rfl) Try.func5
    (ChangeSpec.witness6 (enc := enc) (C := Try.checked) false ⟨#[], #[.slice none 0 0], []⟩ 8 (by kernel_rfl) (by kernel_rfl) (by kernel_rfl) (by kernel_rfl)) ?_
  intro W base args ds gs before hval hW _ hwt _
  refine law_contract (P := Try.prog) (Xs := [XT]) rfl (by kernel_rfl) Try.underlying4 laid ?_ ?_ ?_ ?_ hval hW hwt
  · rw [Try.params5]; intro t ht
    have : t = 22 := by simpa using ht
    rcases this with rfl <;> exact ⟨by kernel_rfl, of_decide_eq_true (by kernel_rfl)⟩
  · rw [Try.params5]; exact ⟨op22, trivial⟩
  · rw [Try.params5]
    rintro avs ⟨a1, r1, rfl, ⟨l, rfl, hl⟩, rfl⟩
    rw [arg22]
    exact lawShrinks l hl
  · rw [Try.params5]
    intro ds hl
    obtain ⟨d0, rfl⟩ : ∃ d0, ds = [d0] := by
      match ds, hl with
      | [d0], _ => exact ⟨d0, rfl⟩
    rfl
theorem proved : Rows.LocksetShrinksSaid :=
  OpenClaim.holds_of_wide 5 Try.f5 rfl rfl rfl rfl rfl rfl rfl ⟨rfl, rfl, rfl, rfl, rfl⟩ rfl rfl rfl rfl rfl (by kernel_rfl) Try.func5 (by kernel_rfl)
    (of_decide_eq_true (by kernel_rfl)) (by unfold Func.isWrapper; first | (rw [if_pos (by decide +kernel)]; kernel_rfl) | (rw [if_neg (by decide +kernel)]; exact ⟨rfl, rfl⟩))
    (fun os started H enc _ => lifted os started H enc)
end Go.Proofs.Ytejicekieoclaaa.lawShr
