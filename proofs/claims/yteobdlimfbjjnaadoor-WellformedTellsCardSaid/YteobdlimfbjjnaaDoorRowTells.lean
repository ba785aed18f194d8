/- WellformedTells: for every input the law returns true, and its arguments read behind the call as before. The listed package variable starts as the program's text lays it. -/
import Derived.Test.YteobdlimfbjjnaaDoorP11
import Derived.Test.YteobdlimfbjjnaaDoorCards
import Derived.Test.YteobdlimfbjjnaaDoorTie
namespace Go.Proofs.YteobdlimfbjjnaaDoor
open Go.ChangeShapes Go.WideShapes Go.ChangeAt Go.RowKit Go.Abs
namespace wellformedTells
theorem door_met (os : Os) (args : Array Value) : laidMetH Tryd.prog laidL ((World.doorLaid Tryd.prog 400 os).forCall (fun _ _ => 0) ⟨#[], args, []⟩).memory :=
  laidMetH_of_parts3 (fuel := 8) (laidMet_of_run' 8 (by kernel_rfl) (by kernel_rfl)) (by kernel_rfl) (by kernel_rfl)
set_option maxRecDepth 100000 in
theorem lifted (os : Os) (started : os.Started) (H : Type) (enc : TypeId × Value → H) :
    ReturnsInHanded {} Tryd.checked os 3 .any (fun w args => (Rows.wellformedTellsSpec.pre enc Tryd.prog Tryd.f3 [] false w args ∧ laidMetH Tryd.prog laidL w) ∧ sizedMet enc Tryd.prog Tryd.f3 (OpenSpec.ofChange Rows.wellformedTellsSpec) false w args)
      (Rows.wellformedTellsSpec.post enc Tryd.prog Tryd.f3 false true false false) := by
  refine returnsInHanded_of_change_and (C := Tryd.checked) (X := fun w _ => laidMetH Tryd.prog laidL w) (fun _ _ _ hh h => h.of_heap hh) own0 started (by kernel_rfl) Tryd.func3
    (ChangeSpec.witness_shaped (enc := enc) (C := Tryd.checked) (os := os) (X := fun w _ => laidMetH Tryd.prog laidL w) false (World.doorLaid Tryd.prog 400 os) #[.agg #[.slice none 0 0, .slice none 0 0, .slice none 0 0, .slice none 0 0, .slice none 0 0, .slice none 0 0, .slice none 0 0]] 8 rfl (World.shaped_of_RefB (by kernel_rfl) (by kernel_rfl)) (by kernel_rfl) (by kernel_rfl) (by kernel_rfl) (door_met os _)) ?_
  intro W base args ds gs before hval hW _ hwt hL _
  refine law_contract (P := Tryd.prog) (Xs := [fun avs => ∃ x : STrace, avs = eTrace x ∧ okTrace x]) rfl (by kernel_rfl) Tryd.underlying4 laid ?_ ?_ ?_ ?_ hval hW hwt (gi_of_laid hL)
  · rw [Tryd.params3]; intro t ht
    have : t = 31 := by simpa using ht
    rcases this with rfl <;> exact ⟨by kernel_rfl, of_decide_eq_true (by kernel_rfl)⟩
  · rw [Tryd.params3]; exact ⟨op31, trivial⟩
  · rw [Tryd.params3]
    rintro avs ⟨a0, r0, rfl, ⟨x0, rfl, h0⟩, rfl⟩
    rw [arg31]
    exact l17_WeTe_ok (WellformedTells_eq x0 (evOK_of h0))
  · rw [Tryd.params3]
    intro ds hl
    obtain ⟨d0, rfl⟩ : ∃ d0, ds = [d0] := by
      match ds, hl with
      | [d0], _ => exact ⟨d0, rfl⟩
    rfl
theorem proved : Rows.WellformedTellsSaid :=
  OpenClaim.holds_of_wide 3 Tryd.f3 rfl rfl rfl rfl rfl rfl rfl ⟨rfl, rfl, rfl, rfl, rfl⟩ rfl rfl rfl rfl rfl (by kernel_rfl) Tryd.func3 (by kernel_rfl)
    (of_decide_eq_true (by kernel_rfl)) (by unfold Func.isWrapper; first | (rw [if_pos (by decide +kernel)]; kernel_rfl) | (rw [if_neg (by decide +kernel)]; exact ⟨rfl, rfl⟩))
    (fun os started H enc _ => lifted os started H enc)
theorem card : Rows.WellformedTellsCardSaid :=
  Claim7.holds_tied_plain_at .later [] [.data] true (true, "09fc567042f27b7eac1f162de5e7cba468afb0ef8df352b803c9bf4aa7cae5f1") false
    proved (fun _ h => by cases h) (by kernel_rfl) (fun _ h => by cases h) wellformedTells_row_tie rfl ⟨rfl, rfl⟩ (by kernel_rfl) rfl
    (fun f fn hf hfn => by
      obtain rfl : f = 3 := Option.some.inj ((show Tryd.prog.funcNamed "interleave/interleavelaw17.WellformedTells" = some 3 by kernel_rfl).symm.trans hf) |>.symm
      obtain rfl : fn = Tryd.f3 := (Option.some.inj (Tryd.func3.symm.trans hfn)).symm
      exact ⟨by kernel_rfl, fun j t ht => by
        rw [Tryd.params3] at ht
        have hm : t ∈ [31] := by simpa using Array.mem_of_getElem? ht
        have hall : ([31].all fun u => !Tryd.prog.wantsStandIn u) = true := by kernel_rfl
        exact (show Tryd.prog.wantsStandIn t = false by simpa using List.all_eq_true.1 hall t hm)⟩)
    (by kernel_rfl)
#print axioms card
end wellformedTells
end Go.Proofs.YteobdlimfbjjnaaDoor
