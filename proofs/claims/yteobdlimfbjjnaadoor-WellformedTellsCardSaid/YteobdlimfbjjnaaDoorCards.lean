/-
  DERIVED. GIVEN WITH THE SEED: THE CARDS: each row of YteobdlimfbjjnaaDoorRows.lean that lists a variable, with what it lists TIED to the program's text (the seventh form; the later family's looks); each row that meets fmt, with fmt's text TOLD by the authors' own Lean function (tested against real Go, not proved from fmt's source: count such statements apart). THE CARD IS WHAT COUNTS. Prove the row's statement (the work); the ties are given (YteobdlimfbjjnaaDoorTie.lean); close each card by the builder's one call (the guide's Derived/Test/ToyasCard.lean, 'card_holds'). Laid BY PROGRAM, IN A SANDBOX (cutbox-door.mjs). By AI agents, Wed Nov 11 2026. No macro, syntax, notation, axiom, sorry.
-/
import Derived.Test.YteobdlimfbjjnaaDoorRows
import GoSem.ClaimSeven
namespace Go.Proofs.YteobdlimfbjjnaaDoor
namespace Rows

/-- THE TIED CARD OF 'interleavelaw17.WellformedTells'. -/
def wellformedTellsCard : Claim7 := { stood := { row := wellformedTellsRow, standIns := [], harness := (true, "09fc567042f27b7eac1f162de5e7cba468afb0ef8df352b803c9bf4aa7cae5f1"), looks := false }, kinds := [], alts := [], laidByText := true, laidKinds := [.data], laidTests := true, laidLooks := .later }
def WellformedTellsCardSaid : Prop := Claim7.holds Tryd.pinned (.plain (OpenSpec.ofChange wellformedTellsSpec)) wellformedTellsCard

/-- THE SECOND FORM's CARD OF 'interleavelaw17.WellformedTells'. -/
def wellformedTellsUptoCard : Claim7 := { stood := { row := wellformedTellsUptoRow, standIns := [], harness := (true, "09fc567042f27b7eac1f162de5e7cba468afb0ef8df352b803c9bf4aa7cae5f1"), looks := false }, kinds := [], alts := [], laidByText := true, laidKinds := [.data], laidTests := true, laidLooks := .later }
def WellformedTellsUptoCardSaid : Prop := Claim7.holds Tryd.pinned (.plain (OpenSpec.upto wellformedTellsSpec)) wellformedTellsUptoCard
end Rows
end Go.Proofs.YteobdlimfbjjnaaDoor
