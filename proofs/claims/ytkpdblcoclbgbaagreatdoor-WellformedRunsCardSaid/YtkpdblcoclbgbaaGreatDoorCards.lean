/-
  DERIVED. GIVEN WITH THE SEED: THE CARDS: each row of YtkpdblcoclbgbaaGreatDoorRows.lean that lists a variable, with what it lists TIED to the program's text (the seventh form; the later family's looks); each row that meets fmt, with fmt's text TOLD by the authors' own Lean function (tested against real Go, not proved from fmt's source: count such statements apart). THE CARD IS WHAT COUNTS. Prove the row's statement (the work); the ties are given (YtkpdblcoclbgbaaGreatDoorTie.lean); close each card by the builder's one call (the guide's Derived/Test/ToyasCard.lean, 'card_holds'). Laid BY PROGRAM, IN A SANDBOX (cutbox-door.mjs). By AI agents, Wed Nov 11 2026. No macro, syntax, notation, axiom, sorry.
-/
import Derived.Test.YtkpdblcoclbgbaaGreatDoorRows
import GoSem.ClaimSeven
namespace Go.Proofs.YtkpdblcoclbgbaaGreatDoor
namespace Rows

/-- THE TIED CARD OF 'interleavelaw17.WellformedRuns'. -/
def wellformedRunsCard : Claim7 := { stood := { row := wellformedRunsRow, standIns := [], harness := (true, "348bece73726898a879926ce140adf6e0500480a15dbfdc87f433f8be4c5fa89"), looks := false }, kinds := [], alts := [], laidByText := true, laidKinds := [.data], laidTests := true, laidLooks := .later }
def WellformedRunsCardSaid : Prop := Claim7.holds Tryz.pinned (.plain (OpenSpec.ofChange wellformedRunsSpec)) wellformedRunsCard

/-- THE TIED CARD OF 'interleavelaw17.WellformedSpoils'. -/
def wellformedSpoilsCard : Claim7 := { stood := { row := wellformedSpoilsRow, standIns := [], harness := (true, "348bece73726898a879926ce140adf6e0500480a15dbfdc87f433f8be4c5fa89"), looks := false }, kinds := [], alts := [], laidByText := true, laidKinds := [.data], laidTests := true, laidLooks := .later }
def WellformedSpoilsCardSaid : Prop := Claim7.holds Tryz.pinned (.plain (OpenSpec.ofChange wellformedSpoilsSpec)) wellformedSpoilsCard

/-- THE TIED CARD OF 'interleavelaw17.WellformedPrefixes'. -/
def wellformedPrefixesCard : Claim7 := { stood := { row := wellformedPrefixesRow, standIns := [], harness := (true, "348bece73726898a879926ce140adf6e0500480a15dbfdc87f433f8be4c5fa89"), looks := false }, kinds := [], alts := [], laidByText := true, laidKinds := [.data], laidTests := true, laidLooks := .later }
def WellformedPrefixesCardSaid : Prop := Claim7.holds Tryz.pinned (.plain (OpenSpec.ofChange wellformedPrefixesSpec)) wellformedPrefixesCard

/-- THE TIED CARD OF 'interleavelaw17.WellformedLoads'. -/
def wellformedLoadsCard : Claim7 := { stood := { row := wellformedLoadsRow, standIns := [], harness := (true, "348bece73726898a879926ce140adf6e0500480a15dbfdc87f433f8be4c5fa89"), looks := false }, kinds := [], alts := [], laidByText := true, laidKinds := [.data], laidTests := true, laidLooks := .later }
def WellformedLoadsCardSaid : Prop := Claim7.holds Tryz.pinned (.plain (OpenSpec.ofChange wellformedLoadsSpec)) wellformedLoadsCard

/-- THE SECOND FORM's CARD OF 'interleavelaw17.WellformedRuns'. -/
def wellformedRunsUptoCard : Claim7 := { stood := { row := wellformedRunsUptoRow, standIns := [], harness := (true, "348bece73726898a879926ce140adf6e0500480a15dbfdc87f433f8be4c5fa89"), looks := false }, kinds := [], alts := [], laidByText := true, laidKinds := [.data], laidTests := true, laidLooks := .later }
def WellformedRunsUptoCardSaid : Prop := Claim7.holds Tryz.pinned (.plain (OpenSpec.upto wellformedRunsSpec)) wellformedRunsUptoCard

/-- THE SECOND FORM's CARD OF 'interleavelaw17.WellformedSpoils'. -/
def wellformedSpoilsUptoCard : Claim7 := { stood := { row := wellformedSpoilsUptoRow, standIns := [], harness := (true, "348bece73726898a879926ce140adf6e0500480a15dbfdc87f433f8be4c5fa89"), looks := false }, kinds := [], alts := [], laidByText := true, laidKinds := [.data], laidTests := true, laidLooks := .later }
def WellformedSpoilsUptoCardSaid : Prop := Claim7.holds Tryz.pinned (.plain (OpenSpec.upto wellformedSpoilsSpec)) wellformedSpoilsUptoCard

/-- THE SECOND FORM's CARD OF 'interleavelaw17.WellformedPrefixes'. -/
def wellformedPrefixesUptoCard : Claim7 := { stood := { row := wellformedPrefixesUptoRow, standIns := [], harness := (true, "348bece73726898a879926ce140adf6e0500480a15dbfdc87f433f8be4c5fa89"), looks := false }, kinds := [], alts := [], laidByText := true, laidKinds := [.data], laidTests := true, laidLooks := .later }
def WellformedPrefixesUptoCardSaid : Prop := Claim7.holds Tryz.pinned (.plain (OpenSpec.upto wellformedPrefixesSpec)) wellformedPrefixesUptoCard

/-- THE SECOND FORM's CARD OF 'interleavelaw17.WellformedLoads'. -/
def wellformedLoadsUptoCard : Claim7 := { stood := { row := wellformedLoadsUptoRow, standIns := [], harness := (true, "348bece73726898a879926ce140adf6e0500480a15dbfdc87f433f8be4c5fa89"), looks := false }, kinds := [], alts := [], laidByText := true, laidKinds := [.data], laidTests := true, laidLooks := .later }
def WellformedLoadsUptoCardSaid : Prop := Claim7.holds Tryz.pinned (.plain (OpenSpec.upto wellformedLoadsSpec)) wellformedLoadsUptoCard
end Rows
end Go.Proofs.YtkpdblcoclbgbaaGreatDoor
