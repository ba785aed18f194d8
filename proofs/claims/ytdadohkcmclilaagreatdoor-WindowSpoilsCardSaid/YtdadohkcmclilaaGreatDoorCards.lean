/-
  DERIVED. GIVEN WITH THE SEED: THE CARDS: each row of YtdadohkcmclilaaGreatDoorRows.lean that lists a variable, with what it lists TIED to the program's text (the seventh form; the later family's looks); each row that meets fmt, with fmt's text TOLD by the authors' own Lean function (tested against real Go, not proved from fmt's source: count such statements apart). THE CARD IS WHAT COUNTS. Prove the row's statement (the work); the ties are given (YtdadohkcmclilaaGreatDoorTie.lean); close each card by the builder's one call (the guide's Derived/Test/ToyasCard.lean, 'card_holds'). Laid BY PROGRAM, IN A SANDBOX (cutbox-door.mjs). By AI agents, Wed Nov 11 2026. No macro, syntax, notation, axiom, sorry.
-/
import Derived.Test.YtdadohkcmclilaaGreatDoorRows
import GoSem.ClaimSeven
namespace Go.Proofs.YtdadohkcmclilaaGreatDoor
namespace Rows

/-- THE TIED CARD OF 'interleavelaw18.WindowSplits'. -/
def windowSplitsCard : Claim7 := { stood := { row := windowSplitsRow, standIns := [], harness := (true, "a89a33aa4cdb50a8ea06fd6708924d42f4de187715f037e9ea503831e4e194b5"), looks := false }, kinds := [], alts := [], laidByText := true, laidKinds := [.data], laidTests := true, laidLooks := .later }
def WindowSplitsCardSaid : Prop := Claim7.holds Tryz.pinned (.plain (OpenSpec.ofChange windowSplitsSpec)) windowSplitsCard

/-- THE TIED CARD OF 'interleavelaw18.WindowValid'. -/
def windowValidCard : Claim7 := { stood := { row := windowValidRow, standIns := [], harness := (true, "a89a33aa4cdb50a8ea06fd6708924d42f4de187715f037e9ea503831e4e194b5"), looks := false }, kinds := [], alts := [], laidByText := true, laidKinds := [.data], laidTests := true, laidLooks := .later }
def WindowValidCardSaid : Prop := Claim7.holds Tryz.pinned (.plain (OpenSpec.ofChange windowValidSpec)) windowValidCard

/-- THE TIED CARD OF 'interleavelaw18.WindowSpoils'. -/
def windowSpoilsCard : Claim7 := { stood := { row := windowSpoilsRow, standIns := [], harness := (true, "a89a33aa4cdb50a8ea06fd6708924d42f4de187715f037e9ea503831e4e194b5"), looks := false }, kinds := [], alts := [], laidByText := true, laidKinds := [.data], laidTests := true, laidLooks := .later }
def WindowSpoilsCardSaid : Prop := Claim7.holds Tryz.pinned (.plain (OpenSpec.ofChange windowSpoilsSpec)) windowSpoilsCard

/-- THE TIED CARD OF 'interleavelaw18.WindowSizes'. -/
def windowSizesCard : Claim7 := { stood := { row := windowSizesRow, standIns := [], harness := (true, "a89a33aa4cdb50a8ea06fd6708924d42f4de187715f037e9ea503831e4e194b5"), looks := false }, kinds := [], alts := [], laidByText := true, laidKinds := [.data], laidTests := true, laidLooks := .later }
def WindowSizesCardSaid : Prop := Claim7.holds Tryz.pinned (.plain (OpenSpec.ofChange windowSizesSpec)) windowSizesCard

/-- THE TIED CARD OF 'interleavelaw18.WindowTells'. -/
def windowTellsCard : Claim7 := { stood := { row := windowTellsRow, standIns := [], harness := (true, "a89a33aa4cdb50a8ea06fd6708924d42f4de187715f037e9ea503831e4e194b5"), looks := false }, kinds := [], alts := [], laidByText := true, laidKinds := [.data], laidTests := true, laidLooks := .later }
def WindowTellsCardSaid : Prop := Claim7.holds Tryz.pinned (.plain (OpenSpec.ofChange windowTellsSpec)) windowTellsCard

/-- THE TIED CARD OF 'interleavelaw18.WindowSnapshots'. -/
def windowSnapshotsCard : Claim7 := { stood := { row := windowSnapshotsRow, standIns := [], harness := (true, "a89a33aa4cdb50a8ea06fd6708924d42f4de187715f037e9ea503831e4e194b5"), looks := false }, kinds := [], alts := [], laidByText := true, laidKinds := [.data], laidTests := true, laidLooks := .later }
def WindowSnapshotsCardSaid : Prop := Claim7.holds Tryz.pinned (.plain (OpenSpec.ofChange windowSnapshotsSpec)) windowSnapshotsCard

/-- THE SECOND FORM's CARD OF 'interleavelaw18.WindowSplits'. -/
def windowSplitsUptoCard : Claim7 := { stood := { row := windowSplitsUptoRow, standIns := [], harness := (true, "a89a33aa4cdb50a8ea06fd6708924d42f4de187715f037e9ea503831e4e194b5"), looks := false }, kinds := [], alts := [], laidByText := true, laidKinds := [.data], laidTests := true, laidLooks := .later }
def WindowSplitsUptoCardSaid : Prop := Claim7.holds Tryz.pinned (.plain (OpenSpec.upto windowSplitsSpec)) windowSplitsUptoCard

/-- THE SECOND FORM's CARD OF 'interleavelaw18.WindowValid'. -/
def windowValidUptoCard : Claim7 := { stood := { row := windowValidUptoRow, standIns := [], harness := (true, "a89a33aa4cdb50a8ea06fd6708924d42f4de187715f037e9ea503831e4e194b5"), looks := false }, kinds := [], alts := [], laidByText := true, laidKinds := [.data], laidTests := true, laidLooks := .later }
def WindowValidUptoCardSaid : Prop := Claim7.holds Tryz.pinned (.plain (OpenSpec.upto windowValidSpec)) windowValidUptoCard

/-- THE SECOND FORM's CARD OF 'interleavelaw18.WindowSpoils'. -/
def windowSpoilsUptoCard : Claim7 := { stood := { row := windowSpoilsUptoRow, standIns := [], harness := (true, "a89a33aa4cdb50a8ea06fd6708924d42f4de187715f037e9ea503831e4e194b5"), looks := false }, kinds := [], alts := [], laidByText := true, laidKinds := [.data], laidTests := true, laidLooks := .later }
def WindowSpoilsUptoCardSaid : Prop := Claim7.holds Tryz.pinned (.plain (OpenSpec.upto windowSpoilsSpec)) windowSpoilsUptoCard

/-- THE SECOND FORM's CARD OF 'interleavelaw18.WindowSizes'. -/
def windowSizesUptoCard : Claim7 := { stood := { row := windowSizesUptoRow, standIns := [], harness := (true, "a89a33aa4cdb50a8ea06fd6708924d42f4de187715f037e9ea503831e4e194b5"), looks := false }, kinds := [], alts := [], laidByText := true, laidKinds := [.data], laidTests := true, laidLooks := .later }
def WindowSizesUptoCardSaid : Prop := Claim7.holds Tryz.pinned (.plain (OpenSpec.upto windowSizesSpec)) windowSizesUptoCard

/-- THE SECOND FORM's CARD OF 'interleavelaw18.WindowTells'. -/
def windowTellsUptoCard : Claim7 := { stood := { row := windowTellsUptoRow, standIns := [], harness := (true, "a89a33aa4cdb50a8ea06fd6708924d42f4de187715f037e9ea503831e4e194b5"), looks := false }, kinds := [], alts := [], laidByText := true, laidKinds := [.data], laidTests := true, laidLooks := .later }
def WindowTellsUptoCardSaid : Prop := Claim7.holds Tryz.pinned (.plain (OpenSpec.upto windowTellsSpec)) windowTellsUptoCard

/-- THE SECOND FORM's CARD OF 'interleavelaw18.WindowSnapshots'. -/
def windowSnapshotsUptoCard : Claim7 := { stood := { row := windowSnapshotsUptoRow, standIns := [], harness := (true, "a89a33aa4cdb50a8ea06fd6708924d42f4de187715f037e9ea503831e4e194b5"), looks := false }, kinds := [], alts := [], laidByText := true, laidKinds := [.data], laidTests := true, laidLooks := .later }
def WindowSnapshotsUptoCardSaid : Prop := Claim7.holds Tryz.pinned (.plain (OpenSpec.upto windowSnapshotsSpec)) windowSnapshotsUptoCard
end Rows
end Go.Proofs.YtdadohkcmclilaaGreatDoor
