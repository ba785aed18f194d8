/-
  DERIVED. GIVEN WITH THE SEED: THE CARDS: each row of YtdojkofgkcmagaaGreatDoorRows.lean that lists a variable, with what it lists TIED to the program's text (the seventh form; the later family's looks); each row that meets fmt, with fmt's text TOLD by the authors' own Lean function (tested against real Go, not proved from fmt's source: count such statements apart). THE CARD IS WHAT COUNTS. Prove the row's statement (the work); the ties are given (YtdojkofgkcmagaaGreatDoorTie.lean); close each card by the builder's one call (the guide's Derived/Test/ToyasCard.lean, 'card_holds'). Laid BY PROGRAM, IN A SANDBOX (cutbox-door.mjs). By AI agents, Wed Nov 11 2026. No macro, syntax, notation, axiom, sorry.
-/
import Derived.Test.YtdojkofgkcmagaaGreatDoorRows
import GoSem.ClaimSeven
namespace Go.Proofs.YtdojkofgkcmagaaGreatDoor
namespace Rows

/-- THE TIED CARD OF 'interleavelaw18.WindowScenes'. -/
def windowScenesCard : Claim7 := { stood := { row := windowScenesRow, standIns := [], harness := (true, "8a42790257e1b6008a5a8b49b99a48ba9345b5ac028b326e59bb36f246f00561"), looks := false }, kinds := [], alts := [], laidByText := true, laidKinds := [.data], laidTests := true, laidLooks := .later }
def WindowScenesCardSaid : Prop := Claim7.holds Tryz.pinned (.plain (OpenSpec.ofChange windowScenesSpec)) windowScenesCard

/-- THE TIED CARD OF 'interleavelaw28.LocksetWindow'. -/
def locksetWindowCard : Claim7 := { stood := { row := locksetWindowRow, standIns := [], harness := (true, "8a42790257e1b6008a5a8b49b99a48ba9345b5ac028b326e59bb36f246f00561"), looks := false }, kinds := [], alts := [], laidByText := true, laidKinds := [.data], laidTests := true, laidLooks := .later }
def LocksetWindowCardSaid : Prop := Claim7.holds Tryz.pinned (.plain (OpenSpec.ofChange locksetWindowSpec)) locksetWindowCard

/-- THE TIED CARD OF 'interleavelaw28.LocksetMeets'. -/
def locksetMeetsCard : Claim7 := { stood := { row := locksetMeetsRow, standIns := [], harness := (true, "8a42790257e1b6008a5a8b49b99a48ba9345b5ac028b326e59bb36f246f00561"), looks := false }, kinds := [], alts := [], laidByText := true, laidKinds := [.data], laidTests := true, laidLooks := .later }
def LocksetMeetsCardSaid : Prop := Claim7.holds Tryz.pinned (.plain (OpenSpec.ofChange locksetMeetsSpec)) locksetMeetsCard

/-- THE TIED CARD OF 'interleavelaw27.MustBefore'. -/
def mustBeforeCard : Claim7 := { stood := { row := mustBeforeRow, standIns := [], harness := (true, "8a42790257e1b6008a5a8b49b99a48ba9345b5ac028b326e59bb36f246f00561"), looks := false }, kinds := [], alts := [], laidByText := true, laidKinds := [.data], laidTests := true, laidLooks := .later }
def MustBeforeCardSaid : Prop := Claim7.holds Tryz.pinned (.plain (OpenSpec.ofChange mustBeforeSpec)) mustBeforeCard

/-- THE TIED CARD OF 'interleavelaw27.MustHolds'. -/
def mustHoldsCard : Claim7 := { stood := { row := mustHoldsRow, standIns := [], harness := (true, "8a42790257e1b6008a5a8b49b99a48ba9345b5ac028b326e59bb36f246f00561"), looks := false }, kinds := [], alts := [], laidByText := true, laidKinds := [.data], laidTests := true, laidLooks := .later }
def MustHoldsCardSaid : Prop := Claim7.holds Tryz.pinned (.plain (OpenSpec.ofChange mustHoldsSpec)) mustHoldsCard

/-- THE TIED CARD OF 'interleavelaw27.MustRecorded'. -/
def mustRecordedCard : Claim7 := { stood := { row := mustRecordedRow, standIns := [], harness := (true, "8a42790257e1b6008a5a8b49b99a48ba9345b5ac028b326e59bb36f246f00561"), looks := false }, kinds := [], alts := [], laidByText := true, laidKinds := [.data], laidTests := true, laidLooks := .later }
def MustRecordedCardSaid : Prop := Claim7.holds Tryz.pinned (.plain (OpenSpec.ofChange mustRecordedSpec)) mustRecordedCard

/-- THE TIED CARD OF 'interleavelaw27.MustSpawns'. -/
def mustSpawnsCard : Claim7 := { stood := { row := mustSpawnsRow, standIns := [], harness := (true, "8a42790257e1b6008a5a8b49b99a48ba9345b5ac028b326e59bb36f246f00561"), looks := false }, kinds := [], alts := [], laidByText := true, laidKinds := [.data], laidTests := true, laidLooks := .later }
def MustSpawnsCardSaid : Prop := Claim7.holds Tryz.pinned (.plain (OpenSpec.ofChange mustSpawnsSpec)) mustSpawnsCard

/-- THE TIED CARD OF 'interleavelaw27.MustCandidates'. -/
def mustCandidatesCard : Claim7 := { stood := { row := mustCandidatesRow, standIns := [], harness := (true, "8a42790257e1b6008a5a8b49b99a48ba9345b5ac028b326e59bb36f246f00561"), looks := false }, kinds := [], alts := [], laidByText := true, laidKinds := [.data], laidTests := true, laidLooks := .later }
def MustCandidatesCardSaid : Prop := Claim7.holds Tryz.pinned (.plain (OpenSpec.ofChange mustCandidatesSpec)) mustCandidatesCard

/-- THE TIED CARD OF 'interleavelaw27.MustSources'. -/
def mustSourcesCard : Claim7 := { stood := { row := mustSourcesRow, standIns := [], harness := (true, "8a42790257e1b6008a5a8b49b99a48ba9345b5ac028b326e59bb36f246f00561"), looks := false }, kinds := [], alts := [], laidByText := true, laidKinds := [.data], laidTests := true, laidLooks := .later }
def MustSourcesCardSaid : Prop := Claim7.holds Tryz.pinned (.plain (OpenSpec.ofChange mustSourcesSpec)) mustSourcesCard

/-- THE TIED CARD OF 'interleavelaw27.MustClocks'. -/
def mustClocksCard : Claim7 := { stood := { row := mustClocksRow, standIns := [], harness := (true, "8a42790257e1b6008a5a8b49b99a48ba9345b5ac028b326e59bb36f246f00561"), looks := false }, kinds := [], alts := [], laidByText := true, laidKinds := [.data], laidTests := true, laidLooks := .later }
def MustClocksCardSaid : Prop := Claim7.holds Tryz.pinned (.plain (OpenSpec.ofChange mustClocksSpec)) mustClocksCard

/-- THE TIED CARD OF 'interleavelaw27.MustCounts'. -/
def mustCountsCard : Claim7 := { stood := { row := mustCountsRow, standIns := [], harness := (true, "8a42790257e1b6008a5a8b49b99a48ba9345b5ac028b326e59bb36f246f00561"), looks := false }, kinds := [], alts := [], laidByText := true, laidKinds := [.data], laidTests := true, laidLooks := .later }
def MustCountsCardSaid : Prop := Claim7.holds Tryz.pinned (.plain (OpenSpec.ofChange mustCountsSpec)) mustCountsCard

/-- THE TIED CARD OF 'interleavelaw27.MustAny'. -/
def mustAnyCard : Claim7 := { stood := { row := mustAnyRow, standIns := [], harness := (true, "8a42790257e1b6008a5a8b49b99a48ba9345b5ac028b326e59bb36f246f00561"), looks := false }, kinds := [], alts := [], laidByText := true, laidKinds := [.data], laidTests := true, laidLooks := .later }
def MustAnyCardSaid : Prop := Claim7.holds Tryz.pinned (.plain (OpenSpec.ofChange mustAnySpec)) mustAnyCard

/-- THE SECOND FORM's CARD OF 'interleavelaw18.WindowScenes'. -/
def windowScenesUptoCard : Claim7 := { stood := { row := windowScenesUptoRow, standIns := [], harness := (true, "8a42790257e1b6008a5a8b49b99a48ba9345b5ac028b326e59bb36f246f00561"), looks := false }, kinds := [], alts := [], laidByText := true, laidKinds := [.data], laidTests := true, laidLooks := .later }
def WindowScenesUptoCardSaid : Prop := Claim7.holds Tryz.pinned (.plain (OpenSpec.upto windowScenesSpec)) windowScenesUptoCard

/-- THE SECOND FORM's CARD OF 'interleavelaw28.LocksetWindow'. -/
def locksetWindowUptoCard : Claim7 := { stood := { row := locksetWindowUptoRow, standIns := [], harness := (true, "8a42790257e1b6008a5a8b49b99a48ba9345b5ac028b326e59bb36f246f00561"), looks := false }, kinds := [], alts := [], laidByText := true, laidKinds := [.data], laidTests := true, laidLooks := .later }
def LocksetWindowUptoCardSaid : Prop := Claim7.holds Tryz.pinned (.plain (OpenSpec.upto locksetWindowSpec)) locksetWindowUptoCard

/-- THE SECOND FORM's CARD OF 'interleavelaw28.LocksetMeets'. -/
def locksetMeetsUptoCard : Claim7 := { stood := { row := locksetMeetsUptoRow, standIns := [], harness := (true, "8a42790257e1b6008a5a8b49b99a48ba9345b5ac028b326e59bb36f246f00561"), looks := false }, kinds := [], alts := [], laidByText := true, laidKinds := [.data], laidTests := true, laidLooks := .later }
def LocksetMeetsUptoCardSaid : Prop := Claim7.holds Tryz.pinned (.plain (OpenSpec.upto locksetMeetsSpec)) locksetMeetsUptoCard

/-- THE SECOND FORM's CARD OF 'interleavelaw27.MustBefore'. -/
def mustBeforeUptoCard : Claim7 := { stood := { row := mustBeforeUptoRow, standIns := [], harness := (true, "8a42790257e1b6008a5a8b49b99a48ba9345b5ac028b326e59bb36f246f00561"), looks := false }, kinds := [], alts := [], laidByText := true, laidKinds := [.data], laidTests := true, laidLooks := .later }
def MustBeforeUptoCardSaid : Prop := Claim7.holds Tryz.pinned (.plain (OpenSpec.upto mustBeforeSpec)) mustBeforeUptoCard

/-- THE SECOND FORM's CARD OF 'interleavelaw27.MustHolds'. -/
def mustHoldsUptoCard : Claim7 := { stood := { row := mustHoldsUptoRow, standIns := [], harness := (true, "8a42790257e1b6008a5a8b49b99a48ba9345b5ac028b326e59bb36f246f00561"), looks := false }, kinds := [], alts := [], laidByText := true, laidKinds := [.data], laidTests := true, laidLooks := .later }
def MustHoldsUptoCardSaid : Prop := Claim7.holds Tryz.pinned (.plain (OpenSpec.upto mustHoldsSpec)) mustHoldsUptoCard

/-- THE SECOND FORM's CARD OF 'interleavelaw27.MustRecorded'. -/
def mustRecordedUptoCard : Claim7 := { stood := { row := mustRecordedUptoRow, standIns := [], harness := (true, "8a42790257e1b6008a5a8b49b99a48ba9345b5ac028b326e59bb36f246f00561"), looks := false }, kinds := [], alts := [], laidByText := true, laidKinds := [.data], laidTests := true, laidLooks := .later }
def MustRecordedUptoCardSaid : Prop := Claim7.holds Tryz.pinned (.plain (OpenSpec.upto mustRecordedSpec)) mustRecordedUptoCard

/-- THE SECOND FORM's CARD OF 'interleavelaw27.MustSpawns'. -/
def mustSpawnsUptoCard : Claim7 := { stood := { row := mustSpawnsUptoRow, standIns := [], harness := (true, "8a42790257e1b6008a5a8b49b99a48ba9345b5ac028b326e59bb36f246f00561"), looks := false }, kinds := [], alts := [], laidByText := true, laidKinds := [.data], laidTests := true, laidLooks := .later }
def MustSpawnsUptoCardSaid : Prop := Claim7.holds Tryz.pinned (.plain (OpenSpec.upto mustSpawnsSpec)) mustSpawnsUptoCard

/-- THE SECOND FORM's CARD OF 'interleavelaw27.MustCandidates'. -/
def mustCandidatesUptoCard : Claim7 := { stood := { row := mustCandidatesUptoRow, standIns := [], harness := (true, "8a42790257e1b6008a5a8b49b99a48ba9345b5ac028b326e59bb36f246f00561"), looks := false }, kinds := [], alts := [], laidByText := true, laidKinds := [.data], laidTests := true, laidLooks := .later }
def MustCandidatesUptoCardSaid : Prop := Claim7.holds Tryz.pinned (.plain (OpenSpec.upto mustCandidatesSpec)) mustCandidatesUptoCard

/-- THE SECOND FORM's CARD OF 'interleavelaw27.MustSources'. -/
def mustSourcesUptoCard : Claim7 := { stood := { row := mustSourcesUptoRow, standIns := [], harness := (true, "8a42790257e1b6008a5a8b49b99a48ba9345b5ac028b326e59bb36f246f00561"), looks := false }, kinds := [], alts := [], laidByText := true, laidKinds := [.data], laidTests := true, laidLooks := .later }
def MustSourcesUptoCardSaid : Prop := Claim7.holds Tryz.pinned (.plain (OpenSpec.upto mustSourcesSpec)) mustSourcesUptoCard

/-- THE SECOND FORM's CARD OF 'interleavelaw27.MustClocks'. -/
def mustClocksUptoCard : Claim7 := { stood := { row := mustClocksUptoRow, standIns := [], harness := (true, "8a42790257e1b6008a5a8b49b99a48ba9345b5ac028b326e59bb36f246f00561"), looks := false }, kinds := [], alts := [], laidByText := true, laidKinds := [.data], laidTests := true, laidLooks := .later }
def MustClocksUptoCardSaid : Prop := Claim7.holds Tryz.pinned (.plain (OpenSpec.upto mustClocksSpec)) mustClocksUptoCard

/-- THE SECOND FORM's CARD OF 'interleavelaw27.MustCounts'. -/
def mustCountsUptoCard : Claim7 := { stood := { row := mustCountsUptoRow, standIns := [], harness := (true, "8a42790257e1b6008a5a8b49b99a48ba9345b5ac028b326e59bb36f246f00561"), looks := false }, kinds := [], alts := [], laidByText := true, laidKinds := [.data], laidTests := true, laidLooks := .later }
def MustCountsUptoCardSaid : Prop := Claim7.holds Tryz.pinned (.plain (OpenSpec.upto mustCountsSpec)) mustCountsUptoCard

/-- THE SECOND FORM's CARD OF 'interleavelaw27.MustAny'. -/
def mustAnyUptoCard : Claim7 := { stood := { row := mustAnyUptoRow, standIns := [], harness := (true, "8a42790257e1b6008a5a8b49b99a48ba9345b5ac028b326e59bb36f246f00561"), looks := false }, kinds := [], alts := [], laidByText := true, laidKinds := [.data], laidTests := true, laidLooks := .later }
def MustAnyUptoCardSaid : Prop := Claim7.holds Tryz.pinned (.plain (OpenSpec.upto mustAnySpec)) mustAnyUptoCard
end Rows
end Go.Proofs.YtdojkofgkcmagaaGreatDoor
