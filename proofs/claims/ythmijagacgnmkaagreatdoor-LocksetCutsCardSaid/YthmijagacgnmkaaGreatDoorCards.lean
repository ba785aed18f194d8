/-
  DERIVED. GIVEN WITH THE SEED: THE CARDS: each row of YthmijagacgnmkaaGreatDoorRows.lean that lists a variable, with what it lists TIED to the program's text (the seventh form; the later family's looks); each row that meets fmt, with fmt's text TOLD by the authors' own Lean function (tested against real Go, not proved from fmt's source: count such statements apart). THE CARD IS WHAT COUNTS. Prove the row's statement (the work); the ties are given (YthmijagacgnmkaaGreatDoorTie.lean); close each card by the builder's one call (the guide's Derived/Test/ToyasCard.lean, 'card_holds'). Laid BY PROGRAM, IN A SANDBOX (cutbox-door.mjs). By AI agents, Wed Nov 11 2026. No macro, syntax, notation, axiom, sorry.
-/
import Derived.Test.YthmijagacgnmkaaGreatDoorRows
import GoSem.ClaimSeven
namespace Go.Proofs.YthmijagacgnmkaaGreatDoor
namespace Rows

/-- THE TIED CARD OF 'interleavelaw17.WellformedScenes'. -/
def wellformedScenesCard : Claim7 := { stood := { row := wellformedScenesRow, standIns := [], harness := (true, "d451a204984a6844bee374a30dabfb0cecc037902d4d03ac54b8394056717808"), looks := false }, kinds := [], alts := [], laidByText := true, laidKinds := [.data], laidTests := true, laidLooks := .later }
def WellformedScenesCardSaid : Prop := Claim7.holds Tryz.pinned (.plain (OpenSpec.ofChange wellformedScenesSpec)) wellformedScenesCard

/-- THE TIED CARD OF 'interleavelaw17.WellformedTries'. -/
def wellformedTriesCard : Claim7 := { stood := { row := wellformedTriesRow, standIns := [], harness := (true, "d451a204984a6844bee374a30dabfb0cecc037902d4d03ac54b8394056717808"), looks := false }, kinds := [], alts := [], laidByText := true, laidKinds := [.data], laidTests := true, laidLooks := .later }
def WellformedTriesCardSaid : Prop := Claim7.holds Tryz.pinned (.plain (OpenSpec.ofChange wellformedTriesSpec)) wellformedTriesCard

/-- THE TIED CARD OF 'interleavelaw28.LocksetHeld'. -/
def locksetHeldCard : Claim7 := { stood := { row := locksetHeldRow, standIns := [], harness := (true, "d451a204984a6844bee374a30dabfb0cecc037902d4d03ac54b8394056717808"), looks := false }, kinds := [], alts := [], laidByText := true, laidKinds := [.data], laidTests := true, laidLooks := .later }
def LocksetHeldCardSaid : Prop := Claim7.holds Tryz.pinned (.plain (OpenSpec.ofChange locksetHeldSpec)) locksetHeldCard

/-- THE TIED CARD OF 'interleavelaw28.LocksetWarns'. -/
def locksetWarnsCard : Claim7 := { stood := { row := locksetWarnsRow, standIns := [], harness := (true, "d451a204984a6844bee374a30dabfb0cecc037902d4d03ac54b8394056717808"), looks := false }, kinds := [], alts := [], laidByText := true, laidKinds := [.data], laidTests := true, laidLooks := .later }
def LocksetWarnsCardSaid : Prop := Claim7.holds Tryz.pinned (.plain (OpenSpec.ofChange locksetWarnsSpec)) locksetWarnsCard

/-- THE TIED CARD OF 'interleavelaw28.LocksetDiscipline'. -/
def locksetDisciplineCard : Claim7 := { stood := { row := locksetDisciplineRow, standIns := [], harness := (true, "d451a204984a6844bee374a30dabfb0cecc037902d4d03ac54b8394056717808"), looks := false }, kinds := [], alts := [], laidByText := true, laidKinds := [.data], laidTests := true, laidLooks := .later }
def LocksetDisciplineCardSaid : Prop := Claim7.holds Tryz.pinned (.plain (OpenSpec.ofChange locksetDisciplineSpec)) locksetDisciplineCard

/-- THE TIED CARD OF 'interleavelaw28.LocksetRefuses'. -/
def locksetRefusesCard : Claim7 := { stood := { row := locksetRefusesRow, standIns := [], harness := (true, "d451a204984a6844bee374a30dabfb0cecc037902d4d03ac54b8394056717808"), looks := false }, kinds := [], alts := [], laidByText := true, laidKinds := [.data], laidTests := true, laidLooks := .later }
def LocksetRefusesCardSaid : Prop := Claim7.holds Tryz.pinned (.plain (OpenSpec.ofChange locksetRefusesSpec)) locksetRefusesCard

/-- THE TIED CARD OF 'interleavelaw18.WindowScenes'. -/
def windowScenesCard : Claim7 := { stood := { row := windowScenesRow, standIns := [], harness := (true, "d451a204984a6844bee374a30dabfb0cecc037902d4d03ac54b8394056717808"), looks := false }, kinds := [], alts := [], laidByText := true, laidKinds := [.data], laidTests := true, laidLooks := .later }
def WindowScenesCardSaid : Prop := Claim7.holds Tryz.pinned (.plain (OpenSpec.ofChange windowScenesSpec)) windowScenesCard

/-- THE TIED CARD OF 'interleavelaw28.LocksetWindow'. -/
def locksetWindowCard : Claim7 := { stood := { row := locksetWindowRow, standIns := [], harness := (true, "d451a204984a6844bee374a30dabfb0cecc037902d4d03ac54b8394056717808"), looks := false }, kinds := [], alts := [], laidByText := true, laidKinds := [.data], laidTests := true, laidLooks := .later }
def LocksetWindowCardSaid : Prop := Claim7.holds Tryz.pinned (.plain (OpenSpec.ofChange locksetWindowSpec)) locksetWindowCard

/-- THE TIED CARD OF 'interleavelaw18.WindowMade'. -/
def windowMadeCard : Claim7 := { stood := { row := windowMadeRow, standIns := [], harness := (true, "d451a204984a6844bee374a30dabfb0cecc037902d4d03ac54b8394056717808"), looks := false }, kinds := [], alts := [], laidByText := true, laidKinds := [.data], laidTests := true, laidLooks := .later }
def WindowMadeCardSaid : Prop := Claim7.holds Tryz.pinned (.plain (OpenSpec.ofChange windowMadeSpec)) windowMadeCard

/-- THE TIED CARD OF 'interleavelaw28.LocksetMeets'. -/
def locksetMeetsCard : Claim7 := { stood := { row := locksetMeetsRow, standIns := [], harness := (true, "d451a204984a6844bee374a30dabfb0cecc037902d4d03ac54b8394056717808"), looks := false }, kinds := [], alts := [], laidByText := true, laidKinds := [.data], laidTests := true, laidLooks := .later }
def LocksetMeetsCardSaid : Prop := Claim7.holds Tryz.pinned (.plain (OpenSpec.ofChange locksetMeetsSpec)) locksetMeetsCard

/-- THE TIED CARD OF 'interleavelaw28.LocksetCuts'. -/
def locksetCutsCard : Claim7 := { stood := { row := locksetCutsRow, standIns := [], harness := (true, "d451a204984a6844bee374a30dabfb0cecc037902d4d03ac54b8394056717808"), looks := false }, kinds := [], alts := [], laidByText := true, laidKinds := [.data], laidTests := true, laidLooks := .later }
def LocksetCutsCardSaid : Prop := Claim7.holds Tryz.pinned (.plain (OpenSpec.ofChange locksetCutsSpec)) locksetCutsCard

/-- THE SECOND FORM's CARD OF 'interleavelaw17.WellformedScenes'. -/
def wellformedScenesUptoCard : Claim7 := { stood := { row := wellformedScenesUptoRow, standIns := [], harness := (true, "d451a204984a6844bee374a30dabfb0cecc037902d4d03ac54b8394056717808"), looks := false }, kinds := [], alts := [], laidByText := true, laidKinds := [.data], laidTests := true, laidLooks := .later }
def WellformedScenesUptoCardSaid : Prop := Claim7.holds Tryz.pinned (.plain (OpenSpec.upto wellformedScenesSpec)) wellformedScenesUptoCard

/-- THE SECOND FORM's CARD OF 'interleavelaw17.WellformedTries'. -/
def wellformedTriesUptoCard : Claim7 := { stood := { row := wellformedTriesUptoRow, standIns := [], harness := (true, "d451a204984a6844bee374a30dabfb0cecc037902d4d03ac54b8394056717808"), looks := false }, kinds := [], alts := [], laidByText := true, laidKinds := [.data], laidTests := true, laidLooks := .later }
def WellformedTriesUptoCardSaid : Prop := Claim7.holds Tryz.pinned (.plain (OpenSpec.upto wellformedTriesSpec)) wellformedTriesUptoCard

/-- THE SECOND FORM's CARD OF 'interleavelaw28.LocksetHeld'. -/
def locksetHeldUptoCard : Claim7 := { stood := { row := locksetHeldUptoRow, standIns := [], harness := (true, "d451a204984a6844bee374a30dabfb0cecc037902d4d03ac54b8394056717808"), looks := false }, kinds := [], alts := [], laidByText := true, laidKinds := [.data], laidTests := true, laidLooks := .later }
def LocksetHeldUptoCardSaid : Prop := Claim7.holds Tryz.pinned (.plain (OpenSpec.upto locksetHeldSpec)) locksetHeldUptoCard

/-- THE SECOND FORM's CARD OF 'interleavelaw28.LocksetWarns'. -/
def locksetWarnsUptoCard : Claim7 := { stood := { row := locksetWarnsUptoRow, standIns := [], harness := (true, "d451a204984a6844bee374a30dabfb0cecc037902d4d03ac54b8394056717808"), looks := false }, kinds := [], alts := [], laidByText := true, laidKinds := [.data], laidTests := true, laidLooks := .later }
def LocksetWarnsUptoCardSaid : Prop := Claim7.holds Tryz.pinned (.plain (OpenSpec.upto locksetWarnsSpec)) locksetWarnsUptoCard

/-- THE SECOND FORM's CARD OF 'interleavelaw28.LocksetDiscipline'. -/
def locksetDisciplineUptoCard : Claim7 := { stood := { row := locksetDisciplineUptoRow, standIns := [], harness := (true, "d451a204984a6844bee374a30dabfb0cecc037902d4d03ac54b8394056717808"), looks := false }, kinds := [], alts := [], laidByText := true, laidKinds := [.data], laidTests := true, laidLooks := .later }
def LocksetDisciplineUptoCardSaid : Prop := Claim7.holds Tryz.pinned (.plain (OpenSpec.upto locksetDisciplineSpec)) locksetDisciplineUptoCard

/-- THE SECOND FORM's CARD OF 'interleavelaw28.LocksetRefuses'. -/
def locksetRefusesUptoCard : Claim7 := { stood := { row := locksetRefusesUptoRow, standIns := [], harness := (true, "d451a204984a6844bee374a30dabfb0cecc037902d4d03ac54b8394056717808"), looks := false }, kinds := [], alts := [], laidByText := true, laidKinds := [.data], laidTests := true, laidLooks := .later }
def LocksetRefusesUptoCardSaid : Prop := Claim7.holds Tryz.pinned (.plain (OpenSpec.upto locksetRefusesSpec)) locksetRefusesUptoCard

/-- THE SECOND FORM's CARD OF 'interleavelaw18.WindowScenes'. -/
def windowScenesUptoCard : Claim7 := { stood := { row := windowScenesUptoRow, standIns := [], harness := (true, "d451a204984a6844bee374a30dabfb0cecc037902d4d03ac54b8394056717808"), looks := false }, kinds := [], alts := [], laidByText := true, laidKinds := [.data], laidTests := true, laidLooks := .later }
def WindowScenesUptoCardSaid : Prop := Claim7.holds Tryz.pinned (.plain (OpenSpec.upto windowScenesSpec)) windowScenesUptoCard

/-- THE SECOND FORM's CARD OF 'interleavelaw28.LocksetWindow'. -/
def locksetWindowUptoCard : Claim7 := { stood := { row := locksetWindowUptoRow, standIns := [], harness := (true, "d451a204984a6844bee374a30dabfb0cecc037902d4d03ac54b8394056717808"), looks := false }, kinds := [], alts := [], laidByText := true, laidKinds := [.data], laidTests := true, laidLooks := .later }
def LocksetWindowUptoCardSaid : Prop := Claim7.holds Tryz.pinned (.plain (OpenSpec.upto locksetWindowSpec)) locksetWindowUptoCard

/-- THE SECOND FORM's CARD OF 'interleavelaw18.WindowMade'. -/
def windowMadeUptoCard : Claim7 := { stood := { row := windowMadeUptoRow, standIns := [], harness := (true, "d451a204984a6844bee374a30dabfb0cecc037902d4d03ac54b8394056717808"), looks := false }, kinds := [], alts := [], laidByText := true, laidKinds := [.data], laidTests := true, laidLooks := .later }
def WindowMadeUptoCardSaid : Prop := Claim7.holds Tryz.pinned (.plain (OpenSpec.upto windowMadeSpec)) windowMadeUptoCard

/-- THE SECOND FORM's CARD OF 'interleavelaw28.LocksetMeets'. -/
def locksetMeetsUptoCard : Claim7 := { stood := { row := locksetMeetsUptoRow, standIns := [], harness := (true, "d451a204984a6844bee374a30dabfb0cecc037902d4d03ac54b8394056717808"), looks := false }, kinds := [], alts := [], laidByText := true, laidKinds := [.data], laidTests := true, laidLooks := .later }
def LocksetMeetsUptoCardSaid : Prop := Claim7.holds Tryz.pinned (.plain (OpenSpec.upto locksetMeetsSpec)) locksetMeetsUptoCard

/-- THE SECOND FORM's CARD OF 'interleavelaw28.LocksetCuts'. -/
def locksetCutsUptoCard : Claim7 := { stood := { row := locksetCutsUptoRow, standIns := [], harness := (true, "d451a204984a6844bee374a30dabfb0cecc037902d4d03ac54b8394056717808"), looks := false }, kinds := [], alts := [], laidByText := true, laidKinds := [.data], laidTests := true, laidLooks := .later }
def LocksetCutsUptoCardSaid : Prop := Claim7.holds Tryz.pinned (.plain (OpenSpec.upto locksetCutsSpec)) locksetCutsUptoCard
end Rows
end Go.Proofs.YthmijagacgnmkaaGreatDoor
