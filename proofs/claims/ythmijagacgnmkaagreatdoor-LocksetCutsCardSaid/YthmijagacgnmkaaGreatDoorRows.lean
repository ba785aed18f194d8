/-
  NARROWER THAN 'FOR EVERY INPUT', by the rows' own cells (each row's printed sentence says how): WellformedScenes: laid · WellformedTries: laid · LocksetHeld: laid · LocksetWarns: laid · LocksetDiscipline: laid · LocksetRefuses: laid · WindowScenes: laid · LocksetWindow: laid · WindowMade: laid · LocksetMeets: laid · LocksetCuts: laid.
  DERIVED. THE GIVEN ROWS OF THIS SEAT. 11 by the template 'for every input the law returns true; each argument reads behind the call as it read before'; 0 by the template 'total and deterministic' (their statements: YthmijagacgnmkaaGreatDoorTotals.lean).
  GIVEN WITH THE SEED: the statements are not yours to turn. If you find one false, say at which input.
  Laid BY PROGRAM, IN A SANDBOX (cutbox-rows.mjs): the forced cells as the released guide's own fill.sh prints them over the translation 52f0c27bb8357a74… (all of the seat's roots in one cut). By AI agents, Wed Nov 11 2026. No macro, syntax, notation, axiom, sorry.
-/
import Derived.Test.YthmijagacgnmkaaGreatDoorChecked
import GoSem.Claim
import GoSem.ClaimJoined
import GoSem.ClaimMapViews
import Derived.JoinedTies
import Derived.KernelRfl
namespace Go.Proofs.YthmijagacgnmkaaGreatDoor
/- THE CELL 'sum', in the pinned program and in every row, IS THE sha256 OF THE DUMP (.gsa) THAT YthmijagacgnmkaaGreatDoorProg.lean LOADS. Nothing in Lean hashes anything: it is a label: what it is worth is what the hold of that sum in a sandbox is worth. -/
noncomputable def Tryz.pinned : Pinned := { name := "ythmijagacgnmkaagreatdoor", sum := "52f0c27bb8357a74f23c98777ffa7c63fe8902b11e01c74e72d3d57230feaaae", checked := Tryz.checked }
namespace Rows
def none {H : Type} : Left H := { results := [], args := [] }

/- WHAT THE LISTED PACKAGE-LEVEL VARIABLES READ AS WHEN THE CALL BEGINS. Each datum BY PROGRAM (the guide's laid-datum.mjs) off the statement by which the dump's own 'gosem.cut.vars' lays the variable. In a bare row this is a premise. The card (YthmijagacgnmkaaGreatDoorCards.lean) ties it to the program's text. -/
def laid_interleave_token_keywords {H : Type} : DataW H := .agg [.lit (.string [118, 97, 114]), .lit (.string [118, 111, 108, 97, 116, 105, 108, 101]), .lit (.string [109, 117, 116, 101, 120]), .lit (.string [114, 119, 108, 111, 99, 107]), .lit (.string [99, 111, 110, 100]), .lit (.string [102, 117, 116, 117, 114, 101]), .lit (.string [116, 104, 114, 101, 97, 100]), .lit (.string [105, 102]), .lit (.string [101, 108, 115, 101]), .lit (.string [119, 104, 105, 108, 101]), .lit (.string [108, 111, 99, 107]), .lit (.string [114, 101, 97, 100]), .lit (.string [119, 114, 105, 116, 101]), .lit (.string [116, 114, 97, 110, 115, 97, 99, 116, 105, 111, 110]), .lit (.string [97, 116, 111, 109, 105, 99]), .lit (.string [119, 97, 105, 116]), .lit (.string [110, 111, 116, 105, 102, 121]), .lit (.string [110, 111, 116, 105, 102, 121, 97, 108, 108]), .lit (.string [115, 112, 97, 119, 110]), .lit (.string [106, 111, 105, 110]), .lit (.string [115, 101, 116]), .lit (.string [103, 101, 116])]

/-- 'interleavelaw17.WellformedScenes': WHATEVER THE INPUT: true; the input reads as it did. -/
def wellformedScenesSpec : ChangeSpec := { name := "wellformedScenes", fn := fun _ => fun
  | [d] => { results := [.lit (.bool true)], args := [d] }
  | _ => none }
def wellformedScenesRow : OpenClaim := { program := "ythmijagacgnmkaagreatdoor", sum := "52f0c27bb8357a74f23c98777ffa7c63fe8902b11e01c74e72d3d57230feaaae", func := "interleave/interleavelaw17.WellformedScenes", spec := "wellformedScenes", unfollowed := true, recurses := true, named := ["interleave/token.keywords"], apart := false, laid := [("interleave/token.keywords", laid_interleave_token_keywords)] }
def WellformedScenesSaid : Prop := wellformedScenesRow.holds Tryz.pinned (OpenSpec.ofChange wellformedScenesSpec)

/-- ITS FALSE NEIGHBOUR: 'it returns false'. Refute it at one input. -/
def wellformedScenesWrong : ChangeSpec := { name := "wellformedScenes", fn := fun _ => fun
  | [d] => { results := [.lit (.bool false)], args := [d] }
  | _ => none }
def WellformedScenesWrongFalsely : Prop := wellformedScenesRow.holds Tryz.pinned (OpenSpec.ofChange wellformedScenesWrong)

/-- 'interleavelaw17.WellformedTries': WHATEVER THE INPUT: true; the input reads as it did. -/
def wellformedTriesSpec : ChangeSpec := { name := "wellformedTries", fn := fun _ => fun
  | [d1, d2] => { results := [.lit (.bool true)], args := [d1, d2] }
  | _ => none }
def wellformedTriesRow : OpenClaim := { program := "ythmijagacgnmkaagreatdoor", sum := "52f0c27bb8357a74f23c98777ffa7c63fe8902b11e01c74e72d3d57230feaaae", func := "interleave/interleavelaw17.WellformedTries", spec := "wellformedTries", unfollowed := true, recurses := true, named := ["interleave/token.keywords"], apart := false, laid := [("interleave/token.keywords", laid_interleave_token_keywords)] }
def WellformedTriesSaid : Prop := wellformedTriesRow.holds Tryz.pinned (OpenSpec.ofChange wellformedTriesSpec)

/-- ITS FALSE NEIGHBOUR: 'it returns false'. Refute it at one input. -/
def wellformedTriesWrong : ChangeSpec := { name := "wellformedTries", fn := fun _ => fun
  | [d1, d2] => { results := [.lit (.bool false)], args := [d1, d2] }
  | _ => none }
def WellformedTriesWrongFalsely : Prop := wellformedTriesRow.holds Tryz.pinned (OpenSpec.ofChange wellformedTriesWrong)

/-- 'interleavelaw28.LocksetHeld': WHATEVER THE INPUT: true; the input reads as it did. -/
def locksetHeldSpec : ChangeSpec := { name := "locksetHeld", fn := fun _ => fun
  | [d] => { results := [.lit (.bool true)], args := [d] }
  | _ => none }
def locksetHeldRow : OpenClaim := { program := "ythmijagacgnmkaagreatdoor", sum := "52f0c27bb8357a74f23c98777ffa7c63fe8902b11e01c74e72d3d57230feaaae", func := "interleave/interleavelaw28.LocksetHeld", spec := "locksetHeld", unfollowed := true, recurses := true, named := ["interleave/token.keywords"], apart := false, laid := [("interleave/token.keywords", laid_interleave_token_keywords)] }
def LocksetHeldSaid : Prop := locksetHeldRow.holds Tryz.pinned (OpenSpec.ofChange locksetHeldSpec)

/-- ITS FALSE NEIGHBOUR: 'it returns false'. Refute it at one input. -/
def locksetHeldWrong : ChangeSpec := { name := "locksetHeld", fn := fun _ => fun
  | [d] => { results := [.lit (.bool false)], args := [d] }
  | _ => none }
def LocksetHeldWrongFalsely : Prop := locksetHeldRow.holds Tryz.pinned (OpenSpec.ofChange locksetHeldWrong)

/-- 'interleavelaw28.LocksetWarns': WHATEVER THE INPUT: true; the input reads as it did. -/
def locksetWarnsSpec : ChangeSpec := { name := "locksetWarns", fn := fun _ => fun
  | [d] => { results := [.lit (.bool true)], args := [d] }
  | _ => none }
def locksetWarnsRow : OpenClaim := { program := "ythmijagacgnmkaagreatdoor", sum := "52f0c27bb8357a74f23c98777ffa7c63fe8902b11e01c74e72d3d57230feaaae", func := "interleave/interleavelaw28.LocksetWarns", spec := "locksetWarns", unfollowed := true, recurses := true, named := ["interleave/token.keywords"], apart := false, laid := [("interleave/token.keywords", laid_interleave_token_keywords)] }
def LocksetWarnsSaid : Prop := locksetWarnsRow.holds Tryz.pinned (OpenSpec.ofChange locksetWarnsSpec)

/-- ITS FALSE NEIGHBOUR: 'it returns false'. Refute it at one input. -/
def locksetWarnsWrong : ChangeSpec := { name := "locksetWarns", fn := fun _ => fun
  | [d] => { results := [.lit (.bool false)], args := [d] }
  | _ => none }
def LocksetWarnsWrongFalsely : Prop := locksetWarnsRow.holds Tryz.pinned (OpenSpec.ofChange locksetWarnsWrong)

/-- 'interleavelaw28.LocksetDiscipline': WHATEVER THE INPUT: true; the input reads as it did. -/
def locksetDisciplineSpec : ChangeSpec := { name := "locksetDiscipline", fn := fun _ => fun
  | [d] => { results := [.lit (.bool true)], args := [d] }
  | _ => none }
def locksetDisciplineRow : OpenClaim := { program := "ythmijagacgnmkaagreatdoor", sum := "52f0c27bb8357a74f23c98777ffa7c63fe8902b11e01c74e72d3d57230feaaae", func := "interleave/interleavelaw28.LocksetDiscipline", spec := "locksetDiscipline", unfollowed := true, recurses := true, named := ["interleave/token.keywords"], apart := false, laid := [("interleave/token.keywords", laid_interleave_token_keywords)] }
def LocksetDisciplineSaid : Prop := locksetDisciplineRow.holds Tryz.pinned (OpenSpec.ofChange locksetDisciplineSpec)

/-- ITS FALSE NEIGHBOUR: 'it returns false'. Refute it at one input. -/
def locksetDisciplineWrong : ChangeSpec := { name := "locksetDiscipline", fn := fun _ => fun
  | [d] => { results := [.lit (.bool false)], args := [d] }
  | _ => none }
def LocksetDisciplineWrongFalsely : Prop := locksetDisciplineRow.holds Tryz.pinned (OpenSpec.ofChange locksetDisciplineWrong)

/-- 'interleavelaw28.LocksetRefuses': WHATEVER THE INPUT: true; the input reads as it did. -/
def locksetRefusesSpec : ChangeSpec := { name := "locksetRefuses", fn := fun _ => fun
  | [d1, d2, d3] => { results := [.lit (.bool true)], args := [d1, d2, d3] }
  | _ => none }
def locksetRefusesRow : OpenClaim := { program := "ythmijagacgnmkaagreatdoor", sum := "52f0c27bb8357a74f23c98777ffa7c63fe8902b11e01c74e72d3d57230feaaae", func := "interleave/interleavelaw28.LocksetRefuses", spec := "locksetRefuses", unfollowed := true, recurses := true, named := ["interleave/token.keywords"], apart := false, laid := [("interleave/token.keywords", laid_interleave_token_keywords)] }
def LocksetRefusesSaid : Prop := locksetRefusesRow.holds Tryz.pinned (OpenSpec.ofChange locksetRefusesSpec)

/-- ITS FALSE NEIGHBOUR: 'it returns false'. Refute it at one input. -/
def locksetRefusesWrong : ChangeSpec := { name := "locksetRefuses", fn := fun _ => fun
  | [d1, d2, d3] => { results := [.lit (.bool false)], args := [d1, d2, d3] }
  | _ => none }
def LocksetRefusesWrongFalsely : Prop := locksetRefusesRow.holds Tryz.pinned (OpenSpec.ofChange locksetRefusesWrong)

/-- 'interleavelaw18.WindowScenes': WHATEVER THE INPUT: true; the input reads as it did. -/
def windowScenesSpec : ChangeSpec := { name := "windowScenes", fn := fun _ => fun
  | [d] => { results := [.lit (.bool true)], args := [d] }
  | _ => none }
def windowScenesRow : OpenClaim := { program := "ythmijagacgnmkaagreatdoor", sum := "52f0c27bb8357a74f23c98777ffa7c63fe8902b11e01c74e72d3d57230feaaae", func := "interleave/interleavelaw18.WindowScenes", spec := "windowScenes", unfollowed := true, recurses := true, named := ["interleave/token.keywords"], apart := false, laid := [("interleave/token.keywords", laid_interleave_token_keywords)] }
def WindowScenesSaid : Prop := windowScenesRow.holds Tryz.pinned (OpenSpec.ofChange windowScenesSpec)

/-- ITS FALSE NEIGHBOUR: 'it returns false'. Refute it at one input. -/
def windowScenesWrong : ChangeSpec := { name := "windowScenes", fn := fun _ => fun
  | [d] => { results := [.lit (.bool false)], args := [d] }
  | _ => none }
def WindowScenesWrongFalsely : Prop := windowScenesRow.holds Tryz.pinned (OpenSpec.ofChange windowScenesWrong)

/-- 'interleavelaw28.LocksetWindow': WHATEVER THE INPUT: true; the input reads as it did. -/
def locksetWindowSpec : ChangeSpec := { name := "locksetWindow", fn := fun _ => fun
  | [d] => { results := [.lit (.bool true)], args := [d] }
  | _ => none }
def locksetWindowRow : OpenClaim := { program := "ythmijagacgnmkaagreatdoor", sum := "52f0c27bb8357a74f23c98777ffa7c63fe8902b11e01c74e72d3d57230feaaae", func := "interleave/interleavelaw28.LocksetWindow", spec := "locksetWindow", unfollowed := true, recurses := true, named := ["interleave/token.keywords"], apart := false, laid := [("interleave/token.keywords", laid_interleave_token_keywords)] }
def LocksetWindowSaid : Prop := locksetWindowRow.holds Tryz.pinned (OpenSpec.ofChange locksetWindowSpec)

/-- ITS FALSE NEIGHBOUR: 'it returns false'. Refute it at one input. -/
def locksetWindowWrong : ChangeSpec := { name := "locksetWindow", fn := fun _ => fun
  | [d] => { results := [.lit (.bool false)], args := [d] }
  | _ => none }
def LocksetWindowWrongFalsely : Prop := locksetWindowRow.holds Tryz.pinned (OpenSpec.ofChange locksetWindowWrong)

/-- 'interleavelaw18.WindowMade': WHATEVER THE INPUT: true; the input reads as it did. -/
def windowMadeSpec : ChangeSpec := { name := "windowMade", fn := fun _ => fun
  | [d1, d2, d3] => { results := [.lit (.bool true)], args := [d1, d2, d3] }
  | _ => none }
def windowMadeRow : OpenClaim := { program := "ythmijagacgnmkaagreatdoor", sum := "52f0c27bb8357a74f23c98777ffa7c63fe8902b11e01c74e72d3d57230feaaae", func := "interleave/interleavelaw18.WindowMade", spec := "windowMade", unfollowed := true, recurses := true, named := ["interleave/token.keywords"], apart := false, laid := [("interleave/token.keywords", laid_interleave_token_keywords)] }
def WindowMadeSaid : Prop := windowMadeRow.holds Tryz.pinned (OpenSpec.ofChange windowMadeSpec)

/-- ITS FALSE NEIGHBOUR: 'it returns false'. Refute it at one input. -/
def windowMadeWrong : ChangeSpec := { name := "windowMade", fn := fun _ => fun
  | [d1, d2, d3] => { results := [.lit (.bool false)], args := [d1, d2, d3] }
  | _ => none }
def WindowMadeWrongFalsely : Prop := windowMadeRow.holds Tryz.pinned (OpenSpec.ofChange windowMadeWrong)

/-- 'interleavelaw28.LocksetMeets': WHATEVER THE INPUT: true; the input reads as it did. -/
def locksetMeetsSpec : ChangeSpec := { name := "locksetMeets", fn := fun _ => fun
  | [d1, d2] => { results := [.lit (.bool true)], args := [d1, d2] }
  | _ => none }
def locksetMeetsRow : OpenClaim := { program := "ythmijagacgnmkaagreatdoor", sum := "52f0c27bb8357a74f23c98777ffa7c63fe8902b11e01c74e72d3d57230feaaae", func := "interleave/interleavelaw28.LocksetMeets", spec := "locksetMeets", unfollowed := true, recurses := true, named := ["interleave/token.keywords"], apart := false, laid := [("interleave/token.keywords", laid_interleave_token_keywords)] }
def LocksetMeetsSaid : Prop := locksetMeetsRow.holds Tryz.pinned (OpenSpec.ofChange locksetMeetsSpec)

/-- ITS FALSE NEIGHBOUR: 'it returns false'. Refute it at one input. -/
def locksetMeetsWrong : ChangeSpec := { name := "locksetMeets", fn := fun _ => fun
  | [d1, d2] => { results := [.lit (.bool false)], args := [d1, d2] }
  | _ => none }
def LocksetMeetsWrongFalsely : Prop := locksetMeetsRow.holds Tryz.pinned (OpenSpec.ofChange locksetMeetsWrong)

/-- 'interleavelaw28.LocksetCuts': WHATEVER THE INPUT: true; the input reads as it did. -/
def locksetCutsSpec : ChangeSpec := { name := "locksetCuts", fn := fun _ => fun
  | [d1, d2] => { results := [.lit (.bool true)], args := [d1, d2] }
  | _ => none }
def locksetCutsRow : OpenClaim := { program := "ythmijagacgnmkaagreatdoor", sum := "52f0c27bb8357a74f23c98777ffa7c63fe8902b11e01c74e72d3d57230feaaae", func := "interleave/interleavelaw28.LocksetCuts", spec := "locksetCuts", unfollowed := true, recurses := true, named := ["interleave/token.keywords"], apart := false, laid := [("interleave/token.keywords", laid_interleave_token_keywords)] }
def LocksetCutsSaid : Prop := locksetCutsRow.holds Tryz.pinned (OpenSpec.ofChange locksetCutsSpec)

/-- ITS FALSE NEIGHBOUR: 'it returns false'. Refute it at one input. -/
def locksetCutsWrong : ChangeSpec := { name := "locksetCuts", fn := fun _ => fun
  | [d1, d2] => { results := [.lit (.bool false)], args := [d1, d2] }
  | _ => none }
def LocksetCutsWrongFalsely : Prop := locksetCutsRow.holds Tryz.pinned (OpenSpec.ofChange locksetCutsWrong)

/- THE SECOND FORM. 'bulk': how many values and letters a reading holds, each counted each time it is reached (what is shared counts as often as it is met; a slice's spare places count too). A statement '..UptoSaid' is the law's where the arguments, and the package variables that the reading takes, are together of bulk at most 1048576: NARROWER than '..Said'. Prove '..Said' where nothing that the law and all that it calls make is longer than what came in: it says more and counts as full. Else prove '..UptoSaid'. A law counts once. -/
mutual
def uptoBulk {H : Type} : DataW H → Nat
  | .lit (.string bytes) => bytes.length + 1
  | .lit _ => 1
  | .nil => 1
  | .ptr d => uptoBulk d + 1
  | .slice elems spare => uptoBulkAll elems + uptoBulkAll spare + 1
  | .agg parts => uptoBulkAll parts + 1
  | .iface _ d => uptoBulk d + 1
  | .map entries => uptoBulkEntries entries + 1
  | .held _ => 1
def uptoBulkAll {H : Type} : List (DataW H) → Nat
  | [] => 0
  | d :: r => uptoBulk d + uptoBulkAll r
def uptoBulkEntries {H : Type} : List (Lit × DataW H) → Nat
  | [] => 0
  | x :: r => uptoBulkEntry x + uptoBulkEntries r
def uptoBulkEntry {H : Type} : Lit × DataW H → Nat
  | (.string bytes, d) => bytes.length + uptoBulk d + 1
  | (_, d) => uptoBulk d + 1
 end
def uptoSmall : (H : Type) → List (DataW H) → Bool := fun _ ds => decide (uptoBulkAll ds ≤ 1048576)
def OpenSpec.upto (s : _root_.Go.ChangeSpec) : _root_.Go.OpenSpec := { _root_.Go.OpenSpec.ofChange s with cond := some uptoSmall }

/-- 'interleavelaw17.WellformedScenes', WHERE WHAT IT READS IS OF BULK AT MOST 1048576: true; the input reads as it did. -/
def wellformedScenesUptoRow : OpenClaim := { program := "ythmijagacgnmkaagreatdoor", sum := "52f0c27bb8357a74f23c98777ffa7c63fe8902b11e01c74e72d3d57230feaaae", func := "interleave/interleavelaw17.WellformedScenes", spec := "wellformedScenes", unfollowed := true, recurses := true, named := ["interleave/token.keywords"], apart := false, laid := [("interleave/token.keywords", laid_interleave_token_keywords)], narrowed := true }
def WellformedScenesUptoSaid : Prop := wellformedScenesUptoRow.holds Tryz.pinned (OpenSpec.upto wellformedScenesSpec)

/-- 'interleavelaw17.WellformedTries', WHERE WHAT IT READS IS OF BULK AT MOST 1048576: true; the input reads as it did. -/
def wellformedTriesUptoRow : OpenClaim := { program := "ythmijagacgnmkaagreatdoor", sum := "52f0c27bb8357a74f23c98777ffa7c63fe8902b11e01c74e72d3d57230feaaae", func := "interleave/interleavelaw17.WellformedTries", spec := "wellformedTries", unfollowed := true, recurses := true, named := ["interleave/token.keywords"], apart := false, laid := [("interleave/token.keywords", laid_interleave_token_keywords)], narrowed := true }
def WellformedTriesUptoSaid : Prop := wellformedTriesUptoRow.holds Tryz.pinned (OpenSpec.upto wellformedTriesSpec)

/-- 'interleavelaw28.LocksetHeld', WHERE WHAT IT READS IS OF BULK AT MOST 1048576: true; the input reads as it did. -/
def locksetHeldUptoRow : OpenClaim := { program := "ythmijagacgnmkaagreatdoor", sum := "52f0c27bb8357a74f23c98777ffa7c63fe8902b11e01c74e72d3d57230feaaae", func := "interleave/interleavelaw28.LocksetHeld", spec := "locksetHeld", unfollowed := true, recurses := true, named := ["interleave/token.keywords"], apart := false, laid := [("interleave/token.keywords", laid_interleave_token_keywords)], narrowed := true }
def LocksetHeldUptoSaid : Prop := locksetHeldUptoRow.holds Tryz.pinned (OpenSpec.upto locksetHeldSpec)

/-- 'interleavelaw28.LocksetWarns', WHERE WHAT IT READS IS OF BULK AT MOST 1048576: true; the input reads as it did. -/
def locksetWarnsUptoRow : OpenClaim := { program := "ythmijagacgnmkaagreatdoor", sum := "52f0c27bb8357a74f23c98777ffa7c63fe8902b11e01c74e72d3d57230feaaae", func := "interleave/interleavelaw28.LocksetWarns", spec := "locksetWarns", unfollowed := true, recurses := true, named := ["interleave/token.keywords"], apart := false, laid := [("interleave/token.keywords", laid_interleave_token_keywords)], narrowed := true }
def LocksetWarnsUptoSaid : Prop := locksetWarnsUptoRow.holds Tryz.pinned (OpenSpec.upto locksetWarnsSpec)

/-- 'interleavelaw28.LocksetDiscipline', WHERE WHAT IT READS IS OF BULK AT MOST 1048576: true; the input reads as it did. -/
def locksetDisciplineUptoRow : OpenClaim := { program := "ythmijagacgnmkaagreatdoor", sum := "52f0c27bb8357a74f23c98777ffa7c63fe8902b11e01c74e72d3d57230feaaae", func := "interleave/interleavelaw28.LocksetDiscipline", spec := "locksetDiscipline", unfollowed := true, recurses := true, named := ["interleave/token.keywords"], apart := false, laid := [("interleave/token.keywords", laid_interleave_token_keywords)], narrowed := true }
def LocksetDisciplineUptoSaid : Prop := locksetDisciplineUptoRow.holds Tryz.pinned (OpenSpec.upto locksetDisciplineSpec)

/-- 'interleavelaw28.LocksetRefuses', WHERE WHAT IT READS IS OF BULK AT MOST 1048576: true; the input reads as it did. -/
def locksetRefusesUptoRow : OpenClaim := { program := "ythmijagacgnmkaagreatdoor", sum := "52f0c27bb8357a74f23c98777ffa7c63fe8902b11e01c74e72d3d57230feaaae", func := "interleave/interleavelaw28.LocksetRefuses", spec := "locksetRefuses", unfollowed := true, recurses := true, named := ["interleave/token.keywords"], apart := false, laid := [("interleave/token.keywords", laid_interleave_token_keywords)], narrowed := true }
def LocksetRefusesUptoSaid : Prop := locksetRefusesUptoRow.holds Tryz.pinned (OpenSpec.upto locksetRefusesSpec)

/-- 'interleavelaw18.WindowScenes', WHERE WHAT IT READS IS OF BULK AT MOST 1048576: true; the input reads as it did. -/
def windowScenesUptoRow : OpenClaim := { program := "ythmijagacgnmkaagreatdoor", sum := "52f0c27bb8357a74f23c98777ffa7c63fe8902b11e01c74e72d3d57230feaaae", func := "interleave/interleavelaw18.WindowScenes", spec := "windowScenes", unfollowed := true, recurses := true, named := ["interleave/token.keywords"], apart := false, laid := [("interleave/token.keywords", laid_interleave_token_keywords)], narrowed := true }
def WindowScenesUptoSaid : Prop := windowScenesUptoRow.holds Tryz.pinned (OpenSpec.upto windowScenesSpec)

/-- 'interleavelaw28.LocksetWindow', WHERE WHAT IT READS IS OF BULK AT MOST 1048576: true; the input reads as it did. -/
def locksetWindowUptoRow : OpenClaim := { program := "ythmijagacgnmkaagreatdoor", sum := "52f0c27bb8357a74f23c98777ffa7c63fe8902b11e01c74e72d3d57230feaaae", func := "interleave/interleavelaw28.LocksetWindow", spec := "locksetWindow", unfollowed := true, recurses := true, named := ["interleave/token.keywords"], apart := false, laid := [("interleave/token.keywords", laid_interleave_token_keywords)], narrowed := true }
def LocksetWindowUptoSaid : Prop := locksetWindowUptoRow.holds Tryz.pinned (OpenSpec.upto locksetWindowSpec)

/-- 'interleavelaw18.WindowMade', WHERE WHAT IT READS IS OF BULK AT MOST 1048576: true; the input reads as it did. -/
def windowMadeUptoRow : OpenClaim := { program := "ythmijagacgnmkaagreatdoor", sum := "52f0c27bb8357a74f23c98777ffa7c63fe8902b11e01c74e72d3d57230feaaae", func := "interleave/interleavelaw18.WindowMade", spec := "windowMade", unfollowed := true, recurses := true, named := ["interleave/token.keywords"], apart := false, laid := [("interleave/token.keywords", laid_interleave_token_keywords)], narrowed := true }
def WindowMadeUptoSaid : Prop := windowMadeUptoRow.holds Tryz.pinned (OpenSpec.upto windowMadeSpec)

/-- 'interleavelaw28.LocksetMeets', WHERE WHAT IT READS IS OF BULK AT MOST 1048576: true; the input reads as it did. -/
def locksetMeetsUptoRow : OpenClaim := { program := "ythmijagacgnmkaagreatdoor", sum := "52f0c27bb8357a74f23c98777ffa7c63fe8902b11e01c74e72d3d57230feaaae", func := "interleave/interleavelaw28.LocksetMeets", spec := "locksetMeets", unfollowed := true, recurses := true, named := ["interleave/token.keywords"], apart := false, laid := [("interleave/token.keywords", laid_interleave_token_keywords)], narrowed := true }
def LocksetMeetsUptoSaid : Prop := locksetMeetsUptoRow.holds Tryz.pinned (OpenSpec.upto locksetMeetsSpec)

/-- 'interleavelaw28.LocksetCuts', WHERE WHAT IT READS IS OF BULK AT MOST 1048576: true; the input reads as it did. -/
def locksetCutsUptoRow : OpenClaim := { program := "ythmijagacgnmkaagreatdoor", sum := "52f0c27bb8357a74f23c98777ffa7c63fe8902b11e01c74e72d3d57230feaaae", func := "interleave/interleavelaw28.LocksetCuts", spec := "locksetCuts", unfollowed := true, recurses := true, named := ["interleave/token.keywords"], apart := false, laid := [("interleave/token.keywords", laid_interleave_token_keywords)], narrowed := true }
def LocksetCutsUptoSaid : Prop := locksetCutsUptoRow.holds Tryz.pinned (OpenSpec.upto locksetCutsSpec)

end Rows
end Go.Proofs.YthmijagacgnmkaaGreatDoor
