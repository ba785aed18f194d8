/-
  NARROWER THAN 'FOR EVERY INPUT', by the rows' own cells (each row's printed sentence says how): WindowSplits: laid · WindowValid: laid · WindowSpoils: laid · WindowSizes: laid · WindowTells: laid · WindowSnapshots: laid.
  DERIVED. THE GIVEN ROWS OF THIS SEAT. 6 by the template 'for every input the law returns true; each argument reads behind the call as it read before'; 0 by the template 'total and deterministic' (their statements: YtdadohkcmclilaaGreatDoorTotals.lean).
  GIVEN WITH THE SEED: the statements are not yours to turn. If you find one false, say at which input.
  Laid BY PROGRAM, IN A SANDBOX (cutbox-rows.mjs): the forced cells as the released guide's own fill.sh prints them over the translation 0b91310b5767ebe4… (all of the seat's roots in one cut). By AI agents, Wed Nov 11 2026. No macro, syntax, notation, axiom, sorry.
-/
import Derived.Test.YtdadohkcmclilaaGreatDoorChecked
import GoSem.Claim
import GoSem.ClaimJoined
import GoSem.ClaimMapViews
import Derived.JoinedTies
import Derived.KernelRfl
namespace Go.Proofs.YtdadohkcmclilaaGreatDoor
/- THE CELL 'sum', in the pinned program and in every row, IS THE sha256 OF THE DUMP (.gsa) THAT YtdadohkcmclilaaGreatDoorProg.lean LOADS. Nothing in Lean hashes anything: it is a label: what it is worth is what the hold of that sum in a sandbox is worth. -/
noncomputable def Tryz.pinned : Pinned := { name := "ytdadohkcmclilaagreatdoor", sum := "0b91310b5767ebe4a934037be867109174fe363fe2ba623ae4343c74b1619d66", checked := Tryz.checked }
namespace Rows
def none {H : Type} : Left H := { results := [], args := [] }

/- WHAT THE LISTED PACKAGE-LEVEL VARIABLES READ AS WHEN THE CALL BEGINS. Each datum BY PROGRAM (the guide's laid-datum.mjs) off the statement by which the dump's own 'gosem.cut.vars' lays the variable. In a bare row this is a premise. The card (YtdadohkcmclilaaGreatDoorCards.lean) ties it to the program's text. -/
def laid_interleave_token_keywords {H : Type} : DataW H := .agg [.lit (.string [118, 97, 114]), .lit (.string [118, 111, 108, 97, 116, 105, 108, 101]), .lit (.string [109, 117, 116, 101, 120]), .lit (.string [114, 119, 108, 111, 99, 107]), .lit (.string [99, 111, 110, 100]), .lit (.string [102, 117, 116, 117, 114, 101]), .lit (.string [116, 104, 114, 101, 97, 100]), .lit (.string [105, 102]), .lit (.string [101, 108, 115, 101]), .lit (.string [119, 104, 105, 108, 101]), .lit (.string [108, 111, 99, 107]), .lit (.string [114, 101, 97, 100]), .lit (.string [119, 114, 105, 116, 101]), .lit (.string [116, 114, 97, 110, 115, 97, 99, 116, 105, 111, 110]), .lit (.string [97, 116, 111, 109, 105, 99]), .lit (.string [119, 97, 105, 116]), .lit (.string [110, 111, 116, 105, 102, 121]), .lit (.string [110, 111, 116, 105, 102, 121, 97, 108, 108]), .lit (.string [115, 112, 97, 119, 110]), .lit (.string [106, 111, 105, 110]), .lit (.string [115, 101, 116]), .lit (.string [103, 101, 116])]

/-- 'interleavelaw18.WindowSplits': WHATEVER THE INPUT: true; the input reads as it did. -/
def windowSplitsSpec : ChangeSpec := { name := "windowSplits", fn := fun _ => fun
  | [d1, d2, d3] => { results := [.lit (.bool true)], args := [d1, d2, d3] }
  | _ => none }
def windowSplitsRow : OpenClaim := { program := "ytdadohkcmclilaagreatdoor", sum := "0b91310b5767ebe4a934037be867109174fe363fe2ba623ae4343c74b1619d66", func := "interleave/interleavelaw18.WindowSplits", spec := "windowSplits", unfollowed := true, recurses := true, named := ["interleave/token.keywords"], apart := false, laid := [("interleave/token.keywords", laid_interleave_token_keywords)] }
def WindowSplitsSaid : Prop := windowSplitsRow.holds Tryz.pinned (OpenSpec.ofChange windowSplitsSpec)

/-- ITS FALSE NEIGHBOUR: 'it returns false'. Refute it at one input. -/
def windowSplitsWrong : ChangeSpec := { name := "windowSplits", fn := fun _ => fun
  | [d1, d2, d3] => { results := [.lit (.bool false)], args := [d1, d2, d3] }
  | _ => none }
def WindowSplitsWrongFalsely : Prop := windowSplitsRow.holds Tryz.pinned (OpenSpec.ofChange windowSplitsWrong)

/-- 'interleavelaw18.WindowValid': WHATEVER THE INPUT: true; the input reads as it did. -/
def windowValidSpec : ChangeSpec := { name := "windowValid", fn := fun _ => fun
  | [d] => { results := [.lit (.bool true)], args := [d] }
  | _ => none }
def windowValidRow : OpenClaim := { program := "ytdadohkcmclilaagreatdoor", sum := "0b91310b5767ebe4a934037be867109174fe363fe2ba623ae4343c74b1619d66", func := "interleave/interleavelaw18.WindowValid", spec := "windowValid", unfollowed := true, recurses := true, named := ["interleave/token.keywords"], apart := false, laid := [("interleave/token.keywords", laid_interleave_token_keywords)] }
def WindowValidSaid : Prop := windowValidRow.holds Tryz.pinned (OpenSpec.ofChange windowValidSpec)

/-- ITS FALSE NEIGHBOUR: 'it returns false'. Refute it at one input. -/
def windowValidWrong : ChangeSpec := { name := "windowValid", fn := fun _ => fun
  | [d] => { results := [.lit (.bool false)], args := [d] }
  | _ => none }
def WindowValidWrongFalsely : Prop := windowValidRow.holds Tryz.pinned (OpenSpec.ofChange windowValidWrong)

/-- 'interleavelaw18.WindowSpoils': WHATEVER THE INPUT: true; the input reads as it did. -/
def windowSpoilsSpec : ChangeSpec := { name := "windowSpoils", fn := fun _ => fun
  | [d1, d2, d3, d4, d5, d6, d7] => { results := [.lit (.bool true)], args := [d1, d2, d3, d4, d5, d6, d7] }
  | _ => none }
def windowSpoilsRow : OpenClaim := { program := "ytdadohkcmclilaagreatdoor", sum := "0b91310b5767ebe4a934037be867109174fe363fe2ba623ae4343c74b1619d66", func := "interleave/interleavelaw18.WindowSpoils", spec := "windowSpoils", unfollowed := true, recurses := true, named := ["interleave/token.keywords"], apart := false, laid := [("interleave/token.keywords", laid_interleave_token_keywords)] }
def WindowSpoilsSaid : Prop := windowSpoilsRow.holds Tryz.pinned (OpenSpec.ofChange windowSpoilsSpec)

/-- ITS FALSE NEIGHBOUR: 'it returns false'. Refute it at one input. -/
def windowSpoilsWrong : ChangeSpec := { name := "windowSpoils", fn := fun _ => fun
  | [d1, d2, d3, d4, d5, d6, d7] => { results := [.lit (.bool false)], args := [d1, d2, d3, d4, d5, d6, d7] }
  | _ => none }
def WindowSpoilsWrongFalsely : Prop := windowSpoilsRow.holds Tryz.pinned (OpenSpec.ofChange windowSpoilsWrong)

/-- 'interleavelaw18.WindowSizes': WHATEVER THE INPUT: true; the input reads as it did. -/
def windowSizesSpec : ChangeSpec := { name := "windowSizes", fn := fun _ => fun
  | [d1, d2, d3] => { results := [.lit (.bool true)], args := [d1, d2, d3] }
  | _ => none }
def windowSizesRow : OpenClaim := { program := "ytdadohkcmclilaagreatdoor", sum := "0b91310b5767ebe4a934037be867109174fe363fe2ba623ae4343c74b1619d66", func := "interleave/interleavelaw18.WindowSizes", spec := "windowSizes", unfollowed := true, recurses := true, named := ["interleave/token.keywords"], apart := false, laid := [("interleave/token.keywords", laid_interleave_token_keywords)] }
def WindowSizesSaid : Prop := windowSizesRow.holds Tryz.pinned (OpenSpec.ofChange windowSizesSpec)

/-- ITS FALSE NEIGHBOUR: 'it returns false'. Refute it at one input. -/
def windowSizesWrong : ChangeSpec := { name := "windowSizes", fn := fun _ => fun
  | [d1, d2, d3] => { results := [.lit (.bool false)], args := [d1, d2, d3] }
  | _ => none }
def WindowSizesWrongFalsely : Prop := windowSizesRow.holds Tryz.pinned (OpenSpec.ofChange windowSizesWrong)

/-- 'interleavelaw18.WindowTells': WHATEVER THE INPUT: true; the input reads as it did. -/
def windowTellsSpec : ChangeSpec := { name := "windowTells", fn := fun _ => fun
  | [d1, d2, d3] => { results := [.lit (.bool true)], args := [d1, d2, d3] }
  | _ => none }
def windowTellsRow : OpenClaim := { program := "ytdadohkcmclilaagreatdoor", sum := "0b91310b5767ebe4a934037be867109174fe363fe2ba623ae4343c74b1619d66", func := "interleave/interleavelaw18.WindowTells", spec := "windowTells", unfollowed := true, recurses := true, named := ["interleave/token.keywords"], apart := false, laid := [("interleave/token.keywords", laid_interleave_token_keywords)] }
def WindowTellsSaid : Prop := windowTellsRow.holds Tryz.pinned (OpenSpec.ofChange windowTellsSpec)

/-- ITS FALSE NEIGHBOUR: 'it returns false'. Refute it at one input. -/
def windowTellsWrong : ChangeSpec := { name := "windowTells", fn := fun _ => fun
  | [d1, d2, d3] => { results := [.lit (.bool false)], args := [d1, d2, d3] }
  | _ => none }
def WindowTellsWrongFalsely : Prop := windowTellsRow.holds Tryz.pinned (OpenSpec.ofChange windowTellsWrong)

/-- 'interleavelaw18.WindowSnapshots': WHATEVER THE INPUT: true; the input reads as it did. -/
def windowSnapshotsSpec : ChangeSpec := { name := "windowSnapshots", fn := fun _ => fun
  | [d1, d2, d3] => { results := [.lit (.bool true)], args := [d1, d2, d3] }
  | _ => none }
def windowSnapshotsRow : OpenClaim := { program := "ytdadohkcmclilaagreatdoor", sum := "0b91310b5767ebe4a934037be867109174fe363fe2ba623ae4343c74b1619d66", func := "interleave/interleavelaw18.WindowSnapshots", spec := "windowSnapshots", unfollowed := true, recurses := true, named := ["interleave/token.keywords"], apart := false, laid := [("interleave/token.keywords", laid_interleave_token_keywords)] }
def WindowSnapshotsSaid : Prop := windowSnapshotsRow.holds Tryz.pinned (OpenSpec.ofChange windowSnapshotsSpec)

/-- ITS FALSE NEIGHBOUR: 'it returns false'. Refute it at one input. -/
def windowSnapshotsWrong : ChangeSpec := { name := "windowSnapshots", fn := fun _ => fun
  | [d1, d2, d3] => { results := [.lit (.bool false)], args := [d1, d2, d3] }
  | _ => none }
def WindowSnapshotsWrongFalsely : Prop := windowSnapshotsRow.holds Tryz.pinned (OpenSpec.ofChange windowSnapshotsWrong)

/- THE SECOND FORM. 'bulk': how many values and letters a reading holds, each counted each time it is reached (what is shared counts as often as it is met; a slice's spare places count too). A statement '..UptoSaid' is the law's where the arguments, and the package variables that the reading takes, are together of bulk at most 1048576: NARROWER than '..Said'. Prove '..Said' where nothing that the law and all that it calls make is longer than what came in: it says more and counts as full. Else prove '..UptoSaid'. A law counts once. -/
mutual
def uptoBulk {H : Type} : DataW H → Nat
  | .lit (.string bytes) => bytes.length + 1
  | .lit _ => 1
  | .nil => 1
  | .ptr d => uptoBulk d + 1
  | .slice elems spare => uptoBulkAll elems + uptoBulkAll spare + 1
  | .agg parts => uptoBulkAll parts + 1
  | .iface _ d => uptoBulk d + 1
  | .map entries => uptoBulkEntries entries + 1
  | .held _ => 1
def uptoBulkAll {H : Type} : List (DataW H) → Nat
  | [] => 0
  | d :: r => uptoBulk d + uptoBulkAll r
def uptoBulkEntries {H : Type} : List (Lit × DataW H) → Nat
  | [] => 0
  | x :: r => uptoBulkEntry x + uptoBulkEntries r
def uptoBulkEntry {H : Type} : Lit × DataW H → Nat
  | (.string bytes, d) => bytes.length + uptoBulk d + 1
  | (_, d) => uptoBulk d + 1
 end
def uptoSmall : (H : Type) → List (DataW H) → Bool := fun _ ds => decide (uptoBulkAll ds ≤ 1048576)
def OpenSpec.upto (s : _root_.Go.ChangeSpec) : _root_.Go.OpenSpec := { _root_.Go.OpenSpec.ofChange s with cond := some uptoSmall }

/-- 'interleavelaw18.WindowSplits', WHERE WHAT IT READS IS OF BULK AT MOST 1048576: true; the input reads as it did. -/
def windowSplitsUptoRow : OpenClaim := { program := "ytdadohkcmclilaagreatdoor", sum := "0b91310b5767ebe4a934037be867109174fe363fe2ba623ae4343c74b1619d66", func := "interleave/interleavelaw18.WindowSplits", spec := "windowSplits", unfollowed := true, recurses := true, named := ["interleave/token.keywords"], apart := false, laid := [("interleave/token.keywords", laid_interleave_token_keywords)], narrowed := true }
def WindowSplitsUptoSaid : Prop := windowSplitsUptoRow.holds Tryz.pinned (OpenSpec.upto windowSplitsSpec)

/-- 'interleavelaw18.WindowValid', WHERE WHAT IT READS IS OF BULK AT MOST 1048576: true; the input reads as it did. -/
def windowValidUptoRow : OpenClaim := { program := "ytdadohkcmclilaagreatdoor", sum := "0b91310b5767ebe4a934037be867109174fe363fe2ba623ae4343c74b1619d66", func := "interleave/interleavelaw18.WindowValid", spec := "windowValid", unfollowed := true, recurses := true, named := ["interleave/token.keywords"], apart := false, laid := [("interleave/token.keywords", laid_interleave_token_keywords)], narrowed := true }
def WindowValidUptoSaid : Prop := windowValidUptoRow.holds Tryz.pinned (OpenSpec.upto windowValidSpec)

/-- 'interleavelaw18.WindowSpoils', WHERE WHAT IT READS IS OF BULK AT MOST 1048576: true; the input reads as it did. -/
def windowSpoilsUptoRow : OpenClaim := { program := "ytdadohkcmclilaagreatdoor", sum := "0b91310b5767ebe4a934037be867109174fe363fe2ba623ae4343c74b1619d66", func := "interleave/interleavelaw18.WindowSpoils", spec := "windowSpoils", unfollowed := true, recurses := true, named := ["interleave/token.keywords"], apart := false, laid := [("interleave/token.keywords", laid_interleave_token_keywords)], narrowed := true }
def WindowSpoilsUptoSaid : Prop := windowSpoilsUptoRow.holds Tryz.pinned (OpenSpec.upto windowSpoilsSpec)

/-- 'interleavelaw18.WindowSizes', WHERE WHAT IT READS IS OF BULK AT MOST 1048576: true; the input reads as it did. -/
def windowSizesUptoRow : OpenClaim := { program := "ytdadohkcmclilaagreatdoor", sum := "0b91310b5767ebe4a934037be867109174fe363fe2ba623ae4343c74b1619d66", func := "interleave/interleavelaw18.WindowSizes", spec := "windowSizes", unfollowed := true, recurses := true, named := ["interleave/token.keywords"], apart := false, laid := [("interleave/token.keywords", laid_interleave_token_keywords)], narrowed := true }
def WindowSizesUptoSaid : Prop := windowSizesUptoRow.holds Tryz.pinned (OpenSpec.upto windowSizesSpec)

/-- 'interleavelaw18.WindowTells', WHERE WHAT IT READS IS OF BULK AT MOST 1048576: true; the input reads as it did. -/
def windowTellsUptoRow : OpenClaim := { program := "ytdadohkcmclilaagreatdoor", sum := "0b91310b5767ebe4a934037be867109174fe363fe2ba623ae4343c74b1619d66", func := "interleave/interleavelaw18.WindowTells", spec := "windowTells", unfollowed := true, recurses := true, named := ["interleave/token.keywords"], apart := false, laid := [("interleave/token.keywords", laid_interleave_token_keywords)], narrowed := true }
def WindowTellsUptoSaid : Prop := windowTellsUptoRow.holds Tryz.pinned (OpenSpec.upto windowTellsSpec)

/-- 'interleavelaw18.WindowSnapshots', WHERE WHAT IT READS IS OF BULK AT MOST 1048576: true; the input reads as it did. -/
def windowSnapshotsUptoRow : OpenClaim := { program := "ytdadohkcmclilaagreatdoor", sum := "0b91310b5767ebe4a934037be867109174fe363fe2ba623ae4343c74b1619d66", func := "interleave/interleavelaw18.WindowSnapshots", spec := "windowSnapshots", unfollowed := true, recurses := true, named := ["interleave/token.keywords"], apart := false, laid := [("interleave/token.keywords", laid_interleave_token_keywords)], narrowed := true }
def WindowSnapshotsUptoSaid : Prop := windowSnapshotsUptoRow.holds Tryz.pinned (OpenSpec.upto windowSnapshotsSpec)

end Rows
end Go.Proofs.YtdadohkcmclilaaGreatDoor
