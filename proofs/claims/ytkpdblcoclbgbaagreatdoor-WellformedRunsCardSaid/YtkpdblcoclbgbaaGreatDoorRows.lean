/-
  NARROWER THAN 'FOR EVERY INPUT', by the rows' own cells (each row's printed sentence says how): WellformedRuns: laid · WellformedSpoils: laid · WellformedPrefixes: laid · WellformedLoads: laid.
  DERIVED. THE GIVEN ROWS OF THIS SEAT. 4 by the template 'for every input the law returns true; each argument reads behind the call as it read before'; 0 by the template 'total and deterministic' (their statements: YtkpdblcoclbgbaaGreatDoorTotals.lean).
  GIVEN WITH THE SEED: the statements are not yours to turn. If you find one false, say at which input.
  Laid BY PROGRAM, IN A SANDBOX (cutbox-rows.mjs): the forced cells as the released guide's own fill.sh prints them over the translation b68f5244dcb6b87a… (all of the seat's roots in one cut). By AI agents, Wed Nov 11 2026. No macro, syntax, notation, axiom, sorry.
-/
import Derived.Test.YtkpdblcoclbgbaaGreatDoorChecked
import GoSem.Claim
import GoSem.ClaimJoined
import GoSem.ClaimMapViews
import Derived.JoinedTies
import Derived.KernelRfl
namespace Go.Proofs.YtkpdblcoclbgbaaGreatDoor
/- THE CELL 'sum', in the pinned program and in every row, IS THE sha256 OF THE DUMP (.gsa) THAT YtkpdblcoclbgbaaGreatDoorProg.lean LOADS. Nothing in Lean hashes anything: it is a label: what it is worth is what the hold of that sum in a sandbox is worth. -/
noncomputable def Tryz.pinned : Pinned := { name := "ytkpdblcoclbgbaagreatdoor", sum := "b68f5244dcb6b87a0848ce4beb69f8336598936766b1aa2367b5b297fe87cfbb", checked := Tryz.checked }
namespace Rows
def none {H : Type} : Left H := { results := [], args := [] }

/- WHAT THE LISTED PACKAGE-LEVEL VARIABLES READ AS WHEN THE CALL BEGINS. Each datum BY PROGRAM (the guide's laid-datum.mjs) off the statement by which the dump's own 'gosem.cut.vars' lays the variable. In a bare row this is a premise. The card (YtkpdblcoclbgbaaGreatDoorCards.lean) ties it to the program's text. -/
def laid_interleave_token_keywords {H : Type} : DataW H := .agg [.lit (.string [118, 97, 114]), .lit (.string [118, 111, 108, 97, 116, 105, 108, 101]), .lit (.string [109, 117, 116, 101, 120]), .lit (.string [114, 119, 108, 111, 99, 107]), .lit (.string [99, 111, 110, 100]), .lit (.string [102, 117, 116, 117, 114, 101]), .lit (.string [116, 104, 114, 101, 97, 100]), .lit (.string [105, 102]), .lit (.string [101, 108, 115, 101]), .lit (.string [119, 104, 105, 108, 101]), .lit (.string [108, 111, 99, 107]), .lit (.string [114, 101, 97, 100]), .lit (.string [119, 114, 105, 116, 101]), .lit (.string [116, 114, 97, 110, 115, 97, 99, 116, 105, 111, 110]), .lit (.string [97, 116, 111, 109, 105, 99]), .lit (.string [119, 97, 105, 116]), .lit (.string [110, 111, 116, 105, 102, 121]), .lit (.string [110, 111, 116, 105, 102, 121, 97, 108, 108]), .lit (.string [115, 112, 97, 119, 110]), .lit (.string [106, 111, 105, 110]), .lit (.string [115, 101, 116]), .lit (.string [103, 101, 116])]

/-- 'interleavelaw17.WellformedRuns': WHATEVER THE INPUT: true; the input reads as it did. -/
def wellformedRunsSpec : ChangeSpec := { name := "wellformedRuns", fn := fun _ => fun
  | [d1, d2] => { results := [.lit (.bool true)], args := [d1, d2] }
  | _ => none }
def wellformedRunsRow : OpenClaim := { program := "ytkpdblcoclbgbaagreatdoor", sum := "b68f5244dcb6b87a0848ce4beb69f8336598936766b1aa2367b5b297fe87cfbb", func := "interleave/interleavelaw17.WellformedRuns", spec := "wellformedRuns", unfollowed := true, recurses := true, named := ["interleave/token.keywords"], apart := false, laid := [("interleave/token.keywords", laid_interleave_token_keywords)] }
def WellformedRunsSaid : Prop := wellformedRunsRow.holds Tryz.pinned (OpenSpec.ofChange wellformedRunsSpec)

/-- ITS FALSE NEIGHBOUR: 'it returns false'. Refute it at one input. -/
def wellformedRunsWrong : ChangeSpec := { name := "wellformedRuns", fn := fun _ => fun
  | [d1, d2] => { results := [.lit (.bool false)], args := [d1, d2] }
  | _ => none }
def WellformedRunsWrongFalsely : Prop := wellformedRunsRow.holds Tryz.pinned (OpenSpec.ofChange wellformedRunsWrong)

/-- 'interleavelaw17.WellformedSpoils': WHATEVER THE INPUT: true; the input reads as it did. -/
def wellformedSpoilsSpec : ChangeSpec := { name := "wellformedSpoils", fn := fun _ => fun
  | [d1, d2, d3, d4, d5] => { results := [.lit (.bool true)], args := [d1, d2, d3, d4, d5] }
  | _ => none }
def wellformedSpoilsRow : OpenClaim := { program := "ytkpdblcoclbgbaagreatdoor", sum := "b68f5244dcb6b87a0848ce4beb69f8336598936766b1aa2367b5b297fe87cfbb", func := "interleave/interleavelaw17.WellformedSpoils", spec := "wellformedSpoils", unfollowed := true, recurses := true, named := ["interleave/token.keywords"], apart := false, laid := [("interleave/token.keywords", laid_interleave_token_keywords)] }
def WellformedSpoilsSaid : Prop := wellformedSpoilsRow.holds Tryz.pinned (OpenSpec.ofChange wellformedSpoilsSpec)

/-- ITS FALSE NEIGHBOUR: 'it returns false'. Refute it at one input. -/
def wellformedSpoilsWrong : ChangeSpec := { name := "wellformedSpoils", fn := fun _ => fun
  | [d1, d2, d3, d4, d5] => { results := [.lit (.bool false)], args := [d1, d2, d3, d4, d5] }
  | _ => none }
def WellformedSpoilsWrongFalsely : Prop := wellformedSpoilsRow.holds Tryz.pinned (OpenSpec.ofChange wellformedSpoilsWrong)

/-- 'interleavelaw17.WellformedPrefixes': WHATEVER THE INPUT: true; the input reads as it did. -/
def wellformedPrefixesSpec : ChangeSpec := { name := "wellformedPrefixes", fn := fun _ => fun
  | [d1, d2, d3, d4, d5] => { results := [.lit (.bool true)], args := [d1, d2, d3, d4, d5] }
  | _ => none }
def wellformedPrefixesRow : OpenClaim := { program := "ytkpdblcoclbgbaagreatdoor", sum := "b68f5244dcb6b87a0848ce4beb69f8336598936766b1aa2367b5b297fe87cfbb", func := "interleave/interleavelaw17.WellformedPrefixes", spec := "wellformedPrefixes", unfollowed := true, recurses := true, named := ["interleave/token.keywords"], apart := false, laid := [("interleave/token.keywords", laid_interleave_token_keywords)] }
def WellformedPrefixesSaid : Prop := wellformedPrefixesRow.holds Tryz.pinned (OpenSpec.ofChange wellformedPrefixesSpec)

/-- ITS FALSE NEIGHBOUR: 'it returns false'. Refute it at one input. -/
def wellformedPrefixesWrong : ChangeSpec := { name := "wellformedPrefixes", fn := fun _ => fun
  | [d1, d2, d3, d4, d5] => { results := [.lit (.bool false)], args := [d1, d2, d3, d4, d5] }
  | _ => none }
def WellformedPrefixesWrongFalsely : Prop := wellformedPrefixesRow.holds Tryz.pinned (OpenSpec.ofChange wellformedPrefixesWrong)

/-- 'interleavelaw17.WellformedLoads': WHATEVER THE INPUT: true; the input reads as it did. -/
def wellformedLoadsSpec : ChangeSpec := { name := "wellformedLoads", fn := fun _ => fun
  | [d1, d2, d3, d4] => { results := [.lit (.bool true)], args := [d1, d2, d3, d4] }
  | _ => none }
def wellformedLoadsRow : OpenClaim := { program := "ytkpdblcoclbgbaagreatdoor", sum := "b68f5244dcb6b87a0848ce4beb69f8336598936766b1aa2367b5b297fe87cfbb", func := "interleave/interleavelaw17.WellformedLoads", spec := "wellformedLoads", unfollowed := true, recurses := true, named := ["interleave/token.keywords"], apart := false, laid := [("interleave/token.keywords", laid_interleave_token_keywords)] }
def WellformedLoadsSaid : Prop := wellformedLoadsRow.holds Tryz.pinned (OpenSpec.ofChange wellformedLoadsSpec)

/-- ITS FALSE NEIGHBOUR: 'it returns false'. Refute it at one input. -/
def wellformedLoadsWrong : ChangeSpec := { name := "wellformedLoads", fn := fun _ => fun
  | [d1, d2, d3, d4] => { results := [.lit (.bool false)], args := [d1, d2, d3, d4] }
  | _ => none }
def WellformedLoadsWrongFalsely : Prop := wellformedLoadsRow.holds Tryz.pinned (OpenSpec.ofChange wellformedLoadsWrong)

/- THE SECOND FORM. 'bulk': how many values and letters a reading holds, each counted each time it is reached (what is shared counts as often as it is met; a slice's spare places count too). A statement '..UptoSaid' is the law's where the arguments, and the package variables that the reading takes, are together of bulk at most 1048576: NARROWER than '..Said'. Prove '..Said' where nothing that the law and all that it calls make is longer than what came in: it says more and counts as full. Else prove '..UptoSaid'. A law counts once. -/
mutual
def uptoBulk {H : Type} : DataW H → Nat
  | .lit (.string bytes) => bytes.length + 1
  | .lit _ => 1
  | .nil => 1
  | .ptr d => uptoBulk d + 1
  | .slice elems spare => uptoBulkAll elems + uptoBulkAll spare + 1
  | .agg parts => uptoBulkAll parts + 1
  | .iface _ d => uptoBulk d + 1
  | .map entries => uptoBulkEntries entries + 1
  | .held _ => 1
def uptoBulkAll {H : Type} : List (DataW H) → Nat
  | [] => 0
  | d :: r => uptoBulk d + uptoBulkAll r
def uptoBulkEntries {H : Type} : List (Lit × DataW H) → Nat
  | [] => 0
  | x :: r => uptoBulkEntry x + uptoBulkEntries r
def uptoBulkEntry {H : Type} : Lit × DataW H → Nat
  | (.string bytes, d) => bytes.length + uptoBulk d + 1
  | (_, d) => uptoBulk d + 1
 end
def uptoSmall : (H : Type) → List (DataW H) → Bool := fun _ ds => decide (uptoBulkAll ds ≤ 1048576)
def OpenSpec.upto (s : _root_.Go.ChangeSpec) : _root_.Go.OpenSpec := { _root_.Go.OpenSpec.ofChange s with cond := some uptoSmall }

/-- 'interleavelaw17.WellformedRuns', WHERE WHAT IT READS IS OF BULK AT MOST 1048576: true; the input reads as it did. -/
def wellformedRunsUptoRow : OpenClaim := { program := "ytkpdblcoclbgbaagreatdoor", sum := "b68f5244dcb6b87a0848ce4beb69f8336598936766b1aa2367b5b297fe87cfbb", func := "interleave/interleavelaw17.WellformedRuns", spec := "wellformedRuns", unfollowed := true, recurses := true, named := ["interleave/token.keywords"], apart := false, laid := [("interleave/token.keywords", laid_interleave_token_keywords)], narrowed := true }
def WellformedRunsUptoSaid : Prop := wellformedRunsUptoRow.holds Tryz.pinned (OpenSpec.upto wellformedRunsSpec)

/-- 'interleavelaw17.WellformedSpoils', WHERE WHAT IT READS IS OF BULK AT MOST 1048576: true; the input reads as it did. -/
def wellformedSpoilsUptoRow : OpenClaim := { program := "ytkpdblcoclbgbaagreatdoor", sum := "b68f5244dcb6b87a0848ce4beb69f8336598936766b1aa2367b5b297fe87cfbb", func := "interleave/interleavelaw17.WellformedSpoils", spec := "wellformedSpoils", unfollowed := true, recurses := true, named := ["interleave/token.keywords"], apart := false, laid := [("interleave/token.keywords", laid_interleave_token_keywords)], narrowed := true }
def WellformedSpoilsUptoSaid : Prop := wellformedSpoilsUptoRow.holds Tryz.pinned (OpenSpec.upto wellformedSpoilsSpec)

/-- 'interleavelaw17.WellformedPrefixes', WHERE WHAT IT READS IS OF BULK AT MOST 1048576: true; the input reads as it did. -/
def wellformedPrefixesUptoRow : OpenClaim := { program := "ytkpdblcoclbgbaagreatdoor", sum := "b68f5244dcb6b87a0848ce4beb69f8336598936766b1aa2367b5b297fe87cfbb", func := "interleave/interleavelaw17.WellformedPrefixes", spec := "wellformedPrefixes", unfollowed := true, recurses := true, named := ["interleave/token.keywords"], apart := false, laid := [("interleave/token.keywords", laid_interleave_token_keywords)], narrowed := true }
def WellformedPrefixesUptoSaid : Prop := wellformedPrefixesUptoRow.holds Tryz.pinned (OpenSpec.upto wellformedPrefixesSpec)

/-- 'interleavelaw17.WellformedLoads', WHERE WHAT IT READS IS OF BULK AT MOST 1048576: true; the input reads as it did. -/
def wellformedLoadsUptoRow : OpenClaim := { program := "ytkpdblcoclbgbaagreatdoor", sum := "b68f5244dcb6b87a0848ce4beb69f8336598936766b1aa2367b5b297fe87cfbb", func := "interleave/interleavelaw17.WellformedLoads", spec := "wellformedLoads", unfollowed := true, recurses := true, named := ["interleave/token.keywords"], apart := false, laid := [("interleave/token.keywords", laid_interleave_token_keywords)], narrowed := true }
def WellformedLoadsUptoSaid : Prop := wellformedLoadsUptoRow.holds Tryz.pinned (OpenSpec.upto wellformedLoadsSpec)

end Rows
end Go.Proofs.YtkpdblcoclbgbaaGreatDoor
