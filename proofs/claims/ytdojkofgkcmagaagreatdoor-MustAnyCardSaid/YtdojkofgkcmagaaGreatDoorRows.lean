/-
  NARROWER THAN 'FOR EVERY INPUT', by the rows' own cells (each row's printed sentence says how): WindowScenes: laid · LocksetWindow: laid · LocksetMeets: laid · MustBefore: laid · MustHolds: laid · MustRecorded: laid · MustSpawns: laid · MustCandidates: laid · MustSources: laid · MustClocks: laid · MustCounts: laid · MustAny: laid.
  DERIVED. THE GIVEN ROWS OF THIS SEAT. 12 by the template 'for every input the law returns true; each argument reads behind the call as it read before'; 0 by the template 'total and deterministic' (their statements: YtdojkofgkcmagaaGreatDoorTotals.lean).
  GIVEN WITH THE SEED: the statements are not yours to turn. If you find one false, say at which input.
  Laid BY PROGRAM, IN A SANDBOX (cutbox-rows.mjs): the forced cells as the released guide's own fill.sh prints them over the translation dd170231fb83ad1b… (all of the seat's roots in one cut). By AI agents, Wed Nov 11 2026. No macro, syntax, notation, axiom, sorry.
-/
import Derived.Test.YtdojkofgkcmagaaGreatDoorChecked
import GoSem.Claim
import GoSem.ClaimJoined
import GoSem.ClaimMapViews
import Derived.JoinedTies
import Derived.KernelRfl
namespace Go.Proofs.YtdojkofgkcmagaaGreatDoor
/- THE CELL 'sum', in the pinned program and in every row, IS THE sha256 OF THE DUMP (.gsa) THAT YtdojkofgkcmagaaGreatDoorProg.lean LOADS. Nothing in Lean hashes anything: it is a label: what it is worth is what the hold of that sum in a sandbox is worth. -/
noncomputable def Tryz.pinned : Pinned := { name := "ytdojkofgkcmagaagreatdoor", sum := "dd170231fb83ad1b9644ffc3a7206a9b826671abfcdbcf0148aa1e5acad8cc78", checked := Tryz.checked }
namespace Rows
def none {H : Type} : Left H := { results := [], args := [] }

/- WHAT THE LISTED PACKAGE-LEVEL VARIABLES READ AS WHEN THE CALL BEGINS. Each datum BY PROGRAM (the guide's laid-datum.mjs) off the statement by which the dump's own 'gosem.cut.vars' lays the variable. In a bare row this is a premise. The card (YtdojkofgkcmagaaGreatDoorCards.lean) ties it to the program's text. -/
def laid_interleave_token_keywords {H : Type} : DataW H := .agg [.lit (.string [118, 97, 114]), .lit (.string [118, 111, 108, 97, 116, 105, 108, 101]), .lit (.string [109, 117, 116, 101, 120]), .lit (.string [114, 119, 108, 111, 99, 107]), .lit (.string [99, 111, 110, 100]), .lit (.string [102, 117, 116, 117, 114, 101]), .lit (.string [116, 104, 114, 101, 97, 100]), .lit (.string [105, 102]), .lit (.string [101, 108, 115, 101]), .lit (.string [119, 104, 105, 108, 101]), .lit (.string [108, 111, 99, 107]), .lit (.string [114, 101, 97, 100]), .lit (.string [119, 114, 105, 116, 101]), .lit (.string [116, 114, 97, 110, 115, 97, 99, 116, 105, 111, 110]), .lit (.string [97, 116, 111, 109, 105, 99]), .lit (.string [119, 97, 105, 116]), .lit (.string [110, 111, 116, 105, 102, 121]), .lit (.string [110, 111, 116, 105, 102, 121, 97, 108, 108]), .lit (.string [115, 112, 97, 119, 110]), .lit (.string [106, 111, 105, 110]), .lit (.string [115, 101, 116]), .lit (.string [103, 101, 116])]

/-- 'interleavelaw18.WindowScenes': WHATEVER THE INPUT: true; the input reads as it did. -/
def windowScenesSpec : ChangeSpec := { name := "windowScenes", fn := fun _ => fun
  | [d] => { results := [.lit (.bool true)], args := [d] }
  | _ => none }
def windowScenesRow : OpenClaim := { program := "ytdojkofgkcmagaagreatdoor", sum := "dd170231fb83ad1b9644ffc3a7206a9b826671abfcdbcf0148aa1e5acad8cc78", func := "interleave/interleavelaw18.WindowScenes", spec := "windowScenes", unfollowed := true, recurses := true, named := ["interleave/token.keywords"], apart := false, laid := [("interleave/token.keywords", laid_interleave_token_keywords)] }
def WindowScenesSaid : Prop := windowScenesRow.holds Tryz.pinned (OpenSpec.ofChange windowScenesSpec)

/-- ITS FALSE NEIGHBOUR: 'it returns false'. Refute it at one input. -/
def windowScenesWrong : ChangeSpec := { name := "windowScenes", fn := fun _ => fun
  | [d] => { results := [.lit (.bool false)], args := [d] }
  | _ => none }
def WindowScenesWrongFalsely : Prop := windowScenesRow.holds Tryz.pinned (OpenSpec.ofChange windowScenesWrong)

/-- 'interleavelaw28.LocksetWindow': WHATEVER THE INPUT: true; the input reads as it did. -/
def locksetWindowSpec : ChangeSpec := { name := "locksetWindow", fn := fun _ => fun
  | [d] => { results := [.lit (.bool true)], args := [d] }
  | _ => none }
def locksetWindowRow : OpenClaim := { program := "ytdojkofgkcmagaagreatdoor", sum := "dd170231fb83ad1b9644ffc3a7206a9b826671abfcdbcf0148aa1e5acad8cc78", func := "interleave/interleavelaw28.LocksetWindow", spec := "locksetWindow", unfollowed := true, recurses := true, named := ["interleave/token.keywords"], apart := false, laid := [("interleave/token.keywords", laid_interleave_token_keywords)] }
def LocksetWindowSaid : Prop := locksetWindowRow.holds Tryz.pinned (OpenSpec.ofChange locksetWindowSpec)

/-- ITS FALSE NEIGHBOUR: 'it returns false'. Refute it at one input. -/
def locksetWindowWrong : ChangeSpec := { name := "locksetWindow", fn := fun _ => fun
  | [d] => { results := [.lit (.bool false)], args := [d] }
  | _ => none }
def LocksetWindowWrongFalsely : Prop := locksetWindowRow.holds Tryz.pinned (OpenSpec.ofChange locksetWindowWrong)

/-- 'interleavelaw28.LocksetMeets': WHATEVER THE INPUT: true; the input reads as it did. -/
def locksetMeetsSpec : ChangeSpec := { name := "locksetMeets", fn := fun _ => fun
  | [d1, d2] => { results := [.lit (.bool true)], args := [d1, d2] }
  | _ => none }
def locksetMeetsRow : OpenClaim := { program := "ytdojkofgkcmagaagreatdoor", sum := "dd170231fb83ad1b9644ffc3a7206a9b826671abfcdbcf0148aa1e5acad8cc78", func := "interleave/interleavelaw28.LocksetMeets", spec := "locksetMeets", unfollowed := true, recurses := true, named := ["interleave/token.keywords"], apart := false, laid := [("interleave/token.keywords", laid_interleave_token_keywords)] }
def LocksetMeetsSaid : Prop := locksetMeetsRow.holds Tryz.pinned (OpenSpec.ofChange locksetMeetsSpec)

/-- ITS FALSE NEIGHBOUR: 'it returns false'. Refute it at one input. -/
def locksetMeetsWrong : ChangeSpec := { name := "locksetMeets", fn := fun _ => fun
  | [d1, d2] => { results := [.lit (.bool false)], args := [d1, d2] }
  | _ => none }
def LocksetMeetsWrongFalsely : Prop := locksetMeetsRow.holds Tryz.pinned (OpenSpec.ofChange locksetMeetsWrong)

/-- 'interleavelaw27.MustBefore': WHATEVER THE INPUT: true; the input reads as it did. -/
def mustBeforeSpec : ChangeSpec := { name := "mustBefore", fn := fun _ => fun
  | [d] => { results := [.lit (.bool true)], args := [d] }
  | _ => none }
def mustBeforeRow : OpenClaim := { program := "ytdojkofgkcmagaagreatdoor", sum := "dd170231fb83ad1b9644ffc3a7206a9b826671abfcdbcf0148aa1e5acad8cc78", func := "interleave/interleavelaw27.MustBefore", spec := "mustBefore", unfollowed := true, recurses := true, named := ["interleave/token.keywords"], apart := false, laid := [("interleave/token.keywords", laid_interleave_token_keywords)] }
def MustBeforeSaid : Prop := mustBeforeRow.holds Tryz.pinned (OpenSpec.ofChange mustBeforeSpec)

/-- ITS FALSE NEIGHBOUR: 'it returns false'. Refute it at one input. -/
def mustBeforeWrong : ChangeSpec := { name := "mustBefore", fn := fun _ => fun
  | [d] => { results := [.lit (.bool false)], args := [d] }
  | _ => none }
def MustBeforeWrongFalsely : Prop := mustBeforeRow.holds Tryz.pinned (OpenSpec.ofChange mustBeforeWrong)

/-- 'interleavelaw27.MustHolds': WHATEVER THE INPUT: true; the input reads as it did. -/
def mustHoldsSpec : ChangeSpec := { name := "mustHolds", fn := fun _ => fun
  | [d1, d2] => { results := [.lit (.bool true)], args := [d1, d2] }
  | _ => none }
def mustHoldsRow : OpenClaim := { program := "ytdojkofgkcmagaagreatdoor", sum := "dd170231fb83ad1b9644ffc3a7206a9b826671abfcdbcf0148aa1e5acad8cc78", func := "interleave/interleavelaw27.MustHolds", spec := "mustHolds", unfollowed := true, recurses := true, named := ["interleave/token.keywords"], apart := false, laid := [("interleave/token.keywords", laid_interleave_token_keywords)] }
def MustHoldsSaid : Prop := mustHoldsRow.holds Tryz.pinned (OpenSpec.ofChange mustHoldsSpec)

/-- ITS FALSE NEIGHBOUR: 'it returns false'. Refute it at one input. -/
def mustHoldsWrong : ChangeSpec := { name := "mustHolds", fn := fun _ => fun
  | [d1, d2] => { results := [.lit (.bool false)], args := [d1, d2] }
  | _ => none }
def MustHoldsWrongFalsely : Prop := mustHoldsRow.holds Tryz.pinned (OpenSpec.ofChange mustHoldsWrong)

/-- 'interleavelaw27.MustRecorded': WHATEVER THE INPUT: true; the input reads as it did. -/
def mustRecordedSpec : ChangeSpec := { name := "mustRecorded", fn := fun _ => fun
  | [d] => { results := [.lit (.bool true)], args := [d] }
  | _ => none }
def mustRecordedRow : OpenClaim := { program := "ytdojkofgkcmagaagreatdoor", sum := "dd170231fb83ad1b9644ffc3a7206a9b826671abfcdbcf0148aa1e5acad8cc78", func := "interleave/interleavelaw27.MustRecorded", spec := "mustRecorded", unfollowed := true, recurses := true, named := ["interleave/token.keywords"], apart := false, laid := [("interleave/token.keywords", laid_interleave_token_keywords)] }
def MustRecordedSaid : Prop := mustRecordedRow.holds Tryz.pinned (OpenSpec.ofChange mustRecordedSpec)

/-- ITS FALSE NEIGHBOUR: 'it returns false'. Refute it at one input. -/
def mustRecordedWrong : ChangeSpec := { name := "mustRecorded", fn := fun _ => fun
  | [d] => { results := [.lit (.bool false)], args := [d] }
  | _ => none }
def MustRecordedWrongFalsely : Prop := mustRecordedRow.holds Tryz.pinned (OpenSpec.ofChange mustRecordedWrong)

/-- 'interleavelaw27.MustSpawns': WHATEVER THE INPUT: true; the input reads as it did. -/
def mustSpawnsSpec : ChangeSpec := { name := "mustSpawns", fn := fun _ => fun
  | [d] => { results := [.lit (.bool true)], args := [d] }
  | _ => none }
def mustSpawnsRow : OpenClaim := { program := "ytdojkofgkcmagaagreatdoor", sum := "dd170231fb83ad1b9644ffc3a7206a9b826671abfcdbcf0148aa1e5acad8cc78", func := "interleave/interleavelaw27.MustSpawns", spec := "mustSpawns", unfollowed := true, recurses := true, named := ["interleave/token.keywords"], apart := false, laid := [("interleave/token.keywords", laid_interleave_token_keywords)] }
def MustSpawnsSaid : Prop := mustSpawnsRow.holds Tryz.pinned (OpenSpec.ofChange mustSpawnsSpec)

/-- ITS FALSE NEIGHBOUR: 'it returns false'. Refute it at one input. -/
def mustSpawnsWrong : ChangeSpec := { name := "mustSpawns", fn := fun _ => fun
  | [d] => { results := [.lit (.bool false)], args := [d] }
  | _ => none }
def MustSpawnsWrongFalsely : Prop := mustSpawnsRow.holds Tryz.pinned (OpenSpec.ofChange mustSpawnsWrong)

/-- 'interleavelaw27.MustCandidates': WHATEVER THE INPUT: true; the input reads as it did. -/
def mustCandidatesSpec : ChangeSpec := { name := "mustCandidates", fn := fun _ => fun
  | [d1, d2] => { results := [.lit (.bool true)], args := [d1, d2] }
  | _ => none }
def mustCandidatesRow : OpenClaim := { program := "ytdojkofgkcmagaagreatdoor", sum := "dd170231fb83ad1b9644ffc3a7206a9b826671abfcdbcf0148aa1e5acad8cc78", func := "interleave/interleavelaw27.MustCandidates", spec := "mustCandidates", unfollowed := true, recurses := true, named := ["interleave/token.keywords"], apart := false, laid := [("interleave/token.keywords", laid_interleave_token_keywords)] }
def MustCandidatesSaid : Prop := mustCandidatesRow.holds Tryz.pinned (OpenSpec.ofChange mustCandidatesSpec)

/-- ITS FALSE NEIGHBOUR: 'it returns false'. Refute it at one input. -/
def mustCandidatesWrong : ChangeSpec := { name := "mustCandidates", fn := fun _ => fun
  | [d1, d2] => { results := [.lit (.bool false)], args := [d1, d2] }
  | _ => none }
def MustCandidatesWrongFalsely : Prop := mustCandidatesRow.holds Tryz.pinned (OpenSpec.ofChange mustCandidatesWrong)

/-- 'interleavelaw27.MustSources': WHATEVER THE INPUT: true; the input reads as it did. -/
def mustSourcesSpec : ChangeSpec := { name := "mustSources", fn := fun _ => fun
  | [d1, d2] => { results := [.lit (.bool true)], args := [d1, d2] }
  | _ => none }
def mustSourcesRow : OpenClaim := { program := "ytdojkofgkcmagaagreatdoor", sum := "dd170231fb83ad1b9644ffc3a7206a9b826671abfcdbcf0148aa1e5acad8cc78", func := "interleave/interleavelaw27.MustSources", spec := "mustSources", unfollowed := true, recurses := true, named := ["interleave/token.keywords"], apart := false, laid := [("interleave/token.keywords", laid_interleave_token_keywords)] }
def MustSourcesSaid : Prop := mustSourcesRow.holds Tryz.pinned (OpenSpec.ofChange mustSourcesSpec)

/-- ITS FALSE NEIGHBOUR: 'it returns false'. Refute it at one input. -/
def mustSourcesWrong : ChangeSpec := { name := "mustSources", fn := fun _ => fun
  | [d1, d2] => { results := [.lit (.bool false)], args := [d1, d2] }
  | _ => none }
def MustSourcesWrongFalsely : Prop := mustSourcesRow.holds Tryz.pinned (OpenSpec.ofChange mustSourcesWrong)

/-- 'interleavelaw27.MustClocks': WHATEVER THE INPUT: true; the input reads as it did. -/
def mustClocksSpec : ChangeSpec := { name := "mustClocks", fn := fun _ => fun
  | [d] => { results := [.lit (.bool true)], args := [d] }
  | _ => none }
def mustClocksRow : OpenClaim := { program := "ytdojkofgkcmagaagreatdoor", sum := "dd170231fb83ad1b9644ffc3a7206a9b826671abfcdbcf0148aa1e5acad8cc78", func := "interleave/interleavelaw27.MustClocks", spec := "mustClocks", unfollowed := true, recurses := true, named := ["interleave/token.keywords"], apart := false, laid := [("interleave/token.keywords", laid_interleave_token_keywords)] }
def MustClocksSaid : Prop := mustClocksRow.holds Tryz.pinned (OpenSpec.ofChange mustClocksSpec)

/-- ITS FALSE NEIGHBOUR: 'it returns false'. Refute it at one input. -/
def mustClocksWrong : ChangeSpec := { name := "mustClocks", fn := fun _ => fun
  | [d] => { results := [.lit (.bool false)], args := [d] }
  | _ => none }
def MustClocksWrongFalsely : Prop := mustClocksRow.holds Tryz.pinned (OpenSpec.ofChange mustClocksWrong)

/-- 'interleavelaw27.MustCounts': WHATEVER THE INPUT: true; the input reads as it did. -/
def mustCountsSpec : ChangeSpec := { name := "mustCounts", fn := fun _ => fun
  | [d] => { results := [.lit (.bool true)], args := [d] }
  | _ => none }
def mustCountsRow : OpenClaim := { program := "ytdojkofgkcmagaagreatdoor", sum := "dd170231fb83ad1b9644ffc3a7206a9b826671abfcdbcf0148aa1e5acad8cc78", func := "interleave/interleavelaw27.MustCounts", spec := "mustCounts", unfollowed := true, recurses := true, named := ["interleave/token.keywords"], apart := false, laid := [("interleave/token.keywords", laid_interleave_token_keywords)] }
def MustCountsSaid : Prop := mustCountsRow.holds Tryz.pinned (OpenSpec.ofChange mustCountsSpec)

/-- ITS FALSE NEIGHBOUR: 'it returns false'. Refute it at one input. -/
def mustCountsWrong : ChangeSpec := { name := "mustCounts", fn := fun _ => fun
  | [d] => { results := [.lit (.bool false)], args := [d] }
  | _ => none }
def MustCountsWrongFalsely : Prop := mustCountsRow.holds Tryz.pinned (OpenSpec.ofChange mustCountsWrong)

/-- 'interleavelaw27.MustAny': WHATEVER THE INPUT: true; the input reads as it did. -/
def mustAnySpec : ChangeSpec := { name := "mustAny", fn := fun _ => fun
  | [d1, d2, d3] => { results := [.lit (.bool true)], args := [d1, d2, d3] }
  | _ => none }
def mustAnyRow : OpenClaim := { program := "ytdojkofgkcmagaagreatdoor", sum := "dd170231fb83ad1b9644ffc3a7206a9b826671abfcdbcf0148aa1e5acad8cc78", func := "interleave/interleavelaw27.MustAny", spec := "mustAny", unfollowed := true, recurses := true, named := ["interleave/token.keywords"], apart := false, laid := [("interleave/token.keywords", laid_interleave_token_keywords)] }
def MustAnySaid : Prop := mustAnyRow.holds Tryz.pinned (OpenSpec.ofChange mustAnySpec)

/-- ITS FALSE NEIGHBOUR: 'it returns false'. Refute it at one input. -/
def mustAnyWrong : ChangeSpec := { name := "mustAny", fn := fun _ => fun
  | [d1, d2, d3] => { results := [.lit (.bool false)], args := [d1, d2, d3] }
  | _ => none }
def MustAnyWrongFalsely : Prop := mustAnyRow.holds Tryz.pinned (OpenSpec.ofChange mustAnyWrong)

/- THE SECOND FORM. 'bulk': how many values and letters a reading holds, each counted each time it is reached (what is shared counts as often as it is met; a slice's spare places count too). A statement '..UptoSaid' is the law's where the arguments, and the package variables that the reading takes, are together of bulk at most 1048576: NARROWER than '..Said'. Prove '..Said' where nothing that the law and all that it calls make is longer than what came in: it says more and counts as full. Else prove '..UptoSaid'. A law counts once. -/
mutual
def uptoBulk {H : Type} : DataW H → Nat
  | .lit (.string bytes) => bytes.length + 1
  | .lit _ => 1
  | .nil => 1
  | .ptr d => uptoBulk d + 1
  | .slice elems spare => uptoBulkAll elems + uptoBulkAll spare + 1
  | .agg parts => uptoBulkAll parts + 1
  | .iface _ d => uptoBulk d + 1
  | .map entries => uptoBulkEntries entries + 1
  | .held _ => 1
def uptoBulkAll {H : Type} : List (DataW H) → Nat
  | [] => 0
  | d :: r => uptoBulk d + uptoBulkAll r
def uptoBulkEntries {H : Type} : List (Lit × DataW H) → Nat
  | [] => 0
  | x :: r => uptoBulkEntry x + uptoBulkEntries r
def uptoBulkEntry {H : Type} : Lit × DataW H → Nat
  | (.string bytes, d) => bytes.length + uptoBulk d + 1
  | (_, d) => uptoBulk d + 1
 end
def uptoSmall : (H : Type) → List (DataW H) → Bool := fun _ ds => decide (uptoBulkAll ds ≤ 1048576)
def OpenSpec.upto (s : _root_.Go.ChangeSpec) : _root_.Go.OpenSpec := { _root_.Go.OpenSpec.ofChange s with cond := some uptoSmall }

/-- 'interleavelaw18.WindowScenes', WHERE WHAT IT READS IS OF BULK AT MOST 1048576: true; the input reads as it did. -/
def windowScenesUptoRow : OpenClaim := { program := "ytdojkofgkcmagaagreatdoor", sum := "dd170231fb83ad1b9644ffc3a7206a9b826671abfcdbcf0148aa1e5acad8cc78", func := "interleave/interleavelaw18.WindowScenes", spec := "windowScenes", unfollowed := true, recurses := true, named := ["interleave/token.keywords"], apart := false, laid := [("interleave/token.keywords", laid_interleave_token_keywords)], narrowed := true }
def WindowScenesUptoSaid : Prop := windowScenesUptoRow.holds Tryz.pinned (OpenSpec.upto windowScenesSpec)

/-- 'interleavelaw28.LocksetWindow', WHERE WHAT IT READS IS OF BULK AT MOST 1048576: true; the input reads as it did. -/
def locksetWindowUptoRow : OpenClaim := { program := "ytdojkofgkcmagaagreatdoor", sum := "dd170231fb83ad1b9644ffc3a7206a9b826671abfcdbcf0148aa1e5acad8cc78", func := "interleave/interleavelaw28.LocksetWindow", spec := "locksetWindow", unfollowed := true, recurses := true, named := ["interleave/token.keywords"], apart := false, laid := [("interleave/token.keywords", laid_interleave_token_keywords)], narrowed := true }
def LocksetWindowUptoSaid : Prop := locksetWindowUptoRow.holds Tryz.pinned (OpenSpec.upto locksetWindowSpec)

/-- 'interleavelaw28.LocksetMeets', WHERE WHAT IT READS IS OF BULK AT MOST 1048576: true; the input reads as it did. -/
def locksetMeetsUptoRow : OpenClaim := { program := "ytdojkofgkcmagaagreatdoor", sum := "dd170231fb83ad1b9644ffc3a7206a9b826671abfcdbcf0148aa1e5acad8cc78", func := "interleave/interleavelaw28.LocksetMeets", spec := "locksetMeets", unfollowed := true, recurses := true, named := ["interleave/token.keywords"], apart := false, laid := [("interleave/token.keywords", laid_interleave_token_keywords)], narrowed := true }
def LocksetMeetsUptoSaid : Prop := locksetMeetsUptoRow.holds Tryz.pinned (OpenSpec.upto locksetMeetsSpec)

/-- 'interleavelaw27.MustBefore', WHERE WHAT IT READS IS OF BULK AT MOST 1048576: true; the input reads as it did. -/
def mustBeforeUptoRow : OpenClaim := { program := "ytdojkofgkcmagaagreatdoor", sum := "dd170231fb83ad1b9644ffc3a7206a9b826671abfcdbcf0148aa1e5acad8cc78", func := "interleave/interleavelaw27.MustBefore", spec := "mustBefore", unfollowed := true, recurses := true, named := ["interleave/token.keywords"], apart := false, laid := [("interleave/token.keywords", laid_interleave_token_keywords)], narrowed := true }
def MustBeforeUptoSaid : Prop := mustBeforeUptoRow.holds Tryz.pinned (OpenSpec.upto mustBeforeSpec)

/-- 'interleavelaw27.MustHolds', WHERE WHAT IT READS IS OF BULK AT MOST 1048576: true; the input reads as it did. -/
def mustHoldsUptoRow : OpenClaim := { program := "ytdojkofgkcmagaagreatdoor", sum := "dd170231fb83ad1b9644ffc3a7206a9b826671abfcdbcf0148aa1e5acad8cc78", func := "interleave/interleavelaw27.MustHolds", spec := "mustHolds", unfollowed := true, recurses := true, named := ["interleave/token.keywords"], apart := false, laid := [("interleave/token.keywords", laid_interleave_token_keywords)], narrowed := true }
def MustHoldsUptoSaid : Prop := mustHoldsUptoRow.holds Tryz.pinned (OpenSpec.upto mustHoldsSpec)

/-- 'interleavelaw27.MustRecorded', WHERE WHAT IT READS IS OF BULK AT MOST 1048576: true; the input reads as it did. -/
def mustRecordedUptoRow : OpenClaim := { program := "ytdojkofgkcmagaagreatdoor", sum := "dd170231fb83ad1b9644ffc3a7206a9b826671abfcdbcf0148aa1e5acad8cc78", func := "interleave/interleavelaw27.MustRecorded", spec := "mustRecorded", unfollowed := true, recurses := true, named := ["interleave/token.keywords"], apart := false, laid := [("interleave/token.keywords", laid_interleave_token_keywords)], narrowed := true }
def MustRecordedUptoSaid : Prop := mustRecordedUptoRow.holds Tryz.pinned (OpenSpec.upto mustRecordedSpec)

/-- 'interleavelaw27.MustSpawns', WHERE WHAT IT READS IS OF BULK AT MOST 1048576: true; the input reads as it did. -/
def mustSpawnsUptoRow : OpenClaim := { program := "ytdojkofgkcmagaagreatdoor", sum := "dd170231fb83ad1b9644ffc3a7206a9b826671abfcdbcf0148aa1e5acad8cc78", func := "interleave/interleavelaw27.MustSpawns", spec := "mustSpawns", unfollowed := true, recurses := true, named := ["interleave/token.keywords"], apart := false, laid := [("interleave/token.keywords", laid_interleave_token_keywords)], narrowed := true }
def MustSpawnsUptoSaid : Prop := mustSpawnsUptoRow.holds Tryz.pinned (OpenSpec.upto mustSpawnsSpec)

/-- 'interleavelaw27.MustCandidates', WHERE WHAT IT READS IS OF BULK AT MOST 1048576: true; the input reads as it did. -/
def mustCandidatesUptoRow : OpenClaim := { program := "ytdojkofgkcmagaagreatdoor", sum := "dd170231fb83ad1b9644ffc3a7206a9b826671abfcdbcf0148aa1e5acad8cc78", func := "interleave/interleavelaw27.MustCandidates", spec := "mustCandidates", unfollowed := true, recurses := true, named := ["interleave/token.keywords"], apart := false, laid := [("interleave/token.keywords", laid_interleave_token_keywords)], narrowed := true }
def MustCandidatesUptoSaid : Prop := mustCandidatesUptoRow.holds Tryz.pinned (OpenSpec.upto mustCandidatesSpec)

/-- 'interleavelaw27.MustSources', WHERE WHAT IT READS IS OF BULK AT MOST 1048576: true; the input reads as it did. -/
def mustSourcesUptoRow : OpenClaim := { program := "ytdojkofgkcmagaagreatdoor", sum := "dd170231fb83ad1b9644ffc3a7206a9b826671abfcdbcf0148aa1e5acad8cc78", func := "interleave/interleavelaw27.MustSources", spec := "mustSources", unfollowed := true, recurses := true, named := ["interleave/token.keywords"], apart := false, laid := [("interleave/token.keywords", laid_interleave_token_keywords)], narrowed := true }
def MustSourcesUptoSaid : Prop := mustSourcesUptoRow.holds Tryz.pinned (OpenSpec.upto mustSourcesSpec)

/-- 'interleavelaw27.MustClocks', WHERE WHAT IT READS IS OF BULK AT MOST 1048576: true; the input reads as it did. -/
def mustClocksUptoRow : OpenClaim := { program := "ytdojkofgkcmagaagreatdoor", sum := "dd170231fb83ad1b9644ffc3a7206a9b826671abfcdbcf0148aa1e5acad8cc78", func := "interleave/interleavelaw27.MustClocks", spec := "mustClocks", unfollowed := true, recurses := true, named := ["interleave/token.keywords"], apart := false, laid := [("interleave/token.keywords", laid_interleave_token_keywords)], narrowed := true }
def MustClocksUptoSaid : Prop := mustClocksUptoRow.holds Tryz.pinned (OpenSpec.upto mustClocksSpec)

/-- 'interleavelaw27.MustCounts', WHERE WHAT IT READS IS OF BULK AT MOST 1048576: true; the input reads as it did. -/
def mustCountsUptoRow : OpenClaim := { program := "ytdojkofgkcmagaagreatdoor", sum := "dd170231fb83ad1b9644ffc3a7206a9b826671abfcdbcf0148aa1e5acad8cc78", func := "interleave/interleavelaw27.MustCounts", spec := "mustCounts", unfollowed := true, recurses := true, named := ["interleave/token.keywords"], apart := false, laid := [("interleave/token.keywords", laid_interleave_token_keywords)], narrowed := true }
def MustCountsUptoSaid : Prop := mustCountsUptoRow.holds Tryz.pinned (OpenSpec.upto mustCountsSpec)

/-- 'interleavelaw27.MustAny', WHERE WHAT IT READS IS OF BULK AT MOST 1048576: true; the input reads as it did. -/
def mustAnyUptoRow : OpenClaim := { program := "ytdojkofgkcmagaagreatdoor", sum := "dd170231fb83ad1b9644ffc3a7206a9b826671abfcdbcf0148aa1e5acad8cc78", func := "interleave/interleavelaw27.MustAny", spec := "mustAny", unfollowed := true, recurses := true, named := ["interleave/token.keywords"], apart := false, laid := [("interleave/token.keywords", laid_interleave_token_keywords)], narrowed := true }
def MustAnyUptoSaid : Prop := mustAnyUptoRow.holds Tryz.pinned (OpenSpec.upto mustAnySpec)

end Rows
end Go.Proofs.YtdojkofgkcmagaaGreatDoor
