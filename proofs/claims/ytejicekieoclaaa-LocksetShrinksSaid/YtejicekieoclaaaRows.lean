/-
  No cell of these rows narrows 'for every input' (looked for: loops, veiled, ifaces, maps, wideKeys, modest, calm, conditions, laid).
  DERIVED. THE GIVEN ROWS OF THIS SEAT. 4 by the template 'for every input the law returns true; each argument reads behind the call as it read before'; 0 by the template 'total and deterministic' (their statements: YtejicekieoclaaaTotals.lean).
  GIVEN WITH THE SEED: the statements are not yours to turn. If you find one false, say at which input.
  Laid BY PROGRAM, IN A SANDBOX (cutbox-rows.mjs): the forced cells as the released guide's own fill.sh prints them over the translation aec32be447964a22… (all of the seat's roots in one cut). By AI agents, Wed Nov 11 2026. No macro, syntax, notation, axiom, sorry.
-/
import Derived.Test.YtejicekieoclaaaChecked
import GoSem.Claim
import GoSem.ClaimJoined
import GoSem.ClaimMapViews
import Derived.JoinedTies
import Derived.KernelRfl
namespace Go.Proofs.Ytejicekieoclaaa
/- THE CELL 'sum', in the pinned program and in every row, IS THE sha256 OF THE DUMP (.gsa) THAT YtejicekieoclaaaProg.lean LOADS. Nothing in Lean hashes anything: it is a label: what it is worth is what the hold of that sum in a sandbox is worth. -/
noncomputable def Try.pinned : Pinned := { name := "ytejicekieoclaaa", sum := "aec32be447964a22843b58e21241836314bdd1030c2e7477b2ab9ffce7021b1b", checked := Try.checked }
namespace Rows
def none {H : Type} : Left H := { results := [], args := [] }

/-- 'interleavelaw28.LocksetSteps': WHATEVER THE INPUT: true; the input reads as it did. -/
def locksetStepsSpec : ChangeSpec := { name := "locksetSteps", fn := fun _ => fun
  | [d] => { results := [.lit (.bool true)], args := [d] }
  | _ => none }
def locksetStepsRow : OpenClaim := { program := "ytejicekieoclaaa", sum := "aec32be447964a22843b58e21241836314bdd1030c2e7477b2ab9ffce7021b1b", func := "interleave/interleavelaw28.LocksetSteps", spec := "locksetSteps", recurses := true, apart := false }
def LocksetStepsSaid : Prop := locksetStepsRow.holds Try.pinned (OpenSpec.ofChange locksetStepsSpec)

/-- ITS FALSE NEIGHBOUR: 'it returns false'. Refute it at one input. -/
def locksetStepsWrong : ChangeSpec := { name := "locksetSteps", fn := fun _ => fun
  | [d] => { results := [.lit (.bool false)], args := [d] }
  | _ => none }
def LocksetStepsWrongFalsely : Prop := locksetStepsRow.holds Try.pinned (OpenSpec.ofChange locksetStepsWrong)

/-- 'interleavelaw28.LocksetUnsorted': WHATEVER THE INPUT: true; the input reads as it did. -/
def locksetUnsortedSpec : ChangeSpec := { name := "locksetUnsorted", fn := fun _ => fun
  | [d1, d2, d3, d4, d5] => { results := [.lit (.bool true)], args := [d1, d2, d3, d4, d5] }
  | _ => none }
def locksetUnsortedRow : OpenClaim := { program := "ytejicekieoclaaa", sum := "aec32be447964a22843b58e21241836314bdd1030c2e7477b2ab9ffce7021b1b", func := "interleave/interleavelaw28.LocksetUnsorted", spec := "locksetUnsorted", recurses := true, apart := false }
def LocksetUnsortedSaid : Prop := locksetUnsortedRow.holds Try.pinned (OpenSpec.ofChange locksetUnsortedSpec)

/-- ITS FALSE NEIGHBOUR: 'it returns false'. Refute it at one input. -/
def locksetUnsortedWrong : ChangeSpec := { name := "locksetUnsorted", fn := fun _ => fun
  | [d1, d2, d3, d4, d5] => { results := [.lit (.bool false)], args := [d1, d2, d3, d4, d5] }
  | _ => none }
def LocksetUnsortedWrongFalsely : Prop := locksetUnsortedRow.holds Try.pinned (OpenSpec.ofChange locksetUnsortedWrong)

/-- 'interleavelaw28.LocksetShrinks': WHATEVER THE INPUT: true; the input reads as it did. -/
def locksetShrinksSpec : ChangeSpec := { name := "locksetShrinks", fn := fun _ => fun
  | [d] => { results := [.lit (.bool true)], args := [d] }
  | _ => none }
def locksetShrinksRow : OpenClaim := { program := "ytejicekieoclaaa", sum := "aec32be447964a22843b58e21241836314bdd1030c2e7477b2ab9ffce7021b1b", func := "interleave/interleavelaw28.LocksetShrinks", spec := "locksetShrinks", recurses := true, apart := false }
def LocksetShrinksSaid : Prop := locksetShrinksRow.holds Try.pinned (OpenSpec.ofChange locksetShrinksSpec)

/-- ITS FALSE NEIGHBOUR: 'it returns false'. Refute it at one input. -/
def locksetShrinksWrong : ChangeSpec := { name := "locksetShrinks", fn := fun _ => fun
  | [d] => { results := [.lit (.bool false)], args := [d] }
  | _ => none }
def LocksetShrinksWrongFalsely : Prop := locksetShrinksRow.holds Try.pinned (OpenSpec.ofChange locksetShrinksWrong)

/-- 'interleavelaw28.LocksetExcludes': WHATEVER THE INPUT: true; the input reads as it did. -/
def locksetExcludesSpec : ChangeSpec := { name := "locksetExcludes", fn := fun _ => fun
  | [d1, d2] => { results := [.lit (.bool true)], args := [d1, d2] }
  | _ => none }
def locksetExcludesRow : OpenClaim := { program := "ytejicekieoclaaa", sum := "aec32be447964a22843b58e21241836314bdd1030c2e7477b2ab9ffce7021b1b", func := "interleave/interleavelaw28.LocksetExcludes", spec := "locksetExcludes", recurses := true, apart := false }
def LocksetExcludesSaid : Prop := locksetExcludesRow.holds Try.pinned (OpenSpec.ofChange locksetExcludesSpec)

/-- ITS FALSE NEIGHBOUR: 'it returns false'. Refute it at one input. -/
def locksetExcludesWrong : ChangeSpec := { name := "locksetExcludes", fn := fun _ => fun
  | [d1, d2] => { results := [.lit (.bool false)], args := [d1, d2] }
  | _ => none }
def LocksetExcludesWrongFalsely : Prop := locksetExcludesRow.holds Try.pinned (OpenSpec.ofChange locksetExcludesWrong)

/- THE SECOND FORM. 'bulk': how many values and letters a reading holds, each counted each time it is reached (what is shared counts as often as it is met; a slice's spare places count too). A statement '..UptoSaid' is the law's where the arguments, and the package variables that the reading takes, are together of bulk at most 1048576: NARROWER than '..Said'. Prove '..Said' where nothing that the law and all that it calls make is longer than what came in: it says more and counts as full. Else prove '..UptoSaid'. A law counts once. -/
mutual
def uptoBulk {H : Type} : DataW H → Nat
  | .lit (.string bytes) => bytes.length + 1
  | .lit _ => 1
  | .nil => 1
  | .ptr d => uptoBulk d + 1
  | .slice elems spare => uptoBulkAll elems + uptoBulkAll spare + 1
  | .agg parts => uptoBulkAll parts + 1
  | .iface _ d => uptoBulk d + 1
  | .map entries => uptoBulkEntries entries + 1
  | .held _ => 1
def uptoBulkAll {H : Type} : List (DataW H) → Nat
  | [] => 0
  | d :: r => uptoBulk d + uptoBulkAll r
def uptoBulkEntries {H : Type} : List (Lit × DataW H) → Nat
  | [] => 0
  | x :: r => uptoBulkEntry x + uptoBulkEntries r
def uptoBulkEntry {H : Type} : Lit × DataW H → Nat
  | (.string bytes, d) => bytes.length + uptoBulk d + 1
  | (_, d) => uptoBulk d + 1
 end
def uptoSmall : (H : Type) → List (DataW H) → Bool := fun _ ds => decide (uptoBulkAll ds ≤ 1048576)
def OpenSpec.upto (s : _root_.Go.ChangeSpec) : _root_.Go.OpenSpec := { _root_.Go.OpenSpec.ofChange s with cond := some uptoSmall }

/-- 'interleavelaw28.LocksetSteps', WHERE WHAT IT READS IS OF BULK AT MOST 1048576: true; the input reads as it did. -/
def locksetStepsUptoRow : OpenClaim := { program := "ytejicekieoclaaa", sum := "aec32be447964a22843b58e21241836314bdd1030c2e7477b2ab9ffce7021b1b", func := "interleave/interleavelaw28.LocksetSteps", spec := "locksetSteps", recurses := true, apart := false, narrowed := true }
def LocksetStepsUptoSaid : Prop := locksetStepsUptoRow.holds Try.pinned (OpenSpec.upto locksetStepsSpec)

/-- 'interleavelaw28.LocksetUnsorted', WHERE WHAT IT READS IS OF BULK AT MOST 1048576: true; the input reads as it did. -/
def locksetUnsortedUptoRow : OpenClaim := { program := "ytejicekieoclaaa", sum := "aec32be447964a22843b58e21241836314bdd1030c2e7477b2ab9ffce7021b1b", func := "interleave/interleavelaw28.LocksetUnsorted", spec := "locksetUnsorted", recurses := true, apart := false, narrowed := true }
def LocksetUnsortedUptoSaid : Prop := locksetUnsortedUptoRow.holds Try.pinned (OpenSpec.upto locksetUnsortedSpec)

/-- 'interleavelaw28.LocksetShrinks', WHERE WHAT IT READS IS OF BULK AT MOST 1048576: true; the input reads as it did. -/
def locksetShrinksUptoRow : OpenClaim := { program := "ytejicekieoclaaa", sum := "aec32be447964a22843b58e21241836314bdd1030c2e7477b2ab9ffce7021b1b", func := "interleave/interleavelaw28.LocksetShrinks", spec := "locksetShrinks", recurses := true, apart := false, narrowed := true }
def LocksetShrinksUptoSaid : Prop := locksetShrinksUptoRow.holds Try.pinned (OpenSpec.upto locksetShrinksSpec)

/-- 'interleavelaw28.LocksetExcludes', WHERE WHAT IT READS IS OF BULK AT MOST 1048576: true; the input reads as it did. -/
def locksetExcludesUptoRow : OpenClaim := { program := "ytejicekieoclaaa", sum := "aec32be447964a22843b58e21241836314bdd1030c2e7477b2ab9ffce7021b1b", func := "interleave/interleavelaw28.LocksetExcludes", spec := "locksetExcludes", recurses := true, apart := false, narrowed := true }
def LocksetExcludesUptoSaid : Prop := locksetExcludesUptoRow.holds Try.pinned (OpenSpec.upto locksetExcludesSpec)

end Rows
end Go.Proofs.Ytejicekieoclaaa
