/- Typed programs of Go functions, and that the functions do what these say. -/
import Derived.Test.YtdojkofgkcmagaaGreatDoorWalkP
set_option linter.unusedSimpArgs false
set_option linter.unusedVariables false
namespace Go.Abs
open Go.Proofs
set_option maxRecDepth 1000000
set_option maxHeartbeats 4000000
def LA (a b:List Int):ABd CC:=
(NM a).bind λc=>
(Eb b).bind λd=>
(LS c d).bind λe=>
some e.1
theorem Uf {a b:List Int} {r:CC} (h:LA a b=some r):Says Tryz.prog 41 [vS 1 cZ a,vS 1 cZ b] (.agg (cV r)):=by refine kO mix Tryz.func41 (hn [(5,[15]),(12,[7,13,14])]) ?_;have a1:= @dQ;have a2:= @Va;have a3:= @eD;unfold LA at h;exact walk
end Go.Abs
