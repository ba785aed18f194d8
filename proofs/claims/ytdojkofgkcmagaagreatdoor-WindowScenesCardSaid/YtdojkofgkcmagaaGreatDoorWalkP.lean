/- Typed programs of Go functions, and that the functions do what these say. -/
import Derived.Test.YtdojkofgkcmagaaGreatDoorWalkO
set_option linter.unusedSimpArgs false
set_option linter.unusedVariables false
namespace Go.Abs
open Go.Proofs
set_option maxRecDepth 1000000
set_option maxHeartbeats 4000000
def NM (a:List Int):ABd BT:=
(Bu a).bind λb=>
(Ax b).bind λc=>
some c.1
theorem dQ {a:List Int} {r:BT} (h:NM a=some r):Says Tryz.prog 86 [vS 1 cZ a] (.agg (JS r)):=by refine kF mix Tryz.func86 hn ?_;have a1:= @Vb;have a2:= @UT;unfold NM at h;exact walk
end Go.Abs
