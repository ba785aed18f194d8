/- Typed programs of Go functions, and that the functions do what these say. -/
import Derived.Test.YthmijagacgnmkaaGreatDoorWalkO
set_option linter.unusedSimpArgs false
set_option linter.unusedVariables false
namespace Go.Abs
open Go.Proofs
set_option maxRecDepth 1000000
set_option maxHeartbeats 4000000
def Nq (a:List Int):AB8 BT:=
(Bu a).bind λb=>
(Ax b).bind λc=>
some c.1
theorem eG {a:List Int} {r:BT} (h:Nq a=some r):Says Tryz.prog 107 [vS 1 Ww a] (.agg (Jo r)):=by refine kF mix Tryz.func107 hn ?_;have a1:= @V7;have a2:= @Uz;unfold Nq at h;exact walk
end Go.Abs
