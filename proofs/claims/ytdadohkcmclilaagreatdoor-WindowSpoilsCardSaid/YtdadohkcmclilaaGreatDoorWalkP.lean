/- Typed programs of Go functions, and that the functions do what these say. -/
import Derived.Test.YtdadohkcmclilaaGreatDoorWalkO
import Derived.Shelf.Slices.SearchI
set_option linter.unusedSimpArgs false
set_option linter.unusedVariables false
namespace Go.Abs
open Go.Proofs
set_option maxRecDepth 1000000
set_option maxHeartbeats 4000000
def Kd (a:List Int):ABh BB:=
(Bs a).bind λb=>
(As b).bind λc=>
some c.1
theorem SO {a:List Int} {r:BB} (h:Kd a=some r):Says Tryz.prog 9 [vS 1 WL a] (.agg (He r)):=by refine kF mix Tryz.func9 hn ?_;have a1:= @Ut;have a2:= @Tw;unfold Kd at h;exact walk
end Go.Abs
