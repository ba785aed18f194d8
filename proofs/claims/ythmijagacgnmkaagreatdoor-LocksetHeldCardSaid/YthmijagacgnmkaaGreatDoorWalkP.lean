/- Typed programs of Go functions, and that the functions do what these say. -/
import Derived.Test.YthmijagacgnmkaaGreatDoorWalkO
set_option linter.unusedSimpArgs false
set_option linter.unusedVariables false
namespace Go.Abs
open Go.Proofs
set_option maxRecDepth 1000000
set_option maxHeartbeats 4000000
def NL (a:List Int):ABr BL:=
(Bn a).bind λb=>
(As b).bind λc=>
some c.1
theorem cJ {a:List Int} {r:BL} (h:NL a=some r):Says Tryz.prog 107 [vS 1 Yf a] (.agg (JU r)):=by refine kF mix Tryz.func107 hn ?_;have a1:= @VN;have a2:= @UP;unfold NL at h;exact walk
end Go.Abs
