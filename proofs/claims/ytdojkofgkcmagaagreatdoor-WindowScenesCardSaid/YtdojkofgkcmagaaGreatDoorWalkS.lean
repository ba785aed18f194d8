/- Typed programs of Go functions, and that the functions do what these say. -/
import Derived.Test.YtdojkofgkcmagaaGreatDoorWalkR
set_option linter.unusedSimpArgs false
set_option linter.unusedVariables false
namespace Go.Abs
open Go.Proofs
set_option maxRecDepth 1000000
set_option maxHeartbeats 4000000
namespace Hi
def J1 (c:Bool):ABd Bool:=
some c
end Hi
section
open Hi
def Hi (a:M8):ABd Bool:=
(G8 a 16).bind λb=>
(Gt b).bind λd=>
(CB b).bind λe=>
if d==e then
(PU).bind λf=>
J1 f
else
J1 false
theorem fM {a:M8} {r:Bool} (h:Hi a=some r):Says Tryz.prog 3 [.agg (iV a)] (sb r):=by refine kO mix Tryz.func3 hn ?_;have a1:= @Pv;have a2:= @RA;have a3:= @Tc;have a4:= @law18_awake_ok;unfold Hi at h;exact walk
end
end Go.Abs
