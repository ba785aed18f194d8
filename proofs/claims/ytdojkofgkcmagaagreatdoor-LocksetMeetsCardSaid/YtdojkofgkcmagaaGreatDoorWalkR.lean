/- Typed programs of Go functions, and that the functions do what these say. -/
import Derived.Test.YtdojkofgkcmagaaGreatDoorWalkQ
set_option linter.defProp false
set_option linter.unusedSimpArgs false
set_option linter.unusedVariables false
namespace Go.Abs
open Go.Proofs Tryz
set_option maxRecDepth 1000000
set_option maxHeartbeats 4000000
def M6(a b:iq):ABu Ca:=
(Od a).bind λc=>
(E0 b).bind λd=>
(Ml c d).bind λe=>
some e.1
def cM{a b:iq}{r:Ca}(h:M6 a b=some r):Says prog 41 [vS 1 iX a,vS 1 iX b] (.agg (iT r)):=by refine kO mix func41 (hn [(5,[15]),(12,[7,13,14])]) ?_;have a1:= @jS;have a2:= @XV;have a3:= @kE;unfold M6 at h;exact walk
end Go.Abs
