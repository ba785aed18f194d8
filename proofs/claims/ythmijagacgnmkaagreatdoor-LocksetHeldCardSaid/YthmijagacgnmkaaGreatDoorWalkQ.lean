/- Typed programs of Go functions, and that the functions do what these say. -/
import Derived.Test.YthmijagacgnmkaaGreatDoorWalkP
set_option linter.unusedSimpArgs false
set_option linter.unusedVariables false
namespace Go.Abs
open Go.Proofs
set_option maxRecDepth 1000000
set_option maxHeartbeats 4000000
def Ll (a b:List Int):ABr Ac:=
(NL a).bind λc=>
(EZ b).bind λd=>
(LW c d).bind λe=>
some e.1
theorem Y5 {a b:List Int} {r:Ac} (h:Ll a b=some r):Says Tryz.prog 51 [vS 1 Yf a,vS 1 Yf b] (.agg (V2 r)):=by refine kO mix Tryz.func51 (hn [(5,[15]),(12,[7,13,14])]) ?_;have a1:= @cJ;have a2:= @VM;have a3:= @cU;unfold Ll at h;exact walk
end Go.Abs
