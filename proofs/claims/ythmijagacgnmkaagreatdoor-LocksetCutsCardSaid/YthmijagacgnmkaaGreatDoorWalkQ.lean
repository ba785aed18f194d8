/- Typed programs of Go functions, and that the functions do what these say. -/
import Derived.Test.YthmijagacgnmkaaGreatDoorWalkP
set_option linter.unusedSimpArgs false
set_option linter.unusedVariables false
namespace Go.Abs
open Go.Proofs
set_option maxRecDepth 1000000
set_option maxHeartbeats 4000000
def Jc (a b:List Int):AB8 Aw:=
(Nq a).bind λc=>
(Em b).bind λd=>
(Ls c d).bind λe=>
some e.1
theorem NN {a b:List Int} {r:Aw} (h:Jc a b=some r):Says Tryz.prog 51 [vS 1 Ww a,vS 1 Ww b] (.agg (Wv r)):=by refine kO mix Tryz.func51 (hn [(5,[15]),(12,[7,13,14])]) ?_;have a1:= @eG;have a2:= @V6;have a3:= @eR;unfold Jc at h;exact walk
end Go.Abs
