/- Typed programs of Go functions, and that the functions do what these say. -/
import Derived.Test.YtdadohkcmclilaaGreatDoorWalkP
import Derived.Shelf.Slices.SearchI
set_option linter.unusedSimpArgs false
set_option linter.unusedVariables false
namespace Go.Abs
open Go.Proofs
set_option maxRecDepth 1000000
set_option maxHeartbeats 4000000
def HQ (a b:List Int):ABh BN:=
(Kd a).bind λc=>
(EY b).bind λd=>
(Ii c d).bind λe=>
some e.1
theorem MQ {a b:List Int} {r:BN} (h:HQ a b=some r):Says Tryz.prog 10 [vS 1 WL a,vS 1 WL b] (.agg (Zq r)):=by refine kO mix Tryz.func10 (hn [(5,[15]),(12,[7,13,14])]) ?_;have a1:= @SO;have a2:= @Us;have a3:= @S7;unfold HQ at h;exact walk
end Go.Abs
