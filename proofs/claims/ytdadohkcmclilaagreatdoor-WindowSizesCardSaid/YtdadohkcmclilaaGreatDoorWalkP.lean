/- Typed programs of Go functions, and that the functions do what these say. -/
import Derived.Test.YtdadohkcmclilaaGreatDoorWalkO
import Derived.Shelf.Slices.SearchI
set_option linter.unusedSimpArgs false
set_option linter.unusedVariables false
namespace Go.Abs
open Go.Proofs
set_option maxRecDepth 1000000
set_option maxHeartbeats 4000000
def Ma (a:List Int):ABp BF:=
(C5 a).bind λb=>
(BX b).bind λc=>
some c.1
theorem ZK {a:List Int} {r:BF} (h:Ma a=some r):Says Tryz.prog 9 [vS 1 YL a] (.agg (I6 r)):=by
 refine kF mix Tryz.func9 hn ?_
 have a1:= @UT
 have a2:= @TY
 unfold Ma at h
 exact walk
end Go.Abs
