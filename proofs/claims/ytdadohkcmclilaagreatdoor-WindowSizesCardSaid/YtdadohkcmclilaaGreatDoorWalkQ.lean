/- Typed programs of Go functions, and that the functions do what these say. -/
import Derived.Test.YtdadohkcmclilaaGreatDoorWalkP
import Derived.Shelf.Slices.SearchI
set_option linter.unusedSimpArgs false
set_option linter.unusedVariables false
namespace Go.Abs
open Go.Proofs
set_option maxRecDepth 1000000
set_option maxHeartbeats 4000000
def IX (a b:List Int):ABp Az:=
(Ma a).bind λc=>
(Fq b).bind λd=>
(LN c d).bind λe=>
some e.1
theorem Lx {a b:List Int} {r:Az} (h:IX a b=some r):Says Tryz.prog 10 [vS 1 YL a,vS 1 YL b] (.agg (PU r)):=by
 refine kO mix Tryz.func10 (hn [(5,[15]),(12,[7,13,14])]) ?_
 have a1:= @ZK
 have a2:= @US
 have a3:= @ZS
 unfold IX at h
 exact walk
end Go.Abs
