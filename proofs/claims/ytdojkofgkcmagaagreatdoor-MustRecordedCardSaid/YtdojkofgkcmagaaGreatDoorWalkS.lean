/- Go functions do what typed programs say. -/
import Derived.Test.YtdojkofgkcmagaaGreatDoorWalkR
import Derived.Shelf.Slices.SearchI
set_option linter.all false
namespace Go.Abs
open Go.Proofs Tryz
set_option maxRecDepth 1000000
set_option maxHeartbeats 4000000
def NL(a b:i6):ABi Ck:=(O8 a).bind λc=>(FM b).bind λd=>(M6 c d).bind λe=>some e.1
def fJ{a b:i6}{r:Ck}(h:NL a b=some r):Says prog 41 [vS 1 l5 a,vS 1 l5 b] (.agg (lX r)):=by refine kO mix func41 (hn [(5,[15]),(12,[7,13,14])]) ?_;have a1:=@mI;have a2:=@YP;have a3:=@mX;unfold NL at h;exact walk
end Go.Abs
