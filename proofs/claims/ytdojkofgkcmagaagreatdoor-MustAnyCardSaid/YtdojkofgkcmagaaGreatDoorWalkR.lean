/- Go functions do what typed programs say. -/
import Derived.Test.YtdojkofgkcmagaaGreatDoorWalkQ
import Derived.Shelf.Slices.SearchI
set_option linter.all false
namespace Go.Abs
open Go.Proofs Tryz
set_option maxRecDepth 1000000
set_option maxHeartbeats 4000000
def OG(a b:iT):ABm Cu:=(QT a).bind λc=>(GC b).bind λd=>(Oh c d).bind λe=>some e.1
def dA{a b:iT}{r:Cu}(h:OG a b=some r):Says prog 41 [vS 1 lG a,vS 1 lG b] (.agg (hZ r)):=by refine kO mix func41 (hn [(5,[15]),(12,[7,13,14])]) ?_;have a1:=@jB;have a2:=@Xh;have a3:=@jQ;unfold OG at h;exact walk
end Go.Abs
