/- Go functions do what typed programs say. -/
import Derived.Test.YtdojkofgkcmagaaGreatDoorWalkQ
import Derived.Shelf.Slices.SearchI
set_option linter.all false
namespace Go.Abs
open Go.Proofs Tryz
set_option maxRecDepth 1000000
set_option maxHeartbeats 4000000
def O8(a:i6):ABi Bx:=(CS a).bind λb=>(BB b).bind λc=>some c.1
def mI{a:i6}{r:Bx}(h:O8 a=some r):Says prog 86 [vS 1 l5 a] (.agg (Kg r)):=by refine kF mix func86 hn ?_;have a1:=@YQ;have a2:=@XF;unfold O8 at h;exact walk
end Go.Abs
