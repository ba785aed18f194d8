/- Go functions do what typed programs say. -/
import Derived.Test.YtdojkofgkcmagaaGreatDoorWalkR
import Derived.Shelf.Slices.SearchI
set_option linter.all false
namespace Go.Abs
open Go.Proofs Tryz
set_option maxRecDepth 1000000
set_option maxHeartbeats 4000000
def HZ(a:O1)(b:Int):ABm AF:=if decide ((a.rC.length:Int)>0)then
if¬b=0 then(Es a.rC (A9 (1+((A9 a.Ca).tmod b)))).bind λd=>some d
else none
else
if 0<=(if 80<(a.HU.length:Int)then 80 else(a.HU.length:Int))/\((if 80<(a.HU.length:Int)then 80 else(a.HU.length:Int)).toNat)<=a.HU.length then(OG a.ez (a.HU.take ((if 80<(a.HU.length:Int)then 80 else(a.HU.length:Int)).toNat))).bind λe=>if¬b=0 then(Gh e (A9 (1+((A9 a.Ca).tmod b)))).bind λc=>if(c.1.length:Int)==0 then(Es [] 0).bind λf=>some f
else
if¬(c.1.length:Int)=0 then(gt c.1 ((A9 a.qH).tmod (c.1.length:Int))).bind λi=>some i
else none
else none
else none
def Lj{a:O1}{b:Int}{r:AF}(h:HZ a b=some r):Says prog 15 [.agg (lF a),si b] (.agg (A5 r)):=by refine kF mix func15 (hn [(2,[8,12,14,21,23,25,33,47])]) ?_;have a1:=@YA;have a2:=@dA;have a3:=@Z9;unfold HZ at h;exact walk
end Go.Abs
