/- Go functions do what typed programs say. -/
import Derived.Test.YtdojkofgkcmagaaGreatDoorWalkS
import Derived.Shelf.Slices.SearchI
set_option linter.all false
namespace Go.Abs
open Go.Proofs Tryz
set_option maxRecDepth 1000000
set_option maxHeartbeats 4000000
def Ef(a:Ke)(b:Int):ABi AE:=if decide ((a.oW.length:Int)>0)then
if¬b=0 then(EG a.oW (A8 (1+((A8 a.CM).tmod b)))).bind λd=>some d
else none
else
if 0<=(if 80<(a.Gf.length:Int)then 80 else(a.Gf.length:Int))/\((if 80<(a.Gf.length:Int)then 80 else(a.Gf.length:Int)).toNat)<=a.Gf.length then(NL a.ez (a.Gf.take ((if 80<(a.Gf.length:Int)then 80 else(a.Gf.length:Int)).toNat))).bind λe=>if¬b=0 then(Fp e (A8 (1+((A8 a.CM).tmod b)))).bind λc=>if(c.1.length:Int)==0 then(EG [] 0).bind λf=>some f
else
if¬(c.1.length:Int)=0 then(gt c.1 ((A8 a.gX).tmod (c.1.length:Int))).bind λi=>some i
else none
else none
else none
def IV{a:Ke}{b:Int}{r:AE}(h:Ef a b=some r):Says prog 15 [.agg (Xd a),si b] (.agg (Av r)):=by refine kF mix func15 (hn [(2,[8,12,14,21,23,25,33,47])]) ?_;have a1:=@Yr;have a2:=@fJ;have a3:=@cD;unfold Ef at h;exact walk
end Go.Abs
