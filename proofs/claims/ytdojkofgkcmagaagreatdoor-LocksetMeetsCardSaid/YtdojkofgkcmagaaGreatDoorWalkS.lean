/- Typed programs of Go functions, and that the functions do what these say. -/
import Derived.Test.YtdojkofgkcmagaaGreatDoorWalkR
set_option linter.defProp false
set_option linter.unusedSimpArgs false
set_option linter.unusedVariables false
namespace Go.Abs
open Go.Proofs Tryz
set_option maxRecDepth 1000000
set_option maxHeartbeats 4000000
def EM(a:Kk)(b:Int):ABu AG:=
if decide ((a.mA.length:Int)>0)then
if¬b=0 then
(D1 a.mA (A6 (1+((A6 a.B3).tmod b)))).bind λd=>
some d
else none
else
if 0<=(if 80<(a.GM.length:Int)then 80 else(a.GM.length:Int))/\((if 80<(a.GM.length:Int)then 80 else(a.GM.length:Int)).toNat)<=a.GM.length then
(M6 a.ed (a.GM.take ((if 80<(a.GM.length:Int)then 80 else(a.GM.length:Int)).toNat))).bind λe=>
if¬b=0 then
(FL e (A6 (1+((A6 a.B3).tmod b)))).bind λc=>
if(c.1.length:Int)==0 then
(D1 [] 0).bind λf=>
some f
else
if¬(c.1.length:Int)=0 then
(gt c.1 ((A6 a.dW).tmod (c.1.length:Int))).bind λi=>
some i
else none
else none
else none
def JM{a:Kk}{b:Int}{r:AG}(h:EM a b=some r):Says prog 15 [.agg (Yx a),si b] (.agg (A4 r)):=by refine kF mix func15 (hn [(2,[8,12,14,21,23,25,33,47])]) ?_;have a1:= @Xv;have a2:= @cM;have a3:= @Z5;unfold EM at h;exact walk
end Go.Abs
