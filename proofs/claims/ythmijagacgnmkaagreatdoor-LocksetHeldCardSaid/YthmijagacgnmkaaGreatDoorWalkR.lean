/- Typed programs of Go functions, and that the functions do what these say. -/
import Derived.Test.YthmijagacgnmkaaGreatDoorWalkQ
set_option linter.unusedSimpArgs false
set_option linter.unusedVariables false
namespace Go.Abs
open Go.Proofs
set_option maxRecDepth 1000000
set_option maxHeartbeats 4000000
def D8 (a:KH) (b:Int):ABr Ac:=
if decide ((a.WY.length:Int)>0)then
(C8 a.WY b).bind λc=>
some c
else
if 0≤(if b<(a.Dy.length:Int)then b else(a.Dy.length:Int))/\((if b<(a.Dy.length:Int)then b else(a.Dy.length:Int)).toNat)≤a.Dy.length then
(Ll a.Program (a.Dy.take ((if b<(a.Dy.length:Int)then b else(a.Dy.length:Int)).toNat))).bind λd=>
some d
else none
theorem Fe {a:KH} {b:Int} {r:Ac} (h:D8 a b=some r):Says Tryz.prog 14 [.agg (SV a),si b] (.agg (FP r)):=by refine kF mix Tryz.func14 (hn [(2,[5,9,13,15,17])] (C:=[(51,3)])) ?_;have a1:= @YG;have a2:= @Y5;unfold D8 at h;exact walk
end Go.Abs
