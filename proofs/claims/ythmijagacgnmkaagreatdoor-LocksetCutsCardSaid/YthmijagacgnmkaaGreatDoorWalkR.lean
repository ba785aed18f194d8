/- Typed programs of Go functions, and that the functions do what these say. -/
import Derived.Test.YthmijagacgnmkaaGreatDoorWalkQ
set_option linter.unusedSimpArgs false
set_option linter.unusedVariables false
namespace Go.Abs
open Go.Proofs
set_option maxRecDepth 1000000
set_option maxHeartbeats 4000000
def I5 (a:Vr) (b:Int):AB8 AO:=
if decide ((a.RJ.length:Int)>0)then
if¬b=0 then
(GR a.RJ (A1 (1+((A1 a.Bw).tmod b)))).bind λd=>
some d
else none
else
if 0≤(if 80<(a.Ct.length:Int)then 80 else(a.Ct.length:Int))/\((if 80<(a.Ct.length:Int)then 80 else(a.Ct.length:Int)).toNat)≤a.Ct.length then
(Jc a.Program (a.Ct.take ((if 80<(a.Ct.length:Int)then 80 else(a.Ct.length:Int)).toNat))).bind λe=>
if¬b=0 then
(EF e (A1 (1+((A1 a.Bw).tmod b)))).bind λc=>
if(c.1.length:Int)==0 then
(GR [] 0).bind λf=>
some f
else
if¬(c.1.length:Int)=0 then
(gt c.1 ((A1 a.yP).tmod (c.1.length:Int))).bind λi=>
some i
else none
else none
else none
theorem QK {a:Vr} {b:Int} {r:AO} (h:I5 a b=some r):Says Tryz.prog 36 [.agg (uS a),si b] (.agg (BV r)):=by refine kF mix Tryz.func36 (hn [(2,[8,12,14,21,23,25,33,47])]) ?_;have a1:= @Wd;have a2:= @NN;have a3:= @ML;unfold I5 at h;exact walk
def Hr (a:Uf) (b:Int):AB8 Aw:=
if decide ((a.RJ.length:Int)>0)then
(EM a.RJ b).bind λc=>
some c
else
if 0≤(if b<(a.Ct.length:Int)then b else(a.Ct.length:Int))/\((if b<(a.Ct.length:Int)then b else(a.Ct.length:Int)).toNat)≤a.Ct.length then
(Jc a.Program (a.Ct.take ((if b<(a.Ct.length:Int)then b else(a.Ct.length:Int)).toNat))).bind λd=>
some d
else none
theorem MM {a:Uf} {b:Int} {r:Aw} (h:Hr a b=some r):Says Tryz.prog 14 [.agg (sJ a),si b] (.agg (IV r)):=by refine kF mix Tryz.func14 (hn [(2,[5,9,13,15,17])] (C:=[(51,3)])) ?_;have a1:= @Y5;have a2:= @NN;unfold Hr at h;exact walk
namespace IM
def J1 (c:Bool):AB8 Bool:=
some c
end IM
section
open IM
def IM:AB8 Bool:=
(Jc [] [0,0,0]).bind λd=>
(Gj d 2).bind λa=>
if a.2==0 then
if(a.1.length:Int)==2 then
(gt a.1 0).bind λf=>
if(f.AF.length:Int)==2 then
(gt a.1 1).bind λb=>
if b.Start==2 then
(Gk b).bind λe=>
J1 e
else
J1 false
else
J1 false
else
J1 false
else
J1 false
theorem Pr {r:Bool} (h:IM=some r):Says Tryz.prog 39 [] (sb r):=by refine kO mix Tryz.func39 hn ?_;have a1:= @NN;have a2:= @O4;have a3:= @La;unfold IM at h;exact walk
end
end Go.Abs
