/- Typed programs of Go functions, and that the functions do what these say. -/
import Derived.Test.YtdojkofgkcmagaaGreatDoorWalkQ
set_option linter.unusedSimpArgs false
set_option linter.unusedVariables false
namespace Go.Abs
open Go.Proofs
set_option maxRecDepth 1000000
set_option maxHeartbeats 4000000
def G8 (a:M8) (b:Int):ABd AL:=
if decide ((a.fY.length:Int)>0)then
if¬b=0 then
(De a.fY (BA (1+((BA a.Bq).tmod b)))).bind λd=>
some d
else none
else
if 0≤(if 80<(a.FM.length:Int)then 80 else(a.FM.length:Int))/\((if 80<(a.FM.length:Int)then 80 else(a.FM.length:Int)).toNat)≤a.FM.length then
(LA a.Program (a.FM.take ((if 80<(a.FM.length:Int)then 80 else(a.FM.length:Int)).toNat))).bind λe=>
if¬b=0 then
(Ep e (BA (1+((BA a.Bq).tmod b)))).bind λc=>
if(c.1.length:Int)==0 then
(De [] 0).bind λf=>
some f
else
if¬(c.1.length:Int)=0 then
(gt c.1 ((BA a.Zp).tmod (c.1.length:Int))).bind λi=>
some i
else none
else none
else none
theorem Pv {a:M8} {b:Int} {r:AL} (h:G8 a b=some r):Says Tryz.prog 15 [.agg (iV a),si b] (.agg (B0 r)):=by refine kF mix Tryz.func15 (hn [(2,[8,12,14,21,23,25,33,47])]) ?_;have a1:= @Vy;have a2:= @Uf;have a3:= @YO;unfold G8 at h;exact walk
namespace PU
def J1 (c:Bool):ABd Bool:=
some c
end PU
section
open PU
def PU:ABd Bool:=
(LA [] [0,0,0]).bind λd=>
(QP d 2).bind λa=>
if a.2==0 then
if(a.1.length:Int)==2 then
(gt a.1 0).bind λf=>
if(f.AE.length:Int)==2 then
(gt a.1 1).bind λb=>
if b.Start==2 then
(Gt b).bind λe=>
J1 e
else
J1 false
else
J1 false
else
J1 false
else
J1 false
theorem law18_awake_ok {r:Bool} (h:PU=some r):Says Tryz.prog 18 [] (sb r):=by refine kO mix Tryz.func18 hn ?_;have a1:= @Uf;have a2:= @window_Split_ok;have a3:= @RA;unfold PU at h;exact walk
end
end Go.Abs
