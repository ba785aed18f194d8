/- Typed programs of Go functions, and that the functions do what these say. -/
import Derived.Test.YtdadohkcmclilaaGreatDoorWalkQ
import Derived.Shelf.Slices.SearchI
set_option linter.unusedSimpArgs false
set_option linter.unusedVariables false
namespace Go.Abs
open Go.Proofs
set_option maxRecDepth 1000000
set_option maxHeartbeats 4000000
def Lr (a b:List Int) (c e:Int):ABh (AP×Bool):=
(HQ a b).bind λf=>
(Gb f (Aq (((Aq c).tmod 8)+1))).bind λd=>
if(d.1.length:Int)==0 then
some ((AP.mk (AD.mk [] [] [] [] [] []) 0 (AB.mk (AQ.mk [] 0 [] []) [] [] []) []),false)
else
if¬(d.1.length:Int)=0 then
(gt d.1 ((Aq e).tmod (d.1.length:Int))).bind λi=>
some (i,true)
else none
theorem Wy {a b:List Int} {c e:Int} {r:AP×Bool} (h:Lr a b c e=some r):Says Tryz.prog 20 [vS 1 WL a,vS 1 WL b,.sc (.int .u8 c),.sc (.int .u8 e)] (.BT [.agg (HV r.1),sb r.2]):=by refine kO mix Tryz.func20 (hn [(10,[23,27,30,33,34]),(20,[12,21,22])] (E:=[(3,(.pg false 8 [(0,14,0)] (.pg false 8 [(0,5,0)] (.pg false 8 [(0,4,0)] (.pg false 8 [(0,3,0)] (.pg false 8 [(0,2,0)] (.pg false 8 [(0,1,0)] (.pg false 8 [(0,0,0)] (Rc 26 [.o (.TY z6 []),.S 15 8 26,.B 9 false])))))))))])) ?_;have a1:= @MQ;have a2:= @XT;unfold Lr at h;exact walk
namespace Gn
def J1 (c:Bool):ABh Bool:=
some c
end Gn
section
open Gn
def Gn:ABh Bool:=
(HQ [] [0,0,0]).bind λd=>
(E9 d 2).bind λa=>
if a.2==0 then
if(a.1.length:Int)==2 then
(gt a.1 0).bind λf=>
if(f.AE.length:Int)==2 then
(gt a.1 1).bind λb=>
if b.Start==2 then
(FA b).bind λe=>
J1 e
else
J1 false
else
J1 false
else
J1 false
else
J1 false
theorem Ot {r:Bool} (h:Gn=some r):Says Tryz.prog 18 [] (sb r):=by refine kO mix Tryz.func18 hn ?_;have a1:= @MQ;have a2:= @N7;have a3:= @Kj;unfold Gn at h;exact walk
end
end Go.Abs
