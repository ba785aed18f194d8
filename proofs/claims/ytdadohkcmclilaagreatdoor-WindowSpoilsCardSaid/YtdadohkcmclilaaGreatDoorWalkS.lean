/- Typed programs of Go functions, and that the functions do what these say. -/
import Derived.Test.YtdadohkcmclilaaGreatDoorWalkR
import Derived.Shelf.Slices.SearchI
set_option linter.unusedSimpArgs false
set_option linter.unusedVariables false
namespace Go.Abs
open Go.Proofs
set_option maxRecDepth 1000000
set_option maxHeartbeats 4000000
namespace Bq
def J7 (w:Bool):ABh Bool:=
some w
def J6 (c:BN) (v:List AK):ABh Bool:=
(EU v c.AE).bind λad=>
if ad then
(Gn).bind λx=>
J7 x
else
J7 false
def J5 (L1:(List AK)->Int->ABh Bool) (a:Int) (u:List AK):ABh Bool:=
L1 u (Aq (a+1))
def J4 (L1:(List AK)->Int->ABh Bool) (e:List AK) (a:Int) (d:AP):ABh Bool:=
if Ap (e.length+d.AE.length) 88=true then
J5 L1 a (e++d.AE)
else none
def L2 (L1:(List AK)->Int->ABh Bool) (e:List AK) (a:Int) (i:BN×Ae) (d:AP) (L2:Int->ABh Bool) (p:Int):ABh Bool:=
if decide (p<(i.2.AA.length:Int))then
(gt d.Init.Count p).bind λae=>
(gt i.2.AA p).bind λaf=>
if ae != af.AE then
some false
else
L2 (Aq (p+1))
else
J4 L1 e a d
def DI (L1:(List AK)->Int->ABh Bool) (e:List AK) (a:Int) (i:BN×Ae) (d:AP):Nat->Int->ABh Bool
|0,_=>none
|n+1,p=>L2 L1 e a i d (DI L1 e a i d n) p
def J3 (L1:(List AK)->Int->ABh Bool) (e:List AK) (a:Int) (i:BN×Ae) (d:AP) (q:Bool):ABh Bool:=
if q then
some false
else
DI L1 e a i d Bg 0
def L1 (b:Int) (j:BB) (c:BN) (f:(List AP)×Int) (L1:(List AK)->Int->ABh Bool) (e:List AK) (a:Int):ABh Bool:=
if decide (a<(f.1.length:Int))then
(gt f.1 a).bind λd=>
if 0≤(if(c.AE.length:Int)<(Aq (a*(Aq (((Aq b).tmod 16)+1))))then(c.AE.length:Int)else(Aq (a*(Aq (((Aq b).tmod 16)+1)))))/\((if(c.AE.length:Int)<(Aq (a*(Aq (((Aq b).tmod 16)+1))))then(c.AE.length:Int)else(Aq (a*(Aq (((Aq b).tmod 16)+1))))).toNat)≤c.AE.length then
(EW (c.AE.take ((if(c.AE.length:Int)<(Aq (a*(Aq (((Aq b).tmod 16)+1))))then(c.AE.length:Int)else(Aq (a*(Aq (((Aq b).tmod 16)+1))))).toNat))).bind λy=>
(Ii j y).bind λi=>
if d.Start != (Aq (a*(Aq (((Aq b).tmod 16)+1))))then
J3 L1 e a i d true
else
(FA d).bind λz=>
if !z then
J3 L1 e a i d true
else
(EH d.Init.Sync i.2.Sync).bind λaa=>
if !aa then
J3 L1 e a i d true
else
(EM d.Init.Cells i.2.Cells).bind λab=>
if !ab then
J3 L1 e a i d true
else
(EM d.Init.AH i.2.AH).bind λac=>
if !ac then
J3 L1 e a i d true
else
J3 L1 e a i d ((d.Init.Count.length:Int) != (i.2.AA.length:Int))
else none
else
J6 c e
def AZ (b:Int) (j:BB) (c:BN) (f:(List AP)×Int):Nat->(List AK)->Int->ABh Bool
|0,_,_=>none
|n+1,e,a=>L1 b j c f (AZ b j c f n) e a
def J2 (b:Int) (j:BB) (c:BN) (f:(List AP)×Int) (t:Bool):ABh Bool:=
if t then
some false
else
AZ b j c f Bg [] 0
def J1 (l o:List Int) (b:Int) (s:Bool):ABh Bool:=
if s then
some true
else
(Kd l).bind λj=>
(HQ l o).bind λc=>
(E9 c (Aq (((Aq b).tmod 16)+1))).bind λf=>
if f.2 != 0 then
J2 b j c f true
else
if¬(Aq (((Aq b).tmod 16)+1))=0 then
J2 b j c f ((f.1.length:Int) != (Aq ((Aq ((Aq ((c.AE.length:Int)+(Aq (((Aq b).tmod 16)+1))))-1)).tdiv (Aq (((Aq b).tmod 16)+1)))))
else none
end Bq
section
open Bq
def Bq (l o:List Int) (b:Int):ABh Bool:=
if decide ((l.length:Int)>200)then
J1 l o b true
else
J1 l o b (decide ((o.length:Int)>60))
theorem Tc {l o:List Int} {b:Int} {r:Bool} (h:Bq l o b=some r):Says Tryz.prog 3 [vS 1 WL l,vS 1 WL o,.sc (.int .u8 b)] (sb r):=by refine kO mix Tryz.func3 (hn [(8,[46,68,73,155]),(12,[150,154]),(14,[82,94,95,103,104,112,113,121,122,137,138,151]),(16,[97,106,115,125,131,143])] [(2,1),(9,2),(20,3)] [(12,1)]) ?_;have a1:= @SO;have a2:= @MQ;have a3:= @N7;have a4:= @QK;have a5:= @Ot;have a6:= @T0;have a7:= @S7;have a8:= @Kj;have a9:= @YM;have a10:= @RI;have l1:=λn1 n2 n3 n4:Nat=>A7 λn τ=>∃(j:BB) (c:BN) (f:(List AP)×Int) (e:List AK) (a:Int),(τ 7=bA 7 (He j)/\τ 8=bA 7 (Ia c)/\τ 9=si (Aq (((Aq b).tmod 16)+1))/\τ 10=vS 15 BW f.1/\τ 12=vO 7 BQ e/\τ 13=si a)/\AZ b j c f n e a=some r;have l2:=λn1 n2 n3 n4:Nat=>A7 λn τ=>∃(j:BB) (c:BN) (f:(List AP)×Int) (e:List AK) (a:Int) (i:BN×Ae) (d:AP) (p:Int),(τ 7=bA 7 (He j)/\τ 8=bA 7 (Ia c)/\τ 9=si (Aq (((Aq b).tmod 16)+1))/\τ 10=vS 15 BW f.1/\τ 12=vO 7 BQ e/\τ 13=si a/\τ 14=bA 15 (BW d)/\τ 16=bA 7 (Iz i.2)/\τ 17=si p)/\DI (AZ b j c f n1) e a i d n p=some r;have c3:=λn1 n2 n3 n4:Nat=>Bu 3 λτ=>∃(j:BB) (c:BN) (f:(List AP)×Int) (e:List AK) (a:Int) (i:BN×Ae) (d:AP) (q:Bool),(τ 7=bA 7 (He j)/\τ 8=bA 7 (Ia c)/\τ 9=si (Aq (((Aq b).tmod 16)+1))/\τ 10=vS 15 BW f.1/\τ 12=vO 7 BQ e/\τ 13=si a/\τ 14=bA 15 (BW d)/\τ 16=bA 7 (Iz i.2)/\τ 129=sb q)/\J3 (AZ b j c f n1) e a i d q=some r;have c2:=λn1 n2 n3 n4:Nat=>Bu 2 λτ=>∃(j:BB) (c:BN) (f:(List AP)×Int) (t:Bool),(τ 7=bA 7 (He j)/\τ 8=bA 7 (Ia c)/\τ 9=si (Aq (((Aq b).tmod 16)+1))/\τ 10=vS 15 BW f.1/\τ 55=sb t)/\J2 b j c f t=some r;have c1:=λn1 n2 n3 n4:Nat=>Bu 1 λτ=>∃(s:Bool),(τ 0=vS 1 WL l/\τ 1=vS 1 WL o/\τ 2= .sc (.int .u8 b)/\τ 25=sb s)/\J1 l o b s=some r;unfold Bq at h;exact walk
end
namespace C1
def J3 (t:Bool):ABh Bool:=
some t
def J2 (l:AP):ABh Bool:=
(FA l).bind λv=>
(Di l).bind λw=>
if v==w then
(Gn).bind λx=>
J3 x
else
J3 false
def J1 (b c d:Int) (e f:List Int) (i j:Int) (o:Bool):ABh Bool:=
if o then
some true
else
(Lr e f i j).bind λa=>
if !a.2 then
(Gn).bind λu=>
some u
else
if¬(a.1.Init.Sync.AA.length:Int)=0 then
if(c.tmod 10)==0 then
J2 (AP.mk a.1.World ((Aq d).tmod 7) a.1.Init a.1.AE)
else
if(c.tmod 10)==1 then
(gt a.1.Init.Count ((Aq b).tmod (a.1.Init.Sync.AA.length:Int))).bind λaa=>
J2 (AP.mk a.1.World a.1.Start (AB.mk a.1.Init.Sync a.1.Init.Cells a.1.Init.AH (a.1.Init.Count.set (((Aq b).tmod (a.1.Init.Sync.AA.length:Int)).toNat) ((Aq d).tmod 7))) a.1.AE)
else
if(c.tmod 10)==2 then
(gt a.1.Init.Sync.AA ((Aq b).tmod (a.1.Init.Sync.AA.length:Int))).bind λq=>
J2 (AP.mk a.1.World a.1.Start (AB.mk (AQ.mk a.1.Init.Sync.AG a.1.Init.Sync.Tx a.1.Init.Sync.B4 (a.1.Init.Sync.AA.set (((Aq b).tmod (a.1.Init.Sync.AA.length:Int)).toNat) (AF.mk ((Aq d).tmod 7) q.DC q.Atomic))) a.1.Init.Cells a.1.Init.AH a.1.Init.Count) a.1.AE)
else
if(c.tmod 10)==3 then
(gt a.1.Init.Sync.AA ((Aq b).tmod (a.1.Init.Sync.AA.length:Int))).bind λs=>
J2 (AP.mk a.1.World a.1.Start (AB.mk (AQ.mk a.1.Init.Sync.AG a.1.Init.Sync.Tx a.1.Init.Sync.B4 (a.1.Init.Sync.AA.set (((Aq b).tmod (a.1.Init.Sync.AA.length:Int)).toNat) (AF.mk s.Status ((Aq d).tmod 7) s.Atomic))) a.1.Init.Cells a.1.Init.AH a.1.Init.Count) a.1.AE)
else
if(c.tmod 10)==4 then
(gt a.1.Init.Sync.AA ((Aq b).tmod (a.1.Init.Sync.AA.length:Int))).bind λp=>
J2 (AP.mk a.1.World a.1.Start (AB.mk (AQ.mk a.1.Init.Sync.AG a.1.Init.Sync.Tx a.1.Init.Sync.B4 (a.1.Init.Sync.AA.set (((Aq b).tmod (a.1.Init.Sync.AA.length:Int)).toNat) (AF.mk p.Status p.DC (!p.Atomic)))) a.1.Init.Cells a.1.Init.AH a.1.Init.Count) a.1.AE)
else
if(c.tmod 10)==5 then
J2 (AP.mk a.1.World a.1.Start (AB.mk (AQ.mk a.1.Init.Sync.AG ((Aq d).tmod 7) a.1.Init.Sync.B4 a.1.Init.Sync.AA) a.1.Init.Cells a.1.Init.AH a.1.Init.Count) a.1.AE)
else
if(c.tmod 10)==6 then
if decide ((a.1.Init.Sync.AG.length:Int)>0)then
if¬(a.1.Init.Sync.AG.length:Int)=0 then
(gt a.1.Init.Sync.AG ((Aq b).tmod (a.1.Init.Sync.AG.length:Int))).bind λy=>
J2 (AP.mk a.1.World a.1.Start (AB.mk (AQ.mk (a.1.Init.Sync.AG.set (((Aq b).tmod (a.1.Init.Sync.AG.length:Int)).toNat) (AX.mk ((Aq d).tmod 7) y.Aj)) a.1.Init.Sync.Tx a.1.Init.Sync.B4 a.1.Init.Sync.AA) a.1.Init.Cells a.1.Init.AH a.1.Init.Count) a.1.AE)
else none
else
J2 a.1
else
if(c.tmod 10)==7 then
if decide ((a.1.Init.Sync.AG.length:Int)>0)then
if¬(a.1.Init.Sync.AG.length:Int)=0 then
(gt a.1.Init.Sync.AG ((Aq b).tmod (a.1.Init.Sync.AG.length:Int))).bind λz=>
J2 (AP.mk a.1.World a.1.Start (AB.mk (AQ.mk (a.1.Init.Sync.AG.set (((Aq b).tmod (a.1.Init.Sync.AG.length:Int)).toNat) (AX.mk z.CS [(Aq d).tmod 7])) a.1.Init.Sync.Tx a.1.Init.Sync.B4 a.1.Init.Sync.AA) a.1.Init.Cells a.1.Init.AH a.1.Init.Count) a.1.AE)
else none
else
J2 a.1
else
if(c.tmod 10)==8 then
if decide ((a.1.Init.Cells.length:Int)>0)then
if¬(a.1.Init.Cells.length:Int)=0 then
(gt a.1.Init.Cells ((Aq b).tmod (a.1.Init.Cells.length:Int))).bind λab=>
J2 (AP.mk a.1.World a.1.Start (AB.mk a.1.Init.Sync (a.1.Init.Cells.set (((Aq b).tmod (a.1.Init.Cells.length:Int)).toNat) ((Aq d).tmod 7)) a.1.Init.AH a.1.Init.Count) a.1.AE)
else none
else
J2 a.1
else
if decide ((a.1.Init.AH.length:Int)>0)then
(gt a.1.Init.AH 0).bind λac=>
J2 (AP.mk a.1.World a.1.Start (AB.mk a.1.Init.Sync a.1.Init.Cells (a.1.Init.AH.set 0 ((Aq d).tmod 7)) a.1.Init.Count) a.1.AE)
else
J2 a.1
else none
end C1
section
open C1
def C1 (e f:List Int) (i j:Int) (c b d:Int):ABh Bool:=
if decide ((e.length:Int)>200)then
J1 b c d e f i j true
else
J1 b c d e f i j (decide ((f.length:Int)>60))
theorem Td {e f:List Int} {i j:Int} {c b d:Int} {r:Bool} (h:C1 e f i j c b d=some r):Says Tryz.prog 5 [vS 1 WL e,vS 1 WL f,.sc (.int .u8 i),.sc (.int .u8 j),.sc (.int .u8 c),.sc (.int .u8 b),.sc (.int .i8 d)] (sb r):=by refine kO mix Tryz.func5 (hn [(15,[18,42,43,44,45,48,53,54,55,58,59,60,62,66,69,70,71,74,77,80,81,84,87,88,91,93,95,96,99,100,104,105,106,109,110,111,112,115,116,117,118,121,122,123,124,128,129,132,133,134,135,138,139,140,141,144,145,146,147,152,153,156,157,158,161,162,163,166,167,168,172,173,175]),(16,[36]),(33,[28,34,35])] [(2,1),(11,2)] (E:=[(7,(Rc 42 [.F 7 15,.H 15 0 42,.m 15 3 43,.w 18,.y 15 (.cp (.t 45))]))])) ?_;have a1:= @Wy;have a2:= @Ot;have a3:= @Kj;have a4:= @XU;have c2:=λn1 n2 n3 n4:Nat=>Bu 2 λτ=>∃(l:AP),(τ 15=bA 15 (HV l))/\J2 l=some r;have c1:=λn1 n2 n3 n4:Nat=>Bu 1 λτ=>∃(o:Bool),(τ 0=vS 1 WL e/\τ 1=vS 1 WL f/\τ 2= .sc (.int .u8 i)/\τ 3= .sc (.int .u8 j)/\τ 4= .sc (.int .u8 c)/\τ 5= .sc (.int .u8 b)/\τ 6= .sc (.int .i8 d)/\τ 27=sb o)/\J1 b c d e f i j o=some r;unfold C1 at h;exact walk
end
end Go.Abs
