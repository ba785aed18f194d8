/- Typed programs of Go functions, and that the functions do what these say. -/
import Derived.Test.YthmijagacgnmkaaGreatDoorWalkR
set_option linter.unusedSimpArgs false
set_option linter.unusedVariables false
namespace Go.Abs
open Go.Proofs
set_option maxRecDepth 1000000
set_option maxHeartbeats 4000000
namespace El
def J3:AB8 Bool:=
(IM).bind λt=>
some t
def L1 (a b:(List AO)×Int) (L1:Int->AB8 Bool) (f:Int):AB8 Bool:=
if decide (f<(a.1.length:Int))then
(gt a.1 f).bind λu=>
(gt b.1 f).bind λv=>
(Jf u v).bind λs=>
if !s then
some false
else
L1 (A1 (f+1))
else
J3
def AZ (a b:(List AO)×Int):Nat->Int->AB8 Bool
|0,_=>none
|n+1,f=>L1 a b (AZ a b n) f
def J2 (a b:(List AO)×Int) (j:Bool):AB8 Bool:=
if j then
some false
else
AZ a b BP 0
def J1 (d:Int) (c:Uf) (e:Int) (i:Bool):AB8 Bool:=
if i then
some true
else
(Hr c 30).bind λl=>
(Gj l ((A1 e).tmod 20)).bind λa=>
(EF l ((A1 e).tmod 20)).bind λb=>
(EJ l ((A1 d).tmod 40)).bind λo=>
(HB l ((A1 d).tmod 40)).bind λp=>
if a.2 != b.2 then
J2 a b true
else
if(a.1.length:Int) != (b.1.length:Int)then
J2 a b true
else
if o.2 != p.2 then
J2 a b true
else
(EU o.1 p.1).bind λq=>
J2 a b (!q)
end El
section
open El
def El (c:Uf) (e d:Int):AB8 Bool:=
if decide ((c.Program.length:Int)>200)then
J1 d c e true
else
if decide ((c.Ct.length:Int)>100)then
J1 d c e true
else
J1 d c e (decide ((c.RJ.length:Int)>200))
theorem ZV {c:Uf} {e d:Int} {r:Bool} (h:El c e d=some r):Says Tryz.prog 11 [.agg (sJ c),.sc (.int .i8 e),.sc (.int .i8 d)] (sb r):=by refine kO mix Tryz.func11 (hn [(3,[19,24,30]),(14,[83]),(15,[78]),(16,[84]),(17,[79]),(58,[55,59,60]),(64,[61,65,66])] [(2,1),(11,2)]) ?_;have a1:= @MM;have a2:= @O4;have a3:= @ML;have a4:= @Sp;have a5:= @UD;have a6:= @Pr;have a7:= @Z3;have a8:= @Kf;have l1:=λn1 n2 n3 n4:Nat=>Av λn τ=>∃(a b:(List AO)×Int) (f:Int),(τ 10=vS 15 BV a.1/\τ 12=vS 15 BV b.1/\τ 18=si f)/\AZ a b n f=some r;have c2:=λn1 n2 n3 n4:Nat=>Bm 2 λτ=>∃(a b:(List AO)×Int) (j:Bool),(τ 10=vS 15 BV a.1/\τ 12=vS 15 BV b.1/\τ 87=sb j)/\J2 a b j=some r;have c1:=λn1 n2 n3 n4:Nat=>Bm 1 λτ=>∃(i:Bool),(τ 1= .sc (.int .i8 e)/\τ 2= .sc (.int .i8 d)/\τ 3=bA 3 (sJ c)/\τ 34=sb i)/\J1 d c e i=some r;unfold El at h;exact walk
end
namespace Eb
def J3:AB8 Bool:=
(JO).bind λq=>
some q
def J2 (L1:Int->AB8 Bool) (c:Int) (o:Bool):AB8 Bool:=
if o then
some false
else
L1 (A1 (c+1))
def L1 (a:(List D5)×Int) (b:(List AO)×Int) (L1:Int->AB8 Bool) (c:Int):AB8 Bool:=
if decide (c<(b.1.length:Int))then
(gt b.1 c).bind λd=>
(Ks d).bind λe=>
if(e.length:Int) != (d.AF.length:Int)then
J2 L1 c true
else
if 0≤d.Start/\0≤(A1 (d.Start+(e.length:Int)))/\d.Start.toNat≤((A1 (d.Start+(e.length:Int))).toNat)/\((A1 (d.Start+(e.length:Int))).toNat)≤a.1.length then
(GP e ((a.1.drop d.Start.toNat).take (((A1 (d.Start+(e.length:Int))).toNat)-d.Start.toNat))).bind λp=>
J2 L1 c (!p)
else none
else
J3
def AZ (a:(List D5)×Int) (b:(List AO)×Int):Nat->Int->AB8 Bool
|0,_=>none
|n+1,c=>L1 a b (AZ a b n) c
def J1 (a:(List D5)×Int) (b:(List AO)×Int) (j:Bool):AB8 Bool:=
if j then
some false
else
AZ a b BP 0
end Eb
section
open Eb
def Eb (f:Uf) (i:Int):AB8 Bool:=
(Hr f 40).bind λl=>
(MY l).bind λa=>
(EF l (A1 (1+((A1 i).tmod 16)))).bind λb=>
if a.2 != 0 then
J1 a b true
else
if b.2 != 0 then
J1 a b true
else
J1 a b ((a.1.length:Int) != (l.AF.length:Int))
theorem YK {f:Uf} {i:Int} {r:Bool} (h:Eb f i=some r):Says Tryz.prog 13 [.agg (sJ f),.sc (.int .u8 i)] (sb r):=by refine kO mix Tryz.func13 (hn [(5,[38]),(11,[53,60,62])] [(5,1)]) ?_;have a1:= @MM;have a2:= @V4;have a3:= @ML;have a4:= @YL;have a5:= @Tf;have a6:= @UF;have l1:=λn1 n2 n3 n4:Nat=>Av λn τ=>∃(a:(List D5)×Int) (b:(List AO)×Int) (c:Int),(τ 6=vS 2 K6 a.1/\τ 43=vS 15 BV b.1/\τ 44=si (b.1.length:Int)/\τ 45=si c)/\AZ a b n c=some r;have c1:=λn1 n2 n3 n4:Nat=>Bm 1 λτ=>∃(a:(List D5)×Int) (b:(List AO)×Int) (j:Bool),(τ 6=vS 2 K6 a.1/\τ 8=vS 15 BV b.1/\τ 42=sb j)/\J1 a b j=some r;unfold Eb at h;exact walk
end
namespace FV
def J1 (c:Bool):AB8 Bool:=
some c
end FV
section
open FV
def FV (a:Vr):AB8 Bool:=
(I5 a 16).bind λb=>
(Gk b).bind λd=>
(Es b).bind λe=>
if d==e then
(IM).bind λf=>
J1 f
else
J1 false
theorem Wp {a:Vr} {r:Bool} (h:FV a=some r):Says Tryz.prog 9 [.agg (uS a)] (sb r):=by refine kO mix Tryz.func9 hn ?_;have a1:= @QK;have a2:= @La;have a3:= @QD;have a4:= @Pr;unfold FV at h;exact walk
end
end Go.Abs
