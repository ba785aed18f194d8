/- Go functions do what typed programs say. -/
import Derived.Test.YtdojkofgkcmagaaGreatDoorWalkD
import Derived.Test.YtdojkofgkcmagaaGreatDoorWalkE
import Derived.Shelf.Slices.SearchI
set_option linter.all false
namespace Go.Abs
open Go.Proofs Tryz
set_option maxRecDepth 1000000
set_option maxHeartbeats 4000000
namespace DM
def J2(l:AO)(j:kh):ABm ((List AX)×AO):=some (j,l)
def J1(L1:mu)(R100:lx)(a b:Int)(c:kh)(d:AO)(o:Bool):=if o then(R100 d a).bind λi=>if Aq (c.length+1) 176=true then
L1 i.2 (c++[i.1]) (A9 (b+1))
else none
else
J2 d c
def L1(R100:lx)(a e:Int)(L1:mu)(d:AO)(c:kh)(b:Int):=if decide (b<e)then
if b==0 then
J1 L1 R100 a b c d true
else
J1 L1 R100 a b c d (decide (d.left>0))
else
J1 L1 R100 a b c d false
def AU(R100:lx)(a e:Int):Nat->AO->(List AX)->Int->ABm ((List AX)×AO)
|0,_,_,_=>none
|n+1,d,c,b=>L1 R100 a e (AU R100 a e n) d c b
end DM
variable{j:lx}{f:AO}{d e:Int}{a:(List AX)×AO}
section
open DM
def DM(R100:lx)(f:AO)(a e:Int):=AU R100 a e BQ f [] 0
theorem SV(H100:∀{x0 x1 a},j x0 x1=some a->BF prog 223 [bA 8 (Ch x0),si x1] (.agg [si a.1.Op,si a.1.Fq,B0 a.1.dq,B0 a.1.e6,vS 4 BT a.1.d6,si a.1.du.Op,si a.1.du.N,B0 a.1.du.dq,vS 4 BT a.1.du.L,vS 11 BM a.1.dz,vS 11 BM a.1.ea]) [bA 8 (Ch a.2),.dead])(h:DM j f d e=some a):BF prog 187 [bA 8 (Ch f),si d,si e] (vO 11 BM a.1) [bA 8 (Ch a.2),.dead,.dead]:=by refine kL mix func187 (hn [(0,[16,17,18,26]),(7,[25,31])]) ?_;have a1:=@H100;have l1:=iJ λn f=>∃r c b,(f 0=bA 8 (Ch r)/\f 1=si d/\f 2=si e/\f 7=vO 11 BM c/\f 8=si b)/\AU j d e n r c b=some a;unfold DM at h;exact walk
end
namespace Bn
def J3(bi:AO)(bj:AX):ABm (AX×AO):=some (bj,bi)
def gN(ad:AO)(bl:Bool):ABm (AX×AO):=if bl then
some ((AX.mk 15 0 (⟨#[97]⟩:ABn) (⟨#[102]⟩:ABn) [] (BU.mk 0 0 (⟨#[]⟩:ABn) []) [] []),ad)
else(Cv BQ ad 1).bind λbb=>(F8 (⟨#[120]⟩:ABn) bb.1).bind λca=>some (ca,bb.2)
def P9(e:AO)(b:j7)(z:Bool):ABm (AX×AO):=if z then(Cv BQ (AO.mk e.t e.CA e.left true e.tx e.d9 e.ej e.eb) 1).bind λaz=>some ((AX.mk 14 0 (⟨#[102]⟩:ABn) (⟨#[]⟩:ABn) [] az.1 [] []),az.2)
else
if b.1==17 then
if !e.tx then(Ao e.t 2).bind λba=>gN (AO.mk ba.2 e.CA e.left e.Ik e.tx e.d9 e.ej e.eb) (ba.1==1)
else
gN e false
else
gN e false
def OE(b:j7)(e:AO)(y:Bool):=if y then(Ao e.t 2).bind λay=>some ((AX.mk 4 0 (⟨#[109]⟩:ABn) (⟨#[]⟩:ABn) [] (BU.mk 0 0 (⟨#[]⟩:ABn) []) [(AX.mk (A9 (10+ay.1)) 0 (⟨#[99]⟩:ABn) (⟨#[]⟩:ABn) [] (BU.mk 0 0 (⟨#[]⟩:ABn) []) [] [])] []),(AO.mk ay.2 e.CA e.left e.Ik e.tx e.d9 e.ej e.eb))
else
if b.1==16 then
if !e.tx then
if !e.ej then
P9 e b (!e.Ik)
else
P9 e b false
else
P9 e b false
else
P9 e b false
def J9(c:Bool)(b:j7)(q:AO)(x:Bool):=if x then(KM (⟨#[120]⟩:ABn)).bind λbx=>(F8 (⟨#[97]⟩:ABn) bx).bind λbz=>some ((AX.mk 4 0 (⟨#[109]⟩:ABn) (⟨#[]⟩:ABn) [] (BU.mk 0 0 (⟨#[]⟩:ABn) []) [(AX.mk 9 0 (⟨#[99]⟩:ABn) (⟨#[]⟩:ABn) [] (BU.mk 0 0 (⟨#[]⟩:ABn) []) [] []),bz] []),q)
else
if b.1==15 then
if c then(EK q (⟨#[109]⟩:ABn)).bind λax=>OE b ax.2 (!ax.1)
else
OE b q false
else
OE b q false
def J8(R102:jv)(d:Int)(f:AO)(c:Bool)(b:j7)(w:Bool):=if w then(R102 (AO.mk f.t f.CA f.left f.Ik f.tx true f.ej f.eb) (A9 (d-1)) 2).bind λp=>some ((AX.mk 8 0 (⟨#[]⟩:ABn) (⟨#[]⟩:ABn) [] (BU.mk 0 0 (⟨#[]⟩:ABn) []) p.1 []),(AO.mk p.2.t p.2.CA p.2.left p.2.Ik p.2.tx false p.2.ej p.2.eb))
else
if b.1==14 then
if c then
if !f.d9 then(EK f (⟨#[109]⟩:ABn)).bind λav=>J9 c b av.2 (!av.1)
else
J9 c b f false
else
J9 c b f false
else
J9 c b f false
def J7(R102:jv)(d:Int)(f:AO)(c:Bool)(b:j7)(v:Bool):=if v then(Ao f.t 2).bind λau=>(R102 (AO.mk au.2 f.CA f.left f.Ik true f.d9 f.ej f.eb) 0 (A9 (1+au.1))).bind λo=>some ((AX.mk 7 0 (⟨#[]⟩:ABn) (⟨#[]⟩:ABn) [] (BU.mk 0 0 (⟨#[]⟩:ABn) []) o.1 []),(AO.mk o.2.t o.2.CA o.2.left o.2.Ik false o.2.d9 o.2.ej o.2.eb))
else
if b.1==13 then
if c then
J8 R102 d f c b (!f.d9)
else
J8 R102 d f c b false
else
J8 R102 d f c b false
def J6(R101:kg)(R102:jv)(d:Int)(c:Bool)(b:j7)(f:AO)(u:Bool):=if u then(R101 f (⟨#[114]⟩:ABn) (A9 (d-1))).bind λaq=>some ((AX.mk (A9 ((A9 (b.1-10))+5)) 0 (⟨#[114]⟩:ABn) (⟨#[]⟩:ABn) [] (BU.mk 0 0 (⟨#[]⟩:ABn) []) aq.1 []),aq.2)
else
if b.1==12 then
J7 R102 d f c b c
else
J7 R102 d f c b false
def J5(R101:kg)(R102:jv)(d:Int)(c:Bool)(b:j7)(j:AO)(t:Bool):=if t then(gt [(⟨#[109]⟩:ABn),(⟨#[110]⟩:ABn)] (A9 (b.1-8))).bind λbf=>(R101 j bf (A9 (d-1))).bind λal=>some ((AX.mk 4 0 bf (⟨#[]⟩:ABn) [] (BU.mk 0 0 (⟨#[]⟩:ABn) []) al.1 []),al.2)
else
if b.1==10 then
if c then(EK j (⟨#[114]⟩:ABn)).bind λao=>J6 R101 R102 d c b ao.2 (!ao.1)
else
J6 R101 R102 d c b j false
else
if b.1==11 then
if c then(EK j (⟨#[114]⟩:ABn)).bind λap=>J6 R101 R102 d c b ap.2 (!ap.1)
else
J6 R101 R102 d c b j false
else
J6 R101 R102 d c b j false
def J4(R101:kg)(R102:jv)(d:Int)(a:AO)(c:Bool)(b:j7)(s:Bool):=if s then(KM (⟨#[98]⟩:ABn)).bind λbo=>(Lc 2).bind λbp=>(Jm 13 bo bp).bind λbq=>(R102 (AO.mk b.2 a.CA (A9 (a.left-1)) a.Ik a.tx a.d9 true a.eb) (A9 (d-1)) 1).bind λl=>(KM (⟨#[98]⟩:ABn)).bind λbs=>(Lc 1).bind λbt=>(Jm 6 bs bt).bind λbu=>(F8 (⟨#[98]⟩:ABn) bu).bind λbv=>if Aq (l.1.length+1) 176=true then
some ((AX.mk 3 0 (⟨#[]⟩:ABn) (⟨#[]⟩:ABn) [] bq (l.1++[bv]) []),(AO.mk l.2.t l.2.CA l.2.left l.2.Ik l.2.tx l.2.d9 a.ej l.2.eb))
else none
else
if b.1==8 then
if c then(gt [(⟨#[109]⟩:ABn),(⟨#[110]⟩:ABn)] (A9 (b.1-8))).bind λce=>(EK (AO.mk b.2 a.CA (A9 (a.left-1)) a.Ik a.tx a.d9 a.ej a.eb) ce).bind λai=>J5 R101 R102 d c b ai.2 (!ai.1)
else
J5 R101 R102 d c b (AO.mk b.2 a.CA (A9 (a.left-1)) a.Ik a.tx a.d9 a.ej a.eb) false
else
if b.1==9 then
if c then(gt [(⟨#[109]⟩:ABn),(⟨#[110]⟩:ABn)] (A9 (b.1-8))).bind λcf=>(EK (AO.mk b.2 a.CA (A9 (a.left-1)) a.Ik a.tx a.d9 a.ej a.eb) cf).bind λaj=>J5 R101 R102 d c b aj.2 (!aj.1)
else
J5 R101 R102 d c b (AO.mk b.2 a.CA (A9 (a.left-1)) a.Ik a.tx a.d9 a.ej a.eb) false
else
J5 R101 R102 d c b (AO.mk b.2 a.CA (A9 (a.left-1)) a.Ik a.tx a.d9 a.ej a.eb) false
def J2(R101:kg)(R102:jv)(d:Int)(a:AO)(c:Bool)(b:j7)(aa:Bool):=if aa then(Cv BQ (AO.mk b.2 a.CA (A9 (a.left-1)) a.Ik a.tx a.d9 a.ej a.eb) 1).bind λac=>(R102 ac.2 (A9 (d-1)) 1).bind λi=>(Ao i.2.t 2).bind λab=>if ab.1==1 then(R102 (AO.mk ab.2 i.2.CA i.2.left i.2.Ik i.2.tx i.2.d9 i.2.ej i.2.eb) (A9 (d-1)) 1).bind λaf=>J3 af.2 (AX.mk 2 0 (⟨#[]⟩:ABn) (⟨#[]⟩:ABn) [] ac.1 i.1 af.1)
else
J3 (AO.mk ab.2 i.2.CA i.2.left i.2.Ik i.2.tx i.2.d9 i.2.ej i.2.eb) (AX.mk 2 0 (⟨#[]⟩:ABn) (⟨#[]⟩:ABn) [] ac.1 i.1 [])
else
if b.1==7 then
J4 R101 R102 d a c b (decide (d>0))
else
J4 R101 R102 d a c b false
def J1(R101:kg)(R102:jv)(d:Int)(a:AO)(b:j7)(c:Bool):=if decide (b.1<4)then(gt [(⟨#[120]⟩:ABn),(⟨#[121]⟩:ABn),(⟨#[120]⟩:ABn),(⟨#[118]⟩:ABn)] b.1).bind λcc=>(Cv BQ (AO.mk b.2 a.CA (A9 (a.left-1)) a.Ik a.tx a.d9 a.ej a.eb) 1).bind λae=>(F8 cc ae.1).bind λbw=>some (bw,ae.2)
else
if b.1==4 then(Ao b.2 2).bind λaw=>(gt [(⟨#[97]⟩:ABn),(⟨#[98]⟩:ABn)] aw.1).bind λcd=>(Cv BQ (AO.mk aw.2 a.CA (A9 (a.left-1)) a.Ik a.tx a.d9 a.ej a.eb) 1).bind λbc=>(F8 cd bc.1).bind λcb=>some (cb,bc.2)
else
if b.1==5 then(Cv BQ (AO.mk b.2 a.CA (A9 (a.left-1)) a.Ik a.tx a.d9 a.ej a.eb) 0).bind λbd=>(Cv BQ bd.2 1).bind λbe=>some ((AX.mk 1 0 (⟨#[113]⟩:ABn) (⟨#[]⟩:ABn) [bd.1] be.1 [] []),be.2)
else
if b.1==6 then
J2 R101 R102 d a c b (decide (d>0))
else
J2 R101 R102 d a c b false
end Bn
variable{i:kg}{b:jv}{c:AX×AO}
section
open Bn
def Bn(R101:kg)(R102:jv)(a:AO)(d:Int):=(Ao a.t 18).bind λb=>if decide (d>0)then
if decide ((A9 (a.left-1))>0)then
J1 R101 R102 d a b (!a.tx)
else
J1 R101 R102 d a b false
else
J1 R101 R102 d a b false
theorem Ti(H101:∀{x0 x1 x2 c},i x0 x1 x2=some c->BF prog 258 [bA 8 (Ch x0),B0 x1,si x2] (vO 11 BM c.1) [bA 8 (Ch c.2),.dead,.dead])(H102:∀{x0 x1 x2 c},b x0 x1 x2=some c->BF prog 187 [bA 8 (Ch x0),si x1,si x2] (vO 11 BM c.1) [bA 8 (Ch c.2),.dead,.dead])(h:Bn i b f d=some c):BF prog 223 [bA 8 (Ch f),si d] (.agg [si c.1.Op,si c.1.Fq,B0 c.1.dq,B0 c.1.e6,vS 4 BT c.1.d6,si c.1.du.Op,si c.1.du.N,B0 c.1.du.dq,vS 4 BT c.1.du.L,vS 11 BM c.1.dz,vS 11 BM c.1.ea]) [bA 8 (Ch c.2),.dead]:=by refine kP mix func223 (hn [(0,[13,14,15,18,19,20,21,22,23,28,29,30,35,36,37,48,55,56,57,58,68,71,81,83,88,89,90,91,94,107,108,109,111,112,113,117,128,130,131,144,159,176,183,194,195,196,197,198,199,200,201,206,207,208,217,218,219,223,224,225,226,231,232,233,242,243,244,249,265,269,270,271,272,282,283,284,289,290,291,296,297,298,302,303,304,305,312,313,314,319,320,321,322,327]),(7,[98,99]),(9,[132]),(11,[209]),(12,[234]),(44,[46]),(54,[60]),(145,[148]),(153,[156])] [(3,1),(11,2),(16,4),(22,5),(25,6),(27,7),(32,8),(37,9),(39,10),(41,11)] (E:=[(7,(.iH [(0,8,9,62)] [⟨some ⟨54,[60],[]⟩,.Ot 1 [[B0 ⟨#[]⟩],[B0 ⟨#[]⟩]] [(0,.c (B0 ⟨#[97]⟩)),(1,.c (B0 ⟨#[98]⟩))],none⟩,i1 55 0 (.cp (.t 0)),i1 56 0 (.I6 (.t 55)),KK 57 0 0 56,Un 58 0 57,i0 59 (.YR 132 [] (.t 58) none [.c (si 2)]),qK 60 54 1 54 59,iL 61 60,i0 62 .fl,i0 63 (.YR 254 [] (.t 0) none [.c (si 1)]),i0 64 (.call 188 [.t 61,.t 63] 1),iS 11 4 64]))])) ?_;have a1:=@DD;have a2:=@SS;have a3:=@Qt;have a4:=@H102;have a5:=@Ux;have a6:=@Qx;have a7:=@Qu;have a8:=@H101;have a9:=@SU;have c11:=iR 11 λf=>∃(e:AO)(R102:j7)(z:Bool),(f 0=bA 8 (Ch e)/\f 4=bA 11 z1/\f 5=si R102.1/\f 278=sb z)/\P9 e R102 z=some c;have c10:=iR 10 λf=>∃(R102:j7)(e:AO)(y:Bool),(f 0=bA 8 (Ch e)/\f 4=bA 11 z1/\f 5=si R102.1/\f 258=sb y)/\OE R102 e y=some c;have c9:=iR 9 λf=>∃(r:Bool)(R102:j7)(q:AO)(x:Bool),(f 0=bA 8 (Ch q)/\f 4=bA 11 z1/\f 5=si R102.1/\f 6=sb r/\f 235=sb x)/\J9 r R102 q x=some c;have c8:=iR 8 λf=>∃(a:AO)(r:Bool)(R102:j7)(w:Bool),(f 0=bA 8 (Ch a)/\f 1=si d/\f 4=bA 11 z1/\f 5=si R102.1/\f 6=sb r/\f 210=sb w)/\J8 b d a r R102 w=some c;have c7:=iR 7 λf=>∃(a:AO)(r:Bool)(R102:j7)(v:Bool),(f 0=bA 8 (Ch a)/\f 1=si d/\f 4=bA 11 z1/\f 5=si R102.1/\f 6=sb r/\f 188=sb v)/\J7 b d a r R102 v=some c;have c6:=iR 6 λf=>∃(r:Bool)(R102:j7)(a:AO)(u:Bool),(f 0=bA 8 (Ch a)/\f 1=si d/\f 4=bA 11 z1/\f 5=si R102.1/\f 6=sb r/\f 165=sb u)/\J6 i b d r R102 a u=some c;have c5:=iR 5 λf=>∃(r:Bool)(R102:j7)(j:AO)(t:Bool),(f 0=bA 8 (Ch j)/\f 1=si d/\f 4=bA 11 z1/\f 5=si R102.1/\f 6=sb r/\f 133=sb t)/\J5 i b d r R102 j t=some c;have c4:=iR 4 λe=>∃(r:Bool)(R102:j7)(s:Bool),(e 0=bA 8 [bA 2 (Ft R102.2),si f.CA,si (A9 (f.left-1)),sb f.Ik,sb f.tx,sb f.d9,sb f.ej,vO 1 eS f.eb]/\e 1=si d/\e 4=bA 11 z1/\e 5=si R102.1/\e 6=sb r/\e 100=sb s)/\J4 i b d f r R102 s=some c;have c2:=iR 2 λe=>∃(r:Bool)(R102:j7)(aa:Bool),(e 0=bA 8 [bA 2 (Ft R102.2),si f.CA,si (A9 (f.left-1)),sb f.Ik,sb f.tx,sb f.d9,sb f.ej,vO 1 eS f.eb]/\e 1=si d/\e 4=bA 11 z1/\e 5=si R102.1/\e 6=sb r/\e 74=sb aa)/\J2 i b d f r R102 aa=some c;have c1:=iR 1 λe=>∃(R102:j7)(r:Bool),(e 0=bA 8 [bA 2 (Ft R102.2),si f.CA,si (A9 (f.left-1)),sb f.Ik,sb f.tx,sb f.d9,sb f.ej,vO 1 eS f.eb]/\e 1=si d/\e 4=bA 11 z1/\e 5=si R102.1/\e 6=sb r)/\J1 i b d f R102 r=some c;unfold Bn at h;exact walk
end
def I2(R102:jv)(b:AO)(d:ABn)(c:Int):ABm ((List AX)×AO):=if Aq (b.eb.length+1) 16=true then(Ao b.t 2).bind λe=>(R102 (AO.mk e.2 b.CA b.left b.Ik b.tx b.d9 b.ej (b.eb++[d])) c (A9 (1+e.1))).bind λa=>if 0<=(A9 ((a.2.eb.length:Int)-1))/\((A9 ((a.2.eb.length:Int)-1)).toNat)<=a.2.eb.length then
some (a.1,(AO.mk a.2.t a.2.CA a.2.left a.2.Ik a.2.tx a.2.d9 a.2.ej (a.2.eb.take ((A9 ((a.2.eb.length:Int)-1)).toNat))))
else none
else none
theorem SP(H102:∀{x0 x1 x2 a},b x0 x1 x2=some a->BF prog 187 [bA 8 (Ch x0),si x1,si x2] (vO 11 BM a.1) [bA 8 (Ch a.2),.dead,.dead]){d:ABn}(h:I2 b f d e=some a):BF prog 258 [bA 8 (Ch f),B0 d,si e] (vO 11 BM a.1) [bA 8 (Ch a.2),.dead,.dead]:=by refine kL mix func258 (hn [(0,[8,9,10,11,12,16,17,18,20,21,22,23,28,29,30,31,32,33,34,35,39,40]),(7,[41])] (E:=[(3,(.iH [(0,0,12,27)] [i0 27 .fl,i1 28 0 (.cp (.t 0)),i1 29 0 (.I6 (.t 28)),KK 30 0 7 29,Un 31 0 30,i1 32 0 (.cp (.t 0)),i1 33 0 (.I6 (.t 32)),KK 34 0 7 33,Un 35 0 34,iZ 36 35,iP 37 .sub 36 1,i0 38 (.slc 1 false (.t 31) none (some (.t 37)) none),i1 39 0 (.I6 (.t 0)),KK 40 0 7 39,iS 1 40 38]))])) ?_;have a1:=@DD;have a2:=@H102;unfold I2 at h;exact walk
def FQ:Nat->(AO->Int->Int->ABm ((List AX)×AO))×(AO->Int->ABm (AX×AO))×(AO->ABn->Int->ABm ((List AX)×AO))
|0=>((λ_ _ _=>none),(λ_ _=>none),(λ_ _ _=>none))
|n+1=>(DM ((FQ n).2.1),Bn ((FQ n).2.2) ((FQ n).1),I2 ((FQ n).1))
def FU(n:Nat):AO->Int->Int->ABm ((List AX)×AO):=(FQ n).1
def IK(n:Nat):AO->Int->ABm (AX×AO):=(FQ n).2.1
def MU(n:Nat):AO->ABn->Int->ABm ((List AX)×AO):=(FQ n).2.2
theorem Qv(n:Nat):(∀{x0 x1 x2 r},(FU n) x0 x1 x2=some r->BF prog 187 [bA 8 (Ch x0),si x1,si x2] (.own false 11 (r.1.map BM)) [bA 8 (Ch r.2),.dead,.dead])/\(∀{x0 x1 r},(IK n) x0 x1=some r->BF prog 223 [bA 8 (Ch x0),si x1] (.agg [si r.1.Op,si r.1.Fq,B0 r.1.dq,B0 r.1.e6,vS 4 BT r.1.d6,si r.1.du.Op,si r.1.du.N,B0 r.1.du.dq,vS 4 BT r.1.du.L,vS 11 BM r.1.dz,vS 11 BM r.1.ea]) [bA 8 (Ch r.2),.dead])/\(∀{x0 x1 x2 r},(MU n) x0 x1 x2=some r->BF prog 258 [bA 8 (Ch x0),B0 x1,si x2] (.own false 11 (r.1.map BM)) [bA 8 (Ch r.2),.dead,.dead]):=by induction n with|zero=>exact⟨λh=>Cy h,λh=>Cy h,λh=>Cy h⟩|succ n ih=>exact⟨λh=>SV ih.2.1 h,λh=>Ti ih.2.2 ih.1 h,λh=>SP ih.1 h⟩
variable{g:Nat}
def Qw:∀{x0 x1 x2 r},(FU g) x0 x1 x2=some r->BF prog 187 [bA 8 (Ch x0),si x1,si x2] (.own false 11 (r.1.map BM)) [bA 8 (Ch r.2),.dead,.dead]:=(Qv g).1
def f91c:cB:=(.seq (.ic (Rc 0 [.b 2 [16,29,43,47] (.bx 6 (.t 0)),.B 4 false]))
(.seq (.ic (Rc 0 [.b 5 [13,23,36,42,46,51,55] (.mv (.c (.own false 1 [])))]))
(.seq (.ic (Rc 13 [.y 5 (.cp (.t 5)),.C 1,.o (.app 1 16 (.t 13) (.t 14)),.b 5 [13,23,36,42,46,51,55] (.mv (.t 15))]))
(mO (.ic (Ra 16 [.f 1 2,.Z 17,.Y 0]
(Bl 0 (Ra 20 [.O .lss 19 18]
(Sq (cX 20 0)
(Sq (Bk 1 (Ra 21 [.I 2 17 19,.A 2 21,.b 7 [24] (.bx 2 (.c (.agg [B0 ⟨#[]⟩,sb false]))),.S 2 7 22]
(Rc 23 [.y 5 (.cp (.t 5)),.f 0 7,.o (.Ot 1 [[B0 ⟨#[]⟩]] [(0,.t 25)]),.o (.app 1 16 (.t 23) (.t 26)),.b 5 [13,23,36,42,46,51,55] (.mv (.t 27))])))
(Rc 28 [.P .add 19 1,.w 19,.C 28])))))))
(mO (.ic (Ra 29 [.f 2 2,.Z 30,.Y 0]
(Bl 2 (Ra 33 [.O .lss 32 31]
(Sq (cX 33 2)
(Sq (Bk 3 (Ra 34 [.I 2 30 32,.A 2 34,.b 9 [37] (.bx 2 (.c (.agg [B0 ⟨#[]⟩,si 0]))),.S 2 9 35]
(Rc 36 [.y 5 (.cp (.t 5)),.f 0 9,.o (.Ot 1 [[B0 ⟨#[]⟩]] [(0,.t 38)]),.o (.app 1 16 (.t 36) (.t 39)),.b 5 [13,23,36,42,46,51,55] (.mv (.t 40))])))
(Rc 41 [.P .add 32 1,.w 32,.C 41])))))))
(.seq (.ic (Rc 42 [.y 5 (.cp (.t 5)),.f 3 2,.o (.app 1 16 (.t 42) (.t 44)),.b 5 [13,23,36,42,46,51,55] (.mv (.t 45))]))
(.seq (.ic (Rc 46 [.y 5 (.cp (.t 5)),.f 4 2,.o (.app 1 16 (.t 46) (.t 48)),.b 5 [13,23,36,42,46,51,55] (.mv (.t 49))]))
(.seq (.dB [.mkm ⟨50,[],[]⟩,.x (.o ⟨some ⟨10,[],[]⟩,.mv (.t 50),none⟩)])
(mO (.seq (.ic (Rc 51 [.y 5 (.cp (.t 5)),.Z 51,.Y 0]))
(.block 4 (.loop (.seq (.ic (Rc 54 [.O .lss 53 52]))
(.seq (.ic (cX 54 4))
(.seq (.block 5 (.seq (.ic (Rc 55 [.J 5 1 51 53,.L 55,.M 12 56]))
(.seq (mO (.dB [.x (.o ⟨some ⟨57,[],[]⟩,.cp (.t 12),none⟩),.x (.o ⟨some ⟨58,[],[]⟩,.call 142 [.t 57] 0,none⟩),.x (.o ⟨some ⟨59,[],[]⟩,.un .not (.t 58),none⟩),.x (.o ⟨some ⟨60,[],[]⟩,.cp (.t 59),none⟩),.x (.o ⟨some ⟨61,[],[]⟩,.cp (.t 10),some (60,false)⟩),.x (.o ⟨some ⟨62,[],[]⟩,.cp (.t 12),some (60,false)⟩),.lkp (some (60,false)) ⟨63,[],[]⟩ (.t 61) (.t 62),.x (.o ⟨some ⟨64,[],[]⟩,.pick (.t 60) (.c (sb true)) (.t 63),none⟩)])
(.ic (Ci 64 (Rb 0 [.B 4 false]))))
(.dB [.x (.o ⟨some ⟨65,[],[]⟩,.cp (.t 10),none⟩),.x (.o ⟨some ⟨66,[],[]⟩,.cp (.t 12),none⟩),.mup (.t 65) (.t 66) (.c (sb true))]))))
(.ic (Rc 67 [.P .add 53 1,.w 53,.C 67]))))))))
(.ic (Rb 0 [.B 4 true])))))))))))
def f91g:Gi:=⟨[(13,[5]),(16,[2]),(23,[5]),(24,[7]),(29,[2]),(36,[5]),(37,[9]),(42,[5]),(43,[2]),(46,[5]),(47,[2]),(51,[5]),(55,[5])]⟩
def f91r:List RV:=[.tmp 4]
def f91:FIM:=⟨f91c,f91g,f91r⟩
theorem chk91:wN prog Tryz.f91 f91:=by kernel_rfl
namespace BZ
def J4(seen:jq):=some true
def J3(L3:Int->(List ABn)->ABm Bool)(seen:jq)(Vo:Int)(x_2:ABn)(t64v:Bool):=if t64v then
some false
else
if(seen.any λh=>h==x_2)=false then
L3 (A9 (Vo+1)) (seen++[x_2])
else none
def L3(KX:jq)(wv:AG)(L3:Int->(List ABn)->ABm Bool)(Vo:Int)(seen:jq):=if decide (Vo<(((KX++wv.AM)++wv.AB).length:Int))then(gt ((KX++wv.AM)++wv.AB) Vo).bind λx_2=>(C0 x_2).bind λv=>if !v then
J3 L3 seen Vo x_2 true
else
J3 L3 seen Vo x_2 (seen.any λh=>h==x_2)
else
J4 seen
def Fw(KX:jq)(wv:AG):Nat->Int->(List ABn)->ABm Bool
|0,_,_=>none
|n+1,Vo,seen=>L3 KX wv (Fw KX wv n) Vo seen
def J2(wv:AG)(KX:jq):=if Aq (KX.length+wv.AM.length) 16=true then
if Aq ((KX++wv.AM).length+wv.AB.length) 16=true then
Fw KX wv BQ 0 []
else none
else none
def L2(wv:AG)(L2:(List ABn)->Int->ABm Bool)(UP:jq)(kR:Int):=if decide (kR<(wv.Aj.length:Int))then(gt wv.Aj kR).bind λOy=>if Aq (UP.length+1) 16=true then
L2 (UP++[Oy.dq]) (A9 (kR+1))
else none
else
J2 wv UP
def B9(wv:AG):Nat->(List ABn)->Int->ABm Bool
|0,_,_=>none
|n+1,UP,kR=>L2 wv (B9 wv n) UP kR
def J1(wv:AG)(l5:jq):=B9 wv BQ l5 0
def L1(wv:AG)(L1:(List ABn)->Int->ABm Bool)(all:jq)(kQ:Int):=if decide (kQ<(wv.AK.length:Int))then(gt wv.AK kQ).bind λx=>if Aq (all.length+1) 16=true then
L1 (all++[x.dq]) (A9 (kQ+1))
else none
else
J1 wv all
def AU(wv:AG):Nat->(List ABn)->Int->ABm Bool
|0,_,_=>none
|n+1,all,kQ=>L1 wv (AU wv n) all kQ
end BZ
section
open BZ
def BZ(wv:AG)(variables:jq):=if Aq (variables.length) 16=true then
AU wv BQ variables 0
else none
theorem QF{wv:AG}{variables:jq}{r:Bool}(h:BZ wv variables=some r):Says prog 91 [.agg (A0 wv),vS 1 eS variables] (sb r):=by
 refine pF mix func91 chk91 (AAV (by kernel_rfl)) rfl ?_;simp only[f91,f91c,f91g,f91r];obtain⟨_,h⟩:=cS h;try simp +decide only[go_sem, *]
 refine mP (λk l=>∃l5:List ABn,(k 2=bA 6 (A0 wv)/\k 5=vO 1 eS l5)/\J1 wv l5=some r) λM1 hM1=>⟨?_,?_⟩
 . (try simp +decide only[go_sem, *]);refine Mw (λn k=>∃all:List ABn,∃kQ:Int,(k 2=bA 6 (A0 wv)/\k 5=vO 1 eS all/\k 17=vS 2 IE wv.AK/\k 18=si (wv.AK.length:Int)/\k 19=si kQ)/\AU wv n all kQ=some r) ⟨_,_,?_,h⟩ λn1 τ1 N1=>?_;simp +decide only[go_sem, *];rintro⟨all,kQ,s1,h⟩ hN1;cases n1 with|zero=>exact Cy h|succ n1=>rw[AU]at h;generalize hL1:AU wv n1=L1 at h;(try simp +decide only[go_sem, *]);refine cI h (λ_ h=>?_) λ_ h=>?_;(. obtain⟨x,_,h⟩:=gB h;obtain⟨_,h⟩:=cS h;(try simp +decide only[go_sem, *]);refine hN1 n1 (Nat.lt_succ_self _) _ ⟨_,_,?_,hL1.symm▸h⟩;simp +decide only[go_sem, *]);(try simp +decide only[go_sem, *]);refine hM1 _ _ ⟨_,?_,h⟩;simp +decide only[go_sem, *]
 rintro τ1 ν1 ⟨l5,s1,h⟩;try simp +decide only[go_sem, *]
 refine mP (λk l=>∃KX:List ABn,(k 2=bA 6 (A0 wv)/\k 5=vO 1 eS KX)/\J2 wv KX=some r) λM2 hM2=>⟨?_,?_⟩
 . (try simp +decide only[go_sem, *]);refine Mw (λn k=>∃UP:List ABn,∃kR:Int,(k 2=bA 6 (A0 wv)/\k 5=vO 1 eS UP/\k 30=vS 2 ID wv.Aj/\k 31=si (wv.Aj.length:Int)/\k 32=si kR)/\B9 wv n UP kR=some r) ⟨_,_,?_,h⟩ λn2 τ2 N2=>?_;simp +decide only[go_sem, *];rintro⟨UP,kR,s2,h⟩ hN2;cases n2 with|zero=>exact Cy h|succ n2=>rw[B9]at h;generalize hL2:B9 wv n2=L2 at h;(try simp +decide only[go_sem, *]);refine cI h (λ_ h=>?_) λ_ h=>?_;(. obtain⟨Oy,_,h⟩:=gB h;obtain⟨_,h⟩:=cS h;(try simp +decide only[go_sem, *]);refine hN2 n2 (Nat.lt_succ_self _) _ ⟨_,_,?_,hL2.symm▸h⟩;simp +decide only[go_sem, *]);(try simp +decide only[go_sem, *]);refine hM2 _ _ ⟨_,?_,h⟩;simp +decide only[go_sem, *]
 rintro τ2 ν2 ⟨KX,s2,h⟩;obtain⟨_,h⟩:=cS h;obtain⟨_,h⟩:=cS h;try simp +decide only[go_sem, *]
 intro b1 hb1;try simp +decide only[go_sem, *]
 refine mP (λk l=>∃seen:List ABn,(l b1=some (.mp (seen.map tv)))/\J4 seen=some r) λM4 hM4=>⟨?_,?_⟩
 . (try simp +decide only[go_sem, *]);refine loopMH (λn k l=>∃Vo:Int,∃seen:List ABn,(k 5=.own false 1 (((KX++wv.AM)++wv.AB).map eS)/\k 10=.sc (.map (some b1))/\k 51=.al 5 []/\k 52=si (((KX++wv.AM)++wv.AB).length:Int)/\k 53=si Vo/\l b1=some (.mp (seen.map tv)))/\Fw KX wv n Vo seen=some r) ⟨_,_,?_,h⟩ λn3 τ3 ν3 N3=>?_;simp +decide only[go_sem, *];rintro⟨Vo,seen,s3,h⟩ hN3;cases n3 with|zero=>exact Cy h|succ n3=>rw[Fw]at h;generalize hL3:Fw KX wv n3=L3 at h;(try simp +decide only[go_sem, *]);refine cI h (λ_ h=>?_) λ_ h=>?_;(. obtain⟨x_2,_,h⟩:=gB h;(try simp +decide only[go_sem, *]);refine mP (λk l=>∃t64v:Bool,(k 5=.own false 1 (((KX++wv.AM)++wv.AB).map eS)/\k 10=.sc (.map (some b1))/\k 12=B0 x_2/\k 51=.al 5 []/\k 52=si (((KX++wv.AM)++wv.AB).length:Int)/\k 53=si Vo/\k 64=sb t64v/\l b1=some (.mp (seen.map tv)))/\J3 L3 seen Vo x_2 t64v=some r) λM3 hM3=>⟨?_,?_⟩;(. obtain⟨v,g9,h⟩:=bS h;(try simp +decide only[go_sem, *]);refine⟨_,YG g9,?_⟩;(try simp +decide only[go_sem, *]);refine gI h (λ_ h=>?_) λ_ h=>?_;(. (try simp +decide only[go_sem, *]);refine hM3 _ _ ⟨_,?_,h⟩;simp +decide only[go_sem, *]);(try simp +decide only[go_sem, *]);refine hM3 _ _ ⟨_,?_,h⟩;simp +decide only[go_sem, *]);rintro τ3 ν3 ⟨t64v,s3,h⟩;(try simp +decide only[go_sem, *]);refine cI h (λ_ h=>?_) λ_ h=>?_;obtain rfl:=AAO h;simp +decide only[go_sem, *];obtain⟨_,h⟩:=cS h;(try simp +decide only[go_sem, *]);refine hN3 n3 (Nat.lt_succ_self _) _ _ ⟨_,_,?_,hL3.symm▸h⟩;simp +decide only[go_sem, *]);(try simp +decide only[go_sem, *]);refine hM4 _ _ ⟨_,?_,h⟩;simp +decide only[go_sem, *]
 rintro τ4 ν4 ⟨seen,s4,h⟩;obtain rfl:=AAO h;simp +decide only[go_sem, *]
end
namespace BA
def gN(bb:AZ)(aw:AD):ABm (AD×AZ):=some (aw,bb)
def L3(o:AD)(L3:j9)(v:AZ)(f:AD)(s:Int):=if decide (s<(o.dg.length:Int))then(Ao v 3).bind λae=>(gt f.dg s).bind λbt=>L3 ae.2 (AD.mk f.dc (f.dg.set s.toNat ae.1) f.AM f.df) (A9 (s+1))
else
gN v f
def Fw(o:AD):Nat->AZ->AD->Int->ABm (AD×AZ)
|0,_,_,_=>none
|n+1,v,f,s=>L3 o (Fw o n) v f s
def P9(bi:AZ)(o:AD):=Fw o BQ bi o 0
def OE(aa:AZ)(e:AD):=(Ao aa 3).bind λad=>if ad.1==2 then(gt e.dc.Bs 0).bind λbq=>(Ao ad.2 3).bind λao=>(gt e.AM 0).bind λbs=>P9 ao.2 (AD.mk (AP.mk e.dc.AK e.dc.Tx (e.dc.Bs.set 0 true) e.dc.AB) e.dg (e.AM.set 0 ao.1) e.df)
else
P9 ad.2 e
def J9(bf:AZ)(q:AD):=(Ao bf 3).bind λac=>if ac.1==2 then(Hm ac.2 q.dc.Tx q.df).bind λal=>OE al.2 (AD.mk (AP.mk q.dc.AK al.1 q.dc.Bs q.dc.AB) q.dg q.AM q.df)
else
OE ac.2 q
def J8(L2:j9)(d:Int)(be:AZ)(av:AD):=L2 be av (A9 (d+1))
def J7(L2:j9)(a:AD)(d:Int)(x:AZ)(i:j7)(ba:Bool):=if ba then
J8 L2 d x a
else(gt a.dc.AK d).bind λbl=>J8 L2 d x (AD.mk (AP.mk (a.dc.AK.set d.toNat (AQ.mk i.1 bl.Ae)) a.dc.Tx a.dc.Bs a.dc.AB) a.dg a.AM a.df)
def J6(L2:j9)(a:AD)(d:Int)(i:j7)(x:AZ)(az:Bool):=if az then(gt a.dc.AK d).bind λbj=>J8 L2 d x (AD.mk (AP.mk (a.dc.AK.set d.toNat (AQ.mk bj.Bw [i.1])) a.dc.Tx a.dc.Bs a.dc.AB) a.dg a.AM a.df)
else
if d==0 then(gt a.dc.AB i.1).bind λaq=>if aq.dh==3 then
J7 L2 a d x i true
else
J7 L2 a d x i (aq.dh==4)
else
J7 L2 a d x i false
def L2(l:AD)(L2:j9)(w:AZ)(a:AD)(d:Int):=if decide (d<(l.dc.AK.length:Int))then(Hm w a.dc.Tx a.df).bind λi=>if decide (i.1<0)then
J8 L2 d i.2 a
else
if d==2 then(Ao i.2 2).bind λaj=>J6 L2 a d i aj.2 (aj.1==1)
else
J6 L2 a d i i.2 false
else
J9 w a
def B9(l:AD):Nat->AZ->AD->Int->ABm (AD×AZ)
|0,_,_,_=>none
|n+1,w,a,d=>L2 l (B9 l n) w a d
def J5(bd:AZ)(l:AD):=B9 l BQ bd l 0
def J4(L1:j9)(c:Int)(bc:AZ)(au:AD):=L1 bc au (A9 (c+1))
def J3(L1:j9)(b:AD)(t c:Int)(j:j7)(ay:Bool):=if ay then(Ao j.2 3).bind λaf=>(gt b.df c).bind λbp=>(Ao af.2 4).bind λai=>(gt (b.dc.AB.set c.toNat (AL.mk t 0 false)) c).bind λap=>J4 L1 c ai.2 (AD.mk (AP.mk b.dc.AK b.dc.Tx b.dc.Bs ((b.dc.AB.set c.toNat (AL.mk t 0 false)).set c.toNat (AL.mk ap.dh ap.DS (ai.1==3)))) b.dg b.AM (b.df.set c.toNat (A9 (1+af.1))))
else
J4 L1 c j.2 (AD.mk (AP.mk b.dc.AK b.dc.Tx b.dc.Bs (b.dc.AB.set c.toNat (AL.mk t 0 false))) b.dg b.AM b.df)
def J2(L1:j9)(b:AD)(c:Int)(j:j7)(t:Int):=(gt b.dc.AB c).bind λbo=>if t != 0 then
J3 L1 b t c j (t != 1)
else
J3 L1 b t c j false
def J1(L1:j9)(b:AD)(c:Int)(j:j7)(y:Int)(ax:Bool):=if ax then
J2 L1 b c j 1
else
J2 L1 b c j y
def L1(p:AD)(L1:j9)(u:AZ)(b:AD)(c:Int):=if decide (c<(p.df.length:Int))then(Ao u 9).bind λj=>(gt [2,2,2,2,0,1,3,4,5] j.1).bind λy=>if c==0 then
J1 L1 b c j y (y==0)
else
J1 L1 b c j y false
else
J5 u b
def AU(p:AD):Nat->AZ->AD->Int->ABm (AD×AZ)
|0,_,_,_=>none
|n+1,u,b,c=>L1 p (AU p n) u b c
end BA
section
open BA
def BA(z:AZ)(ab:AG):=(E5 ab).bind λp=>AU p BQ z p 0
theorem T2{z:AZ}{ab:AG}{r:AD×AZ}(h:BA z ab=some r):BF prog 82 [bA 2 (Ft z),.agg (A0 ab)] (.agg (Bc r.1)) [bA 2 (Ft r.2),.dead]:=by refine kP mix func82 (hn [(0,[20,46,54,67,84,120,123,128,137,149]),(5,[13,14,30,31,32,36,43,44,49,50,51,52,57,58,60,61,62,68,70,71,72,75,76,88,89,90,94,95,100,101,102,104,105,109,110,111,113,114,124,126,127,131,132,133,134,135,136,139,140,141,146,147,151,153]),(19,[22])] [(24,10)] (Z:=[(13,false,5,[(0,6,0)])])) ?_;have a1:=@JF;have a2:=@DD;have a3:=@aN;have l3:=iJ λn a=>∃(o:AD)(v:AZ)(f:AD)(s:Int),(a 0=bA 2 (Ft v)/\a 4=bA 7 z0/\a 5=bA 7 [vO 2 B3 f.dc.AK,si f.dc.Tx,vO 1 eB f.dc.Bs,vO 3 Ax f.dc.AB,vO 1 eI f.dg,vO 1 eI f.AM,vS 1 eI f.df]/\a 142=si (o.dg.length:Int)/\a 143=si s)/\Fw o n v f s=some r;have l2:=iJ λn b=>∃(l:AD)(w:AZ)(a:AD)(d:Int),(b 0=bA 2 (Ft w)/\b 4=bA 7 z0/\b 5=bA 7 [vO 2 B3 a.dc.AK,si a.dc.Tx,vO 1 eB a.dc.Bs,vO 3 Ax a.dc.AB,vO 1 eI a.dg,vO 1 eI a.AM,vS 1 eI a.df]/\b 63=si (l.dc.AK.length:Int)/\b 64=si d)/\B9 l n w a d=some r;have l1:=iJ λn a=>∃(p:AD)(u:AZ)(b:AD)(c:Int),(a 0=bA 2 (Ft u)/\a 4=bA 7 z0/\a 5=bA 7 (Ia b)/\a 15=si (p.df.length:Int)/\a 16=si c)/\AU p n u b c=some r;have c10:=iR 10 λa=>∃(aa:AZ)(e:AD),(a 0=bA 2 (Ft aa)/\a 4=bA 7 z0/\a 5=bA 7 [vO 2 B3 e.dc.AK,si e.dc.Tx,vO 1 eB e.dc.Bs,vO 3 Ax e.dc.AB,vO 1 eI e.dg,vO 1 eI e.AM,vS 1 eI e.df])/\OE aa e=some r;unfold BA at h;exact walk
end
end Go.Abs
