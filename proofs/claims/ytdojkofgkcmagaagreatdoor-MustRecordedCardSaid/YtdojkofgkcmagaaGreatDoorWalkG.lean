/- Go functions do what typed programs say. -/
import Derived.Test.YtdojkofgkcmagaaGreatDoorWalkD
import Derived.Test.YtdojkofgkcmagaaGreatDoorWalkE
import Derived.Test.YtdojkofgkcmagaaGreatDoorWalkF
import Derived.Shelf.Slices.SearchI
set_option linter.all false
namespace Go.Abs
open Go.Proofs Tryz
set_option maxRecDepth 1000000
set_option maxHeartbeats 4000000
namespace Cz
def J2(l:AP)(j:kf):ABi ((List AU)×AP):=some (j,l)
def J1(L1:na)(R100:lB)(a b:Int)(c:kf)(d:AP)(o:Bool):=if o then(R100 d a).bind λi=>if Ap (c.length+1) 176=true then
L1 i.2 (c++[i.1]) (A8 (b+1))
else none
else
J2 d c
def L1(R100:lB)(a e:Int)(L1:na)(d:AP)(c:kf)(b:Int):=if decide (b<e)then
if b==0 then
J1 L1 R100 a b c d true
else
J1 L1 R100 a b c d (decide (d.left>0))
else
J1 L1 R100 a b c d false
def AR(R100:lB)(a e:Int):Nat->AP->(List AU)->Int->ABi ((List AU)×AP)
|0,_,_,_=>none
|n+1,d,c,b=>L1 R100 a e (AR R100 a e n) d c b
end Cz
variable{j:lB}{f:AP}{d e:Int}{a:(List AU)×AP}
section
open Cz
def Cz(R100:lB)(f:AP)(a e:Int):=AR R100 a e BQ f [] 0
theorem Sy(H100:∀{x0 x1 a},j x0 x1=some a->BM prog 223 [bA 8 (Cy x0),si x1] (.agg [si a.1.Op,si a.1.Gd,B4 a.1.dv,B4 a.1.eT,vS 4 Bc a.1.d8,si a.1.dX.Op,si a.1.dX.N,B4 a.1.dX.dv,vS 4 Bc a.1.dX.L,vS 11 BV a.1.dz,vS 11 BV a.1.ed]) [bA 8 (Cy a.2),.dead])(h:Cz j f d e=some a):BM prog 187 [bA 8 (Cy f),si d,si e] (vO 11 BV a.1) [bA 8 (Cy a.2),.dead,.dead]:=by refine kL mix func187 (hn [(0,[16,17,18,26]),(7,[25,31])]) ?_;have a1:=@H100;have l1:=i4 λn f=>∃r c b,(f 0=bA 8 (Cy r)/\f 1=si d/\f 2=si e/\f 7=vO 11 BV c/\f 8=si b)/\AR j d e n r c b=some a;unfold Cz at h;exact walk
end
namespace BD
def J3(bi:AP)(bj:AU):ABi (AU×AP):=some (bj,bi)
def gN(ad:AP)(bl:Bool):ABi (AU×AP):=if bl then
some ((AU.mk 15 0 (⟨#[97]⟩:ABj) (⟨#[102]⟩:ABj) [] (Ba.mk 0 0 (⟨#[]⟩:ABj) []) [] []),ad)
else(Cm BQ ad 1).bind λbb=>(Fl (⟨#[120]⟩:ABj) bb.1).bind λca=>some (ca,bb.2)
def Qu(e:AP)(b:j9)(z:Bool):ABi (AU×AP):=if z then(Cm BQ (AP.mk e.t e.B7 e.left true e.tx e.ea e.eu e.eb) 1).bind λaz=>some ((AU.mk 14 0 (⟨#[102]⟩:ABj) (⟨#[]⟩:ABj) [] az.1 [] []),az.2)
else
if b.1==17 then
if !e.tx then(Aq e.t 2).bind λba=>gN (AP.mk ba.2 e.B7 e.left e.Ir e.tx e.ea e.eu e.eb) (ba.1==1)
else
gN e false
else
gN e false
def OS(b:j9)(e:AP)(y:Bool):=if y then(Aq e.t 2).bind λay=>some ((AU.mk 4 0 (⟨#[109]⟩:ABj) (⟨#[]⟩:ABj) [] (Ba.mk 0 0 (⟨#[]⟩:ABj) []) [(AU.mk (A8 (10+ay.1)) 0 (⟨#[99]⟩:ABj) (⟨#[]⟩:ABj) [] (Ba.mk 0 0 (⟨#[]⟩:ABj) []) [] [])] []),(AP.mk ay.2 e.B7 e.left e.Ir e.tx e.ea e.eu e.eb))
else
if b.1==16 then
if !e.tx then
if !e.eu then
Qu e b (!e.Ir)
else
Qu e b false
else
Qu e b false
else
Qu e b false
def J9(c:Bool)(b:j9)(q:AP)(x:Bool):=if x then(Jn (⟨#[120]⟩:ABj)).bind λbx=>(Fl (⟨#[97]⟩:ABj) bx).bind λbz=>some ((AU.mk 4 0 (⟨#[109]⟩:ABj) (⟨#[]⟩:ABj) [] (Ba.mk 0 0 (⟨#[]⟩:ABj) []) [(AU.mk 9 0 (⟨#[99]⟩:ABj) (⟨#[]⟩:ABj) [] (Ba.mk 0 0 (⟨#[]⟩:ABj) []) [] []),bz] []),q)
else
if b.1==15 then
if c then(EV q (⟨#[109]⟩:ABj)).bind λax=>OS b ax.2 (!ax.1)
else
OS b q false
else
OS b q false
def J8(R102:jy)(d:Int)(f:AP)(c:Bool)(b:j9)(w:Bool):=if w then(R102 (AP.mk f.t f.B7 f.left f.Ir f.tx true f.eu f.eb) (A8 (d-1)) 2).bind λp=>some ((AU.mk 8 0 (⟨#[]⟩:ABj) (⟨#[]⟩:ABj) [] (Ba.mk 0 0 (⟨#[]⟩:ABj) []) p.1 []),(AP.mk p.2.t p.2.B7 p.2.left p.2.Ir p.2.tx false p.2.eu p.2.eb))
else
if b.1==14 then
if c then
if !f.ea then(EV f (⟨#[109]⟩:ABj)).bind λav=>J9 c b av.2 (!av.1)
else
J9 c b f false
else
J9 c b f false
else
J9 c b f false
def J7(R102:jy)(d:Int)(f:AP)(c:Bool)(b:j9)(v:Bool):=if v then(Aq f.t 2).bind λau=>(R102 (AP.mk au.2 f.B7 f.left f.Ir true f.ea f.eu f.eb) 0 (A8 (1+au.1))).bind λo=>some ((AU.mk 7 0 (⟨#[]⟩:ABj) (⟨#[]⟩:ABj) [] (Ba.mk 0 0 (⟨#[]⟩:ABj) []) o.1 []),(AP.mk o.2.t o.2.B7 o.2.left o.2.Ir false o.2.ea o.2.eu o.2.eb))
else
if b.1==13 then
if c then
J8 R102 d f c b (!f.ea)
else
J8 R102 d f c b false
else
J8 R102 d f c b false
def J6(R101:kp)(R102:jy)(d:Int)(c:Bool)(b:j9)(f:AP)(u:Bool):=if u then(R101 f (⟨#[114]⟩:ABj) (A8 (d-1))).bind λaq=>some ((AU.mk (A8 ((A8 (b.1-10))+5)) 0 (⟨#[114]⟩:ABj) (⟨#[]⟩:ABj) [] (Ba.mk 0 0 (⟨#[]⟩:ABj) []) aq.1 []),aq.2)
else
if b.1==12 then
J7 R102 d f c b c
else
J7 R102 d f c b false
def J5(R101:kp)(R102:jy)(d:Int)(c:Bool)(b:j9)(j:AP)(t:Bool):=if t then(gt [(⟨#[109]⟩:ABj),(⟨#[110]⟩:ABj)] (A8 (b.1-8))).bind λbf=>(R101 j bf (A8 (d-1))).bind λal=>some ((AU.mk 4 0 bf (⟨#[]⟩:ABj) [] (Ba.mk 0 0 (⟨#[]⟩:ABj) []) al.1 []),al.2)
else
if b.1==10 then
if c then(EV j (⟨#[114]⟩:ABj)).bind λao=>J6 R101 R102 d c b ao.2 (!ao.1)
else
J6 R101 R102 d c b j false
else
if b.1==11 then
if c then(EV j (⟨#[114]⟩:ABj)).bind λap=>J6 R101 R102 d c b ap.2 (!ap.1)
else
J6 R101 R102 d c b j false
else
J6 R101 R102 d c b j false
def J4(R101:kp)(R102:jy)(d:Int)(a:AP)(c:Bool)(b:j9)(s:Bool):=if s then(Jn (⟨#[98]⟩:ABj)).bind λbo=>(K5 2).bind λbp=>(JZ 13 bo bp).bind λbq=>(R102 (AP.mk b.2 a.B7 (A8 (a.left-1)) a.Ir a.tx a.ea true a.eb) (A8 (d-1)) 1).bind λl=>(Jn (⟨#[98]⟩:ABj)).bind λbs=>(K5 1).bind λbt=>(JZ 6 bs bt).bind λbu=>(Fl (⟨#[98]⟩:ABj) bu).bind λbv=>if Ap (l.1.length+1) 176=true then
some ((AU.mk 3 0 (⟨#[]⟩:ABj) (⟨#[]⟩:ABj) [] bq (l.1++[bv]) []),(AP.mk l.2.t l.2.B7 l.2.left l.2.Ir l.2.tx l.2.ea a.eu l.2.eb))
else none
else
if b.1==8 then
if c then(gt [(⟨#[109]⟩:ABj),(⟨#[110]⟩:ABj)] (A8 (b.1-8))).bind λce=>(EV (AP.mk b.2 a.B7 (A8 (a.left-1)) a.Ir a.tx a.ea a.eu a.eb) ce).bind λai=>J5 R101 R102 d c b ai.2 (!ai.1)
else
J5 R101 R102 d c b (AP.mk b.2 a.B7 (A8 (a.left-1)) a.Ir a.tx a.ea a.eu a.eb) false
else
if b.1==9 then
if c then(gt [(⟨#[109]⟩:ABj),(⟨#[110]⟩:ABj)] (A8 (b.1-8))).bind λcf=>(EV (AP.mk b.2 a.B7 (A8 (a.left-1)) a.Ir a.tx a.ea a.eu a.eb) cf).bind λaj=>J5 R101 R102 d c b aj.2 (!aj.1)
else
J5 R101 R102 d c b (AP.mk b.2 a.B7 (A8 (a.left-1)) a.Ir a.tx a.ea a.eu a.eb) false
else
J5 R101 R102 d c b (AP.mk b.2 a.B7 (A8 (a.left-1)) a.Ir a.tx a.ea a.eu a.eb) false
def J2(R101:kp)(R102:jy)(d:Int)(a:AP)(c:Bool)(b:j9)(aa:Bool):=if aa then(Cm BQ (AP.mk b.2 a.B7 (A8 (a.left-1)) a.Ir a.tx a.ea a.eu a.eb) 1).bind λac=>(R102 ac.2 (A8 (d-1)) 1).bind λi=>(Aq i.2.t 2).bind λab=>if ab.1==1 then(R102 (AP.mk ab.2 i.2.B7 i.2.left i.2.Ir i.2.tx i.2.ea i.2.eu i.2.eb) (A8 (d-1)) 1).bind λaf=>J3 af.2 (AU.mk 2 0 (⟨#[]⟩:ABj) (⟨#[]⟩:ABj) [] ac.1 i.1 af.1)
else
J3 (AP.mk ab.2 i.2.B7 i.2.left i.2.Ir i.2.tx i.2.ea i.2.eu i.2.eb) (AU.mk 2 0 (⟨#[]⟩:ABj) (⟨#[]⟩:ABj) [] ac.1 i.1 [])
else
if b.1==7 then
J4 R101 R102 d a c b (decide (d>0))
else
J4 R101 R102 d a c b false
def J1(R101:kp)(R102:jy)(d:Int)(a:AP)(b:j9)(c:Bool):=if decide (b.1<4)then(gt [(⟨#[120]⟩:ABj),(⟨#[121]⟩:ABj),(⟨#[120]⟩:ABj),(⟨#[118]⟩:ABj)] b.1).bind λcc=>(Cm BQ (AP.mk b.2 a.B7 (A8 (a.left-1)) a.Ir a.tx a.ea a.eu a.eb) 1).bind λae=>(Fl cc ae.1).bind λbw=>some (bw,ae.2)
else
if b.1==4 then(Aq b.2 2).bind λaw=>(gt [(⟨#[97]⟩:ABj),(⟨#[98]⟩:ABj)] aw.1).bind λcd=>(Cm BQ (AP.mk aw.2 a.B7 (A8 (a.left-1)) a.Ir a.tx a.ea a.eu a.eb) 1).bind λbc=>(Fl cd bc.1).bind λcb=>some (cb,bc.2)
else
if b.1==5 then(Cm BQ (AP.mk b.2 a.B7 (A8 (a.left-1)) a.Ir a.tx a.ea a.eu a.eb) 0).bind λbd=>(Cm BQ bd.2 1).bind λbe=>some ((AU.mk 1 0 (⟨#[113]⟩:ABj) (⟨#[]⟩:ABj) [bd.1] be.1 [] []),be.2)
else
if b.1==6 then
J2 R101 R102 d a c b (decide (d>0))
else
J2 R101 R102 d a c b false
end BD
variable{i:kp}{b:jy}{c:AU×AP}
section
open BD
def BD(R101:kp)(R102:jy)(a:AP)(d:Int):=(Aq a.t 18).bind λb=>if decide (d>0)then
if decide ((A8 (a.left-1))>0)then
J1 R101 R102 d a b (!a.tx)
else
J1 R101 R102 d a b false
else
J1 R101 R102 d a b false
theorem UF(H101:∀{x0 x1 x2 c},i x0 x1 x2=some c->BM prog 258 [bA 8 (Cy x0),B4 x1,si x2] (vO 11 BV c.1) [bA 8 (Cy c.2),.dead,.dead])(H102:∀{x0 x1 x2 c},b x0 x1 x2=some c->BM prog 187 [bA 8 (Cy x0),si x1,si x2] (vO 11 BV c.1) [bA 8 (Cy c.2),.dead,.dead])(h:BD i b f d=some c):BM prog 223 [bA 8 (Cy f),si d] (.agg [si c.1.Op,si c.1.Gd,B4 c.1.dv,B4 c.1.eT,vS 4 Bc c.1.d8,si c.1.dX.Op,si c.1.dX.N,B4 c.1.dX.dv,vS 4 Bc c.1.dX.L,vS 11 BV c.1.dz,vS 11 BV c.1.ed]) [bA 8 (Cy c.2),.dead]:=by refine kP mix func223 (hn [(0,[13,14,15,18,19,20,21,22,23,28,29,30,35,36,37,48,55,56,57,58,68,71,81,83,88,89,90,91,94,107,108,109,111,112,113,117,128,130,131,144,159,176,183,194,195,196,197,198,199,200,201,206,207,208,217,218,219,223,224,225,226,231,232,233,242,243,244,249,265,269,270,271,272,282,283,284,289,290,291,296,297,298,302,303,304,305,312,313,314,319,320,321,322,327]),(7,[98,99]),(9,[132]),(11,[209]),(12,[234]),(44,[46]),(54,[60]),(145,[148]),(153,[156])] [(3,1),(11,2),(16,4),(22,5),(25,6),(27,7),(32,8),(37,9),(39,10),(41,11)] (E:=[(7,(.l7 [(0,8,9,62)] [⟨some ⟨54,[60],[]⟩,.Ox 1 [[B4 ⟨#[]⟩],[B4 ⟨#[]⟩]] [(0,.c (B4 ⟨#[97]⟩)),(1,.c (B4 ⟨#[98]⟩))],none⟩,i1 55 0 (.cp (.t 0)),i1 56 0 (.JQ (.t 55)),Ko 57 0 0 56,We 58 0 57,i0 59 (.W0 132 [] (.t 58) none [.c (si 2)]),xN 60 54 1 54 59,iL 61 60,i0 62 .fl,i0 63 (.W0 254 [] (.t 0) none [.c (si 1)]),i0 64 (.call 188 [.t 61,.t 63] 1),iS 11 4 64]))])) ?_;have a1:=@Dj;have a2:=@Sw;have a3:=@RF;have a4:=@H102;have a5:=@VP;have a6:=@RJ;have a7:=@RG;have a8:=@H101;have a9:=@Sx;have c11:=i5 11 λf=>∃(e:AP)(R102:j9)(z:Bool),(f 0=bA 8 (Cy e)/\f 4=bA 11 z1/\f 5=si R102.1/\f 278=sb z)/\Qu e R102 z=some c;have c10:=i5 10 λf=>∃(R102:j9)(e:AP)(y:Bool),(f 0=bA 8 (Cy e)/\f 4=bA 11 z1/\f 5=si R102.1/\f 258=sb y)/\OS R102 e y=some c;have c9:=i5 9 λf=>∃(r:Bool)(R102:j9)(q:AP)(x:Bool),(f 0=bA 8 (Cy q)/\f 4=bA 11 z1/\f 5=si R102.1/\f 6=sb r/\f 235=sb x)/\J9 r R102 q x=some c;have c8:=i5 8 λf=>∃(a:AP)(r:Bool)(R102:j9)(w:Bool),(f 0=bA 8 (Cy a)/\f 1=si d/\f 4=bA 11 z1/\f 5=si R102.1/\f 6=sb r/\f 210=sb w)/\J8 b d a r R102 w=some c;have c7:=i5 7 λf=>∃(a:AP)(r:Bool)(R102:j9)(v:Bool),(f 0=bA 8 (Cy a)/\f 1=si d/\f 4=bA 11 z1/\f 5=si R102.1/\f 6=sb r/\f 188=sb v)/\J7 b d a r R102 v=some c;have c6:=i5 6 λf=>∃(r:Bool)(R102:j9)(a:AP)(u:Bool),(f 0=bA 8 (Cy a)/\f 1=si d/\f 4=bA 11 z1/\f 5=si R102.1/\f 6=sb r/\f 165=sb u)/\J6 i b d r R102 a u=some c;have c5:=i5 5 λf=>∃(r:Bool)(R102:j9)(j:AP)(t:Bool),(f 0=bA 8 (Cy j)/\f 1=si d/\f 4=bA 11 z1/\f 5=si R102.1/\f 6=sb r/\f 133=sb t)/\J5 i b d r R102 j t=some c;have c4:=i5 4 λe=>∃(r:Bool)(R102:j9)(s:Bool),(e 0=bA 8 [bA 2 (Gg R102.2),si f.B7,si (A8 (f.left-1)),sb f.Ir,sb f.tx,sb f.ea,sb f.eu,vO 1 eS f.eb]/\e 1=si d/\e 4=bA 11 z1/\e 5=si R102.1/\e 6=sb r/\e 100=sb s)/\J4 i b d f r R102 s=some c;have c2:=i5 2 λe=>∃(r:Bool)(R102:j9)(aa:Bool),(e 0=bA 8 [bA 2 (Gg R102.2),si f.B7,si (A8 (f.left-1)),sb f.Ir,sb f.tx,sb f.ea,sb f.eu,vO 1 eS f.eb]/\e 1=si d/\e 4=bA 11 z1/\e 5=si R102.1/\e 6=sb r/\e 74=sb aa)/\J2 i b d f r R102 aa=some c;have c1:=i5 1 λe=>∃(R102:j9)(r:Bool),(e 0=bA 8 [bA 2 (Gg R102.2),si f.B7,si (A8 (f.left-1)),sb f.Ir,sb f.tx,sb f.ea,sb f.eu,vO 1 eS f.eb]/\e 1=si d/\e 4=bA 11 z1/\e 5=si R102.1/\e 6=sb r)/\J1 i b d f R102 r=some c;unfold BD at h;exact walk
end
def Io(R102:jy)(b:AP)(d:ABj)(c:Int):ABi ((List AU)×AP):=if Ap (b.eb.length+1) 16=true then(Aq b.t 2).bind λe=>(R102 (AP.mk e.2 b.B7 b.left b.Ir b.tx b.ea b.eu (b.eb++[d])) c (A8 (1+e.1))).bind λa=>if 0<=(A8 ((a.2.eb.length:Int)-1))/\((A8 ((a.2.eb.length:Int)-1)).toNat)<=a.2.eb.length then
some (a.1,(AP.mk a.2.t a.2.B7 a.2.left a.2.Ir a.2.tx a.2.ea a.2.eu (a.2.eb.take ((A8 ((a.2.eb.length:Int)-1)).toNat))))
else none
else none
theorem Su(H102:∀{x0 x1 x2 a},b x0 x1 x2=some a->BM prog 187 [bA 8 (Cy x0),si x1,si x2] (vO 11 BV a.1) [bA 8 (Cy a.2),.dead,.dead]){d:ABj}(h:Io b f d e=some a):BM prog 258 [bA 8 (Cy f),B4 d,si e] (vO 11 BV a.1) [bA 8 (Cy a.2),.dead,.dead]:=by refine kL mix func258 (hn [(0,[8,9,10,11,12,16,17,18,20,21,22,23,28,29,30,31,32,33,34,35,39,40]),(7,[41])] (E:=[(3,(.l7 [(0,0,12,27)] [i0 27 .fl,i1 28 0 (.cp (.t 0)),i1 29 0 (.JQ (.t 28)),Ko 30 0 7 29,We 31 0 30,i1 32 0 (.cp (.t 0)),i1 33 0 (.JQ (.t 32)),Ko 34 0 7 33,We 35 0 34,iZ 36 35,iP 37 .sub 36 1,i0 38 (.slc 1 false (.t 31) none (some (.t 37)) none),i1 39 0 (.JQ (.t 0)),Ko 40 0 7 39,iS 1 40 38]))])) ?_;have a1:=@Dj;have a2:=@H102;unfold Io at h;exact walk
def GD:Nat->(AP->Int->Int->ABi ((List AU)×AP))×(AP->Int->ABi (AU×AP))×(AP->ABj->Int->ABi ((List AU)×AP))
|0=>((λ_ _ _=>none),(λ_ _=>none),(λ_ _ _=>none))
|n+1=>(Cz ((GD n).2.1),BD ((GD n).2.2) ((GD n).1),Io ((GD n).1))
def Ec(n:Nat):AP->Int->Int->ABi ((List AU)×AP):=(GD n).1
def Gn(n:Nat):AP->Int->ABi (AU×AP):=(GD n).2.1
def K4(n:Nat):AP->ABj->Int->ABi ((List AU)×AP):=(GD n).2.2
theorem RH(n:Nat):(∀{x0 x1 x2 r},(Ec n) x0 x1 x2=some r->BM prog 187 [bA 8 (Cy x0),si x1,si x2] (.own false 11 (r.1.map BV)) [bA 8 (Cy r.2),.dead,.dead])/\(∀{x0 x1 r},(Gn n) x0 x1=some r->BM prog 223 [bA 8 (Cy x0),si x1] (.agg [si r.1.Op,si r.1.Gd,B4 r.1.dv,B4 r.1.eT,vS 4 Bc r.1.d8,si r.1.dX.Op,si r.1.dX.N,B4 r.1.dX.dv,vS 4 Bc r.1.dX.L,vS 11 BV r.1.dz,vS 11 BV r.1.ed]) [bA 8 (Cy r.2),.dead])/\(∀{x0 x1 x2 r},(K4 n) x0 x1 x2=some r->BM prog 258 [bA 8 (Cy x0),B4 x1,si x2] (.own false 11 (r.1.map BV)) [bA 8 (Cy r.2),.dead,.dead]):=by induction n with|zero=>exact⟨λh=>DT h,λh=>DT h,λh=>DT h⟩|succ n ih=>exact⟨λh=>Sy ih.2.1 h,λh=>UF ih.2.2 ih.1 h,λh=>Su ih.1 h⟩
variable{g:Nat}
def RI:∀{x0 x1 x2 r},(Ec g) x0 x1 x2=some r->BM prog 187 [bA 8 (Cy x0),si x1,si x2] (.own false 11 (r.1.map BV)) [bA 8 (Cy r.2),.dead,.dead]:=(RH g).1
def f91c:eN:=(.seq (.ic (Rc 0 [.b 2 [16,29,43,47] (.bx 6 (.t 0)),.B 4 false]))
(.seq (.ic (Rc 0 [.b 5 [13,23,36,42,46,51,55] (.mv (.c (.own false 1 [])))]))
(.seq (.ic (Rc 13 [.y 5 (.cp (.t 5)),.C 1,.o (.app 1 16 (.t 13) (.t 14)),.b 5 [13,23,36,42,46,51,55] (.mv (.t 15))]))
(qB (.ic (Ra 16 [.f 1 2,.Z 17,.Y 0]
(Bl 0 (Ra 20 [.O .lss 19 18]
(Sq (cX 20 0)
(Sq (Bk 1 (Ra 21 [.I 2 17 19,.A 2 21,.b 7 [24] (.bx 2 (.c (.agg [B4 ⟨#[]⟩,sb false]))),.S 2 7 22]
(Rc 23 [.y 5 (.cp (.t 5)),.f 0 7,.o (.Ox 1 [[B4 ⟨#[]⟩]] [(0,.t 25)]),.o (.app 1 16 (.t 23) (.t 26)),.b 5 [13,23,36,42,46,51,55] (.mv (.t 27))])))
(Rc 28 [.P .add 19 1,.w 19,.C 28])))))))
(qB (.ic (Ra 29 [.f 2 2,.Z 30,.Y 0]
(Bl 2 (Ra 33 [.O .lss 32 31]
(Sq (cX 33 2)
(Sq (Bk 3 (Ra 34 [.I 2 30 32,.A 2 34,.b 9 [37] (.bx 2 (.c (.agg [B4 ⟨#[]⟩,si 0]))),.S 2 9 35]
(Rc 36 [.y 5 (.cp (.t 5)),.f 0 9,.o (.Ox 1 [[B4 ⟨#[]⟩]] [(0,.t 38)]),.o (.app 1 16 (.t 36) (.t 39)),.b 5 [13,23,36,42,46,51,55] (.mv (.t 40))])))
(Rc 41 [.P .add 32 1,.w 32,.C 41])))))))
(.seq (.ic (Rc 42 [.y 5 (.cp (.t 5)),.f 3 2,.o (.app 1 16 (.t 42) (.t 44)),.b 5 [13,23,36,42,46,51,55] (.mv (.t 45))]))
(.seq (.ic (Rc 46 [.y 5 (.cp (.t 5)),.f 4 2,.o (.app 1 16 (.t 46) (.t 48)),.b 5 [13,23,36,42,46,51,55] (.mv (.t 49))]))
(.seq (.fK [.mkm ⟨50,[],[]⟩,.x (.o ⟨some ⟨10,[],[]⟩,.mv (.t 50),none⟩)])
(qB (.seq (.ic (Rc 51 [.y 5 (.cp (.t 5)),.Z 51,.Y 0]))
(.block 4 (.loop (.seq (.ic (Rc 54 [.O .lss 53 52]))
(.seq (.ic (cX 54 4))
(.seq (.block 5 (.seq (.ic (Rc 55 [.J 5 1 51 53,.L 55,.M 12 56]))
(.seq (qB (.fK [.x (.o ⟨some ⟨57,[],[]⟩,.cp (.t 12),none⟩),.x (.o ⟨some ⟨58,[],[]⟩,.call 142 [.t 57] 0,none⟩),.x (.o ⟨some ⟨59,[],[]⟩,.un .not (.t 58),none⟩),.x (.o ⟨some ⟨60,[],[]⟩,.cp (.t 59),none⟩),.x (.o ⟨some ⟨61,[],[]⟩,.cp (.t 10),some (60,false)⟩),.x (.o ⟨some ⟨62,[],[]⟩,.cp (.t 12),some (60,false)⟩),.lkp (some (60,false)) ⟨63,[],[]⟩ (.t 61) (.t 62),.x (.o ⟨some ⟨64,[],[]⟩,.pick (.t 60) (.c (sb true)) (.t 63),none⟩)])
(.ic (Ci 64 (Rb 0 [.B 4 false]))))
(.fK [.x (.o ⟨some ⟨65,[],[]⟩,.cp (.t 10),none⟩),.x (.o ⟨some ⟨66,[],[]⟩,.cp (.t 12),none⟩),.mup (.t 65) (.t 66) (.c (sb true))]))))
(.ic (Rc 67 [.P .add 53 1,.w 53,.C 67]))))))))
(.ic (Rb 0 [.B 4 true])))))))))))
def f91g:Gi:=⟨[(13,[5]),(16,[2]),(23,[5]),(24,[7]),(29,[2]),(36,[5]),(37,[9]),(42,[5]),(43,[2]),(46,[5]),(47,[2]),(51,[5]),(55,[5])]⟩
def f91r:List RV:=[.tmp 4]
def f91:FIM:=⟨f91c,f91g,f91r⟩
theorem chk91:zR prog Tryz.f91 f91:=by kernel_rfl
namespace Be
def J4(seen:jt):=some true
def J3(L3:Int->(List ABj)->ABi Bool)(seen:jt)(WO:Int)(x_2:ABj)(t64v:Bool):=if t64v then
some false
else
if(seen.any λh=>h==x_2)=false then
L3 (A8 (WO+1)) (seen++[x_2])
else none
def L3(Ku:jt)(wv:AG)(L3:Int->(List ABj)->ABi Bool)(WO:Int)(seen:jt):=if decide (WO<(((Ku++wv.AL)++wv.AA).length:Int))then(gt ((Ku++wv.AL)++wv.AA) WO).bind λx_2=>(DX x_2).bind λv=>if !v then
J3 L3 seen WO x_2 true
else
J3 L3 seen WO x_2 (seen.any λh=>h==x_2)
else
J4 seen
def E3(Ku:jt)(wv:AG):Nat->Int->(List ABj)->ABi Bool
|0,_,_=>none
|n+1,WO,seen=>L3 Ku wv (E3 Ku wv n) WO seen
def J2(wv:AG)(Ku:jt):=if Ap (Ku.length+wv.AL.length) 16=true then
if Ap ((Ku++wv.AL).length+wv.AA.length) 16=true then
E3 Ku wv BQ 0 []
else none
else none
def L2(wv:AG)(L2:(List ABj)->Int->ABi Bool)(Um:jt)(nT:Int):=if decide (nT<(wv.Al.length:Int))then(gt wv.Al nT).bind λPV=>if Ap (Um.length+1) 16=true then
L2 (Um++[PV.dv]) (A8 (nT+1))
else none
else
J2 wv Um
def Bs(wv:AG):Nat->(List ABj)->Int->ABi Bool
|0,_,_=>none
|n+1,Um,nT=>L2 wv (Bs wv n) Um nT
def J1(wv:AG)(pF:jt):=Bs wv BQ pF 0
def L1(wv:AG)(L1:(List ABj)->Int->ABi Bool)(all:jt)(nS:Int):=if decide (nS<(wv.AK.length:Int))then(gt wv.AK nS).bind λx=>if Ap (all.length+1) 16=true then
L1 (all++[x.dv]) (A8 (nS+1))
else none
else
J1 wv all
def AR(wv:AG):Nat->(List ABj)->Int->ABi Bool
|0,_,_=>none
|n+1,all,nS=>L1 wv (AR wv n) all nS
end Be
section
open Be
def Be(wv:AG)(variables:jt):=if Ap (variables.length) 16=true then
AR wv BQ variables 0
else none
theorem Qf{wv:AG}{variables:jt}{r:Bool}(h:Be wv variables=some r):Says prog 91 [.agg (A5 wv),vS 1 eS variables] (sb r):=by
 refine sJ mix func91 chk91 (AAQ (by kernel_rfl)) rfl ?_;simp only[f91,f91c,f91g,f91r];obtain⟨_,h⟩:=cS h;try simp +decide only[go_sem, *]
 refine qC (λk l=>∃pF:List ABj,(k 2=bA 6 (A5 wv)/\k 5=vO 1 eS pF)/\J1 wv pF=some r) λM1 hM1=>⟨?_,?_⟩
 . (try simp +decide only[go_sem, *]);refine NK (λn k=>∃all:List ABj,∃nS:Int,(k 2=bA 6 (A5 wv)/\k 5=vO 1 eS all/\k 17=vS 2 Ix wv.AK/\k 18=si (wv.AK.length:Int)/\k 19=si nS)/\AR wv n all nS=some r) ⟨_,_,?_,h⟩ λn1 τ1 N1=>?_;simp +decide only[go_sem, *];rintro⟨all,nS,s1,h⟩ hN1;cases n1 with|zero=>exact DT h|succ n1=>rw[AR]at h;generalize hL1:AR wv n1=L1 at h;(try simp +decide only[go_sem, *]);refine cI h (λ_ h=>?_) λ_ h=>?_;(. obtain⟨x,_,h⟩:=gB h;obtain⟨_,h⟩:=cS h;(try simp +decide only[go_sem, *]);refine hN1 n1 (Nat.lt_succ_self _) _ ⟨_,_,?_,hL1.symm▸h⟩;simp +decide only[go_sem, *]);(try simp +decide only[go_sem, *]);refine hM1 _ _ ⟨_,?_,h⟩;simp +decide only[go_sem, *]
 rintro τ1 ν1 ⟨pF,s1,h⟩;try simp +decide only[go_sem, *]
 refine qC (λk l=>∃Ku:List ABj,(k 2=bA 6 (A5 wv)/\k 5=vO 1 eS Ku)/\J2 wv Ku=some r) λM2 hM2=>⟨?_,?_⟩
 . (try simp +decide only[go_sem, *]);refine NK (λn k=>∃Um:List ABj,∃nT:Int,(k 2=bA 6 (A5 wv)/\k 5=vO 1 eS Um/\k 30=vS 2 Iw wv.Al/\k 31=si (wv.Al.length:Int)/\k 32=si nT)/\Bs wv n Um nT=some r) ⟨_,_,?_,h⟩ λn2 τ2 N2=>?_;simp +decide only[go_sem, *];rintro⟨Um,nT,s2,h⟩ hN2;cases n2 with|zero=>exact DT h|succ n2=>rw[Bs]at h;generalize hL2:Bs wv n2=L2 at h;(try simp +decide only[go_sem, *]);refine cI h (λ_ h=>?_) λ_ h=>?_;(. obtain⟨PV,_,h⟩:=gB h;obtain⟨_,h⟩:=cS h;(try simp +decide only[go_sem, *]);refine hN2 n2 (Nat.lt_succ_self _) _ ⟨_,_,?_,hL2.symm▸h⟩;simp +decide only[go_sem, *]);(try simp +decide only[go_sem, *]);refine hM2 _ _ ⟨_,?_,h⟩;simp +decide only[go_sem, *]
 rintro τ2 ν2 ⟨Ku,s2,h⟩;obtain⟨_,h⟩:=cS h;obtain⟨_,h⟩:=cS h;try simp +decide only[go_sem, *]
 intro b1 hb1;try simp +decide only[go_sem, *]
 refine qC (λk l=>∃seen:List ABj,(l b1=some (.mp (seen.map tv)))/\J4 seen=some r) λM4 hM4=>⟨?_,?_⟩
 . (try simp +decide only[go_sem, *]);refine loopMH (λn k l=>∃WO:Int,∃seen:List ABj,(k 5=.own false 1 (((Ku++wv.AL)++wv.AA).map eS)/\k 10=.sc (.map (some b1))/\k 51=.al 5 []/\k 52=si (((Ku++wv.AL)++wv.AA).length:Int)/\k 53=si WO/\l b1=some (.mp (seen.map tv)))/\E3 Ku wv n WO seen=some r) ⟨_,_,?_,h⟩ λn3 τ3 ν3 N3=>?_;simp +decide only[go_sem, *];rintro⟨WO,seen,s3,h⟩ hN3;cases n3 with|zero=>exact DT h|succ n3=>rw[E3]at h;generalize hL3:E3 Ku wv n3=L3 at h;(try simp +decide only[go_sem, *]);refine cI h (λ_ h=>?_) λ_ h=>?_;(. obtain⟨x_2,_,h⟩:=gB h;(try simp +decide only[go_sem, *]);refine qC (λk l=>∃t64v:Bool,(k 5=.own false 1 (((Ku++wv.AL)++wv.AA).map eS)/\k 10=.sc (.map (some b1))/\k 12=B4 x_2/\k 51=.al 5 []/\k 52=si (((Ku++wv.AL)++wv.AA).length:Int)/\k 53=si WO/\k 64=sb t64v/\l b1=some (.mp (seen.map tv)))/\J3 L3 seen WO x_2 t64v=some r) λM3 hM3=>⟨?_,?_⟩;(. obtain⟨v,g9,h⟩:=bS h;(try simp +decide only[go_sem, *]);refine⟨_,Yx g9,?_⟩;(try simp +decide only[go_sem, *]);refine gI h (λ_ h=>?_) λ_ h=>?_;(. (try simp +decide only[go_sem, *]);refine hM3 _ _ ⟨_,?_,h⟩;simp +decide only[go_sem, *]);(try simp +decide only[go_sem, *]);refine hM3 _ _ ⟨_,?_,h⟩;simp +decide only[go_sem, *]);rintro τ3 ν3 ⟨t64v,s3,h⟩;(try simp +decide only[go_sem, *]);refine cI h (λ_ h=>?_) λ_ h=>?_;obtain rfl:=AAK h;simp +decide only[go_sem, *];obtain⟨_,h⟩:=cS h;(try simp +decide only[go_sem, *]);refine hN3 n3 (Nat.lt_succ_self _) _ _ ⟨_,_,?_,hL3.symm▸h⟩;simp +decide only[go_sem, *]);(try simp +decide only[go_sem, *]);refine hM4 _ _ ⟨_,?_,h⟩;simp +decide only[go_sem, *]
 rintro τ4 ν4 ⟨seen,s4,h⟩;obtain rfl:=AAK h;simp +decide only[go_sem, *]
end
namespace Ao
def gN(bb:AZ)(aw:AD):ABi (AD×AZ):=some (aw,bb)
def L3(o:AD)(L3:ki)(v:AZ)(f:AD)(s:Int):=if decide (s<(o.di.length:Int))then(Aq v 3).bind λae=>(gt f.di s).bind λbt=>L3 ae.2 (AD.mk f.df (f.di.set s.toNat ae.1) f.AL f.dh) (A8 (s+1))
else
gN v f
def E3(o:AD):Nat->AZ->AD->Int->ABi (AD×AZ)
|0,_,_,_=>none
|n+1,v,f,s=>L3 o (E3 o n) v f s
def Qu(bi:AZ)(o:AD):=E3 o BQ bi o 0
def OS(aa:AZ)(e:AD):=(Aq aa 3).bind λad=>if ad.1==2 then(gt e.df.Br 0).bind λbq=>(Aq ad.2 3).bind λao=>(gt e.AL 0).bind λbs=>Qu ao.2 (AD.mk (AQ.mk e.df.AK e.df.Tx (e.df.Br.set 0 true) e.df.AA) e.di (e.AL.set 0 ao.1) e.dh)
else
Qu ad.2 e
def J9(bf:AZ)(q:AD):=(Aq bf 3).bind λac=>if ac.1==2 then(Hh ac.2 q.df.Tx q.dh).bind λal=>OS al.2 (AD.mk (AQ.mk q.df.AK al.1 q.df.Br q.df.AA) q.di q.AL q.dh)
else
OS ac.2 q
def J8(L2:ki)(d:Int)(be:AZ)(av:AD):=L2 be av (A8 (d+1))
def J7(L2:ki)(a:AD)(d:Int)(x:AZ)(i:j9)(ba:Bool):=if ba then
J8 L2 d x a
else(gt a.df.AK d).bind λbl=>J8 L2 d x (AD.mk (AQ.mk (a.df.AK.set d.toNat (AW.mk i.1 bl.Am)) a.df.Tx a.df.Br a.df.AA) a.di a.AL a.dh)
def J6(L2:ki)(a:AD)(d:Int)(i:j9)(x:AZ)(az:Bool):=if az then(gt a.df.AK d).bind λbj=>J8 L2 d x (AD.mk (AQ.mk (a.df.AK.set d.toNat (AW.mk bj.B6 [i.1])) a.df.Tx a.df.Br a.df.AA) a.di a.AL a.dh)
else
if d==0 then(gt a.df.AA i.1).bind λaq=>if aq.dm==3 then
J7 L2 a d x i true
else
J7 L2 a d x i (aq.dm==4)
else
J7 L2 a d x i false
def L2(l:AD)(L2:ki)(w:AZ)(a:AD)(d:Int):=if decide (d<(l.df.AK.length:Int))then(Hh w a.df.Tx a.dh).bind λi=>if decide (i.1<0)then
J8 L2 d i.2 a
else
if d==2 then(Aq i.2 2).bind λaj=>J6 L2 a d i aj.2 (aj.1==1)
else
J6 L2 a d i i.2 false
else
J9 w a
def Bs(l:AD):Nat->AZ->AD->Int->ABi (AD×AZ)
|0,_,_,_=>none
|n+1,w,a,d=>L2 l (Bs l n) w a d
def J5(bd:AZ)(l:AD):=Bs l BQ bd l 0
def J4(L1:ki)(c:Int)(bc:AZ)(au:AD):=L1 bc au (A8 (c+1))
def J3(L1:ki)(b:AD)(t c:Int)(j:j9)(ay:Bool):=if ay then(Aq j.2 3).bind λaf=>(gt b.dh c).bind λbp=>(Aq af.2 4).bind λai=>(gt (b.df.AA.set c.toNat (AM.mk t 0 false)) c).bind λap=>J4 L1 c ai.2 (AD.mk (AQ.mk b.df.AK b.df.Tx b.df.Br ((b.df.AA.set c.toNat (AM.mk t 0 false)).set c.toNat (AM.mk ap.dm ap.D7 (ai.1==3)))) b.di b.AL (b.dh.set c.toNat (A8 (1+af.1))))
else
J4 L1 c j.2 (AD.mk (AQ.mk b.df.AK b.df.Tx b.df.Br (b.df.AA.set c.toNat (AM.mk t 0 false))) b.di b.AL b.dh)
def J2(L1:ki)(b:AD)(c:Int)(j:j9)(t:Int):=(gt b.df.AA c).bind λbo=>if t != 0 then
J3 L1 b t c j (t != 1)
else
J3 L1 b t c j false
def J1(L1:ki)(b:AD)(c:Int)(j:j9)(y:Int)(ax:Bool):=if ax then
J2 L1 b c j 1
else
J2 L1 b c j y
def L1(p:AD)(L1:ki)(u:AZ)(b:AD)(c:Int):=if decide (c<(p.dh.length:Int))then(Aq u 9).bind λj=>(gt [2,2,2,2,0,1,3,4,5] j.1).bind λy=>if c==0 then
J1 L1 b c j y (y==0)
else
J1 L1 b c j y false
else
J5 u b
def AR(p:AD):Nat->AZ->AD->Int->ABi (AD×AZ)
|0,_,_,_=>none
|n+1,u,b,c=>L1 p (AR p n) u b c
end Ao
section
open Ao
def Ao(z:AZ)(ab:AG):=(Eo ab).bind λp=>AR p BQ z p 0
theorem UT{z:AZ}{ab:AG}{r:AD×AZ}(h:Ao z ab=some r):BM prog 82 [bA 2 (Gg z),.agg (A5 ab)] (.agg (Bi r.1)) [bA 2 (Gg r.2),.dead]:=by refine kP mix func82 (hn [(0,[20,46,54,67,84,120,123,128,137,149]),(5,[13,14,30,31,32,36,43,44,49,50,51,52,57,58,60,61,62,68,70,71,72,75,76,88,89,90,94,95,100,101,102,104,105,109,110,111,113,114,124,126,127,131,132,133,134,135,136,139,140,141,146,147,151,153]),(19,[22])] [(24,10)] (Z:=[(13,false,5,[(0,6,0)])])) ?_;have a1:=@Je;have a2:=@Dj;have a3:=@cW;have l3:=i4 λn a=>∃(o:AD)(v:AZ)(f:AD)(s:Int),(a 0=bA 2 (Gg v)/\a 4=bA 7 z0/\a 5=bA 7 [vO 2 Bu f.df.AK,si f.df.Tx,vO 1 eB f.df.Br,vO 3 Ay f.df.AA,vO 1 eI f.di,vO 1 eI f.AL,vS 1 eI f.dh]/\a 142=si (o.di.length:Int)/\a 143=si s)/\E3 o n v f s=some r;have l2:=i4 λn b=>∃(l:AD)(w:AZ)(a:AD)(d:Int),(b 0=bA 2 (Gg w)/\b 4=bA 7 z0/\b 5=bA 7 [vO 2 Bu a.df.AK,si a.df.Tx,vO 1 eB a.df.Br,vO 3 Ay a.df.AA,vO 1 eI a.di,vO 1 eI a.AL,vS 1 eI a.dh]/\b 63=si (l.df.AK.length:Int)/\b 64=si d)/\Bs l n w a d=some r;have l1:=i4 λn a=>∃(p:AD)(u:AZ)(b:AD)(c:Int),(a 0=bA 2 (Gg u)/\a 4=bA 7 z0/\a 5=bA 7 (I5 b)/\a 15=si (p.dh.length:Int)/\a 16=si c)/\AR p n u b c=some r;have c10:=i5 10 λa=>∃(aa:AZ)(e:AD),(a 0=bA 2 (Gg aa)/\a 4=bA 7 z0/\a 5=bA 7 [vO 2 Bu e.df.AK,si e.df.Tx,vO 1 eB e.df.Br,vO 3 Ay e.df.AA,vO 1 eI e.di,vO 1 eI e.AL,vS 1 eI e.dh])/\OS aa e=some r;unfold Ao at h;exact walk
end
end Go.Abs
