/- Typed programs of Go functions, and that the functions do what these say. -/
import Derived.Test.YtdojkofgkcmagaaGreatDoorWalkD
import Derived.Test.YtdojkofgkcmagaaGreatDoorWalkE
import Derived.Test.YtdojkofgkcmagaaGreatDoorWalkF
set_option linter.defProp false
set_option linter.unusedSimpArgs false
set_option linter.unusedVariables false
namespace Go.Abs
variable{j:lg}{f:AP}{d e:Int}{a:(List AR)×AP}{i:jA}{b:jk}{c:AR×AP}{g:Nat}
section
open Go.Proofs Tryz
set_option maxRecDepth 1000000
set_option maxHeartbeats 4000000
namespace Cr
def J2(l:AP)(j:ju):ABu ((List AR)×AP):=
some (j,l)
def J1(L1:mi)(R100:lg)(a b:Int)(c:ju)(d:AP)(o:Bool):=
if o then
(R100 d a).bind λi=>
if Am (c.length+1) 176=true then
L1 i.2 (c++[i.1]) (A6 (b+1))
else none
else
J2 d c
def L1(R100:lg)(a e:Int)(L1:mi)(d:AP)(c:ju)(b:Int):=
if decide (b<e)then
if b==0 then
J1 L1 R100 a b c d true
else
J1 L1 R100 a b c d (decide (d.left>0))
else
J1 L1 R100 a b c d false
def AW(R100:lg)(a e:Int):Nat->AP->(List AR)->Int->ABu ((List AR)×AP)
|0,_,_,_=>none
|n+1,d,c,b=>L1 R100 a e (AW R100 a e n) d c b
end Cr
section
open Cr
def Cr(R100:lg)(f:AP)(a e:Int):=
AW R100 a e BT f [] 0
theorem SS(H100:∀{x0 x1 a},j x0 x1=some a->BB prog 223 [bA 8 (Co x0),si x1] (.agg [si a.1.Op,si a.1.GH,Bq a.1.di,Bq a.1.ep,vS 4 BR a.1.dz,si a.1.dv.Op,si a.1.dv.N,Bq a.1.dv.di,vS 4 BR a.1.dv.L,vS 11 BJ a.1.dx,vS 11 BJ a.1.d7]) [bA 8 (Co a.2),.dead])(h:Cr j f d e=some a):BB prog 187 [bA 8 (Co f),si d,si e] (vO 11 BJ a.1) [bA 8 (Co a.2),.dead,.dead]:=by refine kL mix func187 (hn [(0,[16,17,18,26]),(7,[25,31])]) ?_;have a1:= @H100;have l1:=im λ_ _ _ _ n f=>∃r c b,(f 0=bA 8 (Co r)/\f 1=si d/\f 2=si e/\f 7=vO 11 BJ c/\f 8=si b)/\AW j d e n r c b=some a;unfold Cr at h;exact walk
end
namespace A3
def J3(bi:AP)(bj:AR):ABu (AR×AP):=
some (bj,bi)
def vY(ad:AP)(bl:Bool):ABu (AR×AP):=
if bl then
some ((AR.mk 15 0 (⟨#[97]⟩:ABv) (⟨#[102]⟩:ABv) [] (BO.mk 0 0 (⟨#[]⟩:ABv) []) [] []),ad)
else
(Cb BT ad 1).bind λbb=>
(FH (⟨#[120]⟩:ABv) bb.1).bind λca=>
some (ca,bb.2)
def bT(e:AP)(b:jr)(z:Bool):ABu (AR×AP):=
if z then
(Cb BT (AP.mk e.t e.Bt e.left true e.tx e.d5 e.ea e.d6) 1).bind λaz=>
some ((AR.mk 14 0 (⟨#[102]⟩:ABv) (⟨#[]⟩:ABv) [] az.1 [] []),az.2)
else
if b.1==17 then
if !e.tx then
(Al e.t 2).bind λba=>
vY (AP.mk ba.2 e.Bt e.left e.IQ e.tx e.d5 e.ea e.d6) (ba.1==1)
else
vY e false
else
vY e false
def QP(b:jr)(e:AP)(y:Bool):ABu (AR×AP):=
if y then
(Al e.t 2).bind λay=>
some ((AR.mk 4 0 (⟨#[109]⟩:ABv) (⟨#[]⟩:ABv) [] (BO.mk 0 0 (⟨#[]⟩:ABv) []) [(AR.mk (A6 (10+ay.1)) 0 (⟨#[99]⟩:ABv) (⟨#[]⟩:ABv) [] (BO.mk 0 0 (⟨#[]⟩:ABv) []) [] [])] []),(AP.mk ay.2 e.Bt e.left e.IQ e.tx e.d5 e.ea e.d6))
else
if b.1==16 then
if !e.tx then
if !e.ea then
bT e b (!e.IQ)
else
bT e b false
else
bT e b false
else
bT e b false
def J9(c:Bool)(b:jr)(q:AP)(x:Bool):=
if x then
(JX (⟨#[120]⟩:ABv)).bind λbx=>
(FH (⟨#[97]⟩:ABv) bx).bind λbz=>
some ((AR.mk 4 0 (⟨#[109]⟩:ABv) (⟨#[]⟩:ABv) [] (BO.mk 0 0 (⟨#[]⟩:ABv) []) [(AR.mk 9 0 (⟨#[99]⟩:ABv) (⟨#[]⟩:ABv) [] (BO.mk 0 0 (⟨#[]⟩:ABv) []) [] []),bz] []),q)
else
if b.1==15 then
if c then
(EB q (⟨#[109]⟩:ABv)).bind λax=>
QP b ax.2 (!ax.1)
else
QP b q false
else
QP b q false
def J8(R102:jk)(d:Int)(f:AP)(c:Bool)(b:jr)(w:Bool):=
if w then
(R102 (AP.mk f.t f.Bt f.left f.IQ f.tx true f.ea f.d6) (A6 (d-1)) 2).bind λp=>
some ((AR.mk 8 0 (⟨#[]⟩:ABv) (⟨#[]⟩:ABv) [] (BO.mk 0 0 (⟨#[]⟩:ABv) []) p.1 []),(AP.mk p.2.t p.2.Bt p.2.left p.2.IQ p.2.tx false p.2.ea p.2.d6))
else
if b.1==14 then
if c then
if !f.d5 then
(EB f (⟨#[109]⟩:ABv)).bind λav=>
J9 c b av.2 (!av.1)
else
J9 c b f false
else
J9 c b f false
else
J9 c b f false
def J7(R102:jk)(d:Int)(f:AP)(c:Bool)(b:jr)(v:Bool):=
if v then
(Al f.t 2).bind λau=>
(R102 (AP.mk au.2 f.Bt f.left f.IQ true f.d5 f.ea f.d6) 0 (A6 (1+au.1))).bind λo=>
some ((AR.mk 7 0 (⟨#[]⟩:ABv) (⟨#[]⟩:ABv) [] (BO.mk 0 0 (⟨#[]⟩:ABv) []) o.1 []),(AP.mk o.2.t o.2.Bt o.2.left o.2.IQ false o.2.d5 o.2.ea o.2.d6))
else
if b.1==13 then
if c then
J8 R102 d f c b (!f.d5)
else
J8 R102 d f c b false
else
J8 R102 d f c b false
def J6(R101:jA)(R102:jk)(d:Int)(c:Bool)(b:jr)(f:AP)(u:Bool):=
if u then
(R101 f (⟨#[114]⟩:ABv) (A6 (d-1))).bind λaq=>
some ((AR.mk (A6 ((A6 (b.1-10))+5)) 0 (⟨#[114]⟩:ABv) (⟨#[]⟩:ABv) [] (BO.mk 0 0 (⟨#[]⟩:ABv) []) aq.1 []),aq.2)
else
if b.1==12 then
J7 R102 d f c b c
else
J7 R102 d f c b false
def J5(R101:jA)(R102:jk)(d:Int)(c:Bool)(b:jr)(j:AP)(t:Bool):=
if t then
(gt [(⟨#[109]⟩:ABv),(⟨#[110]⟩:ABv)] (A6 (b.1-8))).bind λbf=>
(R101 j bf (A6 (d-1))).bind λal=>
some ((AR.mk 4 0 bf (⟨#[]⟩:ABv) [] (BO.mk 0 0 (⟨#[]⟩:ABv) []) al.1 []),al.2)
else
if b.1==10 then
if c then
(EB j (⟨#[114]⟩:ABv)).bind λao=>
J6 R101 R102 d c b ao.2 (!ao.1)
else
J6 R101 R102 d c b j false
else
if b.1==11 then
if c then
(EB j (⟨#[114]⟩:ABv)).bind λap=>
J6 R101 R102 d c b ap.2 (!ap.1)
else
J6 R101 R102 d c b j false
else
J6 R101 R102 d c b j false
def J4(R101:jA)(R102:jk)(d:Int)(a:AP)(c:Bool)(b:jr)(s:Bool):=
if s then
(JX (⟨#[98]⟩:ABv)).bind λbo=>
(Ku 2).bind λbp=>
(JF 13 bo bp).bind λbq=>
(R102 (AP.mk b.2 a.Bt (A6 (a.left-1)) a.IQ a.tx a.d5 true a.d6) (A6 (d-1)) 1).bind λl=>
(JX (⟨#[98]⟩:ABv)).bind λbs=>
(Ku 1).bind λbt=>
(JF 6 bs bt).bind λbu=>
(FH (⟨#[98]⟩:ABv) bu).bind λbv=>
if Am (l.1.length+1) 176=true then
some ((AR.mk 3 0 (⟨#[]⟩:ABv) (⟨#[]⟩:ABv) [] bq (l.1++[bv]) []),(AP.mk l.2.t l.2.Bt l.2.left l.2.IQ l.2.tx l.2.d5 a.ea l.2.d6))
else none
else
if b.1==8 then
if c then
(gt [(⟨#[109]⟩:ABv),(⟨#[110]⟩:ABv)] (A6 (b.1-8))).bind λce=>
(EB (AP.mk b.2 a.Bt (A6 (a.left-1)) a.IQ a.tx a.d5 a.ea a.d6) ce).bind λai=>
J5 R101 R102 d c b ai.2 (!ai.1)
else
J5 R101 R102 d c b (AP.mk b.2 a.Bt (A6 (a.left-1)) a.IQ a.tx a.d5 a.ea a.d6) false
else
if b.1==9 then
if c then
(gt [(⟨#[109]⟩:ABv),(⟨#[110]⟩:ABv)] (A6 (b.1-8))).bind λcf=>
(EB (AP.mk b.2 a.Bt (A6 (a.left-1)) a.IQ a.tx a.d5 a.ea a.d6) cf).bind λaj=>
J5 R101 R102 d c b aj.2 (!aj.1)
else
J5 R101 R102 d c b (AP.mk b.2 a.Bt (A6 (a.left-1)) a.IQ a.tx a.d5 a.ea a.d6) false
else
J5 R101 R102 d c b (AP.mk b.2 a.Bt (A6 (a.left-1)) a.IQ a.tx a.d5 a.ea a.d6) false
def J2(R101:jA)(R102:jk)(d:Int)(a:AP)(c:Bool)(b:jr)(aa:Bool):=
if aa then
(Cb BT (AP.mk b.2 a.Bt (A6 (a.left-1)) a.IQ a.tx a.d5 a.ea a.d6) 1).bind λac=>
(R102 ac.2 (A6 (d-1)) 1).bind λi=>
(Al i.2.t 2).bind λab=>
if ab.1==1 then
(R102 (AP.mk ab.2 i.2.Bt i.2.left i.2.IQ i.2.tx i.2.d5 i.2.ea i.2.d6) (A6 (d-1)) 1).bind λaf=>
J3 af.2 (AR.mk 2 0 (⟨#[]⟩:ABv) (⟨#[]⟩:ABv) [] ac.1 i.1 af.1)
else
J3 (AP.mk ab.2 i.2.Bt i.2.left i.2.IQ i.2.tx i.2.d5 i.2.ea i.2.d6) (AR.mk 2 0 (⟨#[]⟩:ABv) (⟨#[]⟩:ABv) [] ac.1 i.1 [])
else
if b.1==7 then
J4 R101 R102 d a c b (decide (d>0))
else
J4 R101 R102 d a c b false
def J1(R101:jA)(R102:jk)(d:Int)(a:AP)(b:jr)(c:Bool):=
if decide (b.1<4)then
(gt [(⟨#[120]⟩:ABv),(⟨#[121]⟩:ABv),(⟨#[120]⟩:ABv),(⟨#[118]⟩:ABv)] b.1).bind λcc=>
(Cb BT (AP.mk b.2 a.Bt (A6 (a.left-1)) a.IQ a.tx a.d5 a.ea a.d6) 1).bind λae=>
(FH cc ae.1).bind λbw=>
some (bw,ae.2)
else
if b.1==4 then
(Al b.2 2).bind λaw=>
(gt [(⟨#[97]⟩:ABv),(⟨#[98]⟩:ABv)] aw.1).bind λcd=>
(Cb BT (AP.mk aw.2 a.Bt (A6 (a.left-1)) a.IQ a.tx a.d5 a.ea a.d6) 1).bind λbc=>
(FH cd bc.1).bind λcb=>
some (cb,bc.2)
else
if b.1==5 then
(Cb BT (AP.mk b.2 a.Bt (A6 (a.left-1)) a.IQ a.tx a.d5 a.ea a.d6) 0).bind λbd=>
(Cb BT bd.2 1).bind λbe=>
some ((AR.mk 1 0 (⟨#[113]⟩:ABv) (⟨#[]⟩:ABv) [bd.1] be.1 [] []),be.2)
else
if b.1==6 then
J2 R101 R102 d a c b (decide (d>0))
else
J2 R101 R102 d a c b false
end A3
section
open A3
def A3(R101:jA)(R102:jk)(a:AP)(d:Int):=
(Al a.t 18).bind λb=>
if decide (d>0)then
if decide ((A6 (a.left-1))>0)then
J1 R101 R102 d a b (!a.tx)
else
J1 R101 R102 d a b false
else
J1 R101 R102 d a b false
theorem Th(H101:∀{x0 x1 x2 c},i x0 x1 x2=some c->BB prog 258 [bA 8 (Co x0),Bq x1,si x2] (vO 11 BJ c.1) [bA 8 (Co c.2),.dead,.dead])(H102:∀{x0 x1 x2 c},b x0 x1 x2=some c->BB prog 187 [bA 8 (Co x0),si x1,si x2] (vO 11 BJ c.1) [bA 8 (Co c.2),.dead,.dead])(h:A3 i b f d=some c):BB prog 223 [bA 8 (Co f),si d] (.agg [si c.1.Op,si c.1.GH,Bq c.1.di,Bq c.1.ep,vS 4 BR c.1.dz,si c.1.dv.Op,si c.1.dv.N,Bq c.1.dv.di,vS 4 BR c.1.dv.L,vS 11 BJ c.1.dx,vS 11 BJ c.1.d7]) [bA 8 (Co c.2),.dead]:=by refine kP mix func223 (hn [(0,[13,14,15,18,19,20,21,22,23,28,29,30,35,36,37,48,55,56,57,58,68,71,81,83,88,89,90,91,94,107,108,109,111,112,113,117,128,130,131,144,159,176,183,194,195,196,197,198,199,200,201,206,207,208,217,218,219,223,224,225,226,231,232,233,242,243,244,249,265,269,270,271,272,282,283,284,289,290,291,296,297,298,302,303,304,305,312,313,314,319,320,321,322,327]),(7,[98,99]),(9,[132]),(11,[209]),(12,[234]),(44,[46]),(54,[60]),(145,[148]),(153,[156])] [(3,1),(11,2),(16,4),(22,5),(25,6),(27,7),(32,8),(37,9),(39,10),(41,11)] (E:=[(7,(.jB [(0,8,9,62)] [⟨some ⟨54,[60],[]⟩,.OR 1 [[Bq ⟨#[]⟩],[Bq ⟨#[]⟩]] [(0,.c (Bq ⟨#[97]⟩)),(1,.c (Bq ⟨#[98]⟩))],none⟩,i1 55 0 (.cp (.t 0)),i1 56 0 (.I6 (.t 55)),Kf 57 0 0 56,Vg 58 0 57,i0 59 (.Vx 132 [] (.t 58) none [.c (si 2)]),tY 60 54 1 54 59,iL 61 60,i0 62 .fl,i0 63 (.Vx 254 [] (.t 0) none [.c (si 1)]),i0 64 (.call 188 [.t 61,.t 63] 1),iS 11 4 64]))])) ?_;have a1:= @DT;have a2:= @SP;have a3:= @Ql;have a4:= @H102;have a5:= @Ui;have a6:= @Qp;have a7:= @Qm;have a8:= @H101;have a9:= @SQ;have c11:=ip 11 λ_ _ _ _ f=>∃(e:AP)(R102:jr)(z:Bool),(f 0=bA 8 (Co e)/\f 4=bA 11 z1/\f 5=si R102.1/\f 278=sb z)/\bT e R102 z=some c;have c10:=ip 10 λ_ _ _ _ f=>∃(R102:jr)(e:AP)(y:Bool),(f 0=bA 8 (Co e)/\f 4=bA 11 z1/\f 5=si R102.1/\f 258=sb y)/\QP R102 e y=some c;have c9:=ip 9 λ_ _ _ _ f=>∃(r:Bool)(R102:jr)(q:AP)(x:Bool),(f 0=bA 8 (Co q)/\f 4=bA 11 z1/\f 5=si R102.1/\f 6=sb r/\f 235=sb x)/\J9 r R102 q x=some c;have c8:=ip 8 λ_ _ _ _ f=>∃(a:AP)(r:Bool)(R102:jr)(w:Bool),(f 0=bA 8 (Co a)/\f 1=si d/\f 4=bA 11 z1/\f 5=si R102.1/\f 6=sb r/\f 210=sb w)/\J8 b d a r R102 w=some c;have c7:=ip 7 λ_ _ _ _ f=>∃(a:AP)(r:Bool)(R102:jr)(v:Bool),(f 0=bA 8 (Co a)/\f 1=si d/\f 4=bA 11 z1/\f 5=si R102.1/\f 6=sb r/\f 188=sb v)/\J7 b d a r R102 v=some c;have c6:=ip 6 λ_ _ _ _ f=>∃(r:Bool)(R102:jr)(a:AP)(u:Bool),(f 0=bA 8 (Co a)/\f 1=si d/\f 4=bA 11 z1/\f 5=si R102.1/\f 6=sb r/\f 165=sb u)/\J6 i b d r R102 a u=some c;have c5:=ip 5 λ_ _ _ _ f=>∃(r:Bool)(R102:jr)(j:AP)(t:Bool),(f 0=bA 8 (Co j)/\f 1=si d/\f 4=bA 11 z1/\f 5=si R102.1/\f 6=sb r/\f 133=sb t)/\J5 i b d r R102 j t=some c;have c4:=ip 4 λ_ _ _ _ e=>∃(r:Bool)(R102:jr)(s:Bool),(e 0=bA 8 [bA 2 (GO R102.2),si f.Bt,si (A6 (f.left-1)),sb f.IQ,sb f.tx,sb f.d5,sb f.ea,vO 1 eS f.d6]/\e 1=si d/\e 4=bA 11 z1/\e 5=si R102.1/\e 6=sb r/\e 100=sb s)/\J4 i b d f r R102 s=some c;have c2:=ip 2 λ_ _ _ _ e=>∃(r:Bool)(R102:jr)(aa:Bool),(e 0=bA 8 [bA 2 (GO R102.2),si f.Bt,si (A6 (f.left-1)),sb f.IQ,sb f.tx,sb f.d5,sb f.ea,vO 1 eS f.d6]/\e 1=si d/\e 4=bA 11 z1/\e 5=si R102.1/\e 6=sb r/\e 74=sb aa)/\J2 i b d f r R102 aa=some c;have c1:=ip 1 λ_ _ _ _ e=>∃(R102:jr)(r:Bool),(e 0=bA 8 [bA 2 (GO R102.2),si f.Bt,si (A6 (f.left-1)),sb f.IQ,sb f.tx,sb f.d5,sb f.ea,vO 1 eS f.d6]/\e 1=si d/\e 4=bA 11 z1/\e 5=si R102.1/\e 6=sb r)/\J1 i b d f R102 r=some c;unfold A3 at h;exact walk
end
def IL(R102:jk)(b:AP)(d:ABv)(c:Int):ABu ((List AR)×AP):=
if Am (b.d6.length+1) 16=true then
(Al b.t 2).bind λe=>
(R102 (AP.mk e.2 b.Bt b.left b.IQ b.tx b.d5 b.ea (b.d6++[d])) c (A6 (1+e.1))).bind λa=>
if 0<=(A6 ((a.2.d6.length:Int)-1))/\((A6 ((a.2.d6.length:Int)-1)).toNat)<=a.2.d6.length then
some (a.1,(AP.mk a.2.t a.2.Bt a.2.left a.2.IQ a.2.tx a.2.d5 a.2.ea (a.2.d6.take ((A6 ((a.2.d6.length:Int)-1)).toNat))))
else none
else none
theorem SM(H102:∀{x0 x1 x2 a},b x0 x1 x2=some a->BB prog 187 [bA 8 (Co x0),si x1,si x2] (vO 11 BJ a.1) [bA 8 (Co a.2),.dead,.dead]){d:ABv}(h:IL b f d e=some a):BB prog 258 [bA 8 (Co f),Bq d,si e] (vO 11 BJ a.1) [bA 8 (Co a.2),.dead,.dead]:=by refine kL mix func258 (hn [(0,[8,9,10,11,12,16,17,18,20,21,22,23,28,29,30,31,32,33,34,35,39,40]),(7,[41])] (E:=[(3,(.jB [(0,0,12,27)] [i0 27 .fl,i1 28 0 (.cp (.t 0)),i1 29 0 (.I6 (.t 28)),Kf 30 0 7 29,Vg 31 0 30,i1 32 0 (.cp (.t 0)),i1 33 0 (.I6 (.t 32)),Kf 34 0 7 33,Vg 35 0 34,iZ 36 35,iP 37 .sub 36 1,i0 38 (.slc 1 false (.t 31) none (some (.t 37)) none),i1 39 0 (.I6 (.t 0)),Kf 40 0 7 39,iS 1 40 38]))])) ?_;have a1:= @DT;have a2:= @H102;unfold IL at h;exact walk
def Fi:Nat->(AP->Int->Int->ABu ((List AR)×AP))×(AP->Int->ABu (AR×AP))×(AP->ABv->Int->ABu ((List AR)×AP))
|0=>((λ_ _ _=>none),(λ_ _=>none),(λ_ _ _=>none))
|n+1=>(Cr ((Fi n).2.1),A3 ((Fi n).2.2) ((Fi n).1),IL ((Fi n).1))
def EK(n:Nat):AP->Int->Int->ABu ((List AR)×AP):=(Fi n).1
def GY(n:Nat):AP->Int->ABu (AR×AP):=(Fi n).2.1
def Kt(n:Nat):AP->ABv->Int->ABu ((List AR)×AP):=(Fi n).2.2
theorem Qn(n:Nat):(∀{x0 x1 x2 r},(EK n) x0 x1 x2=some r->BB prog 187 [bA 8 (Co x0),si x1,si x2] (.own false 11 (r.1.map BJ)) [bA 8 (Co r.2),.dead,.dead])/\(∀{x0 x1 r},(GY n) x0 x1=some r->BB prog 223 [bA 8 (Co x0),si x1] (.agg [si r.1.Op,si r.1.GH,Bq r.1.di,Bq r.1.ep,vS 4 BR r.1.dz,si r.1.dv.Op,si r.1.dv.N,Bq r.1.dv.di,vS 4 BR r.1.dv.L,vS 11 BJ r.1.dx,vS 11 BJ r.1.d7]) [bA 8 (Co r.2),.dead])/\(∀{x0 x1 x2 r},(Kt n) x0 x1 x2=some r->BB prog 258 [bA 8 (Co x0),Bq x1,si x2] (.own false 11 (r.1.map BJ)) [bA 8 (Co r.2),.dead,.dead]):=by
  induction n with
  |zero=>exact⟨λh=>Et h,λh=>Et h,λh=>Et h⟩
  |succ n ih=>exact⟨λh=>SS ih.2.1 h,λh=>Th ih.2.2 ih.1 h,λh=>SM ih.1 h⟩
def Qo:∀{x0 x1 x2 r},(EK g) x0 x1 x2=some r->BB prog 187 [bA 8 (Co x0),si x1,si x2] (.own false 11 (r.1.map BJ)) [bA 8 (Co r.2),.dead,.dead]:=(Qn g).1
def f91c:bR:=(.seq (.ic (Rc 0 [.b 2 [16,29,43,47] (.bx 6 (.t 0)),.B 4 false]))
(.seq (.ic (Rc 0 [.b 5 [13,23,36,42,46,51,55] (.mv (.c (.own false 1 [])))]))
(.seq (.ic (Rc 13 [.y 5 (.cp (.t 5)),.C 1,.o (.app 1 16 (.t 13) (.t 14)),.b 5 [13,23,36,42,46,51,55] (.mv (.t 15))]))
(nC (.ic (Ra 16 [.f 1 2,.Z 17,.Y 0]
(Bl 0 (Ra 20 [.O .lss 19 18]
(Sq (cX 20 0)
(Sq (Bk 1 (Ra 21 [.I 2 17 19,.A 2 21,.b 7 [24] (.bx 2 (.c (.agg [Bq ⟨#[]⟩,sb false]))),.S 2 7 22]
(Rc 23 [.y 5 (.cp (.t 5)),.f 0 7,.o (.OR 1 [[Bq ⟨#[]⟩]] [(0,.t 25)]),.o (.app 1 16 (.t 23) (.t 26)),.b 5 [13,23,36,42,46,51,55] (.mv (.t 27))])))
(Rc 28 [.P .add 19 1,.w 19,.C 28])))))))
(nC (.ic (Ra 29 [.f 2 2,.Z 30,.Y 0]
(Bl 2 (Ra 33 [.O .lss 32 31]
(Sq (cX 33 2)
(Sq (Bk 3 (Ra 34 [.I 2 30 32,.A 2 34,.b 9 [37] (.bx 2 (.c (.agg [Bq ⟨#[]⟩,si 0]))),.S 2 9 35]
(Rc 36 [.y 5 (.cp (.t 5)),.f 0 9,.o (.OR 1 [[Bq ⟨#[]⟩]] [(0,.t 38)]),.o (.app 1 16 (.t 36) (.t 39)),.b 5 [13,23,36,42,46,51,55] (.mv (.t 40))])))
(Rc 41 [.P .add 32 1,.w 32,.C 41])))))))
(.seq (.ic (Rc 42 [.y 5 (.cp (.t 5)),.f 3 2,.o (.app 1 16 (.t 42) (.t 44)),.b 5 [13,23,36,42,46,51,55] (.mv (.t 45))]))
(.seq (.ic (Rc 46 [.y 5 (.cp (.t 5)),.f 4 2,.o (.app 1 16 (.t 46) (.t 48)),.b 5 [13,23,36,42,46,51,55] (.mv (.t 49))]))
(.seq (.cO [.mkm ⟨50,[],[]⟩,.x (.o ⟨some ⟨10,[],[]⟩,.mv (.t 50),none⟩)])
(nC (.seq (.ic (Rc 51 [.y 5 (.cp (.t 5)),.Z 51,.Y 0]))
(.block 4 (.loop (.seq (.ic (Rc 54 [.O .lss 53 52]))
(.seq (.ic (cX 54 4))
(.seq (.block 5 (.seq (.ic (Rc 55 [.J 5 1 51 53,.L 55,.M 12 56]))
(.seq (nC (.cO [.x (.o ⟨some ⟨57,[],[]⟩,.cp (.t 12),none⟩),.x (.o ⟨some ⟨58,[],[]⟩,.call 142 [.t 57] 0,none⟩),.x (.o ⟨some ⟨59,[],[]⟩,.un .not (.t 58),none⟩),.x (.o ⟨some ⟨60,[],[]⟩,.cp (.t 59),none⟩),.x (.o ⟨some ⟨61,[],[]⟩,.cp (.t 10),some (60,false)⟩),.x (.o ⟨some ⟨62,[],[]⟩,.cp (.t 12),some (60,false)⟩),.lkp (some (60,false)) ⟨63,[],[]⟩ (.t 61) (.t 62),.x (.o ⟨some ⟨64,[],[]⟩,.pick (.t 60) (.c (sb true)) (.t 63),none⟩)])
(.ic (Ci 64 (Rb 0 [.B 4 false]))))
(.cO [.x (.o ⟨some ⟨65,[],[]⟩,.cp (.t 10),none⟩),.x (.o ⟨some ⟨66,[],[]⟩,.cp (.t 12),none⟩),.mup (.t 65) (.t 66) (.c (sb true))]))))
(.ic (Rc 67 [.P .add 53 1,.w 53,.C 67]))))))))
(.ic (Rb 0 [.B 4 true])))))))))))
def f91g:Gi:=⟨[(13,[5]),(16,[2]),(23,[5]),(24,[7]),(29,[2]),(36,[5]),(37,[9]),(42,[5]),(43,[2]),(46,[5]),(47,[2]),(51,[5]),(55,[5])]⟩
def f91r:List RV:=[.tmp 4]
def f91:FIM:=⟨f91c,f91g,f91r⟩
theorem chk91:wF prog Tryz.f91 f91=true:=by kernel_rfl
namespace BU
def J4(seen:jf):=
some true
def J3(L3:Int->(List ABv)->ABu Bool)(seen:jf)(VY:Int)(x_2:ABv)(t64v:Bool):=
if t64v then
some false
else
if(seen.any λh=>h==x_2)=false then
L3 (A6 (VY+1)) (seen++[x_2])
else none
def L3(Kl:jf)(wv:AF)(L3:Int->(List ABv)->ABu Bool)(VY:Int)(seen:jf):=
if decide (VY<(((Kl++wv.AL)++wv.AA).length:Int))then
(gt ((Kl++wv.AL)++wv.AA) VY).bind λx_2=>
(DF x_2).bind λv=>
if !v then
J3 L3 seen VY x_2 true
else
J3 L3 seen VY x_2 (seen.any λh=>h==x_2)
else
J4 seen
def Gc(Kl:jf)(wv:AF):Nat->Int->(List ABv)->ABu Bool
|0,_,_=>none
|n+1,VY,seen=>L3 Kl wv (Gc Kl wv n) VY seen
def J2(wv:AF)(Kl:jf):=
if Am (Kl.length+wv.AL.length) 16=true then
if Am ((Kl++wv.AL).length+wv.AA.length) 16=true then
Gc Kl wv BT 0 []
else none
else none
def L2(wv:AF)(L2:(List ABv)->Int->ABu Bool)(T9:jf)(kZ:Int):=
if decide (kZ<(wv.Ak.length:Int))then
(gt wv.Ak kZ).bind λx_1=>
if Am (T9.length+1) 16=true then
L2 (T9++[x_1.di]) (A6 (kZ+1))
else none
else
J2 wv T9
def CC(wv:AF):Nat->(List ABv)->Int->ABu Bool
|0,_,_=>none
|n+1,T9,kZ=>L2 wv (CC wv n) T9 kZ
def J1(wv:AF)(mH:jf):=
CC wv BT mH 0
def L1(wv:AF)(L1:(List ABv)->Int->ABu Bool)(all:jf)(kY:Int):=
if decide (kY<(wv.AK.length:Int))then
(gt wv.AK kY).bind λx=>
if Am (all.length+1) 16=true then
L1 (all++[x.di]) (A6 (kY+1))
else none
else
J1 wv all
def AW(wv:AF):Nat->(List ABv)->Int->ABu Bool
|0,_,_=>none
|n+1,all,kY=>L1 wv (AW wv n) all kY
end BU
section
open BU
def BU(wv:AF)(variables:jf):=
if Am (variables.length) 16=true then
AW wv BT variables 0
else none
theorem QA{wv:AF}{variables:jf}{r:Bool}(h:BU wv variables=some r):Says prog 91 [.agg (Aw wv),vS 1 eS variables] (sb r):=by
 refine pQ mix func91 chk91 (AAc (by kernel_rfl)) rfl ?_;simp only[f91,f91c,f91g,f91r];obtain⟨_,h⟩:=cS h
 try simp +decide only[go_sem, *]
 refine nF (λk l=>∃mH:List ABv,(k 2=bA 6 (Aw wv)/\k 5=vO 1 eS mH)/\J1 wv mH=some r) λM1 hM1=>⟨?_,?_⟩
 . try simp +decide only[go_sem, *]
   refine oJ (λn k=>∃all:List ABv,∃kY:Int,(k 2=bA 6 (Aw wv)/\k 5=vO 1 eS all/\k 17=vS 2 IX wv.AK/\k 18=si (wv.AK.length:Int)/\k 19=si kY)/\AW wv n all kY=some r) ⟨_,_,?_,h⟩ λn1 τ1 N1=> ?_
   . simp +decide only[go_sem, *]
   rintro⟨all,kY,s1,h⟩ hN1;cases n1 with
   |zero=>exact Et h
   |succ n1=>
    rw[AW]at h;generalize hL1:AW wv n1=L1 at h
    try simp +decide only[go_sem, *]
    refine cI h (λ_ h=> ?_) λ_ h=> ?_
    . obtain⟨x,_,h⟩:=gB h;obtain⟨_,h⟩:=cS h
      try simp +decide only[go_sem, *]
      refine hN1 n1 (Nat.lt_succ_self _) _ ⟨_,_,?_,hL1.symm▸h⟩;simp +decide only[go_sem, *]
    try simp +decide only[go_sem, *]
    refine hM1 _ _ ⟨_,?_,h⟩;simp +decide only[go_sem, *]
 rintro τ1 ν1 ⟨mH,s1,h⟩
 try simp +decide only[go_sem, *]
 refine nF (λk l=>∃Kl:List ABv,(k 2=bA 6 (Aw wv)/\k 5=vO 1 eS Kl)/\J2 wv Kl=some r) λM2 hM2=>⟨?_,?_⟩
 . try simp +decide only[go_sem, *]
   refine oJ (λn k=>∃T9:List ABv,∃kZ:Int,(k 2=bA 6 (Aw wv)/\k 5=vO 1 eS T9/\k 30=vS 2 IW wv.Ak/\k 31=si (wv.Ak.length:Int)/\k 32=si kZ)/\CC wv n T9 kZ=some r) ⟨_,_,?_,h⟩ λn2 τ2 N2=> ?_
   . simp +decide only[go_sem, *]
   rintro⟨T9,kZ,s2,h⟩ hN2;cases n2 with
   |zero=>exact Et h
   |succ n2=>
    rw[CC]at h;generalize wV:CC wv n2=L2 at h
    try simp +decide only[go_sem, *]
    refine cI h (λ_ h=> ?_) λ_ h=> ?_
    . obtain⟨x_1,_,h⟩:=gB h;obtain⟨_,h⟩:=cS h
      try simp +decide only[go_sem, *]
      refine hN2 n2 (Nat.lt_succ_self _) _ ⟨_,_,?_,wV.symm▸h⟩;simp +decide only[go_sem, *]
    try simp +decide only[go_sem, *]
    refine hM2 _ _ ⟨_,?_,h⟩;simp +decide only[go_sem, *]
 rintro τ2 ν2 ⟨Kl,s2,h⟩;obtain⟨_,h⟩:=cS h;obtain⟨_,h⟩:=cS h
 try simp +decide only[go_sem, *]
 intro b1 hb1
 try simp +decide only[go_sem, *]
 refine nF (λk l=>∃seen:List ABv,(l b1=some (.mp (seen.map tv)))/\J4 seen=some r) λM4 hM4=>⟨?_,?_⟩
 . try simp +decide only[go_sem, *]
   refine loopMH (λn k l=>∃VY:Int,∃seen:List ABv,(k 5= .own false 1 (((Kl++wv.AL)++wv.AA).map eS)/\k 10= .sc (.map (some b1))/\k 51= .al 5 []/\k 52=si (((Kl++wv.AL)++wv.AA).length:Int)/\k 53=si VY/\l b1=some (.mp (seen.map tv)))/\Gc Kl wv n VY seen=some r) ⟨_,_,?_,h⟩ λn3 τ3 ν3 N3=> ?_
   . simp +decide only[go_sem, *]
   rintro⟨VY,seen,s3,h⟩ hN3;cases n3 with
   |zero=>exact Et h
   |succ n3=>
    rw[Gc]at h;generalize hL3:Gc Kl wv n3=L3 at h
    try simp +decide only[go_sem, *]
    refine cI h (λ_ h=> ?_) λ_ h=> ?_
    . obtain⟨x_2,_,h⟩:=gB h
      try simp +decide only[go_sem, *]
      refine nF (λk l=>∃t64v:Bool,(k 5= .own false 1 (((Kl++wv.AL)++wv.AA).map eS)/\k 10= .sc (.map (some b1))/\k 12=Bq x_2/\k 51= .al 5 []/\k 52=si (((Kl++wv.AL)++wv.AA).length:Int)/\k 53=si VY/\k 64=sb t64v/\l b1=some (.mp (seen.map tv)))/\J3 L3 seen VY x_2 t64v=some r) λM3 hM3=>⟨?_,?_⟩
      . obtain⟨v,g9,h⟩:=bS h
        try simp +decide only[go_sem, *]
        refine⟨_,X1 g9,?_⟩
        try simp +decide only[go_sem, *]
        refine gI h (λ_ h=> ?_) λ_ h=> ?_
        . try simp +decide only[go_sem, *]
          refine hM3 _ _ ⟨_,?_,h⟩;simp +decide only[go_sem, *]
        try simp +decide only[go_sem, *]
        refine hM3 _ _ ⟨_,?_,h⟩;simp +decide only[go_sem, *]
      rintro τ3 ν3 ⟨t64v,s3,h⟩
      try simp +decide only[go_sem, *]
      refine cI h (λ_ h=> ?_) λ_ h=> ?_
      . obtain rfl:=AAW h;simp +decide only[go_sem, *]
      obtain⟨_,h⟩:=cS h
      try simp +decide only[go_sem, *]
      refine hN3 n3 (Nat.lt_succ_self _) _ _ ⟨_,_,?_,hL3.symm▸h⟩;simp +decide only[go_sem, *]
    try simp +decide only[go_sem, *]
    refine hM4 _ _ ⟨_,?_,h⟩;simp +decide only[go_sem, *]
 rintro τ4 ν4 ⟨seen,s4,h⟩;obtain rfl:=AAW h;simp +decide only[go_sem, *]
end
namespace Aj
def vY(bb:AX)(aw:AD):ABu (AD×AX):=
some (aw,bb)
def L3(o:AD)(L3:jv)(v:AX)(f:AD)(s:Int):=
if decide (s<(o.df.length:Int))then
(Al v 3).bind λae=>
(gt f.df s).bind λbt=>
L3 ae.2 (AD.mk f.de (f.df.set s.toNat ae.1) f.AL f.dc) (A6 (s+1))
else
vY v f
def Gc(o:AD):Nat->AX->AD->Int->ABu (AD×AX)
|0,_,_,_=>none
|n+1,v,f,s=>L3 o (Gc o n) v f s
def bT(bi:AX)(o:AD):=
Gc o BT bi o 0
def QP(aa:AX)(e:AD):ABu (AD×AX):=
(Al aa 3).bind λad=>
if ad.1==2 then
(gt e.de.Bp 0).bind λbq=>
(Al ad.2 3).bind λao=>
(gt e.AL 0).bind λbs=>
bT ao.2 (AD.mk (AQ.mk e.de.AK e.de.Tx (e.de.Bp.set 0 true) e.de.AA) e.df (e.AL.set 0 ao.1) e.dc)
else
bT ad.2 e
def J9(bf:AX)(q:AD):=
(Al bf 3).bind λac=>
if ac.1==2 then
(HO ac.2 q.de.Tx q.dc).bind λal=>
QP al.2 (AD.mk (AQ.mk q.de.AK al.1 q.de.Bp q.de.AA) q.df q.AL q.dc)
else
QP ac.2 q
def J8(L2:jv)(d:Int)(be:AX)(av:AD):=
L2 be av (A6 (d+1))
def J7(L2:jv)(a:AD)(d:Int)(x:AX)(i:jr)(ba:Bool):=
if ba then
J8 L2 d x a
else
(gt a.de.AK d).bind λbl=>
J8 L2 d x (AD.mk (AQ.mk (a.de.AK.set d.toNat (AY.mk i.1 bl.An)) a.de.Tx a.de.Bp a.de.AA) a.df a.AL a.dc)
def J6(L2:jv)(a:AD)(d:Int)(i:jr)(x:AX)(az:Bool):=
if az then
(gt a.de.AK d).bind λbj=>
J8 L2 d x (AD.mk (AQ.mk (a.de.AK.set d.toNat (AY.mk bj.B9 [i.1])) a.de.Tx a.de.Bp a.de.AA) a.df a.AL a.dc)
else
if d==0 then
(gt a.de.AA i.1).bind λaq=>
if aq.dg==3 then
J7 L2 a d x i true
else
J7 L2 a d x i (aq.dg==4)
else
J7 L2 a d x i false
def L2(l:AD)(L2:jv)(w:AX)(a:AD)(d:Int):=
if decide (d<(l.de.AK.length:Int))then
(HO w a.de.Tx a.dc).bind λi=>
if decide (i.1<0)then
J8 L2 d i.2 a
else
if d==2 then
(Al i.2 2).bind λaj=>
J6 L2 a d i aj.2 (aj.1==1)
else
J6 L2 a d i i.2 false
else
J9 w a
def CC(l:AD):Nat->AX->AD->Int->ABu (AD×AX)
|0,_,_,_=>none
|n+1,w,a,d=>L2 l (CC l n) w a d
def J5(bd:AX)(l:AD):=
CC l BT bd l 0
def J4(L1:jv)(c:Int)(bc:AX)(au:AD):=
L1 bc au (A6 (c+1))
def J3(L1:jv)(b:AD)(t c:Int)(j:jr)(ay:Bool):=
if ay then
(Al j.2 3).bind λaf=>
(gt b.dc c).bind λbp=>
(Al af.2 4).bind λai=>
(gt (b.de.AA.set c.toNat (AM.mk t 0 false)) c).bind λap=>
J4 L1 c ai.2 (AD.mk (AQ.mk b.de.AK b.de.Tx b.de.Bp ((b.de.AA.set c.toNat (AM.mk t 0 false)).set c.toNat (AM.mk ap.dg ap.Dy (ai.1==3)))) b.df b.AL (b.dc.set c.toNat (A6 (1+af.1))))
else
J4 L1 c j.2 (AD.mk (AQ.mk b.de.AK b.de.Tx b.de.Bp (b.de.AA.set c.toNat (AM.mk t 0 false))) b.df b.AL b.dc)
def J2(L1:jv)(b:AD)(c:Int)(j:jr)(t:Int):=
(gt b.de.AA c).bind λbo=>
if t != 0 then
J3 L1 b t c j (t != 1)
else
J3 L1 b t c j false
def J1(L1:jv)(b:AD)(c:Int)(j:jr)(y:Int)(ax:Bool):=
if ax then
J2 L1 b c j 1
else
J2 L1 b c j y
def L1(p:AD)(L1:jv)(u:AX)(b:AD)(c:Int):=
if decide (c<(p.dc.length:Int))then
(Al u 9).bind λj=>
(gt [2,2,2,2,0,1,3,4,5] j.1).bind λy=>
if c==0 then
J1 L1 b c j y (y==0)
else
J1 L1 b c j y false
else
J5 u b
def AW(p:AD):Nat->AX->AD->Int->ABu (AD×AX)
|0,_,_,_=>none
|n+1,u,b,c=>L1 p (AW p n) u b c
end Aj
section
open Aj
def Aj(z:AX)(ab:AF):=
(EX ab).bind λp=>
AW p BT z p 0
theorem Tw{z:AX}{ab:AF}{r:AD×AX}(h:Aj z ab=some r):BB prog 82 [bA 2 (GO z),.agg (Aw ab)] (.agg (BQ r.1)) [bA 2 (GO r.2),.dead]:=by refine kP mix func82 (hn [(0,[20,46,54,67,84,120,123,128,137,149]),(5,[13,14,30,31,32,36,43,44,49,50,51,52,57,58,60,61,62,68,70,71,72,75,76,88,89,90,94,95,100,101,102,104,105,109,110,111,113,114,124,126,127,131,132,133,134,135,136,139,140,141,146,147,151,153]),(19,[22])] [(24,10)] (Z:=[(13,false,5,[(0,6,0)])])) ?_;have a1:= @JK;have a2:= @DT;have a3:= @aK;have l3:=im λ_ _ _ _ n a=>∃(o:AD)(v:AX)(f:AD)(s:Int),(a 0=bA 2 (GO v)/\a 4=bA 7 z0/\a 5=bA 7 [vO 2 Bf f.de.AK,si f.de.Tx,vO 1 eB f.de.Bp,vO 3 Ap f.de.AA,vO 1 eI f.df,vO 1 eI f.AL,vS 1 eI f.dc]/\a 142=si (o.df.length:Int)/\a 143=si s)/\Gc o n v f s=some r;have l2:=im λ_ _ _ _ n b=>∃(l:AD)(w:AX)(a:AD)(d:Int),(b 0=bA 2 (GO w)/\b 4=bA 7 z0/\b 5=bA 7 [vO 2 Bf a.de.AK,si a.de.Tx,vO 1 eB a.de.Bp,vO 3 Ap a.de.AA,vO 1 eI a.df,vO 1 eI a.AL,vS 1 eI a.dc]/\b 63=si (l.de.AK.length:Int)/\b 64=si d)/\CC l n w a d=some r;have l1:=im λ_ _ _ _ n a=>∃(p:AD)(u:AX)(b:AD)(c:Int),(a 0=bA 2 (GO u)/\a 4=bA 7 z0/\a 5=bA 7 (Ii b)/\a 15=si (p.dc.length:Int)/\a 16=si c)/\AW p n u b c=some r;have c10:=ip 10 λ_ _ _ _ a=>∃(aa:AX)(e:AD),(a 0=bA 2 (GO aa)/\a 4=bA 7 z0/\a 5=bA 7 [vO 2 Bf e.de.AK,si e.de.Tx,vO 1 eB e.de.Bp,vO 3 Ap e.de.AA,vO 1 eI e.df,vO 1 eI e.AL,vS 1 eI e.dc])/\QP aa e=some r;unfold Aj at h;exact walk
end
end
section
open Go.Proofs Tryz
set_option maxRecDepth 1000000
set_option maxHeartbeats 100000000
namespace Ik
def J2(i:AG):ABu AG:=
if Am (i.AB.length+2) 88=true then
some (AG.mk i.cT i.ej i.db (i.AB++[(AH.mk 1 3 0 1 6 [] []),(AH.mk 1 5 (-1) 1 7 [1] [])]))
else none
def L2(c:Int)(L2:AG->Int->ABu AG)(b:AG)(f:Int):=
if decide (f<c)then
if Am (b.AB.length+1) 88=true then
L2 (AG.mk b.cT b.ej b.db (b.AB++[(AH.mk (A6 (2*f)) 4 0 1 (A6 (12*f)) [] [])])) (A6 (f+1))
else none
else
J2 b
def CC(c:Int):Nat->AG->Int->ABu AG
|0,_,_=>none
|n+1,b,f=>L2 c (CC c n) b f
def J1(c:Int)(j:AG):=
CC c BT (AG.mk j.cT (j.db.dc.length:Int) j.db j.AB) 0
def L1(c:Int)(e:AD)(L1:AG->Int->ABu AG)(a:AG)(d:Int):=
if decide (d<(e.dc.length:Int))then
(gt a.db.dc d).bind λp=>
(gt a.db.de.AA d).bind λo=>
L1 (AG.mk a.cT a.ej (AD.mk (AQ.mk a.db.de.AK a.db.de.Tx a.db.de.Bp (a.db.de.AA.set d.toNat (AM.mk 2 o.Dy o.dy))) a.db.df a.db.AL (a.db.dc.set d.toNat 1)) a.AB) (A6 (d+1))
else
J1 c a
def AW(c:Int)(e:AD):Nat->AG->Int->ABu AG
|0,_,_=>none
|n+1,a,d=>L1 c e (AW c e n) a d
end Ik
section
open Ik
def Ik(c:Int):=
(Gs).bind λl=>
(EX l).bind λe=>
AW c e BT (AG.mk l 0 e []) 0
theorem XT{c:Int}{r:AG}(h:Ik c=some r):Says prog 76 [si c] (.agg (A4 r)):=by refine kF mix func76 (hn [(3,[8,9,11,12,13,14,19,20,21,23,24,25,26,27,29,30,32,33,34,36,42,43,51,52,53,54,56,57,58,59])] (Z:=[(14,false,3,[(0,7,0)]),(14,false,3,[(0,9,0)]),(14,false,3,[(0,10,0)]),(14,false,3,[(0,11,0)]),(14,false,3,[(0,12,0)]),(14,false,3,[(0,13,0)])]) (E:=[(14,(.gz false 3 [(0,13,0)] (.gz false 3 [(0,12,0)] (.gz false 3 [(0,11,0)] (.gz false 3 [(0,10,0)] (.gz false 3 [(0,9,0)] (.gz false 3 [(0,7,0)] (.drw (KZ [6,7,8,9,10,11] (.fork 0 12 (KZ [0] (.fork 1 12 (KZ [1] (.fork 2 12 (KZ [2] (.fork 3 12 (KZ [3] (.fork 4 12 (KZ [4] (.fork 5 12 (KZ [5,12,13,14] .leaf) (KZ [12,5,13,14] .leaf))) (KZ [12,4,5,13,14] .leaf))) (.fork 4 12 (KZ [4] (.fork 5 12 (KZ [5,12,3,13,14] .leaf) (KZ [12,3,5,13,14] .leaf))) (KZ [12,3,4,5,13,14] .leaf)))) (.fork 4 12 (KZ [4] (.fork 5 12 (KZ [5,12,2,3,13,14] .leaf) (KZ [12,2,3,5,13,14] .leaf))) (KZ [12,2,3,4,5,13,14] .leaf)))) (.fork 2 12 (KZ [2] (.fork 3 12 (KZ [3] (.fork 4 12 (KZ [4] (.fork 5 12 (KZ [5,12,1,13,14] .leaf) (KZ [12,1,5,13,14] .leaf))) (KZ [12,1,4,5,13,14] .leaf))) (.fork 4 12 (KZ [4] (.fork 5 12 (KZ [5,12,1,3,13,14] .leaf) (KZ [12,1,3,5,13,14] .leaf))) (KZ [12,1,3,4,5,13,14] .leaf)))) (.fork 4 12 (KZ [4] (.fork 5 12 (KZ [5,12,1,2,3,13,14] .leaf) (KZ [12,1,2,3,5,13,14] .leaf))) (KZ [12,1,2,3,4,5,13,14] .leaf))))) (.fork 2 12 (KZ [2] (.fork 3 12 (KZ [3] (.fork 4 12 (KZ [4] (.fork 5 12 (KZ [5,12,0,1,13,14] .leaf) (KZ [12,0,1,5,13,14] .leaf))) (KZ [12,0,1,4,5,13,14] .leaf))) (.fork 4 12 (KZ [4] (.fork 5 12 (KZ [5,12,0,1,3,13,14] .leaf) (KZ [12,0,1,3,5,13,14] .leaf))) (KZ [12,0,1,3,4,5,13,14] .leaf)))) (.fork 4 12 (KZ [4] (.fork 5 12 (KZ [5,12,0,1,2,3,13,14] .leaf) (KZ [12,0,1,2,3,5,13,14] .leaf))) (KZ [12,0,1,2,3,4,5,13,14] .leaf))))) [Kf 52 3 0 3,i1 53 3 (.ld true 6 (.t 52)),Kf 54 3 6 3,iL 55 54,Kf 56 3 7 3,i1 57 3 (.ld true 7 (.t 56)),Kf 58 3 14 3,Vg 59 3 58,i0 60 (.TK z3 [(0,1,.c (si 1)),(1,1,.c (si 3)),(3,1,.c (si 1)),(4,1,.c (si 6))]),i0 61 (.OR 1 [[si 0]] [(0,.c (si 1))]),i0 62 (.TK z3 [(0,1,.c (si 1)),(1,1,.c (si 5)),(2,1,.c (si (-1))),(3,1,.c (si 1)),(4,1,.c (si 7)),(5,1,.t 61)]),i0 63 (.OR 7 [z3,z3] [(0,.t 60),(1,.t 62)]),i0 64 (.app 7 88 (.t 59) (.t 63)),i0 65 (.TK z2 [(0,6,.t 53),(6,1,.t 55),(7,7,.t 57),(14,1,.t 64)]),iS 15 2 65]))))))))])) ?_;have a1:= @RF;have a2:= @JK;have l2:=im λ_ _ _ _ n a=>∃(b:AG)(f:Int),(a 0=si c/\a 2=bA 15 z2/\a 3=bA 15 [vS 5 HV b.cT.df,vS 2 IX b.cT.AK,vS 2 IW b.cT.Ak,vS 1 eS b.cT.AL,vS 1 eS b.cT.AA,vS 3 Gu b.cT.Be,si b.ej,vO 2 Bf b.db.de.AK,si b.db.de.Tx,vO 1 eB b.db.de.Bp,vO 3 Ap b.db.de.AA,vO 1 eI b.db.df,vO 1 eI b.db.AL,vO 1 eI b.db.dc,vO 7 I1 b.AB]/\a 5=si f)/\CC c n b f=some r;have l1:=im λ_ _ _ _ n b=>∃(e:AD)(a:AG)(d:Int),(b 0=si c/\b 2=bA 15 z2/\b 3=bA 15 [vS 5 HV a.cT.df,vS 2 IX a.cT.AK,vS 2 IW a.cT.Ak,vS 1 eS a.cT.AL,vS 1 eS a.cT.AA,vS 3 Gu a.cT.Be,si a.ej,vO 2 Bf a.db.de.AK,si a.db.de.Tx,vO 1 eB a.db.de.Bp,vO 3 Ap a.db.de.AA,vO 1 eI a.db.df,vO 1 eI a.db.AL,vO 1 eI a.db.dc,vO 7 I1 a.AB]/\b 15=si (e.dc.length:Int)/\b 16=si d)/\AW c e n a d=some r;unfold Ik at h;exact walk
end
end
end Go.Abs
