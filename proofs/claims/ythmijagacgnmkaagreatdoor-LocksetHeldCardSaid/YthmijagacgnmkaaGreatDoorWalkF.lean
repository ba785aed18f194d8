/- Typed programs of Go functions, and that the functions do what these say. -/
import Derived.Test.YthmijagacgnmkaaGreatDoorWalkD
import Derived.Test.YthmijagacgnmkaaGreatDoorWalkE
set_option linter.unusedSimpArgs false
set_option linter.unusedVariables false
namespace Go.Abs
open Go.Proofs
set_option maxRecDepth 1000000
set_option maxHeartbeats 4000000
namespace CM
def J2 (l:AO) (j:List AP):ABr ((List AP)×AO):=
some (j,l)
def J1 (L1:AO->(List AP)->Int->ABr ((List AP)×AO)) (R100:AO->Int->ABr (AP×AO)) (a b:Int) (c:List AP) (d:AO) (o:Bool):ABr ((List AP)×AO):=
if o then
(R100 d a).bind λi=>
if Af (c.length+1) 176=true then
L1 i.2 (c++[i.1]) (Ay (b+1))
else none
else
J2 d c
def L1 (R100:AO->Int->ABr (AP×AO)) (a e:Int) (L1:AO->(List AP)->Int->ABr ((List AP)×AO)) (d:AO) (c:List AP) (b:Int):ABr ((List AP)×AO):=
if decide (b<e)then
if b==0 then
J1 L1 R100 a b c d true
else
J1 L1 R100 a b c d (decide (d.left>0))
else
J1 L1 R100 a b c d false
def AZ (R100:AO->Int->ABr (AP×AO)) (a e:Int):Nat->AO->(List AP)->Int->ABr ((List AP)×AO)
|0,_,_,_=>none
|n+1,d,c,b=>L1 R100 a e (AZ R100 a e n) d c b
end CM
section
open CM
def CM (R100:AO->Int->ABr (AP×AO)) (f:AO) (a e:Int):ABr ((List AP)×AO):=
AZ R100 a e BU f [] 0
theorem QY {R100:AO->Int->ABr (AP×AO)} (H100:∀{x0 x1 r},R100 x0 x1=some r->A8 Tryz.prog 221 [bA 8 (CH x0),si x1] (.agg [si r.1.Op,si r.1.FG,BR r.1.Name,BR r.1.Arg,vS 4 A9 r.1.Index,si r.1.Expr.Op,si r.1.Expr.N,BR r.1.Expr.Name,vS 4 A9 r.1.Expr.L,vS 11 A4 r.1.Body,vS 11 A4 r.1.Else]) [bA 8 (CH r.2),.dead]) {f:AO} {a e:Int} {r:(List AP)×AO} (h:CM R100 f a e=some r):A8 Tryz.prog 187 [bA 8 (CH f),si a,si e] (vO 11 A4 r.1) [bA 8 (CH r.2),.dead,.dead]:=by refine kL mix Tryz.func187 (hn [(0,[16,17,18,26]),(7,[25,31])]) ?_;have a1:= @H100;have l1:=λn1 n2 n3 n4:Nat=>A0 λn τ=>∃(d:AO) (c:List AP) (b:Int),(τ 0=bA 8 (CH d)/\τ 1=si a/\τ 2=si e/\τ 7=vO 11 A4 c/\τ 8=si b)/\AZ R100 a e n d c b=some r;unfold CM at h;exact walk
end
namespace Au
def J3 (bi:AO) (bj:AP):ABr (AP×AO):=
some (bj,bi)
def xO (ad:AO) (bl:Bool):ABr (AP×AO):=
if bl then
some ((AP.mk 15 0 (⟨#[97]⟩:ABs) (⟨#[102]⟩:ABs) [] (A7.mk 0 0 (⟨#[]⟩:ABs) []) [] []),ad)
else
(B5 BU ad 1).bind λbb=>
(Em (⟨#[120]⟩:ABs) bb.1).bind λca=>
some (ca,bb.2)
def eC (e:AO) (b:Int×Ab) (z:Bool):ABr (AP×AO):=
if z then
(B5 BU (AO.mk e.t e.BX e.left true e.tx e.atomic e.loop e.held) 1).bind λaz=>
some ((AP.mk 14 0 (⟨#[102]⟩:ABs) (⟨#[]⟩:ABs) [] az.1 [] []),az.2)
else
if b.1==17 then
if !e.tx then
(Ak e.t 2).bind λba=>
xO (AO.mk ba.2 e.BX e.left e.HY e.tx e.atomic e.loop e.held) (ba.1==1)
else
xO e false
else
xO e false
def Rw (b:Int×Ab) (e:AO) (y:Bool):ABr (AP×AO):=
if y then
(Ak e.t 2).bind λay=>
some ((AP.mk 4 0 (⟨#[109]⟩:ABs) (⟨#[]⟩:ABs) [] (A7.mk 0 0 (⟨#[]⟩:ABs) []) [(AP.mk (Ay (10+ay.1)) 0 (⟨#[99]⟩:ABs) (⟨#[]⟩:ABs) [] (A7.mk 0 0 (⟨#[]⟩:ABs) []) [] [])] []),(AO.mk ay.2 e.BX e.left e.HY e.tx e.atomic e.loop e.held))
else
if b.1==16 then
if !e.tx then
if !e.loop then
eC e b (!e.HY)
else
eC e b false
else
eC e b false
else
eC e b false
def J9 (c:Bool) (b:Int×Ab) (q:AO) (x:Bool):ABr (AP×AO):=
if x then
(Ii (⟨#[120]⟩:ABs)).bind λbx=>
(Em (⟨#[97]⟩:ABs) bx).bind λbz=>
some ((AP.mk 4 0 (⟨#[109]⟩:ABs) (⟨#[]⟩:ABs) [] (A7.mk 0 0 (⟨#[]⟩:ABs) []) [(AP.mk 9 0 (⟨#[99]⟩:ABs) (⟨#[]⟩:ABs) [] (A7.mk 0 0 (⟨#[]⟩:ABs) []) [] []),bz] []),q)
else
if b.1==15 then
if c then
(Dg q (⟨#[109]⟩:ABs)).bind λax=>
Rw b ax.2 (!ax.1)
else
Rw b q false
else
Rw b q false
def J8 (R102:AO->Int->Int->ABr ((List AP)×AO)) (d:Int) (f:AO) (c:Bool) (b:Int×Ab) (w:Bool):ABr (AP×AO):=
if w then
(R102 (AO.mk f.t f.BX f.left f.HY f.tx true f.loop f.held) (Ay (d-1)) 2).bind λp=>
some ((AP.mk 8 0 (⟨#[]⟩:ABs) (⟨#[]⟩:ABs) [] (A7.mk 0 0 (⟨#[]⟩:ABs) []) p.1 []),(AO.mk p.2.t p.2.BX p.2.left p.2.HY p.2.tx false p.2.loop p.2.held))
else
if b.1==14 then
if c then
if !f.atomic then
(Dg f (⟨#[109]⟩:ABs)).bind λav=>
J9 c b av.2 (!av.1)
else
J9 c b f false
else
J9 c b f false
else
J9 c b f false
def J7 (R102:AO->Int->Int->ABr ((List AP)×AO)) (d:Int) (f:AO) (c:Bool) (b:Int×Ab) (v:Bool):ABr (AP×AO):=
if v then
(Ak f.t 2).bind λau=>
(R102 (AO.mk au.2 f.BX f.left f.HY true f.atomic f.loop f.held) 0 (Ay (1+au.1))).bind λo=>
some ((AP.mk 7 0 (⟨#[]⟩:ABs) (⟨#[]⟩:ABs) [] (A7.mk 0 0 (⟨#[]⟩:ABs) []) o.1 []),(AO.mk o.2.t o.2.BX o.2.left o.2.HY false o.2.atomic o.2.loop o.2.held))
else
if b.1==13 then
if c then
J8 R102 d f c b (!f.atomic)
else
J8 R102 d f c b false
else
J8 R102 d f c b false
def J6 (R101:AO->ABs->Int->ABr ((List AP)×AO)) (R102:AO->Int->Int->ABr ((List AP)×AO)) (d:Int) (c:Bool) (b:Int×Ab) (f:AO) (u:Bool):ABr (AP×AO):=
if u then
(R101 f (⟨#[114]⟩:ABs) (Ay (d-1))).bind λaq=>
some ((AP.mk (Ay ((Ay (b.1-10))+5)) 0 (⟨#[114]⟩:ABs) (⟨#[]⟩:ABs) [] (A7.mk 0 0 (⟨#[]⟩:ABs) []) aq.1 []),aq.2)
else
if b.1==12 then
J7 R102 d f c b c
else
J7 R102 d f c b false
def J5 (R101:AO->ABs->Int->ABr ((List AP)×AO)) (R102:AO->Int->Int->ABr ((List AP)×AO)) (d:Int) (c:Bool) (b:Int×Ab) (j:AO) (t:Bool):ABr (AP×AO):=
if t then
(gt [(⟨#[109]⟩:ABs),(⟨#[110]⟩:ABs)] (Ay (b.1-8))).bind λbf=>
(R101 j bf (Ay (d-1))).bind λal=>
some ((AP.mk 4 0 bf (⟨#[]⟩:ABs) [] (A7.mk 0 0 (⟨#[]⟩:ABs) []) al.1 []),al.2)
else
if b.1==10 then
if c then
(Dg j (⟨#[114]⟩:ABs)).bind λao=>
J6 R101 R102 d c b ao.2 (!ao.1)
else
J6 R101 R102 d c b j false
else
if b.1==11 then
if c then
(Dg j (⟨#[114]⟩:ABs)).bind λap=>
J6 R101 R102 d c b ap.2 (!ap.1)
else
J6 R101 R102 d c b j false
else
J6 R101 R102 d c b j false
def J4 (R101:AO->ABs->Int->ABr ((List AP)×AO)) (R102:AO->Int->Int->ABr ((List AP)×AO)) (d:Int) (a:AO) (c:Bool) (b:Int×Ab) (s:Bool):ABr (AP×AO):=
if s then
(Ii (⟨#[98]⟩:ABs)).bind λbo=>
(Jq 2).bind λbp=>
(IJ 13 bo bp).bind λbq=>
(R102 (AO.mk b.2 a.BX (Ay (a.left-1)) a.HY a.tx a.atomic true a.held) (Ay (d-1)) 1).bind λl=>
(Ii (⟨#[98]⟩:ABs)).bind λbs=>
(Jq 1).bind λbt=>
(IJ 6 bs bt).bind λbu=>
(Em (⟨#[98]⟩:ABs) bu).bind λbv=>
if Af (l.1.length+1) 176=true then
some ((AP.mk 3 0 (⟨#[]⟩:ABs) (⟨#[]⟩:ABs) [] bq (l.1++[bv]) []),(AO.mk l.2.t l.2.BX l.2.left l.2.HY l.2.tx l.2.atomic a.loop l.2.held))
else none
else
if b.1==8 then
if c then
(gt [(⟨#[109]⟩:ABs),(⟨#[110]⟩:ABs)] (Ay (b.1-8))).bind λce=>
(Dg (AO.mk b.2 a.BX (Ay (a.left-1)) a.HY a.tx a.atomic a.loop a.held) ce).bind λai=>
J5 R101 R102 d c b ai.2 (!ai.1)
else
J5 R101 R102 d c b (AO.mk b.2 a.BX (Ay (a.left-1)) a.HY a.tx a.atomic a.loop a.held) false
else
if b.1==9 then
if c then
(gt [(⟨#[109]⟩:ABs),(⟨#[110]⟩:ABs)] (Ay (b.1-8))).bind λcf=>
(Dg (AO.mk b.2 a.BX (Ay (a.left-1)) a.HY a.tx a.atomic a.loop a.held) cf).bind λaj=>
J5 R101 R102 d c b aj.2 (!aj.1)
else
J5 R101 R102 d c b (AO.mk b.2 a.BX (Ay (a.left-1)) a.HY a.tx a.atomic a.loop a.held) false
else
J5 R101 R102 d c b (AO.mk b.2 a.BX (Ay (a.left-1)) a.HY a.tx a.atomic a.loop a.held) false
def J2 (R101:AO->ABs->Int->ABr ((List AP)×AO)) (R102:AO->Int->Int->ABr ((List AP)×AO)) (d:Int) (a:AO) (c:Bool) (b:Int×Ab) (aa:Bool):ABr (AP×AO):=
if aa then
(B5 BU (AO.mk b.2 a.BX (Ay (a.left-1)) a.HY a.tx a.atomic a.loop a.held) 1).bind λac=>
(R102 ac.2 (Ay (d-1)) 1).bind λi=>
(Ak i.2.t 2).bind λab=>
if ab.1==1 then
(R102 (AO.mk ab.2 i.2.BX i.2.left i.2.HY i.2.tx i.2.atomic i.2.loop i.2.held) (Ay (d-1)) 1).bind λaf=>
J3 af.2 (AP.mk 2 0 (⟨#[]⟩:ABs) (⟨#[]⟩:ABs) [] ac.1 i.1 af.1)
else
J3 (AO.mk ab.2 i.2.BX i.2.left i.2.HY i.2.tx i.2.atomic i.2.loop i.2.held) (AP.mk 2 0 (⟨#[]⟩:ABs) (⟨#[]⟩:ABs) [] ac.1 i.1 [])
else
if b.1==7 then
J4 R101 R102 d a c b (decide (d>0))
else
J4 R101 R102 d a c b false
def J1 (R101:AO->ABs->Int->ABr ((List AP)×AO)) (R102:AO->Int->Int->ABr ((List AP)×AO)) (d:Int) (a:AO) (b:Int×Ab) (c:Bool):ABr (AP×AO):=
if decide (b.1<4)then
(gt [(⟨#[120]⟩:ABs),(⟨#[121]⟩:ABs),(⟨#[120]⟩:ABs),(⟨#[118]⟩:ABs)] b.1).bind λcc=>
(B5 BU (AO.mk b.2 a.BX (Ay (a.left-1)) a.HY a.tx a.atomic a.loop a.held) 1).bind λae=>
(Em cc ae.1).bind λbw=>
some (bw,ae.2)
else
if b.1==4 then
(Ak b.2 2).bind λaw=>
(gt [(⟨#[97]⟩:ABs),(⟨#[98]⟩:ABs)] aw.1).bind λcd=>
(B5 BU (AO.mk aw.2 a.BX (Ay (a.left-1)) a.HY a.tx a.atomic a.loop a.held) 1).bind λbc=>
(Em cd bc.1).bind λcb=>
some (cb,bc.2)
else
if b.1==5 then
(B5 BU (AO.mk b.2 a.BX (Ay (a.left-1)) a.HY a.tx a.atomic a.loop a.held) 0).bind λbd=>
(B5 BU bd.2 1).bind λbe=>
some ((AP.mk 1 0 (⟨#[113]⟩:ABs) (⟨#[]⟩:ABs) [bd.1] be.1 [] []),be.2)
else
if b.1==6 then
J2 R101 R102 d a c b (decide (d>0))
else
J2 R101 R102 d a c b false
end Au
section
open Au
def Au (R101:AO->ABs->Int->ABr ((List AP)×AO)) (R102:AO->Int->Int->ABr ((List AP)×AO)) (a:AO) (d:Int):ABr (AP×AO):=
(Ak a.t 18).bind λb=>
if decide (d>0)then
if decide ((Ay (a.left-1))>0)then
J1 R101 R102 d a b (!a.tx)
else
J1 R101 R102 d a b false
else
J1 R101 R102 d a b false
theorem RS {R101:AO->ABs->Int->ABr ((List AP)×AO)} (H101:∀{x0 x1 x2 r},R101 x0 x1 x2=some r->A8 Tryz.prog 249 [bA 8 (CH x0),BR x1,si x2] (vO 11 A4 r.1) [bA 8 (CH r.2),.dead,.dead]) {R102:AO->Int->Int->ABr ((List AP)×AO)} (H102:∀{x0 x1 x2 r},R102 x0 x1 x2=some r->A8 Tryz.prog 187 [bA 8 (CH x0),si x1,si x2] (vO 11 A4 r.1) [bA 8 (CH r.2),.dead,.dead]) {a:AO} {d:Int} {r:AP×AO} (h:Au R101 R102 a d=some r):A8 Tryz.prog 221 [bA 8 (CH a),si d] (.agg [si r.1.Op,si r.1.FG,BR r.1.Name,BR r.1.Arg,vS 4 A9 r.1.Index,si r.1.Expr.Op,si r.1.Expr.N,BR r.1.Expr.Name,vS 4 A9 r.1.Expr.L,vS 11 A4 r.1.Body,vS 11 A4 r.1.Else]) [bA 8 (CH r.2),.dead]:=by refine kP mix Tryz.func221 (hn [(0,[13,14,15,18,19,20,21,22,23,28,29,30,35,36,37,48,55,56,57,58,68,71,81,83,88,89,90,91,94,107,108,109,111,112,113,117,128,130,131,144,159,176,183,194,195,196,197,198,199,200,201,206,207,208,217,218,219,223,224,225,226,231,232,233,242,243,244,249,265,269,270,271,272,282,283,284,289,290,291,296,297,298,302,303,304,305,312,313,314,319,320,321,322,327]),(7,[98,99]),(9,[132]),(11,[209]),(12,[234]),(44,[46]),(54,[60]),(145,[148]),(153,[156])] [(3,1),(11,2),(16,4),(22,5),(25,6),(27,7),(32,8),(37,9),(39,10),(41,11)] (E:=[(7,(.dS [(0,8,9,62)] [⟨some ⟨54,[60],[]⟩,.OD 1 [[BR ⟨#[]⟩],[BR ⟨#[]⟩]] [(0,.c (BR ⟨#[97]⟩)),(1,.c (BR ⟨#[98]⟩))],none⟩,i1 55 0 (.cp (.t 0)),i1 56 0 (.Hx (.t 55)),Np 57 0 0 56,Zu 58 0 57,i0 59 (.Up 104 [] (.t 58) none [.c (si 2)]),wZ 60 54 1 54 59,iL 61 60,i0 62 .fl,i0 63 (.Up 245 [] (.t 0) none [.c (si 1)]),i0 64 (.call 188 [.t 61,.t 63] 1),iS 11 4 64]))])) ?_;have a1:= @DO;have a2:= @QW;have a3:= @PQ;have a4:= @H102;have a5:= @Sv;have a6:= @PU;have a7:= @PR;have a8:= @H101;have a9:= @QX;have c11:=λn1 n2 n3 n4:Nat=>Bo 11 λτ=>∃(e:AO) (b:Int×Ab) (z:Bool),(τ 0=bA 8 (CH e)/\τ 4=bA 11 z1/\τ 5=si b.1/\τ 278=sb z)/\eC e b z=some r;have c10:=λn1 n2 n3 n4:Nat=>Bo 10 λτ=>∃(b:Int×Ab) (e:AO) (y:Bool),(τ 0=bA 8 (CH e)/\τ 4=bA 11 z1/\τ 5=si b.1/\τ 258=sb y)/\Rw b e y=some r;have c9:=λn1 n2 n3 n4:Nat=>Bo 9 λτ=>∃(c:Bool) (b:Int×Ab) (q:AO) (x:Bool),(τ 0=bA 8 (CH q)/\τ 4=bA 11 z1/\τ 5=si b.1/\τ 6=sb c/\τ 235=sb x)/\J9 c b q x=some r;have c8:=λn1 n2 n3 n4:Nat=>Bo 8 λτ=>∃(f:AO) (c:Bool) (b:Int×Ab) (w:Bool),(τ 0=bA 8 (CH f)/\τ 1=si d/\τ 4=bA 11 z1/\τ 5=si b.1/\τ 6=sb c/\τ 210=sb w)/\J8 R102 d f c b w=some r;have c7:=λn1 n2 n3 n4:Nat=>Bo 7 λτ=>∃(f:AO) (c:Bool) (b:Int×Ab) (v:Bool),(τ 0=bA 8 (CH f)/\τ 1=si d/\τ 4=bA 11 z1/\τ 5=si b.1/\τ 6=sb c/\τ 188=sb v)/\J7 R102 d f c b v=some r;have c6:=λn1 n2 n3 n4:Nat=>Bo 6 λτ=>∃(c:Bool) (b:Int×Ab) (f:AO) (u:Bool),(τ 0=bA 8 (CH f)/\τ 1=si d/\τ 4=bA 11 z1/\τ 5=si b.1/\τ 6=sb c/\τ 165=sb u)/\J6 R101 R102 d c b f u=some r;have c5:=λn1 n2 n3 n4:Nat=>Bo 5 λτ=>∃(c:Bool) (b:Int×Ab) (j:AO) (t:Bool),(τ 0=bA 8 (CH j)/\τ 1=si d/\τ 4=bA 11 z1/\τ 5=si b.1/\τ 6=sb c/\τ 133=sb t)/\J5 R101 R102 d c b j t=some r;have c4:=λn1 n2 n3 n4:Nat=>Bo 4 λτ=>∃(c:Bool) (b:Int×Ab) (s:Bool),(τ 0=bA 8 [bA 2 (Gz b.2),si a.BX,si (Ay (a.left-1)),sb a.HY,sb a.tx,sb a.atomic,sb a.loop,vO 1 eS a.held]/\τ 1=si d/\τ 4=bA 11 z1/\τ 5=si b.1/\τ 6=sb c/\τ 100=sb s)/\J4 R101 R102 d a c b s=some r;have c2:=λn1 n2 n3 n4:Nat=>Bo 2 λτ=>∃(c:Bool) (b:Int×Ab) (aa:Bool),(τ 0=bA 8 [bA 2 (Gz b.2),si a.BX,si (Ay (a.left-1)),sb a.HY,sb a.tx,sb a.atomic,sb a.loop,vO 1 eS a.held]/\τ 1=si d/\τ 4=bA 11 z1/\τ 5=si b.1/\τ 6=sb c/\τ 74=sb aa)/\J2 R101 R102 d a c b aa=some r;have c1:=λn1 n2 n3 n4:Nat=>Bo 1 λτ=>∃(b:Int×Ab) (c:Bool),(τ 0=bA 8 [bA 2 (Gz b.2),si a.BX,si (Ay (a.left-1)),sb a.HY,sb a.tx,sb a.atomic,sb a.loop,vO 1 eS a.held]/\τ 1=si d/\τ 4=bA 11 z1/\τ 5=si b.1/\τ 6=sb c)/\J1 R101 R102 d a b c=some r;unfold Au at h;exact walk
end
def HV (R102:AO->Int->Int->ABr ((List AP)×AO)) (b:AO) (d:ABs) (c:Int):ABr ((List AP)×AO):=
if Af (b.held.length+1) 16=true then
(Ak b.t 2).bind λe=>
(R102 (AO.mk e.2 b.BX b.left b.HY b.tx b.atomic b.loop (b.held++[d])) c (Ay (1+e.1))).bind λa=>
if 0≤(Ay ((a.2.held.length:Int)-1))/\((Ay ((a.2.held.length:Int)-1)).toNat)≤a.2.held.length then
some (a.1,(AO.mk a.2.t a.2.BX a.2.left a.2.HY a.2.tx a.2.atomic a.2.loop (a.2.held.take ((Ay ((a.2.held.length:Int)-1)).toNat))))
else none
else none
theorem QU {R102:AO->Int->Int->ABr ((List AP)×AO)} (H102:∀{x0 x1 x2 r},R102 x0 x1 x2=some r->A8 Tryz.prog 187 [bA 8 (CH x0),si x1,si x2] (vO 11 A4 r.1) [bA 8 (CH r.2),.dead,.dead]) {b:AO} {d:ABs} {c:Int} {r:(List AP)×AO} (h:HV R102 b d c=some r):A8 Tryz.prog 249 [bA 8 (CH b),BR d,si c] (vO 11 A4 r.1) [bA 8 (CH r.2),.dead,.dead]:=by refine kL mix Tryz.func249 (hn [(0,[8,9,10,11,12,16,17,18,20,21,22,23,28,29,30,31,32,33,34,35,39,40]),(7,[41])] (E:=[(3,(.dS [(0,0,12,27)] [i0 27 .fl,i1 28 0 (.cp (.t 0)),i1 29 0 (.Hx (.t 28)),Np 30 0 7 29,Zu 31 0 30,i1 32 0 (.cp (.t 0)),i1 33 0 (.Hx (.t 32)),Np 34 0 7 33,Zu 35 0 34,iZ 36 35,iP 37 .sub 36 1,i0 38 (.qZ 1 false (.t 31) none (some (.t 37)) none),i1 39 0 (.Hx (.t 0)),Np 40 0 7 39,iS 1 40 38]))])) ?_;have a1:= @DO;have a2:= @H102;unfold HV at h;exact walk
def E2:Nat->(AO->Int->Int->ABr ((List AP)×AO))×(AO->Int->ABr (AP×AO))×(AO->ABs->Int->ABr ((List AP)×AO))
|0=>((λ_ _ _=>none),(λ_ _=>none),(λ_ _ _=>none))
|n+1=>(CM ((E2 n).2.1),Au ((E2 n).2.2) ((E2 n).1),HV ((E2 n).1))
def Dl (n:Nat):AO->Int->Int->ABr ((List AP)×AO):=(E2 n).1
def FV (n:Nat):AO->Int->ABr (AP×AO):=(E2 n).2.1
def Jp (n:Nat):AO->ABs->Int->ABr ((List AP)×AO):=(E2 n).2.2
theorem PS (n:Nat):(∀{x0 x1 x2 r},(Dl n) x0 x1 x2=some r->A8 Tryz.prog 187 [bA 8 (CH x0),si x1,si x2] (.own false 11 (r.1.map A4)) [bA 8 (CH r.2),.dead,.dead])/\(∀{x0 x1 r},(FV n) x0 x1=some r->A8 Tryz.prog 221 [bA 8 (CH x0),si x1] (.agg [si r.1.Op,si r.1.FG,BR r.1.Name,BR r.1.Arg,.sl false 4 (r.1.Index.map A9),si r.1.Expr.Op,si r.1.Expr.N,BR r.1.Expr.Name,.sl false 4 (r.1.Expr.L.map A9),.sl false 11 (r.1.Body.map A4),.sl false 11 (r.1.Else.map A4)]) [bA 8 (CH r.2),.dead])/\(∀{x0 x1 x2 r},(Jp n) x0 x1 x2=some r->A8 Tryz.prog 249 [bA 8 (CH x0),BR x1,si x2] (.own false 11 (r.1.map A4)) [bA 8 (CH r.2),.dead,.dead]):=by
  induction n with
  |zero=>exact⟨λh=>EO h,λh=>EO h,λh=>EO h⟩
  |succ n ih=>exact⟨λh=>QY ih.2.1 h,λh=>RS ih.2.2 ih.1 h,λh=>QU ih.1 h⟩
theorem PT {n:Nat}:∀{x0 x1 x2 r},(Dl n) x0 x1 x2=some r->A8 Tryz.prog 187 [bA 8 (CH x0),si x1,si x2] (.own false 11 (r.1.map A4)) [bA 8 (CH r.2),.dead,.dead]:=(PS n).1
def f121c:Yl:=(.seq (.ic (Rc 0 [.b 2 [16,29,43,47] (.bx 6 (.t 0)),.B 4 false]))
(.seq (.ic (Rc 0 [.b 5 [13,23,36,42,46,51,55] (.mv (.c (.own false 1 [])))]))
(.seq (.ic (Rc 13 [.y 5 (.cp (.t 5)),.C 1,.o (.app 1 16 (.t 13) (.t 14)),.b 5 [13,23,36,42,46,51,55] (.mv (.t 15))]))
(fI (.ic (Ra 16 [.f 1 2,.Z 17,.Y 0]
(Bl 0 (Ra 20 [.O .lss 19 18]
(Sq (cX 20 0)
(Sq (Bk 1 (Ra 21 [.I 2 17 19,.A 2 21,.b 7 [24] (.bx 2 (.c (.agg [BR ⟨#[]⟩,sb false]))),.S 2 7 22]
(Rc 23 [.y 5 (.cp (.t 5)),.f 0 7,.o (.OD 1 [[BR ⟨#[]⟩]] [(0,.t 25)]),.o (.app 1 16 (.t 23) (.t 26)),.b 5 [13,23,36,42,46,51,55] (.mv (.t 27))])))
(Rc 28 [.P .add 19 1,.w 19,.C 28])))))))
(fI (.ic (Ra 29 [.f 2 2,.Z 30,.Y 0]
(Bl 2 (Ra 33 [.O .lss 32 31]
(Sq (cX 33 2)
(Sq (Bk 3 (Ra 34 [.I 2 30 32,.A 2 34,.b 9 [37] (.bx 2 (.c (.agg [BR ⟨#[]⟩,si 0]))),.S 2 9 35]
(Rc 36 [.y 5 (.cp (.t 5)),.f 0 9,.o (.OD 1 [[BR ⟨#[]⟩]] [(0,.t 38)]),.o (.app 1 16 (.t 36) (.t 39)),.b 5 [13,23,36,42,46,51,55] (.mv (.t 40))])))
(Rc 41 [.P .add 32 1,.w 32,.C 41])))))))
(.seq (.ic (Rc 42 [.y 5 (.cp (.t 5)),.f 3 2,.o (.app 1 16 (.t 42) (.t 44)),.b 5 [13,23,36,42,46,51,55] (.mv (.t 45))]))
(.seq (.ic (Rc 46 [.y 5 (.cp (.t 5)),.f 4 2,.o (.app 1 16 (.t 46) (.t 48)),.b 5 [13,23,36,42,46,51,55] (.mv (.t 49))]))
(.seq (.Y6 [.mkm ⟨50,[],[]⟩,.x (.o ⟨some ⟨10,[],[]⟩,.mv (.t 50),none⟩)])
(fI (.seq (.ic (Rc 51 [.y 5 (.cp (.t 5)),.Z 51,.Y 0]))
(.block 4 (.loop (.seq (.ic (Rc 54 [.O .lss 53 52]))
(.seq (.ic (cX 54 4))
(.seq (.block 5 (.seq (.ic (Rc 55 [.J 5 1 51 53,.L 55,.M 12 56]))
(.seq (fI (.Y6 [.x (.o ⟨some ⟨57,[],[]⟩,.cp (.t 12),none⟩),.x (.o ⟨some ⟨58,[],[]⟩,.call 165 [.t 57] 0,none⟩),.x (.o ⟨some ⟨59,[],[]⟩,.un .not (.t 58),none⟩),.x (.o ⟨some ⟨60,[],[]⟩,.cp (.t 59),none⟩),.x (.o ⟨some ⟨61,[],[]⟩,.cp (.t 10),some (60,false)⟩),.x (.o ⟨some ⟨62,[],[]⟩,.cp (.t 12),some (60,false)⟩),.lkp (some (60,false)) ⟨63,[],[]⟩ (.t 61) (.t 62),.x (.o ⟨some ⟨64,[],[]⟩,.pick (.t 60) (.c (sb true)) (.t 63),none⟩)])
(.ic (Ci 64 (Rb 0 [.B 4 false]))))
(.Y6 [.x (.o ⟨some ⟨65,[],[]⟩,.cp (.t 10),none⟩),.x (.o ⟨some ⟨66,[],[]⟩,.cp (.t 12),none⟩),.mup (.t 65) (.t 66) (.c (sb true))]))))
(.ic (Rc 67 [.P .add 53 1,.w 53,.C 67]))))))))
(.ic (Rb 0 [.B 4 true])))))))))))
def f121g:Gi:=⟨[(13,[5]),(16,[2]),(23,[5]),(24,[7]),(29,[2]),(36,[5]),(37,[9]),(42,[5]),(43,[2]),(46,[5]),(47,[2]),(51,[5]),(55,[5])]⟩
def f121r:List RV:=[.tmp 4]
def f121:FIM:=⟨f121c,f121g,f121r⟩
theorem chk121:o4 Tryz.prog Tryz.f121 f121=true:=by kernel_rfl
namespace BB
def J4 (seen:List ABs):ABr Bool:=
some true
def J3 (L3:Int->(List ABs)->ABr Bool) (seen:List ABs) (Tr:Int) (x_2:ABs) (t64v:Bool):ABr Bool:=
if t64v then
some false
else
if(seen.any λζ=>ζ==x_2)=false then
L3 (Ay (Tr+1)) (seen++[x_2])
else none
def L3 (Ji:List ABs) (wv:AB) (L3:Int->(List ABs)->ABr Bool) (Tr:Int) (seen:List ABs):ABr Bool:=
if decide (Tr<(((Ji++wv.AK)++wv.AA).length:Int))then
(gt ((Ji++wv.AK)++wv.AA) Tr).bind λx_2=>
(Cm x_2).bind λv=>
if !v then
J3 L3 seen Tr x_2 true
else
J3 L3 seen Tr x_2 (seen.any λζ=>ζ==x_2)
else
J4 seen
def Hz (Ji:List ABs) (wv:AB):Nat->Int->(List ABs)->ABr Bool
|0,_,_=>none
|n+1,Tr,seen=>L3 Ji wv (Hz Ji wv n) Tr seen
def J2 (wv:AB) (Ji:List ABs):ABr Bool:=
if Af (Ji.length+wv.AK.length) 16=true then
if Af ((Ji++wv.AK).length+wv.AA.length) 16=true then
Hz Ji wv BU 0 []
else none
else none
def L2 (wv:AB) (L2:(List ABs)->Int->ABr Bool) (SD:List ABs) (dK:Int):ABr Bool:=
if decide (dK<(wv.Ah.length:Int))then
(gt wv.Ah dK).bind λx_1=>
if Af (SD.length+1) 16=true then
L2 (SD++[x_1.Name]) (Ay (dK+1))
else none
else
J2 wv SD
def Cf (wv:AB):Nat->(List ABs)->Int->ABr Bool
|0,_,_=>none
|n+1,SD,dK=>L2 wv (Cf wv n) SD dK
def J1 (wv:AB) (eL:List ABs):ABr Bool:=
Cf wv BU eL 0
def L1 (wv:AB) (L1:(List ABs)->Int->ABr Bool) (all:List ABs) (dJ:Int):ABr Bool:=
if decide (dJ<(wv.AF.length:Int))then
(gt wv.AF dJ).bind λx=>
if Af (all.length+1) 16=true then
L1 (all++[x.Name]) (Ay (dJ+1))
else none
else
J1 wv all
def AZ (wv:AB):Nat->(List ABs)->Int->ABr Bool
|0,_,_=>none
|n+1,all,dJ=>L1 wv (AZ wv n) all dJ
end BB
section
open BB
def BB (wv:AB) (variables:List ABs):ABr Bool:=
if Af (variables.length) 16=true then
AZ wv BU variables 0
else none
theorem Ob {wv:AB} {variables:List ABs} {r:Bool} (h:BB wv variables=some r):Says Tryz.prog 121 [.agg (Am wv),vS 1 eS variables] (sb r):=by
 refine jC mix Tryz.func121 chk121 (AAc (by kernel_rfl)) rfl ?_;simp only[f121,f121c,f121g,f121r];obtain⟨_,h⟩:=cS h
 try simp +decide only[go_sem, *]
 refine fJ (λτ ν=>∃eL:List ABs,(τ 2=bA 6 (Am wv)/\τ 5=vO 1 eS eL)/\J1 wv eL=some r) λM1 hM1=>⟨?_,?_⟩
 . try simp +decide only[go_sem, *]
   refine gS (λn τ=>∃all:List ABs,∃dJ:Int,(τ 2=bA 6 (Am wv)/\τ 5=vO 1 eS all/\τ 17=vS 2 Je wv.AF/\τ 18=si (wv.AF.length:Int)/\τ 19=si dJ)/\AZ wv n all dJ=some r) ⟨_,_,?_,h⟩ λn1 τ1 N1=> ?_
   . simp +decide only[go_sem, *]
   rintro⟨all,dJ,s1,h⟩ hN1;cases n1 with
   |zero=>exact EO h
   |succ n1=>
    rw[AZ]at h;generalize hL1:AZ wv n1=L1 at h
    try simp +decide only[go_sem, *]
    refine cI h (λ_ h=> ?_) λ_ h=> ?_
    . obtain⟨x,_,h⟩:=gB h;obtain⟨_,h⟩:=cS h
      try simp +decide only[go_sem, *]
      refine hN1 n1 (Nat.lt_succ_self _) _ ⟨_,_,?_,hL1.symm▸h⟩;simp +decide only[go_sem, *]
    try simp +decide only[go_sem, *]
    refine hM1 _ _ ⟨_,?_,h⟩;simp +decide only[go_sem, *]
 rintro τ1 ν1 ⟨eL,s1,h⟩
 try simp +decide only[go_sem, *]
 refine fJ (λτ ν=>∃Ji:List ABs,(τ 2=bA 6 (Am wv)/\τ 5=vO 1 eS Ji)/\J2 wv Ji=some r) λM2 hM2=>⟨?_,?_⟩
 . try simp +decide only[go_sem, *]
   refine gS (λn τ=>∃SD:List ABs,∃dK:Int,(τ 2=bA 6 (Am wv)/\τ 5=vO 1 eS SD/\τ 30=vS 2 Jd wv.Ah/\τ 31=si (wv.Ah.length:Int)/\τ 32=si dK)/\Cf wv n SD dK=some r) ⟨_,_,?_,h⟩ λn2 τ2 N2=> ?_
   . simp +decide only[go_sem, *]
   rintro⟨SD,dK,s2,h⟩ hN2;cases n2 with
   |zero=>exact EO h
   |succ n2=>
    rw[Cf]at h;generalize pY:Cf wv n2=L2 at h
    try simp +decide only[go_sem, *]
    refine cI h (λ_ h=> ?_) λ_ h=> ?_
    . obtain⟨x_1,_,h⟩:=gB h;obtain⟨_,h⟩:=cS h
      try simp +decide only[go_sem, *]
      refine hN2 n2 (Nat.lt_succ_self _) _ ⟨_,_,?_,pY.symm▸h⟩;simp +decide only[go_sem, *]
    try simp +decide only[go_sem, *]
    refine hM2 _ _ ⟨_,?_,h⟩;simp +decide only[go_sem, *]
 rintro τ2 ν2 ⟨Ji,s2,h⟩;obtain⟨_,h⟩:=cS h;obtain⟨_,h⟩:=cS h
 try simp +decide only[go_sem, *]
 intro b1 hb1
 try simp +decide only[go_sem, *]
 refine fJ (λτ ν=>∃seen:List ABs,(ν b1=some (.mp (seen.map tv)))/\J4 seen=some r) λM4 hM4=>⟨?_,?_⟩
 . try simp +decide only[go_sem, *]
   refine loopMH (λn τ ν=>∃Tr:Int,∃seen:List ABs,(τ 5= .own false 1 (((Ji++wv.AK)++wv.AA).map eS)/\τ 10= .sc (.map (some b1))/\τ 51= .al 5 []/\τ 52=si (((Ji++wv.AK)++wv.AA).length:Int)/\τ 53=si Tr/\ν b1=some (.mp (seen.map tv)))/\Hz Ji wv n Tr seen=some r) ⟨_,_,?_,h⟩ λn3 τ3 ν3 N3=> ?_
   . simp +decide only[go_sem, *]
   rintro⟨Tr,seen,s3,h⟩ hN3;cases n3 with
   |zero=>exact EO h
   |succ n3=>
    rw[Hz]at h;generalize hL3:Hz Ji wv n3=L3 at h
    try simp +decide only[go_sem, *]
    refine cI h (λ_ h=> ?_) λ_ h=> ?_
    . obtain⟨x_2,_,h⟩:=gB h
      try simp +decide only[go_sem, *]
      refine fJ (λτ ν=>∃t64v:Bool,(τ 5= .own false 1 (((Ji++wv.AK)++wv.AA).map eS)/\τ 10= .sc (.map (some b1))/\τ 12=BR x_2/\τ 51= .al 5 []/\τ 52=si (((Ji++wv.AK)++wv.AA).length:Int)/\τ 53=si Tr/\τ 64=sb t64v/\ν b1=some (.mp (seen.map tv)))/\J3 L3 seen Tr x_2 t64v=some r) λM3 hM3=>⟨?_,?_⟩
      . obtain⟨v,g9,h⟩:=bS h
        try simp +decide only[go_sem, *]
        refine⟨_,Vu g9,?_⟩
        try simp +decide only[go_sem, *]
        refine gI h (λ_ h=> ?_) λ_ h=> ?_
        . try simp +decide only[go_sem, *]
          refine hM3 _ _ ⟨_,?_,h⟩;simp +decide only[go_sem, *]
        try simp +decide only[go_sem, *]
        refine hM3 _ _ ⟨_,?_,h⟩;simp +decide only[go_sem, *]
      rintro τ3 ν3 ⟨t64v,s3,h⟩
      try simp +decide only[go_sem, *]
      refine cI h (λ_ h=> ?_) λ_ h=> ?_
      . obtain rfl:=AAU h;simp +decide only[go_sem, *]
      obtain⟨_,h⟩:=cS h
      try simp +decide only[go_sem, *]
      refine hN3 n3 (Nat.lt_succ_self _) _ _ ⟨_,_,?_,hL3.symm▸h⟩;simp +decide only[go_sem, *]
    try simp +decide only[go_sem, *]
    refine hM4 _ _ ⟨_,?_,h⟩;simp +decide only[go_sem, *]
 rintro τ4 ν4 ⟨seen,s4,h⟩;obtain rfl:=AAU h;simp +decide only[go_sem, *]
end
namespace Km
def J8:ABr Bool:=
some true
def J7 (L3:Int->ABr Bool) (d:Int) (p:Bool):ABr Bool:=
if p then
some false
else
L3 (Ay (d+1))
def J6 (L3:Int->ABr Bool) (d:Int) (a:BQ) (f:AG) (o:Bool):ABr Bool:=
if o then
some false
else
if f.Status==3 then
(gt a.World.Ah f.Es).bind λz=>
(gt a.Init.Sync.AF z.Mutex).bind λaa=>
J7 L3 d (aa.Bz==d)
else
if f.Status==4 then
(gt a.World.Ah f.Es).bind λab=>
(gt a.Init.Sync.AF ab.Mutex).bind λac=>
J7 L3 d (ac.Bz==d)
else
J7 L3 d false
def L3 (a:BQ) (L3:Int->ABr Bool) (d:Int):ABr Bool:=
if decide (d<(a.Init.Sync.AA.length:Int))then
(gt a.Init.Sync.AA d).bind λf=>
if f.Atomic then
(IQ a d).bind λv=>
J6 L3 d a f (!v)
else
J6 L3 d a f false
else
J8
def Hz (a:BQ):Nat->Int->ABr Bool
|0,_=>none
|n+1,d=>L3 a (Hz a n) d
def J5 (a:BQ) (j:Bool):ABr Bool:=
if j then
some false
else
Hz a BU 0
def J4 (a:BQ):ABr Bool:=
if a.Init.Sync.Tx != (-1)then
(IQ a a.Init.Sync.Tx).bind λu=>
J5 a (!u)
else
J5 a false
def J3 (L1:Int->ABr Bool) (b:Int):ABr Bool:=
L1 (Ay (b+1))
def J2 (L2:Int->ABr Bool) (e:Int) (q:Bool):ABr Bool:=
if q then
some false
else
L2 (Ay (e+1))
def L2 (L1:Int->ABr Bool) (b:Int) (a:BQ) (c:AY) (L2:Int->ABr Bool) (e:Int):ABr Bool:=
if decide (e<(c.Ax.length:Int))then
(gt c.Ax e).bind λl=>
(IQ a l).bind λt=>
if !t then
J2 L2 e true
else
if decide (e>0)then
(gt c.Ax (Ay (e-1))).bind λy=>
J2 L2 e (decide (l≤y))
else
J2 L2 e false
else
J3 L1 b
def Cf (L1:Int->ABr Bool) (b:Int) (a:BQ) (c:AY):Nat->Int->ABr Bool
|0,_=>none
|n+1,e=>L2 L1 b a c (Cf L1 b a c n) e
def J1 (L1:Int->ABr Bool) (b:Int) (a:BQ) (c:AY) (i:Bool):ABr Bool:=
if i then
some false
else
Cf L1 b a c BU 0
def L1 (a:BQ) (L1:Int->ABr Bool) (b:Int):ABr Bool:=
if decide (b<(a.Init.Sync.AF.length:Int))then
(gt a.Init.Sync.AF b).bind λc=>
if c.Bz != (-1)then
(IQ a c.Bz).bind λs=>
if !s then
J1 L1 b a c true
else
if decide ((c.Ax.length:Int)>0)then
(gt a.World.AF b).bind λw=>
if !w.RW then
J1 L1 b a c true
else
J1 L1 b a c (c.Bz != (-1))
else
J1 L1 b a c false
else
if decide ((c.Ax.length:Int)>0)then
(gt a.World.AF b).bind λx=>
if !x.RW then
J1 L1 b a c true
else
J1 L1 b a c (c.Bz != (-1))
else
J1 L1 b a c false
else
J4 a
def AZ (a:BQ):Nat->Int->ABr Bool
|0,_=>none
|n+1,b=>L1 a (AZ a n) b
end Km
section
open Km
def Km (a:BQ):ABr Bool:=
AZ a BU 0
end
namespace CV
def J2 (q:Bool):ABr Bool:=
some q
def J3 (s:Bool):ABr Bool:=
some s
def J4 (t:Bool):ABr Bool:=
some t
def J7 (u:Bool):ABr Bool:=
some u
def J8 (v:Bool):ABr Bool:=
some v
def J6 (a b:Int) (c:AN) (d:Int) (e:AB) (j:Bool):ABr Bool:=
if j then
(gt e.Ah b).bind λap=>
(gt c.AF ap.Mutex).bind λaq=>
some (aq.Bz==d)
else
if a==20 then
if b != d then
(gt c.AA b).bind λac=>
J7 (ac.Status==0)
else
J7 false
else
if a==21 then
if b != d then
(gt c.AA b).bind λad=>
J8 (ad.Status==5)
else
J8 false
else
if a==22 then
(gt c.B6 b).bind λae=>
some (!ae)
else
if a==23 then
(gt c.B6 b).bind λaf=>
some af
else
some true
def J5 (a b:Int) (c:AN) (d:Int) (e:AB) (f:AG) (i:Bool):ABr Bool:=
if i then
(gt c.AF b).bind λal=>
some (al.Bz==d)
else
if a==9 then
(gt c.AF b).bind λao=>
(GC ao.Ax d).bind λaa=>
some aa
else
if a==12 then
some (c.Tx==(-1))
else
if a==13 then
some (c.Tx==d)
else
if a==14 then
some (!f.Atomic)
else
if a==15 then
some f.Atomic
else
if a==16 then
J6 a b c d e (a==16)
else
if a==18 then
J6 a b c d e (a==18)
else
J6 a b c d e (a==19)
def J1 (a b:Int) (c:AN) (d:Int) (e:AB) (l:Bool):ABr Bool:=
if l then
some false
else
(gt c.AA d).bind λf=>
if a==1 then
some (f.Status==1)
else
if a==17 then
if f.Status==4 then
if f.Es==b then
(gt e.Ah b).bind λab=>
(gt c.AF ab.Mutex).bind λai=>
J2 (ai.Bz==(-1))
else
J2 false
else
J2 false
else
if f.Status != 2 then
some false
else
if a==6 then
(gt c.AF b).bind λaj=>
some (aj.Bz==(-1))
else
if a==10 then
(gt c.AF b).bind λo=>
if o.Bz==(-1)then
J3 ((o.Ax.length:Int)==0)
else
J3 false
else
if a==8 then
(gt c.AF b).bind λp=>
if p.Bz==(-1)then
(GC p.Ax d).bind λz=>
J4 (!z)
else
J4 false
else
if a==7 then
J5 a b c d e f (a==7)
else
J5 a b c d e f (a==11)
end CV
section
open CV
def CV (e:AB) (c:AN) (d a b:Int):ABr Bool:=
(EN e c).bind λw=>
if !w then
J1 a b c d e true
else
(HC d (e.AA.length:Int)).bind λx=>
if !x then
J1 a b c d e true
else
(IP e a b).bind λy=>
J1 a b c d e (!y)
theorem NS {e:AB} {c:AN} {d a b:Int} {r:Bool} (h:CV e c d a b=some r):Says Tryz.prog 67 [.agg (Am e),.agg (EH c),si d,si a,si b] (sb r):=by refine kO mix Tryz.func67 (hn [(5,[18,56,166]),(6,[31,54,73,82,90,101,109,122,132,142,147,164,183,197,207,215]),(11,[39,44,48,67,153,158])] [(2,1),(22,5),(35,6)]) ?_;have a1:= @LQ;have a2:= @Kk;have a3:= @Ph;have a4:= @X4;have c6:=λn1 n2 n3 n4:Nat=>Bo 6 λτ=>∃(j:Bool),(τ 2=si d/\τ 4=si b/\τ 5=bA 6 (Am e)/\τ 6=bA 4 (EH c)/\τ 70=si a/\τ 160=sb j)/\J6 a b c d e j=some r;have c5:=λn1 n2 n3 n4:Nat=>Bo 5 λτ=>∃(f:AG) (i:Bool),(τ 2=si d/\τ 4=si b/\τ 5=bA 6 (Am e)/\τ 6=bA 4 (EH c)/\τ 11=bA 3 (BN f)/\τ 70=si a/\τ 119=sb i)/\J5 a b c d e f i=some r;have c1:=λn1 n2 n3 n4:Nat=>Bo 1 λτ=>∃(l:Bool),(τ 2=si d/\τ 3=si a/\τ 4=si b/\τ 5=bA 6 (Am e)/\τ 6=bA 4 (EH c)/\τ 30=sb l)/\J1 a b c d e l=some r;unfold CV at h;exact walk
end
namespace DF
def J6 (aa:Ab) (w:AE):ABr (AE×Ab):=
some (w,aa)
def J5 (e:AE) (b:List (List Int)) (p:Ab) (a:Int×Ab) (z:Bool):ABr (AE×Ab):=
if z then
(gt b a.1).bind λae=>
(Ei p ae).bind λv=>
J6 v.2 (AE.mk e.Thread e.Kind e.Obj e.Value e.Site e.DE v.1)
else
J6 p e
def J4 (b:List (List Int)) (a:Int×Ab) (p:Ab) (e:AE):ABr (AE×Ab):=
if e.Kind==4 then
J5 e b p a true
else
J5 e b p a (e.Kind==22)
def J3 (c:AE) (b:List (List Int)) (a j l:Int×Ab) (y:Bool):ABr (AE×Ab):=
if y then
(gt b a.1).bind λad=>
(Ei l.2 ad).bind λu=>
J4 b a u.2 (AE.mk c.Thread c.Kind j.1 l.1 c.Site u.1 c.C2)
else
J4 b a l.2 (AE.mk c.Thread c.Kind j.1 l.1 c.Site c.DE c.C2)
def J2 (b:List (List Int)) (f:AD) (a i:Int×Ab) (d:AB) (c:AE):ABr (AE×Ab):=
(Ck i.2 c.Kind a.1).bind λj=>
(Gj j.2 f c.Kind j.1).bind λl=>
if c.Kind==5 then
J3 c b a j l true
else
if c.Kind==3 then
(gt d.Cells j.1).bind λab=>
J3 c b a j l (decide (ab.B7>0))
else
if c.Kind==4 then
(gt d.Cells j.1).bind λac=>
J3 c b a j l (decide (ac.B7>0))
else
J3 c b a j l false
def J1 (b:List (List Int)) (f:AD) (a i:Int×Ab) (d:AB) (o:Int) (x:Bool):ABr (AE×Ab):=
if x then
J2 b f a i d (AE.mk a.1 o 0 0 (-1) [] [])
else
J2 b f a i d (AE.mk a.1 o 0 0 (Ay ((Ay (a.1*6))+i.1)) [] [])
end DF
section
open DF
def DF (q:Ab) (f:AD) (d:AB) (b:List (List Int)):ABr (AE×Ab):=
(Ak q 4).bind λa=>
(Mh).bind λs=>
(Ak a.2 (s.length:Int)).bind λt=>
(gt s t.1).bind λo=>
(Ak t.2 6).bind λi=>
if o==1 then
J1 b f a i d o true
else
J1 b f a i d o (o==2)
theorem YJ {q:Ab} {f:AD} {d:AB} {b:List (List Int)} {r:AE×Ab} (h:DF q f d b=some r):A8 Tryz.prog 154 [bA 2 (Gz q),.agg (BH f),.agg (Am d),vO 1 NC b] (.agg (Ic r.1)) [bA 2 (Gz r.2),.dead,.dead,vO 1 NC b]:=by refine kL mix Tryz.func154 (hn [(0,[12,17,38,44,75,90]),(3,[76,78,79,91,93,94]),(6,[65]),(10,[16,18,21]),(11,[29,33,37,39,43,46,48,51,52,56,60,67,81,82,86,96,97])] [(4,2)] (E:=[(3,(.dS [(0,10,11,25)] [iC 15 9,i1 16 10 (.cp (.t 10)),i1 17 0 (.cp (.t 0)),i1 18 10 (.cp (.t 10)),iZ 19 18,i0 20 (.Up 104 [] (.t 17) none [.t 19]),wZ 21 10 1 16 20,iL 22 21,iC 23 9,iP 24 .mul 23 6,i0 25 .fl,i0 26 (.Up 104 [] (.t 0) none [.c (si 6)]),iO 27 .add 24 26,i0 28 (.T6 z2 [(0,1,.t 15),(1,1,.t 22),(4,1,.t 27)]),⟨some ⟨11,[29,33,37,39,43,46,48,51,52,56,60,67,81,82,86,96,97],[]⟩,.bx 7 (.c (.agg z2)),none⟩,iS 7 11 28])),(9,(.nV [.o (i1 75 0 (.cp (.t 0))),.o (i1 76 3 (.cp (.t 3))),.o (iC 77 9),.o (wZ 78 3 1 76 77),.o (Zu 79 3 78),.lb (some ⟨80,[],[]⟩) 178 (.t 75) [] (.t 79),.o (Np 81 11 5 11),.o (iS 1 81 80)])),(11,(.nV [.o (i1 90 0 (.cp (.t 0))),.o (i1 91 3 (.cp (.t 3))),.o (iC 92 9),.o (wZ 93 3 1 91 92),.o (Zu 94 3 93),.lb (some ⟨95,[],[]⟩) 178 (.t 90) [] (.t 94),.o (Np 96 11 6 11),.o (iS 1 96 95)]))])) ?_;have a1:= @DO;have a2:= @YK;have a3:= @Vp;have a4:= @YL;have a5:= @ZM;have c2:=λn1 n2 n3 n4:Nat=>Bo 2 λτ=>∃(a i:Int×Ab) (c:AE),(τ 0=bA 2 (Gz i.2)/\τ 3=vO 1 NC b/\τ 5=bA 7 (BH f)/\τ 6=bA 6 (Am d)/\τ 8=bA 7 z2/\τ 9=si a.1/\τ 11=bA 7 (Ic c))/\J2 b f a i d c=some r;unfold DF at h;exact walk
end
namespace AM
def J1 (i:Bool):ABr Bool:=
some i
def J2 (j:Bool):ABr Bool:=
some j
def J4 (l:Bool):ABr Bool:=
some l
def J6 (o:Bool):ABr Bool:=
some o
def J9 (p:Bool):ABr Bool:=
some p
def Rw (q:Bool):ABr Bool:=
some q
def J8 (a:Aa) (b:AB) (c:Bool):ABr Bool:=
if c then
(DS a.A (b.AA.length:Int)).bind λz=>
some z
else
if a.Op==26 then
(DS a.A (b.AK.length:Int)).bind λaa=>
some aa
else
if a.Op==27 then
(DS a.B (b.AK.length:Int)).bind λab=>
some ab
else
if a.Op==3 then
if a.N==4 then
J9 true
else
J9 (a.N==5)
else
if a.Op==4 then
if decide (a.N≥6)then
Rw (decide (a.N≤18))
else
Rw false
else
some true
def J7 (a:Aa) (b:AB) (f:Bool):ABr Bool:=
if f then
(DS a.A (b.Ah.length:Int)).bind λy=>
some y
else
if a.Op==24 then
J8 a b (a.Op==24)
else
J8 a b (a.Op==25)
def J5 (a:Aa) (b:AB) (e:Bool):ABr Bool:=
if e then
(DS a.A (b.AF.length:Int)).bind λx=>
if x then
(gt b.AF a.A).bind λaf=>
J6 af.RW
else
J6 false
else
if a.Op==21 then
J7 a b (a.Op==21)
else
if a.Op==22 then
J7 a b (a.Op==22)
else
J7 a b (a.Op==23)
def J3 (a:Aa) (b:AB) (d:Bool):ABr Bool:=
if d then
(DS a.A (b.AF.length:Int)).bind λw=>
if w then
(gt b.AF a.A).bind λae=>
J4 (!ae.RW)
else
J4 false
else
if a.Op==13 then
J5 a b (a.Op==13)
else
if a.Op==14 then
J5 a b (a.Op==14)
else
if a.Op==15 then
J5 a b (a.Op==15)
else
J5 a b (a.Op==16)
end AM
section
open AM
def AM (b:AB) (a:Aa):ABr Bool:=
if a.Op==6 then
(DS a.B (b.Cells.length:Int)).bind λs=>
if s then
(gt b.Cells a.B).bind λac=>
J1 (ac.B7==0)
else
J1 false
else
if a.Op==8 then
(DS a.A (b.Cells.length:Int)).bind λt=>
if t then
(gt b.Cells a.A).bind λad=>
J2 (ad.B7==0)
else
J2 false
else
if a.Op==7 then
(En b a.B a.N).bind λu=>
some u
else
if a.Op==9 then
(En b a.A a.N).bind λv=>
some v
else
if a.Op==11 then
J3 a b (a.Op==11)
else
J3 a b (a.Op==12)
theorem UQ {b:AB} {a:Aa} {r:Bool} (h:AM b a=some r):Says Tryz.prog 207 [.agg (Am b),.agg (EC a)] (sb r):=by refine kO mix Tryz.func207 (hn [(2,[11,16,29,34,64,69,85,90,104,113,121,129]),(3,[5,9,18,27,36,46,48,54,56,62,71,83,92,102,111,119,127,135,139,145,149])] [(11,3),(14,5),(19,7),(23,8)]) ?_;have a1:= @Pe;have a2:= @Xy;have c8:=λn1 n2 n3 n4:Nat=>Bo 8 λτ=>∃(c:Bool),(τ 2=bA 6 (Am b)/\τ 3=bA 6 (EC a)/\τ 6=si a.Op/\τ 108=sb c)/\J8 a b c=some r;have c7:=λn1 n2 n3 n4:Nat=>Bo 7 λτ=>∃(f:Bool),(τ 2=bA 6 (Am b)/\τ 3=bA 6 (EC a)/\τ 6=si a.Op/\τ 98=sb f)/\J7 a b f=some r;have c5:=λn1 n2 n3 n4:Nat=>Bo 5 λτ=>∃(e:Bool),(τ 2=bA 6 (Am b)/\τ 3=bA 6 (EC a)/\τ 6=si a.Op/\τ 78=sb e)/\J5 a b e=some r;have c3:=λn1 n2 n3 n4:Nat=>Bo 3 λτ=>∃(d:Bool),(τ 2=bA 6 (Am b)/\τ 3=bA 6 (EC a)/\τ 6=si a.Op/\τ 59=sb d)/\J3 a b d=some r;unfold AM at h;exact walk
end
end Go.Abs
