/- Typed programs of Go functions, and that the functions do what these say. -/
import Derived.Test.YtdojkofgkcmagaaGreatDoorWalkD
set_option linter.unusedSimpArgs false
set_option linter.unusedVariables false
namespace Go.Abs
open Go.Proofs
set_option maxRecDepth 1000000
set_option maxHeartbeats 4000000
namespace CY
def J2 (l:AO) (j:List AQ):ABd ((List AQ)×AO):=
some (j,l)
def J1 (L1:AO->(List AQ)->Int->ABd ((List AQ)×AO)) (R100:AO->Int->ABd (AQ×AO)) (a b:Int) (c:List AQ) (d:AO) (o:Bool):ABd ((List AQ)×AO):=
if o then
(R100 d a).bind λi=>
if Ap (c.length+1) 176=true then
L1 i.2 (c++[i.1]) (BA (b+1))
else none
else
J2 d c
def L1 (R100:AO->Int->ABd (AQ×AO)) (a e:Int) (L1:AO->(List AQ)->Int->ABd ((List AQ)×AO)) (d:AO) (c:List AQ) (b:Int):ABd ((List AQ)×AO):=
if decide (b<e)then
if b==0 then
J1 L1 R100 a b c d true
else
J1 L1 R100 a b c d (decide (d.left>0))
else
J1 L1 R100 a b c d false
def Aa (R100:AO->Int->ABd (AQ×AO)) (a e:Int):Nat->AO->(List AQ)->Int->ABd ((List AQ)×AO)
|0,_,_,_=>none
|n+1,d,c,b=>L1 R100 a e (Aa R100 a e n) d c b
end CY
section
open CY
def CY (R100:AO->Int->ABd (AQ×AO)) (f:AO) (a e:Int):ABd ((List AQ)×AO):=
Aa R100 a e BW f [] 0
theorem Qb {R100:AO->Int->ABd (AQ×AO)} (H100:∀{x0 x1 r},R100 x0 x1=some r->BD Tryz.prog 223 [bA 8 (CX x0),si x1] (.agg [si r.1.Op,si r.1.FK,BZ r.1.Name,BZ r.1.Arg,vS 4 BH r.1.Index,si r.1.Expr.Op,si r.1.Expr.N,BZ r.1.Expr.Name,vS 4 BH r.1.Expr.L,vS 11 A7 r.1.Body,vS 11 A7 r.1.Else]) [bA 8 (CX r.2),.dead]) {f:AO} {a e:Int} {r:(List AQ)×AO} (h:CY R100 f a e=some r):BD Tryz.prog 187 [bA 8 (CX f),si a,si e] (vO 11 A7 r.1) [bA 8 (CX r.2),.dead,.dead]:=by refine kL mix Tryz.func187 (hn [(0,[16,17,18,26]),(7,[25,31])]) ?_;have a1:= @H100;have l1:=λn1 n2 n3 n4:Nat=>A3 λn τ=>∃(d:AO) (c:List AQ) (b:Int),(τ 0=bA 8 (CX d)/\τ 1=si a/\τ 2=si e/\τ 7=vO 11 A7 c/\τ 8=si b)/\Aa R100 a e n d c b=some r;unfold CY at h;exact walk
end
namespace Ay
def J3 (bi:AO) (bj:AQ):ABd (AQ×AO):=
some (bj,bi)
def rK (ad:AO) (bl:Bool):ABd (AQ×AO):=
if bl then
some ((AQ.mk 15 0 (⟨#[97]⟩:ABe) (⟨#[102]⟩:ABe) [] (BE.mk 0 0 (⟨#[]⟩:ABe) []) [] []),ad)
else
(CO BW ad 1).bind λbb=>
(En (⟨#[120]⟩:ABe) bb.1).bind λca=>
some (ca,bb.2)
def Y4 (e:AO) (b:Int×AU) (z:Bool):ABd (AQ×AO):=
if z then
(CO BW (AO.mk e.t e.Bb e.left true e.tx e.atomic e.loop e.held) 1).bind λaz=>
some ((AQ.mk 14 0 (⟨#[102]⟩:ABe) (⟨#[]⟩:ABe) [] az.1 [] []),az.2)
else
if b.1==17 then
if !e.tx then
(Ah e.t 2).bind λba=>
rK (AO.mk ba.2 e.Bb e.left e.HR e.tx e.atomic e.loop e.held) (ba.1==1)
else
rK e false
else
rK e false
def Oz (b:Int×AU) (e:AO) (y:Bool):ABd (AQ×AO):=
if y then
(Ah e.t 2).bind λay=>
some ((AQ.mk 4 0 (⟨#[109]⟩:ABe) (⟨#[]⟩:ABe) [] (BE.mk 0 0 (⟨#[]⟩:ABe) []) [(AQ.mk (BA (10+ay.1)) 0 (⟨#[99]⟩:ABe) (⟨#[]⟩:ABe) [] (BE.mk 0 0 (⟨#[]⟩:ABe) []) [] [])] []),(AO.mk ay.2 e.Bb e.left e.HR e.tx e.atomic e.loop e.held))
else
if b.1==16 then
if !e.tx then
if !e.loop then
Y4 e b (!e.HR)
else
Y4 e b false
else
Y4 e b false
else
Y4 e b false
def J9 (c:Bool) (b:Int×AU) (q:AO) (x:Bool):ABd (AQ×AO):=
if x then
(Ii (⟨#[120]⟩:ABe)).bind λbx=>
(En (⟨#[97]⟩:ABe) bx).bind λbz=>
some ((AQ.mk 4 0 (⟨#[109]⟩:ABe) (⟨#[]⟩:ABe) [] (BE.mk 0 0 (⟨#[]⟩:ABe) []) [(AQ.mk 9 0 (⟨#[99]⟩:ABe) (⟨#[]⟩:ABe) [] (BE.mk 0 0 (⟨#[]⟩:ABe) []) [] []),bz] []),q)
else
if b.1==15 then
if c then
(Dq q (⟨#[109]⟩:ABe)).bind λax=>
Oz b ax.2 (!ax.1)
else
Oz b q false
else
Oz b q false
def J8 (R102:AO->Int->Int->ABd ((List AQ)×AO)) (d:Int) (f:AO) (c:Bool) (b:Int×AU) (w:Bool):ABd (AQ×AO):=
if w then
(R102 (AO.mk f.t f.Bb f.left f.HR f.tx true f.loop f.held) (BA (d-1)) 2).bind λp=>
some ((AQ.mk 8 0 (⟨#[]⟩:ABe) (⟨#[]⟩:ABe) [] (BE.mk 0 0 (⟨#[]⟩:ABe) []) p.1 []),(AO.mk p.2.t p.2.Bb p.2.left p.2.HR p.2.tx false p.2.loop p.2.held))
else
if b.1==14 then
if c then
if !f.atomic then
(Dq f (⟨#[109]⟩:ABe)).bind λav=>
J9 c b av.2 (!av.1)
else
J9 c b f false
else
J9 c b f false
else
J9 c b f false
def J7 (R102:AO->Int->Int->ABd ((List AQ)×AO)) (d:Int) (f:AO) (c:Bool) (b:Int×AU) (v:Bool):ABd (AQ×AO):=
if v then
(Ah f.t 2).bind λau=>
(R102 (AO.mk au.2 f.Bb f.left f.HR true f.atomic f.loop f.held) 0 (BA (1+au.1))).bind λo=>
some ((AQ.mk 7 0 (⟨#[]⟩:ABe) (⟨#[]⟩:ABe) [] (BE.mk 0 0 (⟨#[]⟩:ABe) []) o.1 []),(AO.mk o.2.t o.2.Bb o.2.left o.2.HR false o.2.atomic o.2.loop o.2.held))
else
if b.1==13 then
if c then
J8 R102 d f c b (!f.atomic)
else
J8 R102 d f c b false
else
J8 R102 d f c b false
def J6 (R101:AO->ABe->Int->ABd ((List AQ)×AO)) (R102:AO->Int->Int->ABd ((List AQ)×AO)) (d:Int) (c:Bool) (b:Int×AU) (f:AO) (u:Bool):ABd (AQ×AO):=
if u then
(R101 f (⟨#[114]⟩:ABe) (BA (d-1))).bind λaq=>
some ((AQ.mk (BA ((BA (b.1-10))+5)) 0 (⟨#[114]⟩:ABe) (⟨#[]⟩:ABe) [] (BE.mk 0 0 (⟨#[]⟩:ABe) []) aq.1 []),aq.2)
else
if b.1==12 then
J7 R102 d f c b c
else
J7 R102 d f c b false
def J5 (R101:AO->ABe->Int->ABd ((List AQ)×AO)) (R102:AO->Int->Int->ABd ((List AQ)×AO)) (d:Int) (c:Bool) (b:Int×AU) (j:AO) (t:Bool):ABd (AQ×AO):=
if t then
(gt [(⟨#[109]⟩:ABe),(⟨#[110]⟩:ABe)] (BA (b.1-8))).bind λbf=>
(R101 j bf (BA (d-1))).bind λal=>
some ((AQ.mk 4 0 bf (⟨#[]⟩:ABe) [] (BE.mk 0 0 (⟨#[]⟩:ABe) []) al.1 []),al.2)
else
if b.1==10 then
if c then
(Dq j (⟨#[114]⟩:ABe)).bind λao=>
J6 R101 R102 d c b ao.2 (!ao.1)
else
J6 R101 R102 d c b j false
else
if b.1==11 then
if c then
(Dq j (⟨#[114]⟩:ABe)).bind λap=>
J6 R101 R102 d c b ap.2 (!ap.1)
else
J6 R101 R102 d c b j false
else
J6 R101 R102 d c b j false
def J4 (R101:AO->ABe->Int->ABd ((List AQ)×AO)) (R102:AO->Int->Int->ABd ((List AQ)×AO)) (d:Int) (a:AO) (c:Bool) (b:Int×AU) (s:Bool):ABd (AQ×AO):=
if s then
(Ii (⟨#[98]⟩:ABe)).bind λbo=>
(Jo 2).bind λbp=>
(IJ 13 bo bp).bind λbq=>
(R102 (AO.mk b.2 a.Bb (BA (a.left-1)) a.HR a.tx a.atomic true a.held) (BA (d-1)) 1).bind λl=>
(Ii (⟨#[98]⟩:ABe)).bind λbs=>
(Jo 1).bind λbt=>
(IJ 6 bs bt).bind λbu=>
(En (⟨#[98]⟩:ABe) bu).bind λbv=>
if Ap (l.1.length+1) 176=true then
some ((AQ.mk 3 0 (⟨#[]⟩:ABe) (⟨#[]⟩:ABe) [] bq (l.1++[bv]) []),(AO.mk l.2.t l.2.Bb l.2.left l.2.HR l.2.tx l.2.atomic a.loop l.2.held))
else none
else
if b.1==8 then
if c then
(gt [(⟨#[109]⟩:ABe),(⟨#[110]⟩:ABe)] (BA (b.1-8))).bind λce=>
(Dq (AO.mk b.2 a.Bb (BA (a.left-1)) a.HR a.tx a.atomic a.loop a.held) ce).bind λai=>
J5 R101 R102 d c b ai.2 (!ai.1)
else
J5 R101 R102 d c b (AO.mk b.2 a.Bb (BA (a.left-1)) a.HR a.tx a.atomic a.loop a.held) false
else
if b.1==9 then
if c then
(gt [(⟨#[109]⟩:ABe),(⟨#[110]⟩:ABe)] (BA (b.1-8))).bind λcf=>
(Dq (AO.mk b.2 a.Bb (BA (a.left-1)) a.HR a.tx a.atomic a.loop a.held) cf).bind λaj=>
J5 R101 R102 d c b aj.2 (!aj.1)
else
J5 R101 R102 d c b (AO.mk b.2 a.Bb (BA (a.left-1)) a.HR a.tx a.atomic a.loop a.held) false
else
J5 R101 R102 d c b (AO.mk b.2 a.Bb (BA (a.left-1)) a.HR a.tx a.atomic a.loop a.held) false
def J2 (R101:AO->ABe->Int->ABd ((List AQ)×AO)) (R102:AO->Int->Int->ABd ((List AQ)×AO)) (d:Int) (a:AO) (c:Bool) (b:Int×AU) (aa:Bool):ABd (AQ×AO):=
if aa then
(CO BW (AO.mk b.2 a.Bb (BA (a.left-1)) a.HR a.tx a.atomic a.loop a.held) 1).bind λac=>
(R102 ac.2 (BA (d-1)) 1).bind λi=>
(Ah i.2.t 2).bind λab=>
if ab.1==1 then
(R102 (AO.mk ab.2 i.2.Bb i.2.left i.2.HR i.2.tx i.2.atomic i.2.loop i.2.held) (BA (d-1)) 1).bind λaf=>
J3 af.2 (AQ.mk 2 0 (⟨#[]⟩:ABe) (⟨#[]⟩:ABe) [] ac.1 i.1 af.1)
else
J3 (AO.mk ab.2 i.2.Bb i.2.left i.2.HR i.2.tx i.2.atomic i.2.loop i.2.held) (AQ.mk 2 0 (⟨#[]⟩:ABe) (⟨#[]⟩:ABe) [] ac.1 i.1 [])
else
if b.1==7 then
J4 R101 R102 d a c b (decide (d>0))
else
J4 R101 R102 d a c b false
def J1 (R101:AO->ABe->Int->ABd ((List AQ)×AO)) (R102:AO->Int->Int->ABd ((List AQ)×AO)) (d:Int) (a:AO) (b:Int×AU) (c:Bool):ABd (AQ×AO):=
if decide (b.1<4)then
(gt [(⟨#[120]⟩:ABe),(⟨#[121]⟩:ABe),(⟨#[120]⟩:ABe),(⟨#[118]⟩:ABe)] b.1).bind λcc=>
(CO BW (AO.mk b.2 a.Bb (BA (a.left-1)) a.HR a.tx a.atomic a.loop a.held) 1).bind λae=>
(En cc ae.1).bind λbw=>
some (bw,ae.2)
else
if b.1==4 then
(Ah b.2 2).bind λaw=>
(gt [(⟨#[97]⟩:ABe),(⟨#[98]⟩:ABe)] aw.1).bind λcd=>
(CO BW (AO.mk aw.2 a.Bb (BA (a.left-1)) a.HR a.tx a.atomic a.loop a.held) 1).bind λbc=>
(En cd bc.1).bind λcb=>
some (cb,bc.2)
else
if b.1==5 then
(CO BW (AO.mk b.2 a.Bb (BA (a.left-1)) a.HR a.tx a.atomic a.loop a.held) 0).bind λbd=>
(CO BW bd.2 1).bind λbe=>
some ((AQ.mk 1 0 (⟨#[113]⟩:ABe) (⟨#[]⟩:ABe) [bd.1] be.1 [] []),be.2)
else
if b.1==6 then
J2 R101 R102 d a c b (decide (d>0))
else
J2 R101 R102 d a c b false
end Ay
section
open Ay
def Ay (R101:AO->ABe->Int->ABd ((List AQ)×AO)) (R102:AO->Int->Int->ABd ((List AQ)×AO)) (a:AO) (d:Int):ABd (AQ×AO):=
(Ah a.t 18).bind λb=>
if decide (d>0)then
if decide ((BA (a.left-1))>0)then
J1 R101 R102 d a b (!a.tx)
else
J1 R101 R102 d a b false
else
J1 R101 R102 d a b false
theorem Rf {R101:AO->ABe->Int->ABd ((List AQ)×AO)} (H101:∀{x0 x1 x2 r},R101 x0 x1 x2=some r->BD Tryz.prog 258 [bA 8 (CX x0),BZ x1,si x2] (vO 11 A7 r.1) [bA 8 (CX r.2),.dead,.dead]) {R102:AO->Int->Int->ABd ((List AQ)×AO)} (H102:∀{x0 x1 x2 r},R102 x0 x1 x2=some r->BD Tryz.prog 187 [bA 8 (CX x0),si x1,si x2] (vO 11 A7 r.1) [bA 8 (CX r.2),.dead,.dead]) {a:AO} {d:Int} {r:AQ×AO} (h:Ay R101 R102 a d=some r):BD Tryz.prog 223 [bA 8 (CX a),si d] (.agg [si r.1.Op,si r.1.FK,BZ r.1.Name,BZ r.1.Arg,vS 4 BH r.1.Index,si r.1.Expr.Op,si r.1.Expr.N,BZ r.1.Expr.Name,vS 4 BH r.1.Expr.L,vS 11 A7 r.1.Body,vS 11 A7 r.1.Else]) [bA 8 (CX r.2),.dead]:=by refine kP mix Tryz.func223 (hn [(0,[13,14,15,18,19,20,21,22,23,28,29,30,35,36,37,48,55,56,57,58,68,71,81,83,88,89,90,91,94,107,108,109,111,112,113,117,128,130,131,144,159,176,183,194,195,196,197,198,199,200,201,206,207,208,217,218,219,223,224,225,226,231,232,233,242,243,244,249,265,269,270,271,272,282,283,284,289,290,291,296,297,298,302,303,304,305,312,313,314,319,320,321,322,327]),(7,[98,99]),(9,[132]),(11,[209]),(12,[234]),(44,[46]),(54,[60]),(145,[148]),(153,[156])] [(3,1),(11,2),(16,4),(22,5),(25,6),(27,7),(32,8),(37,9),(39,10),(41,11)] (E:=[(7,(.bY [(0,8,9,62)] [⟨some ⟨54,[60],[]⟩,.Nk 1 [[BZ ⟨#[]⟩],[BZ ⟨#[]⟩]] [(0,.c (BZ ⟨#[97]⟩)),(1,.c (BZ ⟨#[98]⟩))],none⟩,i1 55 0 (.cp (.t 0)),i1 56 0 (.Jp (.t 55)),LU 57 0 0 56,Zk 58 0 57,i0 59 (.Uv 132 [] (.t 58) none [.c (si 2)]),xG 60 54 1 54 59,iL 61 60,i0 62 .fl,i0 63 (.Uv 254 [] (.t 0) none [.c (si 1)]),i0 64 (.call 188 [.t 61,.t 63] 1),iS 11 4 64]))])) ?_;have a1:= @DD;have a2:= @QZ;have a3:= @PY;have a4:= @H102;have a5:= @Sw;have a6:= @Pc;have a7:= @PZ;have a8:= @H101;have a9:= @Qa;have c11:=λn1 n2 n3 n4:Nat=>Bs 11 λτ=>∃(e:AO) (b:Int×AU) (z:Bool),(τ 0=bA 8 (CX e)/\τ 4=bA 11 z1/\τ 5=si b.1/\τ 278=sb z)/\Y4 e b z=some r;have c10:=λn1 n2 n3 n4:Nat=>Bs 10 λτ=>∃(b:Int×AU) (e:AO) (y:Bool),(τ 0=bA 8 (CX e)/\τ 4=bA 11 z1/\τ 5=si b.1/\τ 258=sb y)/\Oz b e y=some r;have c9:=λn1 n2 n3 n4:Nat=>Bs 9 λτ=>∃(c:Bool) (b:Int×AU) (q:AO) (x:Bool),(τ 0=bA 8 (CX q)/\τ 4=bA 11 z1/\τ 5=si b.1/\τ 6=sb c/\τ 235=sb x)/\J9 c b q x=some r;have c8:=λn1 n2 n3 n4:Nat=>Bs 8 λτ=>∃(f:AO) (c:Bool) (b:Int×AU) (w:Bool),(τ 0=bA 8 (CX f)/\τ 1=si d/\τ 4=bA 11 z1/\τ 5=si b.1/\τ 6=sb c/\τ 210=sb w)/\J8 R102 d f c b w=some r;have c7:=λn1 n2 n3 n4:Nat=>Bs 7 λτ=>∃(f:AO) (c:Bool) (b:Int×AU) (v:Bool),(τ 0=bA 8 (CX f)/\τ 1=si d/\τ 4=bA 11 z1/\τ 5=si b.1/\τ 6=sb c/\τ 188=sb v)/\J7 R102 d f c b v=some r;have c6:=λn1 n2 n3 n4:Nat=>Bs 6 λτ=>∃(c:Bool) (b:Int×AU) (f:AO) (u:Bool),(τ 0=bA 8 (CX f)/\τ 1=si d/\τ 4=bA 11 z1/\τ 5=si b.1/\τ 6=sb c/\τ 165=sb u)/\J6 R101 R102 d c b f u=some r;have c5:=λn1 n2 n3 n4:Nat=>Bs 5 λτ=>∃(c:Bool) (b:Int×AU) (j:AO) (t:Bool),(τ 0=bA 8 (CX j)/\τ 1=si d/\τ 4=bA 11 z1/\τ 5=si b.1/\τ 6=sb c/\τ 133=sb t)/\J5 R101 R102 d c b j t=some r;have c4:=λn1 n2 n3 n4:Nat=>Bs 4 λτ=>∃(c:Bool) (b:Int×AU) (s:Bool),(τ 0=bA 8 [bA 2 (FO b.2),si a.Bb,si (BA (a.left-1)),sb a.HR,sb a.tx,sb a.atomic,sb a.loop,vO 1 eS a.held]/\τ 1=si d/\τ 4=bA 11 z1/\τ 5=si b.1/\τ 6=sb c/\τ 100=sb s)/\J4 R101 R102 d a c b s=some r;have c2:=λn1 n2 n3 n4:Nat=>Bs 2 λτ=>∃(c:Bool) (b:Int×AU) (aa:Bool),(τ 0=bA 8 [bA 2 (FO b.2),si a.Bb,si (BA (a.left-1)),sb a.HR,sb a.tx,sb a.atomic,sb a.loop,vO 1 eS a.held]/\τ 1=si d/\τ 4=bA 11 z1/\τ 5=si b.1/\τ 6=sb c/\τ 74=sb aa)/\J2 R101 R102 d a c b aa=some r;have c1:=λn1 n2 n3 n4:Nat=>Bs 1 λτ=>∃(b:Int×AU) (c:Bool),(τ 0=bA 8 [bA 2 (FO b.2),si a.Bb,si (BA (a.left-1)),sb a.HR,sb a.tx,sb a.atomic,sb a.loop,vO 1 eS a.held]/\τ 1=si d/\τ 4=bA 11 z1/\τ 5=si b.1/\τ 6=sb c)/\J1 R101 R102 d a b c=some r;unfold Ay at h;exact walk
end
def HO (R102:AO->Int->Int->ABd ((List AQ)×AO)) (b:AO) (d:ABe) (c:Int):ABd ((List AQ)×AO):=
if Ap (b.held.length+1) 16=true then
(Ah b.t 2).bind λe=>
(R102 (AO.mk e.2 b.Bb b.left b.HR b.tx b.atomic b.loop (b.held++[d])) c (BA (1+e.1))).bind λa=>
if 0≤(BA ((a.2.held.length:Int)-1))/\((BA ((a.2.held.length:Int)-1)).toNat)≤a.2.held.length then
some (a.1,(AO.mk a.2.t a.2.Bb a.2.left a.2.HR a.2.tx a.2.atomic a.2.loop (a.2.held.take ((BA ((a.2.held.length:Int)-1)).toNat))))
else none
else none
theorem QX {R102:AO->Int->Int->ABd ((List AQ)×AO)} (H102:∀{x0 x1 x2 r},R102 x0 x1 x2=some r->BD Tryz.prog 187 [bA 8 (CX x0),si x1,si x2] (vO 11 A7 r.1) [bA 8 (CX r.2),.dead,.dead]) {b:AO} {d:ABe} {c:Int} {r:(List AQ)×AO} (h:HO R102 b d c=some r):BD Tryz.prog 258 [bA 8 (CX b),BZ d,si c] (vO 11 A7 r.1) [bA 8 (CX r.2),.dead,.dead]:=by refine kL mix Tryz.func258 (hn [(0,[8,9,10,11,12,16,17,18,20,21,22,23,28,29,30,31,32,33,34,35,39,40]),(7,[41])] (E:=[(3,(.bY [(0,0,12,27)] [i0 27 .fl,i1 28 0 (.cp (.t 0)),i1 29 0 (.Jp (.t 28)),LU 30 0 7 29,Zk 31 0 30,i1 32 0 (.cp (.t 0)),i1 33 0 (.Jp (.t 32)),LU 34 0 7 33,Zk 35 0 34,iZ 36 35,iP 37 .sub 36 1,i0 38 (.slc 1 false (.t 31) none (some (.t 37)) none),i1 39 0 (.Jp (.t 0)),LU 40 0 7 39,iS 1 40 38]))])) ?_;have a1:= @DD;have a2:= @H102;unfold HO at h;exact walk
def E2:Nat->(AO->Int->Int->ABd ((List AQ)×AO))×(AO->Int->ABd (AQ×AO))×(AO->ABe->Int->ABd ((List AQ)×AO))
|0=>((λ_ _ _=>none),(λ_ _=>none),(λ_ _ _=>none))
|n+1=>(CY ((E2 n).2.1),Ay ((E2 n).2.2) ((E2 n).1),HO ((E2 n).1))
def Du (n:Nat):AO->Int->Int->ABd ((List AQ)×AO):=(E2 n).1
def FZ (n:Nat):AO->Int->ABd (AQ×AO):=(E2 n).2.1
def Jn (n:Nat):AO->ABe->Int->ABd ((List AQ)×AO):=(E2 n).2.2
theorem Pa (n:Nat):(∀{x0 x1 x2 r},(Du n) x0 x1 x2=some r->BD Tryz.prog 187 [bA 8 (CX x0),si x1,si x2] (.own false 11 (r.1.map A7)) [bA 8 (CX r.2),.dead,.dead])/\(∀{x0 x1 r},(FZ n) x0 x1=some r->BD Tryz.prog 223 [bA 8 (CX x0),si x1] (.agg [si r.1.Op,si r.1.FK,BZ r.1.Name,BZ r.1.Arg,.sl false 4 (r.1.Index.map BH),si r.1.Expr.Op,si r.1.Expr.N,BZ r.1.Expr.Name,.sl false 4 (r.1.Expr.L.map BH),.sl false 11 (r.1.Body.map A7),.sl false 11 (r.1.Else.map A7)]) [bA 8 (CX r.2),.dead])/\(∀{x0 x1 x2 r},(Jn n) x0 x1 x2=some r->BD Tryz.prog 258 [bA 8 (CX x0),BZ x1,si x2] (.own false 11 (r.1.map A7)) [bA 8 (CX r.2),.dead,.dead]):=by
  induction n with
  |zero=>exact⟨λh=>ET h,λh=>ET h,λh=>ET h⟩
  |succ n ih=>exact⟨λh=>Qb ih.2.1 h,λh=>Rf ih.2.2 ih.1 h,λh=>QX ih.1 h⟩
theorem Pb {n:Nat}:∀{x0 x1 x2 r},(Du n) x0 x1 x2=some r->BD Tryz.prog 187 [bA 8 (CX x0),si x1,si x2] (.own false 11 (r.1.map A7)) [bA 8 (CX r.2),.dead,.dead]:=(Pa n).1
end Go.Abs
