/- Typed programs of Go functions, and that the functions do what these say. -/
import Derived.Test.YthmijagacgnmkaaGreatDoorWalkD
import Derived.Test.YthmijagacgnmkaaGreatDoorWalkE
set_option linter.unusedSimpArgs false
set_option linter.unusedVariables false
namespace Go.Abs
open Go.Proofs
set_option maxRecDepth 1000000
set_option maxHeartbeats 4000000
namespace CU
def J2 (l:AN) (j:List AQ):AB8 ((List AQ)×AN):=
some (j,l)
def J1 (L1:AN->(List AQ)->Int->AB8 ((List AQ)×AN)) (R100:AN->Int->AB8 (AQ×AN)) (a b:Int) (c:List AQ) (d:AN) (o:Bool):AB8 ((List AQ)×AN):=
if o then
(R100 d a).bind λi=>
if Ak (c.length+1) 176=true then
L1 i.2 (c++[i.1]) (A1 (b+1))
else none
else
J2 d c
def L1 (R100:AN->Int->AB8 (AQ×AN)) (a e:Int) (L1:AN->(List AQ)->Int->AB8 ((List AQ)×AN)) (d:AN) (c:List AQ) (b:Int):AB8 ((List AQ)×AN):=
if decide (b<e)then
if b==0 then
J1 L1 R100 a b c d true
else
J1 L1 R100 a b c d (decide (d.left>0))
else
J1 L1 R100 a b c d false
def AZ (R100:AN->Int->AB8 (AQ×AN)) (a e:Int):Nat->AN->(List AQ)->Int->AB8 ((List AQ)×AN)
|0,_,_,_=>none
|n+1,d,c,b=>L1 R100 a e (AZ R100 a e n) d c b
end CU
section
open CU
def CU (R100:AN->Int->AB8 (AQ×AN)) (f:AN) (a e:Int):AB8 ((List AQ)×AN):=
AZ R100 a e BP f [] 0
theorem Q4 {R100:AN->Int->AB8 (AQ×AN)} (H100:∀{x0 x1 r},R100 x0 x1=some r->BA Tryz.prog 221 [bA 8 (CS x0),si x1] (.agg [si r.1.Op,si r.1.FA,BZ r.1.Name,BZ r.1.Arg,vS 4 BD r.1.Index,si r.1.Expr.Op,si r.1.Expr.N,BZ r.1.Expr.Name,vS 4 BD r.1.Expr.L,vS 11 A7 r.1.Body,vS 11 A7 r.1.Else]) [bA 8 (CS r.2),.dead]) {f:AN} {a e:Int} {r:(List AQ)×AN} (h:CU R100 f a e=some r):BA Tryz.prog 187 [bA 8 (CS f),si a,si e] (vO 11 A7 r.1) [bA 8 (CS r.2),.dead,.dead]:=by refine kL mix Tryz.func187 (hn [(0,[16,17,18,26]),(7,[25,31])]) ?_;have a1:= @H100;have l1:=λn1 n2 n3 n4:Nat=>Av λn τ=>∃(d:AN) (c:List AQ) (b:Int),(τ 0=bA 8 (CS d)/\τ 1=si a/\τ 2=si e/\τ 7=vO 11 A7 c/\τ 8=si b)/\AZ R100 a e n d c b=some r;unfold CU at h;exact walk
end
namespace Ay
def J3 (bi:AN) (bj:AQ):AB8 (AQ×AN):=
some (bj,bi)
def sM (ad:AN) (bl:Bool):AB8 (AQ×AN):=
if bl then
some ((AQ.mk 15 0 (⟨#[97]⟩:AB9) (⟨#[102]⟩:AB9) [] (BB.mk 0 0 (⟨#[]⟩:AB9) []) [] []),ad)
else
(CD BP ad 1).bind λbb=>
(E2 (⟨#[120]⟩:AB9) bb.1).bind λca=>
some (ca,bb.2)
def Z9 (e:AN) (b:Int×AU) (z:Bool):AB8 (AQ×AN):=
if z then
(CD BP (AN.mk e.t e.Be e.left true e.tx e.atomic e.loop e.held) 1).bind λaz=>
some ((AQ.mk 14 0 (⟨#[102]⟩:AB9) (⟨#[]⟩:AB9) [] az.1 [] []),az.2)
else
if b.1==17 then
if !e.tx then
(Ae e.t 2).bind λba=>
sM (AN.mk ba.2 e.Be e.left e.Ho e.tx e.atomic e.loop e.held) (ba.1==1)
else
sM e false
else
sM e false
def QZ (b:Int×AU) (e:AN) (y:Bool):AB8 (AQ×AN):=
if y then
(Ae e.t 2).bind λay=>
some ((AQ.mk 4 0 (⟨#[109]⟩:AB9) (⟨#[]⟩:AB9) [] (BB.mk 0 0 (⟨#[]⟩:AB9) []) [(AQ.mk (A1 (10+ay.1)) 0 (⟨#[99]⟩:AB9) (⟨#[]⟩:AB9) [] (BB.mk 0 0 (⟨#[]⟩:AB9) []) [] [])] []),(AN.mk ay.2 e.Be e.left e.Ho e.tx e.atomic e.loop e.held))
else
if b.1==16 then
if !e.tx then
if !e.loop then
Z9 e b (!e.Ho)
else
Z9 e b false
else
Z9 e b false
else
Z9 e b false
def J9 (c:Bool) (b:Int×AU) (q:AN) (x:Bool):AB8 (AQ×AN):=
if x then
(Iy (⟨#[120]⟩:AB9)).bind λbx=>
(E2 (⟨#[97]⟩:AB9) bx).bind λbz=>
some ((AQ.mk 4 0 (⟨#[109]⟩:AB9) (⟨#[]⟩:AB9) [] (BB.mk 0 0 (⟨#[]⟩:AB9) []) [(AQ.mk 9 0 (⟨#[99]⟩:AB9) (⟨#[]⟩:AB9) [] (BB.mk 0 0 (⟨#[]⟩:AB9) []) [] []),bz] []),q)
else
if b.1==15 then
if c then
(Dp q (⟨#[109]⟩:AB9)).bind λax=>
QZ b ax.2 (!ax.1)
else
QZ b q false
else
QZ b q false
def J8 (R102:AN->Int->Int->AB8 ((List AQ)×AN)) (d:Int) (f:AN) (c:Bool) (b:Int×AU) (w:Bool):AB8 (AQ×AN):=
if w then
(R102 (AN.mk f.t f.Be f.left f.Ho f.tx true f.loop f.held) (A1 (d-1)) 2).bind λp=>
some ((AQ.mk 8 0 (⟨#[]⟩:AB9) (⟨#[]⟩:AB9) [] (BB.mk 0 0 (⟨#[]⟩:AB9) []) p.1 []),(AN.mk p.2.t p.2.Be p.2.left p.2.Ho p.2.tx false p.2.loop p.2.held))
else
if b.1==14 then
if c then
if !f.atomic then
(Dp f (⟨#[109]⟩:AB9)).bind λav=>
J9 c b av.2 (!av.1)
else
J9 c b f false
else
J9 c b f false
else
J9 c b f false
def J7 (R102:AN->Int->Int->AB8 ((List AQ)×AN)) (d:Int) (f:AN) (c:Bool) (b:Int×AU) (v:Bool):AB8 (AQ×AN):=
if v then
(Ae f.t 2).bind λau=>
(R102 (AN.mk au.2 f.Be f.left f.Ho true f.atomic f.loop f.held) 0 (A1 (1+au.1))).bind λo=>
some ((AQ.mk 7 0 (⟨#[]⟩:AB9) (⟨#[]⟩:AB9) [] (BB.mk 0 0 (⟨#[]⟩:AB9) []) o.1 []),(AN.mk o.2.t o.2.Be o.2.left o.2.Ho false o.2.atomic o.2.loop o.2.held))
else
if b.1==13 then
if c then
J8 R102 d f c b (!f.atomic)
else
J8 R102 d f c b false
else
J8 R102 d f c b false
def J6 (R101:AN->AB9->Int->AB8 ((List AQ)×AN)) (R102:AN->Int->Int->AB8 ((List AQ)×AN)) (d:Int) (c:Bool) (b:Int×AU) (f:AN) (u:Bool):AB8 (AQ×AN):=
if u then
(R101 f (⟨#[114]⟩:AB9) (A1 (d-1))).bind λaq=>
some ((AQ.mk (A1 ((A1 (b.1-10))+5)) 0 (⟨#[114]⟩:AB9) (⟨#[]⟩:AB9) [] (BB.mk 0 0 (⟨#[]⟩:AB9) []) aq.1 []),aq.2)
else
if b.1==12 then
J7 R102 d f c b c
else
J7 R102 d f c b false
def J5 (R101:AN->AB9->Int->AB8 ((List AQ)×AN)) (R102:AN->Int->Int->AB8 ((List AQ)×AN)) (d:Int) (c:Bool) (b:Int×AU) (j:AN) (t:Bool):AB8 (AQ×AN):=
if t then
(gt [(⟨#[109]⟩:AB9),(⟨#[110]⟩:AB9)] (A1 (b.1-8))).bind λbf=>
(R101 j bf (A1 (d-1))).bind λal=>
some ((AQ.mk 4 0 bf (⟨#[]⟩:AB9) [] (BB.mk 0 0 (⟨#[]⟩:AB9) []) al.1 []),al.2)
else
if b.1==10 then
if c then
(Dp j (⟨#[114]⟩:AB9)).bind λao=>
J6 R101 R102 d c b ao.2 (!ao.1)
else
J6 R101 R102 d c b j false
else
if b.1==11 then
if c then
(Dp j (⟨#[114]⟩:AB9)).bind λap=>
J6 R101 R102 d c b ap.2 (!ap.1)
else
J6 R101 R102 d c b j false
else
J6 R101 R102 d c b j false
def J4 (R101:AN->AB9->Int->AB8 ((List AQ)×AN)) (R102:AN->Int->Int->AB8 ((List AQ)×AN)) (d:Int) (a:AN) (c:Bool) (b:Int×AU) (s:Bool):AB8 (AQ×AN):=
if s then
(Iy (⟨#[98]⟩:AB9)).bind λbo=>
(KJ 2).bind λbp=>
(Ig 13 bo bp).bind λbq=>
(R102 (AN.mk b.2 a.Be (A1 (a.left-1)) a.Ho a.tx a.atomic true a.held) (A1 (d-1)) 1).bind λl=>
(Iy (⟨#[98]⟩:AB9)).bind λbs=>
(KJ 1).bind λbt=>
(Ig 6 bs bt).bind λbu=>
(E2 (⟨#[98]⟩:AB9) bu).bind λbv=>
if Ak (l.1.length+1) 176=true then
some ((AQ.mk 3 0 (⟨#[]⟩:AB9) (⟨#[]⟩:AB9) [] bq (l.1++[bv]) []),(AN.mk l.2.t l.2.Be l.2.left l.2.Ho l.2.tx l.2.atomic a.loop l.2.held))
else none
else
if b.1==8 then
if c then
(gt [(⟨#[109]⟩:AB9),(⟨#[110]⟩:AB9)] (A1 (b.1-8))).bind λce=>
(Dp (AN.mk b.2 a.Be (A1 (a.left-1)) a.Ho a.tx a.atomic a.loop a.held) ce).bind λai=>
J5 R101 R102 d c b ai.2 (!ai.1)
else
J5 R101 R102 d c b (AN.mk b.2 a.Be (A1 (a.left-1)) a.Ho a.tx a.atomic a.loop a.held) false
else
if b.1==9 then
if c then
(gt [(⟨#[109]⟩:AB9),(⟨#[110]⟩:AB9)] (A1 (b.1-8))).bind λcf=>
(Dp (AN.mk b.2 a.Be (A1 (a.left-1)) a.Ho a.tx a.atomic a.loop a.held) cf).bind λaj=>
J5 R101 R102 d c b aj.2 (!aj.1)
else
J5 R101 R102 d c b (AN.mk b.2 a.Be (A1 (a.left-1)) a.Ho a.tx a.atomic a.loop a.held) false
else
J5 R101 R102 d c b (AN.mk b.2 a.Be (A1 (a.left-1)) a.Ho a.tx a.atomic a.loop a.held) false
def J2 (R101:AN->AB9->Int->AB8 ((List AQ)×AN)) (R102:AN->Int->Int->AB8 ((List AQ)×AN)) (d:Int) (a:AN) (c:Bool) (b:Int×AU) (aa:Bool):AB8 (AQ×AN):=
if aa then
(CD BP (AN.mk b.2 a.Be (A1 (a.left-1)) a.Ho a.tx a.atomic a.loop a.held) 1).bind λac=>
(R102 ac.2 (A1 (d-1)) 1).bind λi=>
(Ae i.2.t 2).bind λab=>
if ab.1==1 then
(R102 (AN.mk ab.2 i.2.Be i.2.left i.2.Ho i.2.tx i.2.atomic i.2.loop i.2.held) (A1 (d-1)) 1).bind λaf=>
J3 af.2 (AQ.mk 2 0 (⟨#[]⟩:AB9) (⟨#[]⟩:AB9) [] ac.1 i.1 af.1)
else
J3 (AN.mk ab.2 i.2.Be i.2.left i.2.Ho i.2.tx i.2.atomic i.2.loop i.2.held) (AQ.mk 2 0 (⟨#[]⟩:AB9) (⟨#[]⟩:AB9) [] ac.1 i.1 [])
else
if b.1==7 then
J4 R101 R102 d a c b (decide (d>0))
else
J4 R101 R102 d a c b false
def J1 (R101:AN->AB9->Int->AB8 ((List AQ)×AN)) (R102:AN->Int->Int->AB8 ((List AQ)×AN)) (d:Int) (a:AN) (b:Int×AU) (c:Bool):AB8 (AQ×AN):=
if decide (b.1<4)then
(gt [(⟨#[120]⟩:AB9),(⟨#[121]⟩:AB9),(⟨#[120]⟩:AB9),(⟨#[118]⟩:AB9)] b.1).bind λcc=>
(CD BP (AN.mk b.2 a.Be (A1 (a.left-1)) a.Ho a.tx a.atomic a.loop a.held) 1).bind λae=>
(E2 cc ae.1).bind λbw=>
some (bw,ae.2)
else
if b.1==4 then
(Ae b.2 2).bind λaw=>
(gt [(⟨#[97]⟩:AB9),(⟨#[98]⟩:AB9)] aw.1).bind λcd=>
(CD BP (AN.mk aw.2 a.Be (A1 (a.left-1)) a.Ho a.tx a.atomic a.loop a.held) 1).bind λbc=>
(E2 cd bc.1).bind λcb=>
some (cb,bc.2)
else
if b.1==5 then
(CD BP (AN.mk b.2 a.Be (A1 (a.left-1)) a.Ho a.tx a.atomic a.loop a.held) 0).bind λbd=>
(CD BP bd.2 1).bind λbe=>
some ((AQ.mk 1 0 (⟨#[113]⟩:AB9) (⟨#[]⟩:AB9) [bd.1] be.1 [] []),be.2)
else
if b.1==6 then
J2 R101 R102 d a c b (decide (d>0))
else
J2 R101 R102 d a c b false
end Ay
section
open Ay
def Ay (R101:AN->AB9->Int->AB8 ((List AQ)×AN)) (R102:AN->Int->Int->AB8 ((List AQ)×AN)) (a:AN) (d:Int):AB8 (AQ×AN):=
(Ae a.t 18).bind λb=>
if decide (d>0)then
if decide ((A1 (a.left-1))>0)then
J1 R101 R102 d a b (!a.tx)
else
J1 R101 R102 d a b false
else
J1 R101 R102 d a b false
theorem SM {R101:AN->AB9->Int->AB8 ((List AQ)×AN)} (H101:∀{x0 x1 x2 r},R101 x0 x1 x2=some r->BA Tryz.prog 249 [bA 8 (CS x0),BZ x1,si x2] (vO 11 A7 r.1) [bA 8 (CS r.2),.dead,.dead]) {R102:AN->Int->Int->AB8 ((List AQ)×AN)} (H102:∀{x0 x1 x2 r},R102 x0 x1 x2=some r->BA Tryz.prog 187 [bA 8 (CS x0),si x1,si x2] (vO 11 A7 r.1) [bA 8 (CS r.2),.dead,.dead]) {a:AN} {d:Int} {r:AQ×AN} (h:Ay R101 R102 a d=some r):BA Tryz.prog 221 [bA 8 (CS a),si d] (.agg [si r.1.Op,si r.1.FA,BZ r.1.Name,BZ r.1.Arg,vS 4 BD r.1.Index,si r.1.Expr.Op,si r.1.Expr.N,BZ r.1.Expr.Name,vS 4 BD r.1.Expr.L,vS 11 A7 r.1.Body,vS 11 A7 r.1.Else]) [bA 8 (CS r.2),.dead]:=by refine kP mix Tryz.func221 (hn [(0,[13,14,15,18,19,20,21,22,23,28,29,30,35,36,37,48,55,56,57,58,68,71,81,83,88,89,90,91,94,107,108,109,111,112,113,117,128,130,131,144,159,176,183,194,195,196,197,198,199,200,201,206,207,208,217,218,219,223,224,225,226,231,232,233,242,243,244,249,265,269,270,271,272,282,283,284,289,290,291,296,297,298,302,303,304,305,312,313,314,319,320,321,322,327]),(7,[98,99]),(9,[132]),(11,[209]),(12,[234]),(44,[46]),(54,[60]),(145,[148]),(153,[156])] [(3,1),(11,2),(16,4),(22,5),(25,6),(27,7),(32,8),(37,9),(39,10),(41,11)] (E:=[(7,(.aY [(0,8,9,62)] [⟨some ⟨54,[60],[]⟩,.Na 1 [[BZ ⟨#[]⟩],[BZ ⟨#[]⟩]] [(0,.c (BZ ⟨#[97]⟩)),(1,.c (BZ ⟨#[98]⟩))],none⟩,i1 55 0 (.cp (.t 0)),i1 56 0 (.KK (.t 55)),Ll 57 0 0 56,Zm 58 0 57,i0 59 (.VW 104 [] (.t 58) none [.c (si 2)]),rL 60 54 1 54 59,iL 61 60,i0 62 .fl,i0 63 (.VW 245 [] (.t 0) none [.c (si 1)]),i0 64 (.call 188 [.t 61,.t 63] 1),iS 11 4 64]))])) ?_;have a1:= @Cp;have a2:= @Q1;have a3:= @Pu;have a4:= @H102;have a5:= @Tg;have a6:= @Py;have a7:= @Pv;have a8:= @H101;have a9:= @Q3;have c11:=λn1 n2 n3 n4:Nat=>Bm 11 λτ=>∃(e:AN) (b:Int×AU) (z:Bool),(τ 0=bA 8 (CS e)/\τ 4=bA 11 z1/\τ 5=si b.1/\τ 278=sb z)/\Z9 e b z=some r;have c10:=λn1 n2 n3 n4:Nat=>Bm 10 λτ=>∃(b:Int×AU) (e:AN) (y:Bool),(τ 0=bA 8 (CS e)/\τ 4=bA 11 z1/\τ 5=si b.1/\τ 258=sb y)/\QZ b e y=some r;have c9:=λn1 n2 n3 n4:Nat=>Bm 9 λτ=>∃(c:Bool) (b:Int×AU) (q:AN) (x:Bool),(τ 0=bA 8 (CS q)/\τ 4=bA 11 z1/\τ 5=si b.1/\τ 6=sb c/\τ 235=sb x)/\J9 c b q x=some r;have c8:=λn1 n2 n3 n4:Nat=>Bm 8 λτ=>∃(f:AN) (c:Bool) (b:Int×AU) (w:Bool),(τ 0=bA 8 (CS f)/\τ 1=si d/\τ 4=bA 11 z1/\τ 5=si b.1/\τ 6=sb c/\τ 210=sb w)/\J8 R102 d f c b w=some r;have c7:=λn1 n2 n3 n4:Nat=>Bm 7 λτ=>∃(f:AN) (c:Bool) (b:Int×AU) (v:Bool),(τ 0=bA 8 (CS f)/\τ 1=si d/\τ 4=bA 11 z1/\τ 5=si b.1/\τ 6=sb c/\τ 188=sb v)/\J7 R102 d f c b v=some r;have c6:=λn1 n2 n3 n4:Nat=>Bm 6 λτ=>∃(c:Bool) (b:Int×AU) (f:AN) (u:Bool),(τ 0=bA 8 (CS f)/\τ 1=si d/\τ 4=bA 11 z1/\τ 5=si b.1/\τ 6=sb c/\τ 165=sb u)/\J6 R101 R102 d c b f u=some r;have c5:=λn1 n2 n3 n4:Nat=>Bm 5 λτ=>∃(c:Bool) (b:Int×AU) (j:AN) (t:Bool),(τ 0=bA 8 (CS j)/\τ 1=si d/\τ 4=bA 11 z1/\τ 5=si b.1/\τ 6=sb c/\τ 133=sb t)/\J5 R101 R102 d c b j t=some r;have c4:=λn1 n2 n3 n4:Nat=>Bm 4 λτ=>∃(c:Bool) (b:Int×AU) (s:Bool),(τ 0=bA 8 [bA 2 (FE b.2),si a.Be,si (A1 (a.left-1)),sb a.Ho,sb a.tx,sb a.atomic,sb a.loop,vO 1 eS a.held]/\τ 1=si d/\τ 4=bA 11 z1/\τ 5=si b.1/\τ 6=sb c/\τ 100=sb s)/\J4 R101 R102 d a c b s=some r;have c2:=λn1 n2 n3 n4:Nat=>Bm 2 λτ=>∃(c:Bool) (b:Int×AU) (aa:Bool),(τ 0=bA 8 [bA 2 (FE b.2),si a.Be,si (A1 (a.left-1)),sb a.Ho,sb a.tx,sb a.atomic,sb a.loop,vO 1 eS a.held]/\τ 1=si d/\τ 4=bA 11 z1/\τ 5=si b.1/\τ 6=sb c/\τ 74=sb aa)/\J2 R101 R102 d a c b aa=some r;have c1:=λn1 n2 n3 n4:Nat=>Bm 1 λτ=>∃(b:Int×AU) (c:Bool),(τ 0=bA 8 [bA 2 (FE b.2),si a.Be,si (A1 (a.left-1)),sb a.Ho,sb a.tx,sb a.atomic,sb a.loop,vO 1 eS a.held]/\τ 1=si d/\τ 4=bA 11 z1/\τ 5=si b.1/\τ 6=sb c)/\J1 R101 R102 d a b c=some r;unfold Ay at h;exact walk
end
def Hk (R102:AN->Int->Int->AB8 ((List AQ)×AN)) (b:AN) (d:AB9) (c:Int):AB8 ((List AQ)×AN):=
if Ak (b.held.length+1) 16=true then
(Ae b.t 2).bind λe=>
(R102 (AN.mk e.2 b.Be b.left b.Ho b.tx b.atomic b.loop (b.held++[d])) c (A1 (1+e.1))).bind λa=>
if 0≤(A1 ((a.2.held.length:Int)-1))/\((A1 ((a.2.held.length:Int)-1)).toNat)≤a.2.held.length then
some (a.1,(AN.mk a.2.t a.2.Be a.2.left a.2.Ho a.2.tx a.2.atomic a.2.loop (a.2.held.take ((A1 ((a.2.held.length:Int)-1)).toNat))))
else none
else none
theorem Qz {R102:AN->Int->Int->AB8 ((List AQ)×AN)} (H102:∀{x0 x1 x2 r},R102 x0 x1 x2=some r->BA Tryz.prog 187 [bA 8 (CS x0),si x1,si x2] (vO 11 A7 r.1) [bA 8 (CS r.2),.dead,.dead]) {b:AN} {d:AB9} {c:Int} {r:(List AQ)×AN} (h:Hk R102 b d c=some r):BA Tryz.prog 249 [bA 8 (CS b),BZ d,si c] (vO 11 A7 r.1) [bA 8 (CS r.2),.dead,.dead]:=by refine kL mix Tryz.func249 (hn [(0,[8,9,10,11,12,16,17,18,20,21,22,23,28,29,30,31,32,33,34,35,39,40]),(7,[41])] (E:=[(3,(.aY [(0,0,12,27)] [i0 27 .fl,i1 28 0 (.cp (.t 0)),i1 29 0 (.KK (.t 28)),Ll 30 0 7 29,Zm 31 0 30,i1 32 0 (.cp (.t 0)),i1 33 0 (.KK (.t 32)),Ll 34 0 7 33,Zm 35 0 34,iZ 36 35,iP 37 .sub 36 1,i0 38 (.zC 1 false (.t 31) none (some (.t 37)) none),i1 39 0 (.KK (.t 0)),Ll 40 0 7 39,iS 1 40 38]))])) ?_;have a1:= @Cp;have a2:= @H102;unfold Hk at h;exact walk
def FK:Nat->(AN->Int->Int->AB8 ((List AQ)×AN))×(AN->Int->AB8 (AQ×AN))×(AN->AB9->Int->AB8 ((List AQ)×AN))
|0=>((λ_ _ _=>none),(λ_ _=>none),(λ_ _ _=>none))
|n+1=>(CU ((FK n).2.1),Ay ((FK n).2.2) ((FK n).1),Hk ((FK n).1))
def Dv (n:Nat):AN->Int->Int->AB8 ((List AQ)×AN):=(FK n).1
def Fu (n:Nat):AN->Int->AB8 (AQ×AN):=(FK n).2.1
def KI (n:Nat):AN->AB9->Int->AB8 ((List AQ)×AN):=(FK n).2.2
theorem Pw (n:Nat):(∀{x0 x1 x2 r},(Dv n) x0 x1 x2=some r->BA Tryz.prog 187 [bA 8 (CS x0),si x1,si x2] (.own false 11 (r.1.map A7)) [bA 8 (CS r.2),.dead,.dead])/\(∀{x0 x1 r},(Fu n) x0 x1=some r->BA Tryz.prog 221 [bA 8 (CS x0),si x1] (.agg [si r.1.Op,si r.1.FA,BZ r.1.Name,BZ r.1.Arg,.sl false 4 (r.1.Index.map BD),si r.1.Expr.Op,si r.1.Expr.N,BZ r.1.Expr.Name,.sl false 4 (r.1.Expr.L.map BD),.sl false 11 (r.1.Body.map A7),.sl false 11 (r.1.Else.map A7)]) [bA 8 (CS r.2),.dead])/\(∀{x0 x1 x2 r},(KI n) x0 x1 x2=some r->BA Tryz.prog 249 [bA 8 (CS x0),BZ x1,si x2] (.own false 11 (r.1.map A7)) [bA 8 (CS r.2),.dead,.dead]):=by
  induction n with
  |zero=>exact⟨λh=>DP h,λh=>DP h,λh=>DP h⟩
  |succ n ih=>exact⟨λh=>Q4 ih.2.1 h,λh=>SM ih.2.2 ih.1 h,λh=>Qz ih.1 h⟩
theorem Px {n:Nat}:∀{x0 x1 x2 r},(Dv n) x0 x1 x2=some r->BA Tryz.prog 187 [bA 8 (CS x0),si x1,si x2] (.own false 11 (r.1.map A7)) [bA 8 (CS r.2),.dead,.dead]:=(Pw n).1
def f121c:ZY:=(.seq (.ic (Rc 0 [.b 2 [16,29,43,47] (.bx 6 (.t 0)),.B 4 false]))
(.seq (.ic (Rc 0 [.b 5 [13,23,36,42,46,51,55] (.mv (.c (.own false 1 [])))]))
(.seq (.ic (Rc 13 [.y 5 (.cp (.t 5)),.C 1,.o (.app 1 16 (.t 13) (.t 14)),.b 5 [13,23,36,42,46,51,55] (.mv (.t 15))]))
(iM (.ic (Ra 16 [.f 1 2,.Z 17,.Y 0]
(Bl 0 (Ra 20 [.O .lss 19 18]
(Sq (cX 20 0)
(Sq (Bk 1 (Ra 21 [.I 2 17 19,.A 2 21,.b 7 [24] (.bx 2 (.c (.agg [BZ ⟨#[]⟩,sb false]))),.S 2 7 22]
(Rc 23 [.y 5 (.cp (.t 5)),.f 0 7,.o (.Na 1 [[BZ ⟨#[]⟩]] [(0,.t 25)]),.o (.app 1 16 (.t 23) (.t 26)),.b 5 [13,23,36,42,46,51,55] (.mv (.t 27))])))
(Rc 28 [.P .add 19 1,.w 19,.C 28])))))))
(iM (.ic (Ra 29 [.f 2 2,.Z 30,.Y 0]
(Bl 2 (Ra 33 [.O .lss 32 31]
(Sq (cX 33 2)
(Sq (Bk 3 (Ra 34 [.I 2 30 32,.A 2 34,.b 9 [37] (.bx 2 (.c (.agg [BZ ⟨#[]⟩,si 0]))),.S 2 9 35]
(Rc 36 [.y 5 (.cp (.t 5)),.f 0 9,.o (.Na 1 [[BZ ⟨#[]⟩]] [(0,.t 38)]),.o (.app 1 16 (.t 36) (.t 39)),.b 5 [13,23,36,42,46,51,55] (.mv (.t 40))])))
(Rc 41 [.P .add 32 1,.w 32,.C 41])))))))
(.seq (.ic (Rc 42 [.y 5 (.cp (.t 5)),.f 3 2,.o (.app 1 16 (.t 42) (.t 44)),.b 5 [13,23,36,42,46,51,55] (.mv (.t 45))]))
(.seq (.ic (Rc 46 [.y 5 (.cp (.t 5)),.f 4 2,.o (.app 1 16 (.t 46) (.t 48)),.b 5 [13,23,36,42,46,51,55] (.mv (.t 49))]))
(.seq (.Zt [.mkm ⟨50,[],[]⟩,.x (.o ⟨some ⟨10,[],[]⟩,.mv (.t 50),none⟩)])
(iM (.seq (.ic (Rc 51 [.y 5 (.cp (.t 5)),.Z 51,.Y 0]))
(.block 4 (.loop (.seq (.ic (Rc 54 [.O .lss 53 52]))
(.seq (.ic (cX 54 4))
(.seq (.block 5 (.seq (.ic (Rc 55 [.J 5 1 51 53,.L 55,.M 12 56]))
(.seq (iM (.Zt [.x (.o ⟨some ⟨57,[],[]⟩,.cp (.t 12),none⟩),.x (.o ⟨some ⟨58,[],[]⟩,.call 165 [.t 57] 0,none⟩),.x (.o ⟨some ⟨59,[],[]⟩,.un .not (.t 58),none⟩),.x (.o ⟨some ⟨60,[],[]⟩,.cp (.t 59),none⟩),.x (.o ⟨some ⟨61,[],[]⟩,.cp (.t 10),some (60,false)⟩),.x (.o ⟨some ⟨62,[],[]⟩,.cp (.t 12),some (60,false)⟩),.lkp (some (60,false)) ⟨63,[],[]⟩ (.t 61) (.t 62),.x (.o ⟨some ⟨64,[],[]⟩,.pick (.t 60) (.c (sb true)) (.t 63),none⟩)])
(.ic (Ci 64 (Rb 0 [.B 4 false]))))
(.Zt [.x (.o ⟨some ⟨65,[],[]⟩,.cp (.t 10),none⟩),.x (.o ⟨some ⟨66,[],[]⟩,.cp (.t 12),none⟩),.mup (.t 65) (.t 66) (.c (sb true))]))))
(.ic (Rc 67 [.P .add 53 1,.w 53,.C 67]))))))))
(.ic (Rb 0 [.B 4 true])))))))))))
def f121g:Gi:=⟨[(13,[5]),(16,[2]),(23,[5]),(24,[7]),(29,[2]),(36,[5]),(37,[9]),(42,[5]),(43,[2]),(46,[5]),(47,[2]),(51,[5]),(55,[5])]⟩
def f121r:List RV:=[.tmp 4]
def f121:FIM:=⟨f121c,f121g,f121r⟩
theorem chk121:qN Tryz.prog Tryz.f121 f121=true:=by kernel_rfl
namespace BF
def J4 (seen:List AB9):AB8 Bool:=
some true
def J3 (L3:Int->(List AB9)->AB8 Bool) (seen:List AB9) (UT:Int) (yE:AB9) (t64v:Bool):AB8 Bool:=
if t64v then
some false
else
if(seen.any λζ=>ζ==yE)=false then
L3 (A1 (UT+1)) (seen++[yE])
else none
def L3 (KC:List AB9) (wv:AD) (L3:Int->(List AB9)->AB8 Bool) (UT:Int) (seen:List AB9):AB8 Bool:=
if decide (UT<(((KC++wv.AK)++wv.AA).length:Int))then
(gt ((KC++wv.AK)++wv.AA) UT).bind λyE=>
(Cy yE).bind λv=>
if !v then
J3 L3 seen UT yE true
else
J3 L3 seen UT yE (seen.any λζ=>ζ==yE)
else
J4 seen
def Gq (KC:List AB9) (wv:AD):Nat->Int->(List AB9)->AB8 Bool
|0,_,_=>none
|n+1,UT,seen=>L3 KC wv (Gq KC wv n) UT seen
def J2 (wv:AD) (KC:List AB9):AB8 Bool:=
if Ak (KC.length+wv.AK.length) 16=true then
if Ak ((KC++wv.AK).length+wv.AA.length) 16=true then
Gq KC wv BP 0 []
else none
else none
def L2 (wv:AD) (L2:(List AB9)->Int->AB8 Bool) (Sz:List AB9) (fI:Int):AB8 Bool:=
if decide (fI<(wv.Af.length:Int))then
(gt wv.Af fI).bind λx_1=>
if Ak (Sz.length+1) 16=true then
L2 (Sz++[x_1.Name]) (A1 (fI+1))
else none
else
J2 wv Sz
def Cr (wv:AD):Nat->(List AB9)->Int->AB8 Bool
|0,_,_=>none
|n+1,Sz,fI=>L2 wv (Cr wv n) Sz fI
def J1 (wv:AD) (gH:List AB9):AB8 Bool:=
Cr wv BP gH 0
def L1 (wv:AD) (L1:(List AB9)->Int->AB8 Bool) (all:List AB9) (fH:Int):AB8 Bool:=
if decide (fH<(wv.AE.length:Int))then
(gt wv.AE fH).bind λx=>
if Ak (all.length+1) 16=true then
L1 (all++[x.Name]) (A1 (fH+1))
else none
else
J1 wv all
def AZ (wv:AD):Nat->(List AB9)->Int->AB8 Bool
|0,_,_=>none
|n+1,all,fH=>L1 wv (AZ wv n) all fH
end BF
section
open BF
def BF (wv:AD) (variables:List AB9):AB8 Bool:=
if Ak (variables.length) 16=true then
AZ wv BP variables 0
else none
theorem O9 {wv:AD} {variables:List AB9} {r:Bool} (h:BF wv variables=some r):Says Tryz.prog 121 [.agg (Ah wv),vS 1 eS variables] (sb r):=by
 refine kZ mix Tryz.func121 chk121 (AAq (by kernel_rfl)) rfl ?_;simp only[f121,f121c,f121g,f121r];obtain⟨_,h⟩:=cS h
 try simp +decide only[go_sem, *]
 refine iN (λτ ν=>∃gH:List AB9,(τ 2=bA 6 (Ah wv)/\τ 5=vO 1 eS gH)/\J1 wv gH=some r) λM1 hM1=>⟨?_,?_⟩
 . try simp +decide only[go_sem, *]
   refine Pt (λn τ=>∃all:List AB9,∃fH:Int,(τ 2=bA 6 (Ah wv)/\τ 5=vO 1 eS all/\τ 17=vS 2 Hu wv.AE/\τ 18=si (wv.AE.length:Int)/\τ 19=si fH)/\AZ wv n all fH=some r) ⟨_,_,?_,h⟩ λn1 τ1 N1=> ?_
   . simp +decide only[go_sem, *]
   rintro⟨all,fH,s1,h⟩ hN1;cases n1 with
   |zero=>exact DP h
   |succ n1=>
    rw[AZ]at h;generalize hL1:AZ wv n1=L1 at h
    try simp +decide only[go_sem, *]
    refine cI h (λ_ h=> ?_) λ_ h=> ?_
    . obtain⟨x,_,h⟩:=gB h;obtain⟨_,h⟩:=cS h
      try simp +decide only[go_sem, *]
      refine hN1 n1 (Nat.lt_succ_self _) _ ⟨_,_,?_,hL1.symm▸h⟩;simp +decide only[go_sem, *]
    try simp +decide only[go_sem, *]
    refine hM1 _ _ ⟨_,?_,h⟩;simp +decide only[go_sem, *]
 rintro τ1 ν1 ⟨gH,s1,h⟩
 try simp +decide only[go_sem, *]
 refine iN (λτ ν=>∃KC:List AB9,(τ 2=bA 6 (Ah wv)/\τ 5=vO 1 eS KC)/\J2 wv KC=some r) λM2 hM2=>⟨?_,?_⟩
 . try simp +decide only[go_sem, *]
   refine Pt (λn τ=>∃Sz:List AB9,∃fI:Int,(τ 2=bA 6 (Ah wv)/\τ 5=vO 1 eS Sz/\τ 30=vS 2 Ht wv.Af/\τ 31=si (wv.Af.length:Int)/\τ 32=si fI)/\Cr wv n Sz fI=some r) ⟨_,_,?_,h⟩ λn2 τ2 N2=> ?_
   . simp +decide only[go_sem, *]
   rintro⟨Sz,fI,s2,h⟩ hN2;cases n2 with
   |zero=>exact DP h
   |succ n2=>
    rw[Cr]at h;generalize q6:Cr wv n2=L2 at h
    try simp +decide only[go_sem, *]
    refine cI h (λ_ h=> ?_) λ_ h=> ?_
    . obtain⟨x_1,_,h⟩:=gB h;obtain⟨_,h⟩:=cS h
      try simp +decide only[go_sem, *]
      refine hN2 n2 (Nat.lt_succ_self _) _ ⟨_,_,?_,q6.symm▸h⟩;simp +decide only[go_sem, *]
    try simp +decide only[go_sem, *]
    refine hM2 _ _ ⟨_,?_,h⟩;simp +decide only[go_sem, *]
 rintro τ2 ν2 ⟨KC,s2,h⟩;obtain⟨_,h⟩:=cS h;obtain⟨_,h⟩:=cS h
 try simp +decide only[go_sem, *]
 intro b1 hb1
 try simp +decide only[go_sem, *]
 refine iN (λτ ν=>∃seen:List AB9,(ν b1=some (.mp (seen.map tv)))/\J4 seen=some r) λM4 hM4=>⟨?_,?_⟩
 . try simp +decide only[go_sem, *]
   refine loopMH (λn τ ν=>∃UT:Int,∃seen:List AB9,(τ 5= .own false 1 (((KC++wv.AK)++wv.AA).map eS)/\τ 10= .sc (.map (some b1))/\τ 51= .al 5 []/\τ 52=si (((KC++wv.AK)++wv.AA).length:Int)/\τ 53=si UT/\ν b1=some (.mp (seen.map tv)))/\Gq KC wv n UT seen=some r) ⟨_,_,?_,h⟩ λn3 τ3 ν3 N3=> ?_
   . simp +decide only[go_sem, *]
   rintro⟨UT,seen,s3,h⟩ hN3;cases n3 with
   |zero=>exact DP h
   |succ n3=>
    rw[Gq]at h;generalize hL3:Gq KC wv n3=L3 at h
    try simp +decide only[go_sem, *]
    refine cI h (λ_ h=> ?_) λ_ h=> ?_
    . obtain⟨yE,_,h⟩:=gB h
      try simp +decide only[go_sem, *]
      refine iN (λτ ν=>∃t64v:Bool,(τ 5= .own false 1 (((KC++wv.AK)++wv.AA).map eS)/\τ 10= .sc (.map (some b1))/\τ 12=BZ yE/\τ 51= .al 5 []/\τ 52=si (((KC++wv.AK)++wv.AA).length:Int)/\τ 53=si UT/\τ 64=sb t64v/\ν b1=some (.mp (seen.map tv)))/\J3 L3 seen UT yE t64v=some r) λM3 hM3=>⟨?_,?_⟩
      . obtain⟨v,g9,h⟩:=bS h
        try simp +decide only[go_sem, *]
        refine⟨_,Wk g9,?_⟩
        try simp +decide only[go_sem, *]
        refine gI h (λ_ h=> ?_) λ_ h=> ?_
        . try simp +decide only[go_sem, *]
          refine hM3 _ _ ⟨_,?_,h⟩;simp +decide only[go_sem, *]
        try simp +decide only[go_sem, *]
        refine hM3 _ _ ⟨_,?_,h⟩;simp +decide only[go_sem, *]
      rintro τ3 ν3 ⟨t64v,s3,h⟩
      try simp +decide only[go_sem, *]
      refine cI h (λ_ h=> ?_) λ_ h=> ?_
      . obtain rfl:=AAl h;simp +decide only[go_sem, *]
      obtain⟨_,h⟩:=cS h
      try simp +decide only[go_sem, *]
      refine hN3 n3 (Nat.lt_succ_self _) _ _ ⟨_,_,?_,hL3.symm▸h⟩;simp +decide only[go_sem, *]
    try simp +decide only[go_sem, *]
    refine hM4 _ _ ⟨_,?_,h⟩;simp +decide only[go_sem, *]
 rintro τ4 ν4 ⟨seen,s4,h⟩;obtain rfl:=AAl h;simp +decide only[go_sem, *]
end
namespace Bt
def sM (bb:AU) (aw:AB):AB8 (AB×AU):=
some (aw,bb)
def L3 (o:AB) (L3:AU->AB->Int->AB8 (AB×AU)) (v:AU) (f:AB) (s:Int):AB8 (AB×AU):=
if decide (s<(o.Cells.length:Int))then
(Ae v 3).bind λae=>
(gt f.Cells s).bind λbt=>
L3 ae.2 (AB.mk f.Sync (f.Cells.set s.toNat ae.1) f.AK f.Count) (A1 (s+1))
else
sM v f
def Gq (o:AB):Nat->AU->AB->Int->AB8 (AB×AU)
|0,_,_,_=>none
|n+1,v,f,s=>L3 o (Gq o n) v f s
def Z9 (bi:AU) (o:AB):AB8 (AB×AU):=
Gq o BP bi o 0
def QZ (aa:AU) (e:AB):AB8 (AB×AU):=
(Ae aa 3).bind λad=>
if ad.1==2 then
(gt e.Sync.Bp 0).bind λbq=>
(Ae ad.2 3).bind λao=>
(gt e.AK 0).bind λbs=>
Z9 ao.2 (AB.mk (AP.mk e.Sync.AE e.Sync.Tx (e.Sync.Bp.set 0 true) e.Sync.AA) e.Cells (e.AK.set 0 ao.1) e.Count)
else
Z9 ad.2 e
def J9 (bf:AU) (q:AB):AB8 (AB×AU):=
(Ae bf 3).bind λac=>
if ac.1==2 then
(Hz ac.2 q.Sync.Tx q.Count).bind λal=>
QZ al.2 (AB.mk (AP.mk q.Sync.AE al.1 q.Sync.Bp q.Sync.AA) q.Cells q.AK q.Count)
else
QZ ac.2 q
def J8 (L2:AU->AB->Int->AB8 (AB×AU)) (d:Int) (be:AU) (av:AB):AB8 (AB×AU):=
L2 be av (A1 (d+1))
def J7 (L2:AU->AB->Int->AB8 (AB×AU)) (a:AB) (d:Int) (x:AU) (i:Int×AU) (ba:Bool):AB8 (AB×AU):=
if ba then
J8 L2 d x a
else
(gt a.Sync.AE d).bind λbl=>
J8 L2 d x (AB.mk (AP.mk (a.Sync.AE.set d.toNat (AW.mk i.1 bl.Al)) a.Sync.Tx a.Sync.Bp a.Sync.AA) a.Cells a.AK a.Count)
def J6 (L2:AU->AB->Int->AB8 (AB×AU)) (a:AB) (d:Int) (i:Int×AU) (x:AU) (az:Bool):AB8 (AB×AU):=
if az then
(gt a.Sync.AE d).bind λbj=>
J8 L2 d x (AB.mk (AP.mk (a.Sync.AE.set d.toNat (AW.mk bj.B6 [i.1])) a.Sync.Tx a.Sync.Bp a.Sync.AA) a.Cells a.AK a.Count)
else
if d==0 then
(gt a.Sync.AA i.1).bind λaq=>
if aq.Status==3 then
J7 L2 a d x i true
else
J7 L2 a d x i (aq.Status==4)
else
J7 L2 a d x i false
def L2 (l:AB) (L2:AU->AB->Int->AB8 (AB×AU)) (w:AU) (a:AB) (d:Int):AB8 (AB×AU):=
if decide (d<(l.Sync.AE.length:Int))then
(Hz w a.Sync.Tx a.Count).bind λi=>
if decide (i.1<0)then
J8 L2 d i.2 a
else
if d==2 then
(Ae i.2 2).bind λaj=>
J6 L2 a d i aj.2 (aj.1==1)
else
J6 L2 a d i i.2 false
else
J9 w a
def Cr (l:AB):Nat->AU->AB->Int->AB8 (AB×AU)
|0,_,_,_=>none
|n+1,w,a,d=>L2 l (Cr l n) w a d
def J5 (bd:AU) (l:AB):AB8 (AB×AU):=
Cr l BP bd l 0
def J4 (L1:AU->AB->Int->AB8 (AB×AU)) (c:Int) (bc:AU) (au:AB):AB8 (AB×AU):=
L1 bc au (A1 (c+1))
def J3 (L1:AU->AB->Int->AB8 (AB×AU)) (b:AB) (t c:Int) (j:Int×AU) (ay:Bool):AB8 (AB×AU):=
if ay then
(Ae j.2 3).bind λaf=>
(gt b.Count c).bind λbp=>
(Ae af.2 4).bind λai=>
(gt (b.Sync.AA.set c.toNat (AH.mk t 0 false)) c).bind λap=>
J4 L1 c ai.2 (AB.mk (AP.mk b.Sync.AE b.Sync.Tx b.Sync.Bp ((b.Sync.AA.set c.toNat (AH.mk t 0 false)).set c.toNat (AH.mk ap.Status ap.D7 (ai.1==3)))) b.Cells b.AK (b.Count.set c.toNat (A1 (1+af.1))))
else
J4 L1 c j.2 (AB.mk (AP.mk b.Sync.AE b.Sync.Tx b.Sync.Bp (b.Sync.AA.set c.toNat (AH.mk t 0 false))) b.Cells b.AK b.Count)
def J2 (L1:AU->AB->Int->AB8 (AB×AU)) (b:AB) (c:Int) (j:Int×AU) (t:Int):AB8 (AB×AU):=
(gt b.Sync.AA c).bind λbo=>
if t != 0 then
J3 L1 b t c j (t != 1)
else
J3 L1 b t c j false
def J1 (L1:AU->AB->Int->AB8 (AB×AU)) (b:AB) (c:Int) (j:Int×AU) (y:Int) (ax:Bool):AB8 (AB×AU):=
if ax then
J2 L1 b c j 1
else
J2 L1 b c j y
def L1 (p:AB) (L1:AU->AB->Int->AB8 (AB×AU)) (u:AU) (b:AB) (c:Int):AB8 (AB×AU):=
if decide (c<(p.Count.length:Int))then
(Ae u 9).bind λj=>
(gt [2,2,2,2,0,1,3,4,5] j.1).bind λy=>
if c==0 then
J1 L1 b c j y (y==0)
else
J1 L1 b c j y false
else
J5 u b
def AZ (p:AB):Nat->AU->AB->Int->AB8 (AB×AU)
|0,_,_,_=>none
|n+1,u,b,c=>L1 p (AZ p n) u b c
end Bt
section
open Bt
def Bt (z:AU) (ab:AD):AB8 (AB×AU):=
(EE ab).bind λp=>
AZ p BP z p 0
theorem Sj {z:AU} {ab:AD} {r:AB×AU} (h:Bt z ab=some r):BA Tryz.prog 140 [bA 2 (FE z),.agg (Ah ab)] (.agg (A3 r.1)) [bA 2 (FE r.2),.dead]:=by refine kP mix Tryz.func140 (hn [(0,[20,46,54,67,84,120,123,128,137,149]),(5,[13,14,30,31,32,36,43,44,49,50,51,52,57,58,60,61,62,68,70,71,72,75,76,88,89,90,94,95,100,101,102,104,105,109,110,111,113,114,124,126,127,131,132,133,134,135,136,139,140,141,146,147,151,153]),(19,[22])] [(24,10)] (Z:=[(13,false,5,[(0,6,0)])])) ?_;have a1:= @Il;have a2:= @Cp;have a3:= @Y6;have l3:=λn1 n2 n3 n4:Nat=>Av λn τ=>∃(o:AB) (v:AU) (f:AB) (s:Int),(τ 0=bA 2 (FE v)/\τ 4=bA 7 z0/\τ 5=bA 7 [vO 2 Bn f.Sync.AE,si f.Sync.Tx,vO 1 eB f.Sync.Bp,vO 3 An f.Sync.AA,vO 1 eI f.Cells,vO 1 eI f.AK,vS 1 eI f.Count]/\τ 142=si (o.Cells.length:Int)/\τ 143=si s)/\Gq o n v f s=some r;have l2:=λn1 n2 n3 n4:Nat=>Av λn τ=>∃(l:AB) (w:AU) (a:AB) (d:Int),(τ 0=bA 2 (FE w)/\τ 4=bA 7 z0/\τ 5=bA 7 [vO 2 Bn a.Sync.AE,si a.Sync.Tx,vO 1 eB a.Sync.Bp,vO 3 An a.Sync.AA,vO 1 eI a.Cells,vO 1 eI a.AK,vS 1 eI a.Count]/\τ 63=si (l.Sync.AE.length:Int)/\τ 64=si d)/\Cr l n w a d=some r;have l1:=λn1 n2 n3 n4:Nat=>Av λn τ=>∃(p:AB) (u:AU) (b:AB) (c:Int),(τ 0=bA 2 (FE u)/\τ 4=bA 7 z0/\τ 5=bA 7 (Dt b)/\τ 15=si (p.Count.length:Int)/\τ 16=si c)/\AZ p n u b c=some r;have c10:=λn1 n2 n3 n4:Nat=>Bm 10 λτ=>∃(aa:AU) (e:AB),(τ 0=bA 2 (FE aa)/\τ 4=bA 7 z0/\τ 5=bA 7 [vO 2 Bn e.Sync.AE,si e.Sync.Tx,vO 1 eB e.Sync.Bp,vO 3 An e.Sync.AA,vO 1 eI e.Cells,vO 1 eI e.AK,vS 1 eI e.Count])/\QZ aa e=some r;unfold Bt at h;exact walk
end
end Go.Abs
