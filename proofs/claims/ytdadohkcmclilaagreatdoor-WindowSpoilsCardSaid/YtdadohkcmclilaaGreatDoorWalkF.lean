/- Typed programs of Go functions, and that the functions do what these say. -/
import Derived.Test.YtdadohkcmclilaaGreatDoorWalkD
import Derived.Test.YtdadohkcmclilaaGreatDoorWalkE
import Derived.Shelf.Slices.SearchI
set_option linter.unusedSimpArgs false
set_option linter.unusedVariables false
namespace Go.Abs
open Go.Proofs
set_option maxRecDepth 1000000
set_option maxHeartbeats 4000000
namespace CT
def J2 (l:AO) (j:List AR):ABh ((List AR)×AO):=
some (j,l)
def J1 (L1:AO->(List AR)->Int->ABh ((List AR)×AO)) (R100:AO->Int->ABh (AR×AO)) (a b:Int) (c:List AR) (d:AO) (o:Bool):ABh ((List AR)×AO):=
if o then
(R100 d a).bind λi=>
if Ap (c.length+1) 176=true then
L1 i.2 (c++[i.1]) (Aq (b+1))
else none
else
J2 d c
def L1 (R100:AO->Int->ABh (AR×AO)) (a e:Int) (L1:AO->(List AR)->Int->ABh ((List AR)×AO)) (d:AO) (c:List AR) (b:Int):ABh ((List AR)×AO):=
if decide (b<e)then
if b==0 then
J1 L1 R100 a b c d true
else
J1 L1 R100 a b c d (decide (d.left>0))
else
J1 L1 R100 a b c d false
def AZ (R100:AO->Int->ABh (AR×AO)) (a e:Int):Nat->AO->(List AR)->Int->ABh ((List AR)×AO)
|0,_,_,_=>none
|n+1,d,c,b=>L1 R100 a e (AZ R100 a e n) d c b
end CT
section
open CT
def CT (R100:AO->Int->ABh (AR×AO)) (f:AO) (a e:Int):ABh ((List AR)×AO):=
AZ R100 a e Bg f [] 0
theorem P9 {R100:AO->Int->ABh (AR×AO)} (H100:∀{x0 x1 r},R100 x0 x1=some r->BM Tryz.prog 115 [bA 8 (CR x0),si x1] (.agg [si r.1.Op,si r.1.E8,BZ r.1.Name,BZ r.1.Arg,vS 4 BC r.1.Index,si r.1.Expr.Op,si r.1.Expr.N,BZ r.1.Expr.Name,vS 4 BC r.1.Expr.L,vS 11 A6 r.1.Body,vS 11 A6 r.1.Else]) [bA 8 (CR r.2),.dead]) {f:AO} {a e:Int} {r:(List AR)×AO} (h:CT R100 f a e=some r):BM Tryz.prog 64 [bA 8 (CR f),si a,si e] (vO 11 A6 r.1) [bA 8 (CR r.2),.dead,.dead]:=by refine kL mix Tryz.func64 (hn [(0,[16,17,18,26]),(7,[25,31])]) ?_;have a1:= @H100;have l1:=λn1 n2 n3 n4:Nat=>A7 λn τ=>∃(d:AO) (c:List AR) (b:Int),(τ 0=bA 8 (CR d)/\τ 1=si a/\τ 2=si e/\τ 7=vO 11 A6 c/\τ 8=si b)/\AZ R100 a e n d c b=some r;unfold CT at h;exact walk
end
namespace Au
def J3 (bi:AO) (bj:AR):ABh (AR×AO):=
some (bj,bi)
def wJ (ad:AO) (bl:Bool):ABh (AR×AO):=
if bl then
some ((AR.mk 15 0 (⟨#[97]⟩:ABi) (⟨#[102]⟩:ABi) [] (BA.mk 0 0 (⟨#[]⟩:ABi) []) [] []),ad)
else
(CE Bg ad 1).bind λbb=>
(Eh (⟨#[120]⟩:ABi) bb.1).bind λca=>
some (ca,bb.2)
def fV (e:AO) (b:Int×Dh) (z:Bool):ABh (AR×AO):=
if z then
(CE Bg (AO.mk e.t e.Be e.left true e.tx e.atomic e.loop e.held) 1).bind λaz=>
some ((AR.mk 14 0 (⟨#[102]⟩:ABi) (⟨#[]⟩:ABi) [] az.1 [] []),az.2)
else
if b.1==17 then
if !e.tx then
(Bc e.t 2).bind λba=>
wJ (AO.mk ba.2 e.Be e.left e.HB e.tx e.atomic e.loop e.held) (ba.1==1)
else
wJ e false
else
wJ e false
def RX (b:Int×Dh) (e:AO) (y:Bool):ABh (AR×AO):=
if y then
(Bc e.t 2).bind λay=>
some ((AR.mk 4 0 (⟨#[109]⟩:ABi) (⟨#[]⟩:ABi) [] (BA.mk 0 0 (⟨#[]⟩:ABi) []) [(AR.mk (Aq (10+ay.1)) 0 (⟨#[99]⟩:ABi) (⟨#[]⟩:ABi) [] (BA.mk 0 0 (⟨#[]⟩:ABi) []) [] [])] []),(AO.mk ay.2 e.Be e.left e.HB e.tx e.atomic e.loop e.held))
else
if b.1==16 then
if !e.tx then
if !e.loop then
fV e b (!e.HB)
else
fV e b false
else
fV e b false
else
fV e b false
def J9 (c:Bool) (b:Int×Dh) (q:AO) (x:Bool):ABh (AR×AO):=
if x then
(IH (⟨#[120]⟩:ABi)).bind λbx=>
(Eh (⟨#[97]⟩:ABi) bx).bind λbz=>
some ((AR.mk 4 0 (⟨#[109]⟩:ABi) (⟨#[]⟩:ABi) [] (BA.mk 0 0 (⟨#[]⟩:ABi) []) [(AR.mk 9 0 (⟨#[99]⟩:ABi) (⟨#[]⟩:ABi) [] (BA.mk 0 0 (⟨#[]⟩:ABi) []) [] []),bz] []),q)
else
if b.1==15 then
if c then
(Dg q (⟨#[109]⟩:ABi)).bind λax=>
RX b ax.2 (!ax.1)
else
RX b q false
else
RX b q false
def J8 (R102:AO->Int->Int->ABh ((List AR)×AO)) (d:Int) (f:AO) (c:Bool) (b:Int×Dh) (w:Bool):ABh (AR×AO):=
if w then
(R102 (AO.mk f.t f.Be f.left f.HB f.tx true f.loop f.held) (Aq (d-1)) 2).bind λp=>
some ((AR.mk 8 0 (⟨#[]⟩:ABi) (⟨#[]⟩:ABi) [] (BA.mk 0 0 (⟨#[]⟩:ABi) []) p.1 []),(AO.mk p.2.t p.2.Be p.2.left p.2.HB p.2.tx false p.2.loop p.2.held))
else
if b.1==14 then
if c then
if !f.atomic then
(Dg f (⟨#[109]⟩:ABi)).bind λav=>
J9 c b av.2 (!av.1)
else
J9 c b f false
else
J9 c b f false
else
J9 c b f false
def J7 (R102:AO->Int->Int->ABh ((List AR)×AO)) (d:Int) (f:AO) (c:Bool) (b:Int×Dh) (v:Bool):ABh (AR×AO):=
if v then
(Bc f.t 2).bind λau=>
(R102 (AO.mk au.2 f.Be f.left f.HB true f.atomic f.loop f.held) 0 (Aq (1+au.1))).bind λo=>
some ((AR.mk 7 0 (⟨#[]⟩:ABi) (⟨#[]⟩:ABi) [] (BA.mk 0 0 (⟨#[]⟩:ABi) []) o.1 []),(AO.mk o.2.t o.2.Be o.2.left o.2.HB false o.2.atomic o.2.loop o.2.held))
else
if b.1==13 then
if c then
J8 R102 d f c b (!f.atomic)
else
J8 R102 d f c b false
else
J8 R102 d f c b false
def J6 (R101:AO->ABi->Int->ABh ((List AR)×AO)) (R102:AO->Int->Int->ABh ((List AR)×AO)) (d:Int) (c:Bool) (b:Int×Dh) (f:AO) (u:Bool):ABh (AR×AO):=
if u then
(R101 f (⟨#[114]⟩:ABi) (Aq (d-1))).bind λaq=>
some ((AR.mk (Aq ((Aq (b.1-10))+5)) 0 (⟨#[114]⟩:ABi) (⟨#[]⟩:ABi) [] (BA.mk 0 0 (⟨#[]⟩:ABi) []) aq.1 []),aq.2)
else
if b.1==12 then
J7 R102 d f c b c
else
J7 R102 d f c b false
def J5 (R101:AO->ABi->Int->ABh ((List AR)×AO)) (R102:AO->Int->Int->ABh ((List AR)×AO)) (d:Int) (c:Bool) (b:Int×Dh) (j:AO) (t:Bool):ABh (AR×AO):=
if t then
(gt [(⟨#[109]⟩:ABi),(⟨#[110]⟩:ABi)] (Aq (b.1-8))).bind λbf=>
(R101 j bf (Aq (d-1))).bind λal=>
some ((AR.mk 4 0 bf (⟨#[]⟩:ABi) [] (BA.mk 0 0 (⟨#[]⟩:ABi) []) al.1 []),al.2)
else
if b.1==10 then
if c then
(Dg j (⟨#[114]⟩:ABi)).bind λao=>
J6 R101 R102 d c b ao.2 (!ao.1)
else
J6 R101 R102 d c b j false
else
if b.1==11 then
if c then
(Dg j (⟨#[114]⟩:ABi)).bind λap=>
J6 R101 R102 d c b ap.2 (!ap.1)
else
J6 R101 R102 d c b j false
else
J6 R101 R102 d c b j false
def J4 (R101:AO->ABi->Int->ABh ((List AR)×AO)) (R102:AO->Int->Int->ABh ((List AR)×AO)) (d:Int) (a:AO) (c:Bool) (b:Int×Dh) (s:Bool):ABh (AR×AO):=
if s then
(IH (⟨#[98]⟩:ABi)).bind λbo=>
(JV 2).bind λbp=>
(Hp 13 bo bp).bind λbq=>
(R102 (AO.mk b.2 a.Be (Aq (a.left-1)) a.HB a.tx a.atomic true a.held) (Aq (d-1)) 1).bind λl=>
(IH (⟨#[98]⟩:ABi)).bind λbs=>
(JV 1).bind λbt=>
(Hp 6 bs bt).bind λbu=>
(Eh (⟨#[98]⟩:ABi) bu).bind λbv=>
if Ap (l.1.length+1) 176=true then
some ((AR.mk 3 0 (⟨#[]⟩:ABi) (⟨#[]⟩:ABi) [] bq (l.1++[bv]) []),(AO.mk l.2.t l.2.Be l.2.left l.2.HB l.2.tx l.2.atomic a.loop l.2.held))
else none
else
if b.1==8 then
if c then
(gt [(⟨#[109]⟩:ABi),(⟨#[110]⟩:ABi)] (Aq (b.1-8))).bind λce=>
(Dg (AO.mk b.2 a.Be (Aq (a.left-1)) a.HB a.tx a.atomic a.loop a.held) ce).bind λai=>
J5 R101 R102 d c b ai.2 (!ai.1)
else
J5 R101 R102 d c b (AO.mk b.2 a.Be (Aq (a.left-1)) a.HB a.tx a.atomic a.loop a.held) false
else
if b.1==9 then
if c then
(gt [(⟨#[109]⟩:ABi),(⟨#[110]⟩:ABi)] (Aq (b.1-8))).bind λcf=>
(Dg (AO.mk b.2 a.Be (Aq (a.left-1)) a.HB a.tx a.atomic a.loop a.held) cf).bind λaj=>
J5 R101 R102 d c b aj.2 (!aj.1)
else
J5 R101 R102 d c b (AO.mk b.2 a.Be (Aq (a.left-1)) a.HB a.tx a.atomic a.loop a.held) false
else
J5 R101 R102 d c b (AO.mk b.2 a.Be (Aq (a.left-1)) a.HB a.tx a.atomic a.loop a.held) false
def J2 (R101:AO->ABi->Int->ABh ((List AR)×AO)) (R102:AO->Int->Int->ABh ((List AR)×AO)) (d:Int) (a:AO) (c:Bool) (b:Int×Dh) (aa:Bool):ABh (AR×AO):=
if aa then
(CE Bg (AO.mk b.2 a.Be (Aq (a.left-1)) a.HB a.tx a.atomic a.loop a.held) 1).bind λac=>
(R102 ac.2 (Aq (d-1)) 1).bind λi=>
(Bc i.2.t 2).bind λab=>
if ab.1==1 then
(R102 (AO.mk ab.2 i.2.Be i.2.left i.2.HB i.2.tx i.2.atomic i.2.loop i.2.held) (Aq (d-1)) 1).bind λaf=>
J3 af.2 (AR.mk 2 0 (⟨#[]⟩:ABi) (⟨#[]⟩:ABi) [] ac.1 i.1 af.1)
else
J3 (AO.mk ab.2 i.2.Be i.2.left i.2.HB i.2.tx i.2.atomic i.2.loop i.2.held) (AR.mk 2 0 (⟨#[]⟩:ABi) (⟨#[]⟩:ABi) [] ac.1 i.1 [])
else
if b.1==7 then
J4 R101 R102 d a c b (decide (d>0))
else
J4 R101 R102 d a c b false
def J1 (R101:AO->ABi->Int->ABh ((List AR)×AO)) (R102:AO->Int->Int->ABh ((List AR)×AO)) (d:Int) (a:AO) (b:Int×Dh) (c:Bool):ABh (AR×AO):=
if decide (b.1<4)then
(gt [(⟨#[120]⟩:ABi),(⟨#[121]⟩:ABi),(⟨#[120]⟩:ABi),(⟨#[118]⟩:ABi)] b.1).bind λcc=>
(CE Bg (AO.mk b.2 a.Be (Aq (a.left-1)) a.HB a.tx a.atomic a.loop a.held) 1).bind λae=>
(Eh cc ae.1).bind λbw=>
some (bw,ae.2)
else
if b.1==4 then
(Bc b.2 2).bind λaw=>
(gt [(⟨#[97]⟩:ABi),(⟨#[98]⟩:ABi)] aw.1).bind λcd=>
(CE Bg (AO.mk aw.2 a.Be (Aq (a.left-1)) a.HB a.tx a.atomic a.loop a.held) 1).bind λbc=>
(Eh cd bc.1).bind λcb=>
some (cb,bc.2)
else
if b.1==5 then
(CE Bg (AO.mk b.2 a.Be (Aq (a.left-1)) a.HB a.tx a.atomic a.loop a.held) 0).bind λbd=>
(CE Bg bd.2 1).bind λbe=>
some ((AR.mk 1 0 (⟨#[113]⟩:ABi) (⟨#[]⟩:ABi) [bd.1] be.1 [] []),be.2)
else
if b.1==6 then
J2 R101 R102 d a c b (decide (d>0))
else
J2 R101 R102 d a c b false
end Au
section
open Au
def Au (R101:AO->ABi->Int->ABh ((List AR)×AO)) (R102:AO->Int->Int->ABh ((List AR)×AO)) (a:AO) (d:Int):ABh (AR×AO):=
(Bc a.t 18).bind λb=>
if decide (d>0)then
if decide ((Aq (a.left-1))>0)then
J1 R101 R102 d a b (!a.tx)
else
J1 R101 R102 d a b false
else
J1 R101 R102 d a b false
theorem Q5 {R101:AO->ABi->Int->ABh ((List AR)×AO)} (H101:∀{x0 x1 x2 r},R101 x0 x1 x2=some r->BM Tryz.prog 158 [bA 8 (CR x0),BZ x1,si x2] (vO 11 A6 r.1) [bA 8 (CR r.2),.dead,.dead]) {R102:AO->Int->Int->ABh ((List AR)×AO)} (H102:∀{x0 x1 x2 r},R102 x0 x1 x2=some r->BM Tryz.prog 64 [bA 8 (CR x0),si x1,si x2] (vO 11 A6 r.1) [bA 8 (CR r.2),.dead,.dead]) {a:AO} {d:Int} {r:AR×AO} (h:Au R101 R102 a d=some r):BM Tryz.prog 115 [bA 8 (CR a),si d] (.agg [si r.1.Op,si r.1.E8,BZ r.1.Name,BZ r.1.Arg,vS 4 BC r.1.Index,si r.1.Expr.Op,si r.1.Expr.N,BZ r.1.Expr.Name,vS 4 BC r.1.Expr.L,vS 11 A6 r.1.Body,vS 11 A6 r.1.Else]) [bA 8 (CR r.2),.dead]:=by refine kP mix Tryz.func115 (hn [(0,[13,14,15,18,19,20,21,22,23,28,29,30,35,36,37,48,55,56,57,58,68,71,81,83,88,89,90,91,94,107,108,109,111,112,113,117,128,130,131,144,159,176,183,194,195,196,197,198,199,200,201,206,207,208,217,218,219,223,224,225,226,231,232,233,242,243,244,249,265,269,270,271,272,282,283,284,289,290,291,296,297,298,302,303,304,305,312,313,314,319,320,321,322,327]),(7,[98,99]),(9,[132]),(11,[209]),(12,[234]),(44,[46]),(54,[60]),(145,[148]),(153,[156])] [(3,1),(11,2),(16,4),(22,5),(25,6),(27,7),(32,8),(37,9),(39,10),(41,11)] (E:=[(7,(.bE [(0,8,9,62)] [⟨some ⟨54,[60],[]⟩,.NH 1 [[BZ ⟨#[]⟩],[BZ ⟨#[]⟩]] [(0,.c (BZ ⟨#[97]⟩)),(1,.c (BZ ⟨#[98]⟩))],none⟩,i1 55 0 (.cp (.t 0)),i1 56 0 (.JW (.t 55)),ML 57 0 0 56,bL 58 0 57,i0 59 (.Ww 63 [] (.t 58) none [.c (si 2)]),iIr 60 54 1 54 59,iL 61 60,i0 62 .fl,i0 63 (.Ww 154 [] (.t 0) none [.c (si 1)]),i0 64 (.call 65 [.t 61,.t 63] 1),iS 11 4 64]))])) ?_;have a1:= @Hh;have a2:= @P7;have a3:= @Ow;have a4:= @H102;have a5:= @SP;have a6:= @O0;have a7:= @Ox;have a8:= @H101;have a9:= @P8;have c11:=λn1 n2 n3 n4:Nat=>Bu 11 λτ=>∃(e:AO) (b:Int×Dh) (z:Bool),(τ 0=bA 8 (CR e)/\τ 4=bA 11 z1/\τ 5=si b.1/\τ 278=sb z)/\fV e b z=some r;have c10:=λn1 n2 n3 n4:Nat=>Bu 10 λτ=>∃(b:Int×Dh) (e:AO) (y:Bool),(τ 0=bA 8 (CR e)/\τ 4=bA 11 z1/\τ 5=si b.1/\τ 258=sb y)/\RX b e y=some r;have c9:=λn1 n2 n3 n4:Nat=>Bu 9 λτ=>∃(c:Bool) (b:Int×Dh) (q:AO) (x:Bool),(τ 0=bA 8 (CR q)/\τ 4=bA 11 z1/\τ 5=si b.1/\τ 6=sb c/\τ 235=sb x)/\J9 c b q x=some r;have c8:=λn1 n2 n3 n4:Nat=>Bu 8 λτ=>∃(f:AO) (c:Bool) (b:Int×Dh) (w:Bool),(τ 0=bA 8 (CR f)/\τ 1=si d/\τ 4=bA 11 z1/\τ 5=si b.1/\τ 6=sb c/\τ 210=sb w)/\J8 R102 d f c b w=some r;have c7:=λn1 n2 n3 n4:Nat=>Bu 7 λτ=>∃(f:AO) (c:Bool) (b:Int×Dh) (v:Bool),(τ 0=bA 8 (CR f)/\τ 1=si d/\τ 4=bA 11 z1/\τ 5=si b.1/\τ 6=sb c/\τ 188=sb v)/\J7 R102 d f c b v=some r;have c6:=λn1 n2 n3 n4:Nat=>Bu 6 λτ=>∃(c:Bool) (b:Int×Dh) (f:AO) (u:Bool),(τ 0=bA 8 (CR f)/\τ 1=si d/\τ 4=bA 11 z1/\τ 5=si b.1/\τ 6=sb c/\τ 165=sb u)/\J6 R101 R102 d c b f u=some r;have c5:=λn1 n2 n3 n4:Nat=>Bu 5 λτ=>∃(c:Bool) (b:Int×Dh) (j:AO) (t:Bool),(τ 0=bA 8 (CR j)/\τ 1=si d/\τ 4=bA 11 z1/\τ 5=si b.1/\τ 6=sb c/\τ 133=sb t)/\J5 R101 R102 d c b j t=some r;have c4:=λn1 n2 n3 n4:Nat=>Bu 4 λτ=>∃(c:Bool) (b:Int×Dh) (s:Bool),(τ 0=bA 8 [bA 2 (UF b.2),si a.Be,si (Aq (a.left-1)),sb a.HB,sb a.tx,sb a.atomic,sb a.loop,vO 1 eS a.held]/\τ 1=si d/\τ 4=bA 11 z1/\τ 5=si b.1/\τ 6=sb c/\τ 100=sb s)/\J4 R101 R102 d a c b s=some r;have c2:=λn1 n2 n3 n4:Nat=>Bu 2 λτ=>∃(c:Bool) (b:Int×Dh) (aa:Bool),(τ 0=bA 8 [bA 2 (UF b.2),si a.Be,si (Aq (a.left-1)),sb a.HB,sb a.tx,sb a.atomic,sb a.loop,vO 1 eS a.held]/\τ 1=si d/\τ 4=bA 11 z1/\τ 5=si b.1/\τ 6=sb c/\τ 74=sb aa)/\J2 R101 R102 d a c b aa=some r;have c1:=λn1 n2 n3 n4:Nat=>Bu 1 λτ=>∃(b:Int×Dh) (c:Bool),(τ 0=bA 8 [bA 2 (UF b.2),si a.Be,si (Aq (a.left-1)),sb a.HB,sb a.tx,sb a.atomic,sb a.loop,vO 1 eS a.held]/\τ 1=si d/\τ 4=bA 11 z1/\τ 5=si b.1/\τ 6=sb c)/\J1 R101 R102 d a b c=some r;unfold Au at h;exact walk
end
def G8 (R102:AO->Int->Int->ABh ((List AR)×AO)) (b:AO) (d:ABi) (c:Int):ABh ((List AR)×AO):=
if Ap (b.held.length+1) 16=true then
(Bc b.t 2).bind λe=>
(R102 (AO.mk e.2 b.Be b.left b.HB b.tx b.atomic b.loop (b.held++[d])) c (Aq (1+e.1))).bind λa=>
if 0≤(Aq ((a.2.held.length:Int)-1))/\((Aq ((a.2.held.length:Int)-1)).toNat)≤a.2.held.length then
some (a.1,(AO.mk a.2.t a.2.Be a.2.left a.2.HB a.2.tx a.2.atomic a.2.loop (a.2.held.take ((Aq ((a.2.held.length:Int)-1)).toNat))))
else none
else none
theorem P5 {R102:AO->Int->Int->ABh ((List AR)×AO)} (H102:∀{x0 x1 x2 r},R102 x0 x1 x2=some r->BM Tryz.prog 64 [bA 8 (CR x0),si x1,si x2] (vO 11 A6 r.1) [bA 8 (CR r.2),.dead,.dead]) {b:AO} {d:ABi} {c:Int} {r:(List AR)×AO} (h:G8 R102 b d c=some r):BM Tryz.prog 158 [bA 8 (CR b),BZ d,si c] (vO 11 A6 r.1) [bA 8 (CR r.2),.dead,.dead]:=by refine kL mix Tryz.func158 (hn [(0,[8,9,10,11,12,16,17,18,20,21,22,23,28,29,30,31,32,33,34,35,39,40]),(7,[41])] (E:=[(3,(.bE [(0,0,12,27)] [i0 27 .fl,i1 28 0 (.cp (.t 0)),i1 29 0 (.JW (.t 28)),ML 30 0 7 29,bL 31 0 30,i1 32 0 (.cp (.t 0)),i1 33 0 (.JW (.t 32)),ML 34 0 7 33,bL 35 0 34,iZ 36 35,iP 37 .sub 36 1,i0 38 (.vV 1 false (.t 31) none (some (.t 37)) none),i1 39 0 (.JW (.t 0)),ML 40 0 7 39,iS 1 40 38]))])) ?_;have a1:= @Hh;have a2:= @H102;unfold G8 at h;exact walk
def Ey:Nat->(AO->Int->Int->ABh ((List AR)×AO))×(AO->Int->ABh (AR×AO))×(AO->ABi->Int->ABh ((List AR)×AO))
|0=>((λ_ _ _=>none),(λ_ _=>none),(λ_ _ _=>none))
|n+1=>(CT ((Ey n).2.1),Au ((Ey n).2.2) ((Ey n).1),G8 ((Ey n).1))
def Dl (n:Nat):AO->Int->Int->ABh ((List AR)×AO):=(Ey n).1
def FF (n:Nat):AO->Int->ABh (AR×AO):=(Ey n).2.1
def JU (n:Nat):AO->ABi->Int->ABh ((List AR)×AO):=(Ey n).2.2
theorem Oy (n:Nat):(∀{x0 x1 x2 r},(Dl n) x0 x1 x2=some r->BM Tryz.prog 64 [bA 8 (CR x0),si x1,si x2] (.own false 11 (r.1.map A6)) [bA 8 (CR r.2),.dead,.dead])/\(∀{x0 x1 r},(FF n) x0 x1=some r->BM Tryz.prog 115 [bA 8 (CR x0),si x1] (.agg [si r.1.Op,si r.1.E8,BZ r.1.Name,BZ r.1.Arg,.sl false 4 (r.1.Index.map BC),si r.1.Expr.Op,si r.1.Expr.N,BZ r.1.Expr.Name,.sl false 4 (r.1.Expr.L.map BC),.sl false 11 (r.1.Body.map A6),.sl false 11 (r.1.Else.map A6)]) [bA 8 (CR r.2),.dead])/\(∀{x0 x1 x2 r},(JU n) x0 x1 x2=some r->BM Tryz.prog 158 [bA 8 (CR x0),BZ x1,si x2] (.own false 11 (r.1.map A6)) [bA 8 (CR r.2),.dead,.dead]):=by
  induction n with
  |zero=>exact⟨λh=>Dm h,λh=>Dm h,λh=>Dm h⟩
  |succ n ih=>exact⟨λh=>P9 ih.2.1 h,λh=>Q5 ih.2.2 ih.1 h,λh=>P5 ih.1 h⟩
theorem Oz {n:Nat}:∀{x0 x1 x2 r},(Dl n) x0 x1 x2=some r->BM Tryz.prog 64 [bA 8 (CR x0),si x1,si x2] (.own false 11 (r.1.map A6)) [bA 8 (CR r.2),.dead,.dead]:=(Oy n).1
def f88c:X1:=(.seq (.ic (Rc 0 [.b 2 [16,29,43,47] (.bx 6 (.t 0)),.B 4 false]))
(.seq (.ic (Rc 0 [.b 5 [13,23,36,42,46,51,55] (.mv (.c (.own false 1 [])))]))
(.seq (.ic (Rc 13 [.y 5 (.cp (.t 5)),.C 1,.o (.app 1 16 (.t 13) (.t 14)),.b 5 [13,23,36,42,46,51,55] (.mv (.t 15))]))
(cZ (.ic (Ra 16 [.f 1 2,.Z 17,.Y 0]
(Bl 0 (Ra 20 [.O .lss 19 18]
(Sq (cX 20 0)
(Sq (Bk 1 (Ra 21 [.I 2 17 19,.A 2 21,.b 7 [24] (.bx 2 (.c (.agg [BZ ⟨#[]⟩,sb false]))),.S 2 7 22]
(Rc 23 [.y 5 (.cp (.t 5)),.f 0 7,.o (.NH 1 [[BZ ⟨#[]⟩]] [(0,.t 25)]),.o (.app 1 16 (.t 23) (.t 26)),.b 5 [13,23,36,42,46,51,55] (.mv (.t 27))])))
(Rc 28 [.P .add 19 1,.w 19,.C 28])))))))
(cZ (.ic (Ra 29 [.f 2 2,.Z 30,.Y 0]
(Bl 2 (Ra 33 [.O .lss 32 31]
(Sq (cX 33 2)
(Sq (Bk 3 (Ra 34 [.I 2 30 32,.A 2 34,.b 9 [37] (.bx 2 (.c (.agg [BZ ⟨#[]⟩,si 0]))),.S 2 9 35]
(Rc 36 [.y 5 (.cp (.t 5)),.f 0 9,.o (.NH 1 [[BZ ⟨#[]⟩]] [(0,.t 38)]),.o (.app 1 16 (.t 36) (.t 39)),.b 5 [13,23,36,42,46,51,55] (.mv (.t 40))])))
(Rc 41 [.P .add 32 1,.w 32,.C 41])))))))
(.seq (.ic (Rc 42 [.y 5 (.cp (.t 5)),.f 3 2,.o (.app 1 16 (.t 42) (.t 44)),.b 5 [13,23,36,42,46,51,55] (.mv (.t 45))]))
(.seq (.ic (Rc 46 [.y 5 (.cp (.t 5)),.f 4 2,.o (.app 1 16 (.t 46) (.t 48)),.b 5 [13,23,36,42,46,51,55] (.mv (.t 49))]))
(.seq (.YH [.mkm ⟨50,[],[]⟩,.x (.o ⟨some ⟨10,[],[]⟩,.mv (.t 50),none⟩)])
(cZ (.seq (.ic (Rc 51 [.y 5 (.cp (.t 5)),.Z 51,.Y 0]))
(.block 4 (.loop (.seq (.ic (Rc 54 [.O .lss 53 52]))
(.seq (.ic (cX 54 4))
(.seq (.block 5 (.seq (.ic (Rc 55 [.J 5 1 51 53,.L 55,.M 12 56]))
(.seq (cZ (.YH [.x (.o ⟨some ⟨57,[],[]⟩,.cp (.t 12),none⟩),.x (.o ⟨some ⟨58,[],[]⟩,.call 132 [.t 57] 0,none⟩),.x (.o ⟨some ⟨59,[],[]⟩,.un .not (.t 58),none⟩),.x (.o ⟨some ⟨60,[],[]⟩,.cp (.t 59),none⟩),.x (.o ⟨some ⟨61,[],[]⟩,.cp (.t 10),some (60,false)⟩),.x (.o ⟨some ⟨62,[],[]⟩,.cp (.t 12),some (60,false)⟩),.lkp (some (60,false)) ⟨63,[],[]⟩ (.t 61) (.t 62),.x (.o ⟨some ⟨64,[],[]⟩,.pick (.t 60) (.c (sb true)) (.t 63),none⟩)])
(.ic (Ci 64 (Rb 0 [.B 4 false]))))
(.YH [.x (.o ⟨some ⟨65,[],[]⟩,.cp (.t 10),none⟩),.x (.o ⟨some ⟨66,[],[]⟩,.cp (.t 12),none⟩),.mup (.t 65) (.t 66) (.c (sb true))]))))
(.ic (Rc 67 [.P .add 53 1,.w 53,.C 67]))))))))
(.ic (Rb 0 [.B 4 true])))))))))))
def f88g:Gi:=⟨[(13,[5]),(16,[2]),(23,[5]),(24,[7]),(29,[2]),(36,[5]),(37,[9]),(42,[5]),(43,[2]),(46,[5]),(47,[2]),(51,[5]),(55,[5])]⟩
def f88r:List RV:=[.tmp 4]
def f88:FIM:=⟨f88c,f88g,f88r⟩
theorem chk88:nG Tryz.prog Tryz.f88 f88=true:=by kernel_rfl
namespace BE
def J4 (seen:List ABi):ABh Bool:=
some true
def J3 (L3:Int->(List ABi)->ABh Bool) (seen:List ABi) (TQ:Int) (mN:ABi) (t64v:Bool):ABh Bool:=
if t64v then
some false
else
if(seen.any λζ=>ζ==mN)=false then
L3 (Aq (TQ+1)) (seen++[mN])
else none
def L3 (JN:List ABi) (wv:AD) (L3:Int->(List ABi)->ABh Bool) (TQ:Int) (seen:List ABi):ABh Bool:=
if decide (TQ<(((JN++wv.AH)++wv.AA).length:Int))then
(gt ((JN++wv.AH)++wv.AA) TQ).bind λmN=>
(Cs mN).bind λv=>
if !v then
J3 L3 seen TQ mN true
else
J3 L3 seen TQ mN (seen.any λζ=>ζ==mN)
else
J4 seen
def GL (JN:List ABi) (wv:AD):Nat->Int->(List ABi)->ABh Bool
|0,_,_=>none
|n+1,TQ,seen=>L3 JN wv (GL JN wv n) TQ seen
def J2 (wv:AD) (JN:List ABi):ABh Bool:=
if Ap (JN.length+wv.AH.length) 16=true then
if Ap ((JN++wv.AH).length+wv.AA.length) 16=true then
GL JN wv Bg 0 []
else none
else none
def L2 (wv:AD) (L2:(List ABi)->Int->ABh Bool) (Re:List ABi) (aS:Int):ABh Bool:=
if decide (aS<(wv.Af.length:Int))then
(gt wv.Af aS).bind λx_1=>
if Ap (Re.length+1) 16=true then
L2 (Re++[x_1.Name]) (Aq (aS+1))
else none
else
J2 wv Re
def DI (wv:AD):Nat->(List ABi)->Int->ABh Bool
|0,_,_=>none
|n+1,Re,aS=>L2 wv (DI wv n) Re aS
def J1 (wv:AD) (cC:List ABi):ABh Bool:=
DI wv Bg cC 0
def L1 (wv:AD) (L1:(List ABi)->Int->ABh Bool) (all:List ABi) (aR:Int):ABh Bool:=
if decide (aR<(wv.AG.length:Int))then
(gt wv.AG aR).bind λx=>
if Ap (all.length+1) 16=true then
L1 (all++[x.Name]) (Aq (aR+1))
else none
else
J1 wv all
def AZ (wv:AD):Nat->(List ABi)->Int->ABh Bool
|0,_,_=>none
|n+1,all,aR=>L1 wv (AZ wv n) all aR
end BE
section
open BE
def BE (wv:AD) (variables:List ABi):ABh Bool:=
if Ap (variables.length) 16=true then
AZ wv Bg variables 0
else none
theorem OC {wv:AD} {variables:List ABi} {r:Bool} (h:BE wv variables=some r):Says Tryz.prog 88 [.agg (Az wv),vS 1 eS variables] (sb r):=by
 refine fG mix Tryz.func88 chk88 (AAT (by kernel_rfl)) rfl ?_;simp only[f88,f88c,f88g,f88r];obtain⟨_,h⟩:=cS h
 try simp +decide only[go_sem, *]
 refine dA (λτ ν=>∃cC:List ABi,(τ 2=bA 6 (Az wv)/\τ 5=vO 1 eS cC)/\J1 wv cC=some r) λM1 hM1=>⟨?_,?_⟩
 . try simp +decide only[go_sem, *]
   refine UQ (λn τ=>∃all:List ABi,∃aR:Int,(τ 2=bA 6 (Az wv)/\τ 5=vO 1 eS all/\τ 17=vS 2 Hg wv.AG/\τ 18=si (wv.AG.length:Int)/\τ 19=si aR)/\AZ wv n all aR=some r) ⟨_,_,?_,h⟩ λn1 τ1 N1=> ?_
   . simp +decide only[go_sem, *]
   rintro⟨all,aR,s1,h⟩ hN1;cases n1 with
   |zero=>exact Dm h
   |succ n1=>
    rw[AZ]at h;generalize hL1:AZ wv n1=L1 at h
    try simp +decide only[go_sem, *]
    refine cI h (λ_ h=> ?_) λ_ h=> ?_
    . obtain⟨x,_,h⟩:=gB h;obtain⟨_,h⟩:=cS h
      try simp +decide only[go_sem, *]
      refine hN1 n1 (ABP _) _ ⟨_,_,?_,hL1.symm▸h⟩;simp +decide only[go_sem, *]
    try simp +decide only[go_sem, *]
    refine hM1 _ _ ⟨_,?_,h⟩;simp +decide only[go_sem, *]
 rintro τ1 ν1 ⟨cC,s1,h⟩
 try simp +decide only[go_sem, *]
 refine dA (λτ ν=>∃JN:List ABi,(τ 2=bA 6 (Az wv)/\τ 5=vO 1 eS JN)/\J2 wv JN=some r) λM2 zS=>⟨?_,?_⟩
 . try simp +decide only[go_sem, *]
   refine UQ (λn τ=>∃Re:List ABi,∃aS:Int,(τ 2=bA 6 (Az wv)/\τ 5=vO 1 eS Re/\τ 30=vS 2 Hf wv.Af/\τ 31=si (wv.Af.length:Int)/\τ 32=si aS)/\DI wv n Re aS=some r) ⟨_,_,?_,h⟩ λn2 τ2 N2=> ?_
   . simp +decide only[go_sem, *]
   rintro⟨Re,aS,s2,h⟩ hN2;cases n2 with
   |zero=>exact Dm h
   |succ n2=>
    rw[DI]at h;generalize gG:DI wv n2=L2 at h
    try simp +decide only[go_sem, *]
    refine cI h (λ_ h=> ?_) λ_ h=> ?_
    . obtain⟨x_1,_,h⟩:=gB h;obtain⟨_,h⟩:=cS h
      try simp +decide only[go_sem, *]
      refine hN2 n2 (ABP _) _ ⟨_,_,?_,gG.symm▸h⟩;simp +decide only[go_sem, *]
    try simp +decide only[go_sem, *]
    refine zS _ _ ⟨_,?_,h⟩;simp +decide only[go_sem, *]
 rintro τ2 ν2 ⟨JN,s2,h⟩;obtain⟨_,h⟩:=cS h;obtain⟨_,h⟩:=cS h
 try simp +decide only[go_sem, *]
 intro b1 hb1
 try simp +decide only[go_sem, *]
 refine dA (λτ ν=>∃seen:List ABi,(ν b1=some (.mp (seen.map tv)))/\J4 seen=some r) λM4 hM4=>⟨?_,?_⟩
 . try simp +decide only[go_sem, *]
   refine loopMH (λn τ ν=>∃TQ:Int,∃seen:List ABi,(τ 5= .own false 1 (((JN++wv.AH)++wv.AA).map eS)/\τ 10= .sc (.map (some b1))/\τ 51= .al 5 []/\τ 52=si (((JN++wv.AH)++wv.AA).length:Int)/\τ 53=si TQ/\ν b1=some (.mp (seen.map tv)))/\GL JN wv n TQ seen=some r) ⟨_,_,?_,h⟩ λn3 τ3 ν3 N3=> ?_
   . simp +decide only[go_sem, *]
   rintro⟨TQ,seen,s3,h⟩ hN3;cases n3 with
   |zero=>exact Dm h
   |succ n3=>
    rw[GL]at h;generalize hL3:GL JN wv n3=L3 at h
    try simp +decide only[go_sem, *]
    refine cI h (λ_ h=> ?_) λ_ h=> ?_
    . obtain⟨mN,_,h⟩:=gB h
      try simp +decide only[go_sem, *]
      refine dA (λτ ν=>∃t64v:Bool,(τ 5= .own false 1 (((JN++wv.AH)++wv.AA).map eS)/\τ 10= .sc (.map (some b1))/\τ 12=BZ mN/\τ 51= .al 5 []/\τ 52=si (((JN++wv.AH)++wv.AA).length:Int)/\τ 53=si TQ/\τ 64=sb t64v/\ν b1=some (.mp (seen.map tv)))/\J3 L3 seen TQ mN t64v=some r) λM3 hM3=>⟨?_,?_⟩
      . obtain⟨v,g9,h⟩:=bS h
        try simp +decide only[go_sem, *]
        refine⟨_,VP g9,?_⟩
        try simp +decide only[go_sem, *]
        refine gI h (λ_ h=> ?_) λ_ h=> ?_
        . try simp +decide only[go_sem, *]
          refine hM3 _ _ ⟨_,?_,h⟩;simp +decide only[go_sem, *]
        try simp +decide only[go_sem, *]
        refine hM3 _ _ ⟨_,?_,h⟩;simp +decide only[go_sem, *]
      rintro τ3 ν3 ⟨t64v,s3,h⟩
      try simp +decide only[go_sem, *]
      refine cI h (λ_ h=> ?_) λ_ h=> ?_
      . obtain rfl:=AAJ h;simp +decide only[go_sem, *]
      obtain⟨_,h⟩:=cS h
      try simp +decide only[go_sem, *]
      refine hN3 n3 (ABP _) _ _ ⟨_,_,?_,hL3.symm▸h⟩;simp +decide only[go_sem, *]
    try simp +decide only[go_sem, *]
    refine hM4 _ _ ⟨_,?_,h⟩;simp +decide only[go_sem, *]
 rintro τ4 ν4 ⟨seen,s4,h⟩;obtain rfl:=AAJ h;simp +decide only[go_sem, *]
end
namespace Bz
def J8:ABh Bool:=
some true
def J7 (L3:Int->ABh Bool) (d:Int) (p:Bool):ABh Bool:=
if p then
some false
else
L3 (Aq (d+1))
def J6 (L3:Int->ABh Bool) (d:Int) (a:AP) (f:AF) (o:Bool):ABh Bool:=
if o then
some false
else
if f.Status==3 then
(gt a.World.Af f.DC).bind λz=>
(gt a.Init.Sync.AG z.Mutex).bind λaa=>
J7 L3 d (aa.CS==d)
else
if f.Status==4 then
(gt a.World.Af f.DC).bind λab=>
(gt a.Init.Sync.AG ab.Mutex).bind λac=>
J7 L3 d (ac.CS==d)
else
J7 L3 d false
def L3 (a:AP) (L3:Int->ABh Bool) (d:Int):ABh Bool:=
if decide (d<(a.Init.Sync.AA.length:Int))then
(gt a.Init.Sync.AA d).bind λf=>
if f.Atomic then
(Fv a d).bind λv=>
J6 L3 d a f (!v)
else
J6 L3 d a f false
else
J8
def GL (a:AP):Nat->Int->ABh Bool
|0,_=>none
|n+1,d=>L3 a (GL a n) d
def J5 (a:AP) (j:Bool):ABh Bool:=
if j then
some false
else
GL a Bg 0
def J4 (a:AP):ABh Bool:=
if a.Init.Sync.Tx != (-1)then
(Fv a a.Init.Sync.Tx).bind λu=>
J5 a (!u)
else
J5 a false
def J3 (L1:Int->ABh Bool) (b:Int):ABh Bool:=
L1 (Aq (b+1))
def J2 (L2:Int->ABh Bool) (e:Int) (q:Bool):ABh Bool:=
if q then
some false
else
L2 (Aq (e+1))
def L2 (L1:Int->ABh Bool) (b:Int) (a:AP) (c:AX) (L2:Int->ABh Bool) (e:Int):ABh Bool:=
if decide (e<(c.Aj.length:Int))then
(gt c.Aj e).bind λl=>
(Fv a l).bind λt=>
if !t then
J2 L2 e true
else
if decide (e>0)then
(gt c.Aj (Aq (e-1))).bind λy=>
J2 L2 e (decide (l≤y))
else
J2 L2 e false
else
J3 L1 b
def DI (L1:Int->ABh Bool) (b:Int) (a:AP) (c:AX):Nat->Int->ABh Bool
|0,_=>none
|n+1,e=>L2 L1 b a c (DI L1 b a c n) e
def J1 (L1:Int->ABh Bool) (b:Int) (a:AP) (c:AX) (i:Bool):ABh Bool:=
if i then
some false
else
DI L1 b a c Bg 0
def L1 (a:AP) (L1:Int->ABh Bool) (b:Int):ABh Bool:=
if decide (b<(a.Init.Sync.AG.length:Int))then
(gt a.Init.Sync.AG b).bind λc=>
if c.CS != (-1)then
(Fv a c.CS).bind λs=>
if !s then
J1 L1 b a c true
else
if decide ((c.Aj.length:Int)>0)then
(gt a.World.AG b).bind λw=>
if !w.RW then
J1 L1 b a c true
else
J1 L1 b a c (c.CS != (-1))
else
J1 L1 b a c false
else
if decide ((c.Aj.length:Int)>0)then
(gt a.World.AG b).bind λx=>
if !x.RW then
J1 L1 b a c true
else
J1 L1 b a c (c.CS != (-1))
else
J1 L1 b a c false
else
J4 a
def AZ (a:AP):Nat->Int->ABh Bool
|0,_=>none
|n+1,b=>L1 a (AZ a n) b
end Bz
section
open Bz
def Bz (a:AP):ABh Bool:=
AZ a Bg 0
theorem T3 {a:AP} {r:Bool} (h:Bz a=some r):Says Tryz.prog 51 [.agg (BW a)] (sb r):=by refine kO mix Tryz.func51 (hn [(1,[9,10,40,41,129,130]),(3,[13,19,88,93,99,105,127]),(5,[24,29,35,49,56,63,74,79]),(8,[110,118,122,132])] [(9,1),(18,5)]) ?_;have a1:= @XW;have l3:=λn1 n2 n3 n4:Nat=>A7 λn τ=>∃(d:Int),(τ 1=bA 15 (BW a)/\τ 3=bA 4 (FK a.Init.Sync)/\τ 7=si d)/\GL a n d=some r;have l1:=λn1 n2 n3 n4:Nat=>A7 λn τ=>∃(b:Int),(τ 1=bA 15 (BW a)/\τ 3=bA 4 (FK a.Init.Sync)/\τ 4=si b)/\AZ a n b=some r;have l2:=λn1 n2 n3 n4:Nat=>A7 λn τ=>∃(b:Int) (c:AX) (e:Int),(τ 1=bA 15 (BW a)/\τ 3=bA 4 (FK a.Init.Sync)/\τ 4=si b/\τ 5=bA 2 (Dk c)/\τ 6=si e)/\DI (AZ a n1) b a c n e=some r;have c5:=λn1 n2 n3 n4:Nat=>Bu 5 λτ=>∃(j:Bool),(τ 1=bA 15 (BW a)/\τ 3=bA 4 (FK a.Init.Sync)/\τ 97=sb j)/\J5 a j=some r;have c1:=λn1 n2 n3 n4:Nat=>Bu 1 λτ=>∃(b:Int) (c:AX) (i:Bool),(τ 1=bA 15 (BW a)/\τ 3=bA 4 (FK a.Init.Sync)/\τ 4=si b/\τ 5=bA 2 (Dk c)/\τ 54=sb i)/\J1 (AZ a n1) b a c i=some r;unfold Bz at h;exact walk
end
namespace Cf
def J2 (q:Bool):ABh Bool:=
some q
def J3 (s:Bool):ABh Bool:=
some s
def J4 (t:Bool):ABh Bool:=
some t
def J7 (u:Bool):ABh Bool:=
some u
def J8 (v:Bool):ABh Bool:=
some v
def J6 (a b:Int) (c:AQ) (d:Int) (e:AD) (j:Bool):ABh Bool:=
if j then
(gt e.Af b).bind λap=>
(gt c.AG ap.Mutex).bind λaq=>
some (aq.CS==d)
else
if a==20 then
if b != d then
(gt c.AA b).bind λac=>
J7 (ac.Status==0)
else
J7 false
else
if a==21 then
if b != d then
(gt c.AA b).bind λad=>
J8 (ad.Status==5)
else
J8 false
else
if a==22 then
(gt c.B4 b).bind λae=>
some (!ae)
else
if a==23 then
(gt c.B4 b).bind λaf=>
some af
else
some true
def J5 (a b:Int) (c:AQ) (d:Int) (e:AD) (f:AF) (i:Bool):ABh Bool:=
if i then
(gt c.AG b).bind λal=>
some (al.CS==d)
else
if a==9 then
(gt c.AG b).bind λao=>
(GQ ao.Aj d).bind λaa=>
some aa
else
if a==12 then
some (c.Tx==(-1))
else
if a==13 then
some (c.Tx==d)
else
if a==14 then
some (!f.Atomic)
else
if a==15 then
some f.Atomic
else
if a==16 then
J6 a b c d e (a==16)
else
if a==18 then
J6 a b c d e (a==18)
else
J6 a b c d e (a==19)
def J1 (a b:Int) (c:AQ) (d:Int) (e:AD) (l:Bool):ABh Bool:=
if l then
some false
else
(gt c.AA d).bind λf=>
if a==1 then
some (f.Status==1)
else
if a==17 then
if f.Status==4 then
if f.DC==b then
(gt e.Af b).bind λab=>
(gt c.AG ab.Mutex).bind λai=>
J2 (ai.CS==(-1))
else
J2 false
else
J2 false
else
if f.Status != 2 then
some false
else
if a==6 then
(gt c.AG b).bind λaj=>
some (aj.CS==(-1))
else
if a==10 then
(gt c.AG b).bind λo=>
if o.CS==(-1)then
J3 ((o.Aj.length:Int)==0)
else
J3 false
else
if a==8 then
(gt c.AG b).bind λp=>
if p.CS==(-1)then
(GQ p.Aj d).bind λz=>
J4 (!z)
else
J4 false
else
if a==7 then
J5 a b c d e f (a==7)
else
J5 a b c d e f (a==11)
end Cf
section
open Cf
def Cf (e:AD) (c:AQ) (d a b:Int):ABh Bool:=
(Ee e c).bind λw=>
if !w then
J1 a b c d e true
else
(HA d (e.AA.length:Int)).bind λx=>
if !x then
J1 a b c d e true
else
(Hu e a b).bind λy=>
J1 a b c d e (!y)
theorem Mt {e:AD} {c:AQ} {d a b:Int} {r:Bool} (h:Cf e c d a b=some r):Says Tryz.prog 100 [.agg (Az e),.agg (FK c),si d,si a,si b] (sb r):=by refine kO mix Tryz.func100 (hn [(5,[18,56,166]),(6,[31,54,73,82,90,101,109,122,132,142,147,164,183,197,207,215]),(11,[39,44,48,67,153,158])] [(2,1),(22,5),(35,6)]) ?_;have a1:= @NU;have a2:= @MR;have a3:= @UX;have a4:= @XO;have c6:=λn1 n2 n3 n4:Nat=>Bu 6 λτ=>∃(j:Bool),(τ 2=si d/\τ 4=si b/\τ 5=bA 6 (Az e)/\τ 6=bA 4 (FK c)/\τ 70=si a/\τ 160=sb j)/\J6 a b c d e j=some r;have c5:=λn1 n2 n3 n4:Nat=>Bu 5 λτ=>∃(f:AF) (i:Bool),(τ 2=si d/\τ 4=si b/\τ 5=bA 6 (Az e)/\τ 6=bA 4 (FK c)/\τ 11=bA 3 (Ax f)/\τ 70=si a/\τ 119=sb i)/\J5 a b c d e f i=some r;have c1:=λn1 n2 n3 n4:Nat=>Bu 1 λτ=>∃(l:Bool),(τ 2=si d/\τ 3=si a/\τ 4=si b/\τ 5=bA 6 (Az e)/\τ 6=bA 4 (FK c)/\τ 30=sb l)/\J1 a b c d e l=some r;unfold Cf at h;exact walk
end
end Go.Abs
