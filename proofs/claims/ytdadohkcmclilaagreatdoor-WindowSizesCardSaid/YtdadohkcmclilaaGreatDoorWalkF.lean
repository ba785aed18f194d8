/- Typed programs of Go functions, and that the functions do what these say. -/
import Derived.Test.YtdadohkcmclilaaGreatDoorWalkD
import Derived.Shelf.Slices.SearchI
set_option linter.unusedSimpArgs false
set_option linter.unusedVariables false
namespace Go.Abs
open Go.Proofs
set_option maxRecDepth 1000000
set_option maxHeartbeats 4000000
namespace DM
def J2 (l:AM) (j:List AP):ABp ((List AP)×AM):=
some (j,l)
def J1 (L1:AM->(List AP)->Int->ABp ((List AP)×AM)) (R100:AM->Int->ABp (AP×AM)) (a b:Int) (c:List AP) (d:AM) (o:Bool):ABp ((List AP)×AM):=
if o then
(R100 d a).bind λi=>
if Al (c.length+1) 176=true then
L1 i.2 (c++[i.1]) (Ap (b+1))
else none
else
J2 d c
def L1 (R100:AM->Int->ABp (AP×AM)) (a e:Int) (L1:AM->(List AP)->Int->ABp ((List AP)×AM)) (d:AM) (c:List AP) (b:Int):ABp ((List AP)×AM):=
if decide (b<e)then
if b==0 then
J1 L1 R100 a b c d true
else
J1 L1 R100 a b c d (decide (d.left>0))
else
J1 L1 R100 a b c d false
def Aa (R100:AM->Int->ABp (AP×AM)) (a e:Int):Nat->AM->(List AP)->Int->ABp ((List AP)×AM)
|0,_,_,_=>none
|n+1,d,c,b=>L1 R100 a e (Aa R100 a e n) d c b
end DM
section
open DM
def DM (R100:AM->Int->ABp (AP×AM)) (f:AM) (a e:Int):ABp ((List AP)×AM):=
Aa R100 a e BT f [] 0
theorem Pt {R100:AM->Int->ABp (AP×AM)} (H100:∀{x0 x1 r},R100 x0 x1=some r->BD Tryz.prog 115 [bA 8 (Bw x0),si x1] (.agg [si r.1.Op,si r.1.Ep,BM r.1.Name,BM r.1.Arg,vS 4 A0 r.1.Index,si r.1.Expr.Op,si r.1.Expr.N,BM r.1.Expr.Name,vS 4 A0 r.1.Expr.L,vS 11 Av r.1.Body,vS 11 Av r.1.Else]) [bA 8 (Bw r.2),.dead]) {f:AM} {a e:Int} {r:(List AP)×AM} (h:DM R100 f a e=some r):BD Tryz.prog 64 [bA 8 (Bw f),si a,si e] (vO 11 Av r.1) [bA 8 (Bw r.2),.dead,.dead]:=by
 refine kL mix Tryz.func64 (hn [(0,[16,17,18,26]),(7,[25,31])]) ?_
 have a1:= @H100
 have l1:=λn1 n2 n3 n4:Nat=>Ax λn τ=>∃(d:AM) (c:List AP) (b:Int),(τ 0=bA 8 (Bw d)/\τ 1=si a/\τ 2=si e/\τ 7=vO 11 Av c/\τ 8=si b)/\Aa R100 a e n d c b=some r
 unfold DM at h
 exact walk
end
namespace BW
def J3 (bi:AM) (bj:AP):ABp (AP×AM):=
some (bj,bi)
def J12 (ad:AM) (bl:Bool):ABp (AP×AM):=
if bl then
some ((AP.mk 15 0 (⟨#[97]⟩:ABq) (⟨#[102]⟩:ABq) [] (A4.mk 0 0 (⟨#[]⟩:ABq) []) [] []),ad)
else
(CT BT ad 1).bind λbb=>
(Fh (⟨#[120]⟩:ABq) bb.1).bind λca=>
some (ca,bb.2)
def jJ (e:AM) (b:Int×EH) (z:Bool):ABp (AP×AM):=
if z then
(CT BT (AM.mk e.t e.BV e.left true e.tx e.atomic e.loop e.held) 1).bind λaz=>
some ((AP.mk 14 0 (⟨#[102]⟩:ABq) (⟨#[]⟩:ABq) [] az.1 [] []),az.2)
else
if b.1==17 then
if !e.tx then
(BU e.t 2).bind λba=>
J12 (AM.mk ba.2 e.BV e.left e.HY e.tx e.atomic e.loop e.held) (ba.1==1)
else
J12 e false
else
J12 e false
def Th (b:Int×EH) (e:AM) (y:Bool):ABp (AP×AM):=
if y then
(BU e.t 2).bind λay=>
some ((AP.mk 4 0 (⟨#[109]⟩:ABq) (⟨#[]⟩:ABq) [] (A4.mk 0 0 (⟨#[]⟩:ABq) []) [(AP.mk (Ap (10+ay.1)) 0 (⟨#[99]⟩:ABq) (⟨#[]⟩:ABq) [] (A4.mk 0 0 (⟨#[]⟩:ABq) []) [] [])] []),(AM.mk ay.2 e.BV e.left e.HY e.tx e.atomic e.loop e.held))
else
if b.1==16 then
if !e.tx then
if !e.loop then
jJ e b (!e.HY)
else
jJ e b false
else
jJ e b false
else
jJ e b false
def J9 (c:Bool) (b:Int×EH) (q:AM) (x:Bool):ABp (AP×AM):=
if x then
(Ja (⟨#[120]⟩:ABq)).bind λbx=>
(Fh (⟨#[97]⟩:ABq) bx).bind λbz=>
some ((AP.mk 4 0 (⟨#[109]⟩:ABq) (⟨#[]⟩:ABq) [] (A4.mk 0 0 (⟨#[]⟩:ABq) []) [(AP.mk 9 0 (⟨#[99]⟩:ABq) (⟨#[]⟩:ABq) [] (A4.mk 0 0 (⟨#[]⟩:ABq) []) [] []),bz] []),q)
else
if b.1==15 then
if c then
(Dw q (⟨#[109]⟩:ABq)).bind λax=>
Th b ax.2 (!ax.1)
else
Th b q false
else
Th b q false
def J8 (R102:AM->Int->Int->ABp ((List AP)×AM)) (d:Int) (f:AM) (c:Bool) (b:Int×EH) (w:Bool):ABp (AP×AM):=
if w then
(R102 (AM.mk f.t f.BV f.left f.HY f.tx true f.loop f.held) (Ap (d-1)) 2).bind λp=>
some ((AP.mk 8 0 (⟨#[]⟩:ABq) (⟨#[]⟩:ABq) [] (A4.mk 0 0 (⟨#[]⟩:ABq) []) p.1 []),(AM.mk p.2.t p.2.BV p.2.left p.2.HY p.2.tx false p.2.loop p.2.held))
else
if b.1==14 then
if c then
if !f.atomic then
(Dw f (⟨#[109]⟩:ABq)).bind λav=>
J9 c b av.2 (!av.1)
else
J9 c b f false
else
J9 c b f false
else
J9 c b f false
def J7 (R102:AM->Int->Int->ABp ((List AP)×AM)) (d:Int) (f:AM) (c:Bool) (b:Int×EH) (v:Bool):ABp (AP×AM):=
if v then
(BU f.t 2).bind λau=>
(R102 (AM.mk au.2 f.BV f.left f.HY true f.atomic f.loop f.held) 0 (Ap (1+au.1))).bind λo=>
some ((AP.mk 7 0 (⟨#[]⟩:ABq) (⟨#[]⟩:ABq) [] (A4.mk 0 0 (⟨#[]⟩:ABq) []) o.1 []),(AM.mk o.2.t o.2.BV o.2.left o.2.HY false o.2.atomic o.2.loop o.2.held))
else
if b.1==13 then
if c then
J8 R102 d f c b (!f.atomic)
else
J8 R102 d f c b false
else
J8 R102 d f c b false
def J6 (R101:AM->ABq->Int->ABp ((List AP)×AM)) (R102:AM->Int->Int->ABp ((List AP)×AM)) (d:Int) (c:Bool) (b:Int×EH) (f:AM) (u:Bool):ABp (AP×AM):=
if u then
(R101 f (⟨#[114]⟩:ABq) (Ap (d-1))).bind λaq=>
some ((AP.mk (Ap ((Ap (b.1-10))+5)) 0 (⟨#[114]⟩:ABq) (⟨#[]⟩:ABq) [] (A4.mk 0 0 (⟨#[]⟩:ABq) []) aq.1 []),aq.2)
else
if b.1==12 then
J7 R102 d f c b c
else
J7 R102 d f c b false
def J5 (R101:AM->ABq->Int->ABp ((List AP)×AM)) (R102:AM->Int->Int->ABp ((List AP)×AM)) (d:Int) (c:Bool) (b:Int×EH) (j:AM) (t:Bool):ABp (AP×AM):=
if t then
(gt [(⟨#[109]⟩:ABq),(⟨#[110]⟩:ABq)] (Ap (b.1-8))).bind λbf=>
(R101 j bf (Ap (d-1))).bind λal=>
some ((AP.mk 4 0 bf (⟨#[]⟩:ABq) [] (A4.mk 0 0 (⟨#[]⟩:ABq) []) al.1 []),al.2)
else
if b.1==10 then
if c then
(Dw j (⟨#[114]⟩:ABq)).bind λao=>
J6 R101 R102 d c b ao.2 (!ao.1)
else
J6 R101 R102 d c b j false
else
if b.1==11 then
if c then
(Dw j (⟨#[114]⟩:ABq)).bind λap=>
J6 R101 R102 d c b ap.2 (!ap.1)
else
J6 R101 R102 d c b j false
else
J6 R101 R102 d c b j false
def J4 (R101:AM->ABq->Int->ABp ((List AP)×AM)) (R102:AM->Int->Int->ABp ((List AP)×AM)) (d:Int) (a:AM) (c:Bool) (b:Int×EH) (s:Bool):ABp (AP×AM):=
if s then
(Ja (⟨#[98]⟩:ABq)).bind λbo=>
(Kh 2).bind λbp=>
(JB 13 bo bp).bind λbq=>
(R102 (AM.mk b.2 a.BV (Ap (a.left-1)) a.HY a.tx a.atomic true a.held) (Ap (d-1)) 1).bind λl=>
(Ja (⟨#[98]⟩:ABq)).bind λbs=>
(Kh 1).bind λbt=>
(JB 6 bs bt).bind λbu=>
(Fh (⟨#[98]⟩:ABq) bu).bind λbv=>
if Al (l.1.length+1) 176=true then
some ((AP.mk 3 0 (⟨#[]⟩:ABq) (⟨#[]⟩:ABq) [] bq (l.1++[bv]) []),(AM.mk l.2.t l.2.BV l.2.left l.2.HY l.2.tx l.2.atomic a.loop l.2.held))
else none
else
if b.1==8 then
if c then
(gt [(⟨#[109]⟩:ABq),(⟨#[110]⟩:ABq)] (Ap (b.1-8))).bind λce=>
(Dw (AM.mk b.2 a.BV (Ap (a.left-1)) a.HY a.tx a.atomic a.loop a.held) ce).bind λai=>
J5 R101 R102 d c b ai.2 (!ai.1)
else
J5 R101 R102 d c b (AM.mk b.2 a.BV (Ap (a.left-1)) a.HY a.tx a.atomic a.loop a.held) false
else
if b.1==9 then
if c then
(gt [(⟨#[109]⟩:ABq),(⟨#[110]⟩:ABq)] (Ap (b.1-8))).bind λcf=>
(Dw (AM.mk b.2 a.BV (Ap (a.left-1)) a.HY a.tx a.atomic a.loop a.held) cf).bind λaj=>
J5 R101 R102 d c b aj.2 (!aj.1)
else
J5 R101 R102 d c b (AM.mk b.2 a.BV (Ap (a.left-1)) a.HY a.tx a.atomic a.loop a.held) false
else
J5 R101 R102 d c b (AM.mk b.2 a.BV (Ap (a.left-1)) a.HY a.tx a.atomic a.loop a.held) false
def J2 (R101:AM->ABq->Int->ABp ((List AP)×AM)) (R102:AM->Int->Int->ABp ((List AP)×AM)) (d:Int) (a:AM) (c:Bool) (b:Int×EH) (aa:Bool):ABp (AP×AM):=
if aa then
(CT BT (AM.mk b.2 a.BV (Ap (a.left-1)) a.HY a.tx a.atomic a.loop a.held) 1).bind λac=>
(R102 ac.2 (Ap (d-1)) 1).bind λi=>
(BU i.2.t 2).bind λab=>
if ab.1==1 then
(R102 (AM.mk ab.2 i.2.BV i.2.left i.2.HY i.2.tx i.2.atomic i.2.loop i.2.held) (Ap (d-1)) 1).bind λaf=>
J3 af.2 (AP.mk 2 0 (⟨#[]⟩:ABq) (⟨#[]⟩:ABq) [] ac.1 i.1 af.1)
else
J3 (AM.mk ab.2 i.2.BV i.2.left i.2.HY i.2.tx i.2.atomic i.2.loop i.2.held) (AP.mk 2 0 (⟨#[]⟩:ABq) (⟨#[]⟩:ABq) [] ac.1 i.1 [])
else
if b.1==7 then
J4 R101 R102 d a c b (decide (d>0))
else
J4 R101 R102 d a c b false
def J1 (R101:AM->ABq->Int->ABp ((List AP)×AM)) (R102:AM->Int->Int->ABp ((List AP)×AM)) (d:Int) (a:AM) (b:Int×EH) (c:Bool):ABp (AP×AM):=
if decide (b.1<4)then
(gt [(⟨#[120]⟩:ABq),(⟨#[121]⟩:ABq),(⟨#[120]⟩:ABq),(⟨#[118]⟩:ABq)] b.1).bind λcc=>
(CT BT (AM.mk b.2 a.BV (Ap (a.left-1)) a.HY a.tx a.atomic a.loop a.held) 1).bind λae=>
(Fh cc ae.1).bind λbw=>
some (bw,ae.2)
else
if b.1==4 then
(BU b.2 2).bind λaw=>
(gt [(⟨#[97]⟩:ABq),(⟨#[98]⟩:ABq)] aw.1).bind λcd=>
(CT BT (AM.mk aw.2 a.BV (Ap (a.left-1)) a.HY a.tx a.atomic a.loop a.held) 1).bind λbc=>
(Fh cd bc.1).bind λcb=>
some (cb,bc.2)
else
if b.1==5 then
(CT BT (AM.mk b.2 a.BV (Ap (a.left-1)) a.HY a.tx a.atomic a.loop a.held) 0).bind λbd=>
(CT BT bd.2 1).bind λbe=>
some ((AP.mk 1 0 (⟨#[113]⟩:ABq) (⟨#[]⟩:ABq) [bd.1] be.1 [] []),be.2)
else
if b.1==6 then
J2 R101 R102 d a c b (decide (d>0))
else
J2 R101 R102 d a c b false
end BW
section
open BW
def BW (R101:AM->ABq->Int->ABp ((List AP)×AM)) (R102:AM->Int->Int->ABp ((List AP)×AM)) (a:AM) (d:Int):ABp (AP×AM):=
(BU a.t 18).bind λb=>
if decide (d>0)then
if decide ((Ap (a.left-1))>0)then
J1 R101 R102 d a b (!a.tx)
else
J1 R101 R102 d a b false
else
J1 R101 R102 d a b false
theorem Ql {R101:AM->ABq->Int->ABp ((List AP)×AM)} (H101:∀{x0 x1 x2 r},R101 x0 x1 x2=some r->BD Tryz.prog 158 [bA 8 (Bw x0),BM x1,si x2] (vO 11 Av r.1) [bA 8 (Bw r.2),.dead,.dead]) {R102:AM->Int->Int->ABp ((List AP)×AM)} (H102:∀{x0 x1 x2 r},R102 x0 x1 x2=some r->BD Tryz.prog 64 [bA 8 (Bw x0),si x1,si x2] (vO 11 Av r.1) [bA 8 (Bw r.2),.dead,.dead]) {a:AM} {d:Int} {r:AP×AM} (h:BW R101 R102 a d=some r):BD Tryz.prog 115 [bA 8 (Bw a),si d] (.agg [si r.1.Op,si r.1.Ep,BM r.1.Name,BM r.1.Arg,vS 4 A0 r.1.Index,si r.1.Expr.Op,si r.1.Expr.N,BM r.1.Expr.Name,vS 4 A0 r.1.Expr.L,vS 11 Av r.1.Body,vS 11 Av r.1.Else]) [bA 8 (Bw r.2),.dead]:=by
 refine kP mix Tryz.func115 (hn [(0,[13,14,15,18,19,20,21,22,23,28,29,30,35,36,37,48,55,56,57,58,68,71,81,83,88,89,90,91,94,107,108,109,111,112,113,117,128,130,131,144,159,176,183,194,195,196,197,198,199,200,201,206,207,208,217,218,219,223,224,225,226,231,232,233,242,243,244,249,265,269,270,271,272,282,283,284,289,290,291,296,297,298,302,303,304,305,312,313,314,319,320,321,322,327]),(7,[98,99]),(9,[132]),(11,[209]),(12,[234]),(44,[46]),(54,[60]),(145,[148]),(153,[156])] [(3,1),(11,2),(16,4),(22,5),(25,6),(27,7),(32,8),(37,9),(39,10),(41,11)] (E:=[(7,(.Zq [(0,8,9,62)] [⟨some ⟨54,[60],[]⟩,.Mr 1 [[BM ⟨#[]⟩],[BM ⟨#[]⟩]] [(0,.c (BM ⟨#[97]⟩)),(1,.c (BM ⟨#[98]⟩))],none⟩,i1 55 0 (.cp (.t 0)),i1 56 0 (.JT (.t 55)),Lt 57 0 0 56,Zu 58 0 57,i0 59 (.WN 63 [] (.t 58) none [.c (si 2)]),iIr 60 54 1 54 59,iL 61 60,i0 62 .fl,i0 63 (.WN 154 [] (.t 0) none [.c (si 1)]),i0 64 (.call 65 [.t 61,.t 63] 1),iS 11 4 64]))])) ?_
 have a1:= @Hh
 have a2:= @Pr
 have a3:= @Oc
 have a4:= @H102
 have a5:= @Rv
 have a6:= @Og
 have a7:= @Od
 have a8:= @H101
 have a9:= @Ps
 have c11:=λn1 n2 n3 n4:Nat=>Bh 11 λτ=>∃(e:AM) (b:Int×EH) (z:Bool),(τ 0=bA 8 (Bw e)/\τ 4=bA 11 z1/\τ 5=si b.1/\τ 278=sb z)/\jJ e b z=some r
 have c10:=λn1 n2 n3 n4:Nat=>Bh 10 λτ=>∃(b:Int×EH) (e:AM) (y:Bool),(τ 0=bA 8 (Bw e)/\τ 4=bA 11 z1/\τ 5=si b.1/\τ 258=sb y)/\Th b e y=some r
 have c9:=λn1 n2 n3 n4:Nat=>Bh 9 λτ=>∃(c:Bool) (b:Int×EH) (q:AM) (x:Bool),(τ 0=bA 8 (Bw q)/\τ 4=bA 11 z1/\τ 5=si b.1/\τ 6=sb c/\τ 235=sb x)/\J9 c b q x=some r
 have c8:=λn1 n2 n3 n4:Nat=>Bh 8 λτ=>∃(f:AM) (c:Bool) (b:Int×EH) (w:Bool),(τ 0=bA 8 (Bw f)/\τ 1=si d/\τ 4=bA 11 z1/\τ 5=si b.1/\τ 6=sb c/\τ 210=sb w)/\J8 R102 d f c b w=some r
 have c7:=λn1 n2 n3 n4:Nat=>Bh 7 λτ=>∃(f:AM) (c:Bool) (b:Int×EH) (v:Bool),(τ 0=bA 8 (Bw f)/\τ 1=si d/\τ 4=bA 11 z1/\τ 5=si b.1/\τ 6=sb c/\τ 188=sb v)/\J7 R102 d f c b v=some r
 have c6:=λn1 n2 n3 n4:Nat=>Bh 6 λτ=>∃(c:Bool) (b:Int×EH) (f:AM) (u:Bool),(τ 0=bA 8 (Bw f)/\τ 1=si d/\τ 4=bA 11 z1/\τ 5=si b.1/\τ 6=sb c/\τ 165=sb u)/\J6 R101 R102 d c b f u=some r
 have c5:=λn1 n2 n3 n4:Nat=>Bh 5 λτ=>∃(c:Bool) (b:Int×EH) (j:AM) (t:Bool),(τ 0=bA 8 (Bw j)/\τ 1=si d/\τ 4=bA 11 z1/\τ 5=si b.1/\τ 6=sb c/\τ 133=sb t)/\J5 R101 R102 d c b j t=some r
 have c4:=λn1 n2 n3 n4:Nat=>Bh 4 λτ=>∃(c:Bool) (b:Int×EH) (s:Bool),(τ 0=bA 8 [bA 2 (Tt b.2),si a.BV,si (Ap (a.left-1)),sb a.HY,sb a.tx,sb a.atomic,sb a.loop,vO 1 eS a.held]/\τ 1=si d/\τ 4=bA 11 z1/\τ 5=si b.1/\τ 6=sb c/\τ 100=sb s)/\J4 R101 R102 d a c b s=some r
 have c2:=λn1 n2 n3 n4:Nat=>Bh 2 λτ=>∃(c:Bool) (b:Int×EH) (aa:Bool),(τ 0=bA 8 [bA 2 (Tt b.2),si a.BV,si (Ap (a.left-1)),sb a.HY,sb a.tx,sb a.atomic,sb a.loop,vO 1 eS a.held]/\τ 1=si d/\τ 4=bA 11 z1/\τ 5=si b.1/\τ 6=sb c/\τ 74=sb aa)/\J2 R101 R102 d a c b aa=some r
 have c1:=λn1 n2 n3 n4:Nat=>Bh 1 λτ=>∃(b:Int×EH) (c:Bool),(τ 0=bA 8 [bA 2 (Tt b.2),si a.BV,si (Ap (a.left-1)),sb a.HY,sb a.tx,sb a.atomic,sb a.loop,vO 1 eS a.held]/\τ 1=si d/\τ 4=bA 11 z1/\τ 5=si b.1/\τ 6=sb c)/\J1 R101 R102 d a b c=some r
 unfold BW at h
 exact walk
end
def IB (R102:AM->Int->Int->ABp ((List AP)×AM)) (b:AM) (d:ABq) (c:Int):ABp ((List AP)×AM):=
if Al (b.held.length+1) 16=true then
(BU b.t 2).bind λe=>
(R102 (AM.mk e.2 b.BV b.left b.HY b.tx b.atomic b.loop (b.held++[d])) c (Ap (1+e.1))).bind λa=>
if 0≤(Ap ((a.2.held.length:Int)-1))/\((Ap ((a.2.held.length:Int)-1)).toNat)≤a.2.held.length then
some (a.1,(AM.mk a.2.t a.2.BV a.2.left a.2.HY a.2.tx a.2.atomic a.2.loop (a.2.held.take ((Ap ((a.2.held.length:Int)-1)).toNat))))
else none
else none
theorem Pp {R102:AM->Int->Int->ABp ((List AP)×AM)} (H102:∀{x0 x1 x2 r},R102 x0 x1 x2=some r->BD Tryz.prog 64 [bA 8 (Bw x0),si x1,si x2] (vO 11 Av r.1) [bA 8 (Bw r.2),.dead,.dead]) {b:AM} {d:ABq} {c:Int} {r:(List AP)×AM} (h:IB R102 b d c=some r):BD Tryz.prog 158 [bA 8 (Bw b),BM d,si c] (vO 11 Av r.1) [bA 8 (Bw r.2),.dead,.dead]:=by
 refine kL mix Tryz.func158 (hn [(0,[8,9,10,11,12,16,17,18,20,21,22,23,28,29,30,31,32,33,34,35,39,40]),(7,[41])] (E:=[(3,(.Zq [(0,0,12,27)] [i0 27 .fl,i1 28 0 (.cp (.t 0)),i1 29 0 (.JT (.t 28)),Lt 30 0 7 29,Zu 31 0 30,i1 32 0 (.cp (.t 0)),i1 33 0 (.JT (.t 32)),Lt 34 0 7 33,Zu 35 0 34,iZ 36 35,iP 37 .sub 36 1,i0 38 (.sF 1 false (.t 31) none (some (.t 37)) none),i1 39 0 (.JT (.t 0)),Lt 40 0 7 39,iS 1 40 38]))])) ?_
 have a1:= @Hh
 have a2:= @H102
 unfold IB at h
 exact walk
def El:Nat->(AM->Int->Int->ABp ((List AP)×AM))×(AM->Int->ABp (AP×AM))×(AM->ABq->Int->ABp ((List AP)×AM))
|0=>((λ_ _ _=>none),(λ_ _=>none),(λ_ _ _=>none))
|n+1=>(DM ((El n).2.1),BW ((El n).2.2) ((El n).1),IB ((El n).1))
def FP (n:Nat):AM->Int->Int->ABp ((List AP)×AM):=(El n).1
def ID (n:Nat):AM->Int->ABp (AP×AM):=(El n).2.1
def La (n:Nat):AM->ABq->Int->ABp ((List AP)×AM):=(El n).2.2
theorem Oe (n:Nat):(∀{x0 x1 x2 r},(FP n) x0 x1 x2=some r->BD Tryz.prog 64 [bA 8 (Bw x0),si x1,si x2] (.own false 11 (r.1.map Av)) [bA 8 (Bw r.2),.dead,.dead])/\(∀{x0 x1 r},(ID n) x0 x1=some r->BD Tryz.prog 115 [bA 8 (Bw x0),si x1] (.agg [si r.1.Op,si r.1.Ep,BM r.1.Name,BM r.1.Arg,.sl false 4 (r.1.Index.map A0),si r.1.Expr.Op,si r.1.Expr.N,BM r.1.Expr.Name,.sl false 4 (r.1.Expr.L.map A0),.sl false 11 (r.1.Body.map Av),.sl false 11 (r.1.Else.map Av)]) [bA 8 (Bw r.2),.dead])/\(∀{x0 x1 x2 r},(La n) x0 x1 x2=some r->BD Tryz.prog 158 [bA 8 (Bw x0),BM x1,si x2] (.own false 11 (r.1.map Av)) [bA 8 (Bw r.2),.dead,.dead]):=by
  induction n with
  |zero=>exact⟨λh=>Bi h,λh=>Bi h,λh=>Bi h⟩
  |succ n ih=>exact⟨λh=>Pt ih.2.1 h,λh=>Ql ih.2.2 ih.1 h,λh=>Pp ih.1 h⟩
theorem Of {n:Nat}:∀{x0 x1 x2 r},(FP n) x0 x1 x2=some r->BD Tryz.prog 64 [bA 8 (Bw x0),si x1,si x2] (.own false 11 (r.1.map Av)) [bA 8 (Bw r.2),.dead,.dead]:=(Oe n).1
def f94c:IC:=(Ra 0 [.B 2 false]
(Sq (Ip (Rc 4 [.C 0,.o (.Te (.t 4)),.P .lss 5 1,.C 6,.G 7 false,.C 0,.o (.Te (.t 8)),.P .gtr 9 12,.e,.V 7 10,.C 11,.G 12 false,.C 0,.o (.X4 (.t 13) (.c (si 0))),.c 134 [14] 0,.N 15,.e,.V 12 16,.C 17,.G 18 false,.C 0,.c 135 [19] 0,.e,.V 18 20])
(Ci 21 (Rb 0 [.B 2 false])))
(Ip (Ra 0 [.K 3 0]
(Bl 0 (Sq (Ra 22 [.C 3,.C 0,.o (.Te (.t 23)),.O .lss 22 24]
(cX 25 0))
(Sq (Bk 1 (Ra 28 [.C 0,.C 3,.o (.X4 (.t 28) (.t 29)),.c 136 [30] 0,.N 31]
(Ci 32 (Rb 0 [.B 2 false]))))
(Rc 26 [.C 3,.P .add 26 1,.M 3 27])))))
(Rb 0 [.B 2 true]))))
def f94g:Gi:=⟨[]⟩
def f94r:List RV:=[.tmp 2]
def f94:FI:=⟨f94c,f94g,f94r⟩
theorem chk94:JP Tryz.prog Tryz.f94 f94=true:=by kernel_rfl
namespace Bp
def J2:ABp Bool:=
some true
def L1 (s:ABq) (L1:Int->ABp Bool) (i:Int):ABp Bool:=
if decide (i<(s.size:Int))then
(sgt s i).bind λc_1=>
(Ge (c_1.toNat:Int)).bind λv_2=>
if !v_2 then
some false
else
L1 (Ap (i+1))
else
J2
def Aa (s:ABq):Nat->Int->ABp Bool
|0,_=>none
|n+1,i=>L1 s (Aa s n) i
def J1 (s:ABq) (AAB:Bool):ABp Bool:=
if AAB then
some false
else
Aa s BT 0
end Bp
section
open Bp
def Bp (s:ABq):ABp Bool:=
if decide ((s.size:Int)<1)then
J1 s true
else
if decide ((s.size:Int)>12)then
J1 s true
else
(sgt s 0).bind λc=>
(FC (c.toNat:Int)).bind λv=>
if !v then
J1 s true
else
(Ce s).bind λXD=>
J1 s XD
theorem HV {s:ABq} {r:Bool} (h:Bp s=some r):Says Tryz.prog 94 [BM s] (sb r):=by
 refine Gu mix Tryz.func94 chk94 (AAa (by kernel_rfl)) rfl ?_
 simp only[f94,f94c,f94g,f94r]
 try simp +decide only[go_sem, *]
 refine JH (λτ=>∃AAB:Bool,(τ 0=BM s/\τ 21=sb AAB)/\J1 s AAB=some r) λM1 TG=>⟨?_,?_⟩
 . try simp +decide only[go_sem, *]
   refine gI h (λ_ h=> ?_) λ_ h=> ?_
   . try simp +decide only[go_sem, *]
     refine TG _ ⟨_,?_,h⟩
     simp +decide only[go_sem, *]
   try simp +decide only[go_sem, *]
   refine gI h (λ_ h=> ?_) λ_ h=> ?_
   . try simp +decide only[go_sem, *]
     refine TG _ ⟨_,?_,h⟩
     simp +decide only[go_sem, *]
   obtain⟨c,_,h⟩:=sgL (n:=0) (by simp) h
   obtain⟨v,g2,h⟩:=bS h
   try simp +decide only[go_sem, *]
   refine⟨_,Nd g2,?_⟩
   try simp +decide only[go_sem, *]
   refine gI h (λ_ h=> ?_) λ_ h=> ?_
   . try simp +decide only[go_sem, *]
     refine TG _ ⟨_,?_,h⟩
     simp +decide only[go_sem, *]
   obtain⟨XD,g3,h⟩:=bS h
   try simp +decide only[go_sem, *]
   refine⟨_,Qr g3,?_⟩
   try simp +decide only[go_sem, *]
   refine TG _ ⟨_,?_,h⟩
   simp +decide only[go_sem, *]
 rintro τ1 ⟨AAB,s1,h⟩
 try simp +decide only[go_sem, *]
 refine cI h (λ_ h=> ?_) λ_ h=> ?_
 . obtain rfl:=AAR h
   simp +decide only[go_sem, *]
 try simp +decide only[go_sem, *]
 refine JH (λτ=>(True)/\J2=some r) λM2 TJ=>⟨?_,?_⟩
 . try simp +decide only[go_sem, *]
   refine Ir (λn τ=>∃i:Int,(τ 0=BM s/\τ 3=si i)/\Aa s n i=some r) ⟨_,?_,h⟩ λn1 τ1 N1=> ?_
   . simp +decide only[go_sem, *]
   rintro⟨i,s1,h⟩ dR
   cases n1 with
   |zero=>exact Bi h
   |succ n1=>
    rw[Aa]at h;generalize dP:Aa s n1=L1 at h
    try simp +decide only[go_sem, *]
    refine cI h (λ_ h=> ?_) λ_ h=> ?_
    . obtain⟨c_1,_,h⟩:=sgB h
      obtain⟨v_2,g5,h⟩:=bS h
      try simp +decide only[go_sem, *]
      refine⟨_,WZ g5,?_⟩
      try simp +decide only[go_sem, *]
      refine cI h (λ_ h=> ?_) λ_ h=> ?_
      . obtain rfl:=AAR h
        simp +decide only[go_sem, *]
      try simp +decide only[go_sem, *]
      refine dR n1 (AA8 _) _ ⟨_,?_,dP.symm▸h⟩
      simp +decide only[go_sem, *]
    try simp +decide only[go_sem, *]
    refine TJ _ ⟨?_,h⟩
    simp +decide only[go_sem, *]
 rintro τ2 ⟨_,h⟩
 obtain rfl:=AAR h
 simp +decide only[go_sem, *]
end
namespace DH
def J1 (i:Bool):ABp Int:=
if i then
some 6
else
some 0
end DH
section
open DH
def DH (c:AQ) (e:Int) (d:ABq) (a b:Int):ABp Int:=
(Ft c e d).bind λf=>
if f==0 then
some 5
else
if f != a then
J1 (f != b)
else
J1 false
theorem QI {c:AQ} {e:Int} {d:ABq} {a b r:Int} (h:DH c e d a b=some r):Says Tryz.prog 178 [.agg (Bu c),si e,BM d,si a,si b] (si r):=by
 refine kO mix Tryz.func178 hn ?_
 have a1:= @Ue
 unfold DH at h
 exact walk
end
def G3 (b:A5) (a:AP):ABp A5:=
if decide ((a.Index.length:Int)>0)then
(gt a.Index 0).bind λp=>
(DP BT b p (b.locals.length:Int)).bind λi=>
(DP BT i a.Expr (Ap ((b.locals.length:Int)+1))).bind λd=>
(CJ d.w a.Name).bind λe=>
(gt d.w.Cells e).bind λq=>
(A8 d (Ab.mk 9 e (Ap ((b.locals.length:Int)+1)) (b.locals.length:Int) q.B0 0)).bind λj=>
some j
else
(DP BT b a.Expr (b.locals.length:Int)).bind λc=>
(Ca c.locals a.Name).bind λf=>
if decide (f≥0)then
(A8 c (Ab.mk 2 f (b.locals.length:Int) 0 0 0)).bind λl=>
some l
else
(CJ c.w a.Name).bind λo=>
(A8 c (Ab.mk 8 o (b.locals.length:Int) 0 0 0)).bind λs=>
some s
theorem Pz {b:A5} {a:AP} {r:A5} (h:G3 b a=some r):BD Tryz.prog 149 [bA 10 (EA b),.agg [si a.Op,si a.Ep,BM a.Name,BM a.Arg,vS 4 A0 a.Index,si a.Expr.Op,si a.Expr.N,BM a.Expr.Name,vS 4 A0 a.Expr.L,vS 11 Av a.Body,vS 11 Av a.Else]] (.BJ []) [bA 10 (EA r),.dead]:=by
 refine kL mix Tryz.func149 (hn [(0,[7,8,9,10,16,23,29,30,31,32,36,41,42,43,44,45,47,48,52,57,58,59,60,66,71,72,73,74,75]),(3,[12,17,24,33,53,61,76])]) ?_
 have a1:= @IZ
 have a2:= @Ng
 have a3:= @F9
 have a4:= @HJ
 unfold G3 at h
 exact walk
namespace AY
def J1 (i:Bool):ABp Bool:=
some i
def J2 (j:Bool):ABp Bool:=
some j
def J4 (l:Bool):ABp Bool:=
some l
def J6 (o:Bool):ABp Bool:=
some o
def J9 (p:Bool):ABp Bool:=
some p
def Th (q:Bool):ABp Bool:=
some q
def J8 (a:Ab) (b:AD) (c:Bool):ABp Bool:=
if c then
(DS a.A (b.AA.length:Int)).bind λz=>
some z
else
if a.Op==26 then
(DS a.A (b.AK.length:Int)).bind λaa=>
some aa
else
if a.Op==27 then
(DS a.B (b.AK.length:Int)).bind λab=>
some ab
else
if a.Op==3 then
if a.N==4 then
J9 true
else
J9 (a.N==5)
else
if a.Op==4 then
if decide (a.N≥6)then
Th (decide (a.N≤18))
else
Th false
else
some true
def J7 (a:Ab) (b:AD) (f:Bool):ABp Bool:=
if f then
(DS a.A (b.Af.length:Int)).bind λy=>
some y
else
if a.Op==24 then
J8 a b (a.Op==24)
else
J8 a b (a.Op==25)
def J5 (a:Ab) (b:AD) (e:Bool):ABp Bool:=
if e then
(DS a.A (b.AG.length:Int)).bind λx=>
if x then
(gt b.AG a.A).bind λaf=>
J6 af.RW
else
J6 false
else
if a.Op==21 then
J7 a b (a.Op==21)
else
if a.Op==22 then
J7 a b (a.Op==22)
else
J7 a b (a.Op==23)
def J3 (a:Ab) (b:AD) (d:Bool):ABp Bool:=
if d then
(DS a.A (b.AG.length:Int)).bind λw=>
if w then
(gt b.AG a.A).bind λae=>
J4 (!ae.RW)
else
J4 false
else
if a.Op==13 then
J5 a b (a.Op==13)
else
if a.Op==14 then
J5 a b (a.Op==14)
else
if a.Op==15 then
J5 a b (a.Op==15)
else
J5 a b (a.Op==16)
end AY
section
open AY
def AY (b:AD) (a:Ab):ABp Bool:=
if a.Op==6 then
(DS a.B (b.Cells.length:Int)).bind λs=>
if s then
(gt b.Cells a.B).bind λac=>
J1 (ac.B0==0)
else
J1 false
else
if a.Op==8 then
(DS a.A (b.Cells.length:Int)).bind λt=>
if t then
(gt b.Cells a.A).bind λad=>
J2 (ad.B0==0)
else
J2 false
else
if a.Op==7 then
(E3 b a.B a.N).bind λu=>
some u
else
if a.Op==9 then
(E3 b a.A a.N).bind λv=>
some v
else
if a.Op==11 then
J3 a b (a.Op==11)
else
J3 a b (a.Op==12)
theorem TZ {b:AD} {a:Ab} {r:Bool} (h:AY b a=some r):Says Tryz.prog 126 [.agg (Ai b),.agg (Du a)] (sb r):=by
 refine kO mix Tryz.func126 (hn [(2,[11,16,29,34,64,69,85,90,104,113,121,129]),(3,[5,9,18,27,36,46,48,54,56,62,71,83,92,102,111,119,127,135,139,145,149])] [(11,3),(14,5),(19,7),(23,8)]) ?_
 have a1:= @Oy
 have a2:= @Wi
 have c8:=λn1 n2 n3 n4:Nat=>Bh 8 λτ=>∃(c:Bool),(τ 2=bA 6 (Ai b)/\τ 3=bA 6 (Du a)/\τ 6=si a.Op/\τ 108=sb c)/\J8 a b c=some r
 have c7:=λn1 n2 n3 n4:Nat=>Bh 7 λτ=>∃(f:Bool),(τ 2=bA 6 (Ai b)/\τ 3=bA 6 (Du a)/\τ 6=si a.Op/\τ 98=sb f)/\J7 a b f=some r
 have c5:=λn1 n2 n3 n4:Nat=>Bh 5 λτ=>∃(e:Bool),(τ 2=bA 6 (Ai b)/\τ 3=bA 6 (Du a)/\τ 6=si a.Op/\τ 78=sb e)/\J5 a b e=some r
 have c3:=λn1 n2 n3 n4:Nat=>Bh 3 λτ=>∃(d:Bool),(τ 2=bA 6 (Ai b)/\τ 3=bA 6 (Du a)/\τ 6=si a.Op/\τ 59=sb d)/\J3 a b d=some r
 unfold AY at h
 exact walk
end
namespace CC
def J2 (q:Bool):ABp Bool:=
some q
def J3 (s:Bool):ABp Bool:=
some s
def J4 (t:Bool):ABp Bool:=
some t
def J7 (u:Bool):ABp Bool:=
some u
def J8 (v:Bool):ABp Bool:=
some v
def J6 (a b:Int) (c:AN) (d:Int) (e:AD) (j:Bool):ABp Bool:=
if j then
(gt e.Af b).bind λap=>
(gt c.AG ap.Mutex).bind λaq=>
some (aq.CW==d)
else
if a==20 then
if b != d then
(gt c.AA b).bind λac=>
J7 (ac.Status==0)
else
J7 false
else
if a==21 then
if b != d then
(gt c.AA b).bind λad=>
J8 (ad.Status==5)
else
J8 false
else
if a==22 then
(gt c.Bq b).bind λae=>
some (!ae)
else
if a==23 then
(gt c.Bq b).bind λaf=>
some af
else
some true
def J5 (a b:Int) (c:AN) (d:Int) (e:AD) (f:AE) (i:Bool):ABp Bool:=
if i then
(gt c.AG b).bind λal=>
some (al.CW==d)
else
if a==9 then
(gt c.AG b).bind λao=>
(GA ao.As d).bind λaa=>
some aa
else
if a==12 then
some (c.Tx==(-1))
else
if a==13 then
some (c.Tx==d)
else
if a==14 then
some (!f.Atomic)
else
if a==15 then
some f.Atomic
else
if a==16 then
J6 a b c d e (a==16)
else
if a==18 then
J6 a b c d e (a==18)
else
J6 a b c d e (a==19)
def J1 (a b:Int) (c:AN) (d:Int) (e:AD) (l:Bool):ABp Bool:=
if l then
some false
else
(gt c.AA d).bind λf=>
if a==1 then
some (f.Status==1)
else
if a==17 then
if f.Status==4 then
if f.D8==b then
(gt e.Af b).bind λab=>
(gt c.AG ab.Mutex).bind λai=>
J2 (ai.CW==(-1))
else
J2 false
else
J2 false
else
if f.Status != 2 then
some false
else
if a==6 then
(gt c.AG b).bind λaj=>
some (aj.CW==(-1))
else
if a==10 then
(gt c.AG b).bind λo=>
if o.CW==(-1)then
J3 ((o.As.length:Int)==0)
else
J3 false
else
if a==8 then
(gt c.AG b).bind λp=>
if p.CW==(-1)then
(GA p.As d).bind λz=>
J4 (!z)
else
J4 false
else
if a==7 then
J5 a b c d e f (a==7)
else
J5 a b c d e f (a==11)
end CC
section
open CC
def CC (e:AD) (c:AN) (d a b:Int):ABp Bool:=
(ER e c).bind λw=>
if !w then
J1 a b c d e true
else
(G4 d (e.AA.length:Int)).bind λx=>
if !x then
J1 a b c d e true
else
(Hr e a b).bind λy=>
J1 a b c d e (!y)
theorem Mg {e:AD} {c:AN} {d a b:Int} {r:Bool} (h:CC e c d a b=some r):Says Tryz.prog 100 [.agg (Ai e),.agg (E1 c),si d,si a,si b] (sb r):=by
 refine kO mix Tryz.func100 (hn [(5,[18,56,166]),(6,[31,54,73,82,90,101,109,122,132,142,147,164,183,197,207,215]),(11,[39,44,48,67,153,158])] [(2,1),(22,5),(35,6)]) ?_
 have a1:= @NG
 have a2:= @Lz
 have a3:= @T9
 have a4:= @Wn
 have c6:=λn1 n2 n3 n4:Nat=>Bh 6 λτ=>∃(j:Bool),(τ 2=si d/\τ 4=si b/\τ 5=bA 6 (Ai e)/\τ 6=bA 4 (E1 c)/\τ 70=si a/\τ 160=sb j)/\J6 a b c d e j=some r
 have c5:=λn1 n2 n3 n4:Nat=>Bh 5 λτ=>∃(f:AE) (i:Bool),(τ 2=si d/\τ 4=si b/\τ 5=bA 6 (Ai e)/\τ 6=bA 4 (E1 c)/\τ 11=bA 3 (Ae f)/\τ 70=si a/\τ 119=sb i)/\J5 a b c d e f i=some r
 have c1:=λn1 n2 n3 n4:Nat=>Bh 1 λτ=>∃(l:Bool),(τ 2=si d/\τ 3=si a/\τ 4=si b/\τ 5=bA 6 (Ai e)/\τ 6=bA 4 (E1 c)/\τ 30=sb l)/\J1 a b c d e l=some r
 unfold CC at h
 exact walk
end
end Go.Abs
