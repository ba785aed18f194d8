/- Typed programs of Go functions, and that the functions do what these say. -/
import Derived.Test.YtdojkofgkcmagaaGreatDoorWalkB
import Derived.Test.YtdojkofgkcmagaaGreatDoorWalkC
set_option linter.defProp false
set_option linter.unusedSimpArgs false
set_option linter.unusedVariables false
namespace Go.Abs
open Go.Proofs Tryz
set_option maxRecDepth 1000000
set_option maxHeartbeats 4000000
namespace Af
def rK(bb:AU)(aw:AB):ABd (AB×AU):=
some (aw,bb)
def L3(o:AB)(L3:d6)(v:AU)(f:AB)(s:Int):=
if decide (s<(o.Cells.length:Int))then
(Ah v 3).bind λae=>
(gt f.Cells s).bind λbt=>
L3 ae.2 (AB.mk f.Sync (f.Cells.set s.toNat ae.1) f.AK f.Count) (BA (s+1))
else
rK v f
def Gg(o:AB):Nat->AU->AB->Int->ABd (AB×AU)
|0,_,_,_=>none
|n+1,v,f,s=>L3 o (Gg o n) v f s
def Y4(bi:AU)(o:AB):=
Gg o BW bi o 0
def Oz(aa:AU)(e:AB):=
(Ah aa 3).bind λad=>
if ad.1==2 then
(gt e.Sync.Bn 0).bind λbq=>
(Ah ad.2 3).bind λao=>
(gt e.AK 0).bind λbs=>
Y4 ao.2 (AB.mk (AP.mk e.Sync.AF e.Sync.Tx (e.Sync.Bn.set 0 true) e.Sync.AA) e.Cells (e.AK.set 0 ao.1) e.Count)
else
Y4 ad.2 e
def J9(bf:AU)(q:AB):=
(Ah bf 3).bind λac=>
if ac.1==2 then
(Ge ac.2 q.Sync.Tx q.Count).bind λal=>
Oz al.2 (AB.mk (AP.mk q.Sync.AF al.1 q.Sync.Bn q.Sync.AA) q.Cells q.AK q.Count)
else
Oz ac.2 q
def J8(L2:d6)(d:Int)(be:AU)(av:AB):=
L2 be av (BA (d+1))
def J7(L2:d6)(a:AB)(d:Int)(x:AU)(i:d4)(ba:Bool):=
if ba then
J8 L2 d x a
else
(gt a.Sync.AF d).bind λbl=>
J8 L2 d x (AB.mk (AP.mk (a.Sync.AF.set d.toNat (AW.mk i.1 bl.Ak)) a.Sync.Tx a.Sync.Bn a.Sync.AA) a.Cells a.AK a.Count)
def J6(L2:d6)(a:AB)(d:Int)(i:d4)(x:AU)(az:Bool):=
if az then
(gt a.Sync.AF d).bind λbj=>
J8 L2 d x (AB.mk (AP.mk (a.Sync.AF.set d.toNat (AW.mk bj.CG [i.1])) a.Sync.Tx a.Sync.Bn a.Sync.AA) a.Cells a.AK a.Count)
else
if d==0 then
(gt a.Sync.AA i.1).bind λaq=>
if aq.Status==3 then
J7 L2 a d x i true
else
J7 L2 a d x i (aq.Status==4)
else
J7 L2 a d x i false
def L2(l:AB)(L2:d6)(w:AU)(a:AB)(d:Int):=
if decide (d<(l.Sync.AF.length:Int))then
(Ge w a.Sync.Tx a.Count).bind λi=>
if decide (i.1<0)then
J8 L2 d i.2 a
else
if d==2 then
(Ah i.2 2).bind λaj=>
J6 L2 a d i aj.2 (aj.1==1)
else
J6 L2 a d i i.2 false
else
J9 w a
def DF(l:AB):Nat->AU->AB->Int->ABd (AB×AU)
|0,_,_,_=>none
|n+1,w,a,d=>L2 l (DF l n) w a d
def J5(bd:AU)(l:AB):=
DF l BW bd l 0
def J4(L1:d6)(c:Int)(bc:AU)(au:AB):=
L1 bc au (BA (c+1))
def J3(L1:d6)(b:AB)(t c:Int)(j:d4)(ay:Bool):=
if ay then
(Ah j.2 3).bind λaf=>
(gt b.Count c).bind λbp=>
(Ah af.2 4).bind λai=>
(gt (b.Sync.AA.set c.toNat (AH.mk t 0 false)) c).bind λap=>
J4 L1 c ai.2 (AB.mk (AP.mk b.Sync.AF b.Sync.Tx b.Sync.Bn ((b.Sync.AA.set c.toNat (AH.mk t 0 false)).set c.toNat (AH.mk ap.Status ap.Dg (ai.1==3)))) b.Cells b.AK (b.Count.set c.toNat (BA (1+af.1))))
else
J4 L1 c j.2 (AB.mk (AP.mk b.Sync.AF b.Sync.Tx b.Sync.Bn (b.Sync.AA.set c.toNat (AH.mk t 0 false))) b.Cells b.AK b.Count)
def J2(L1:d6)(b:AB)(c:Int)(j:d4)(t:Int):=
(gt b.Sync.AA c).bind λbo=>
if t != 0 then
J3 L1 b t c j (t != 1)
else
J3 L1 b t c j false
def J1(L1:d6)(b:AB)(c:Int)(j:d4)(y:Int)(ax:Bool):=
if ax then
J2 L1 b c j 1
else
J2 L1 b c j y
def L1(p:AB)(L1:d6)(u:AU)(b:AB)(c:Int):=
if decide (c<(p.Count.length:Int))then
(Ah u 9).bind λj=>
(gt [2,2,2,2,0,1,3,4,5] j.1).bind λy=>
if c==0 then
J1 L1 b c j y (y==0)
else
J1 L1 b c j y false
else
J5 u b
def Aa(p:AB):Nat->AU->AB->Int->ABd (AB×AU)
|0,_,_,_=>none
|n+1,u,b,c=>L1 p (Aa p n) u b c
end Af
section
open Af
def Af(z:AU)(ab:AD):=
(EU ab).bind λp=>
Aa p BW z p 0
def Ru{z:AU}{ab:AD}{r:AB×AU}(h:Af z ab=some r):BD prog 82 [bA 2 (FO z),.agg (Aq ab)] (.agg (BI r.1)) [bA 2 (FO r.2),.dead]:=by refine kP mix func82 (hn [(0,[20,46,54,67,84,120,123,128,137,149]),(5,[13,14,30,31,32,36,43,44,49,50,51,52,57,58,60,61,62,68,70,71,72,75,76,88,89,90,94,95,100,101,102,104,105,109,110,111,113,114,124,126,127,131,132,133,134,135,136,139,140,141,146,147,151,153]),(19,[22])] [(24,10)] (Z:=[(13,false,5,[(0,6,0)])])) ?_;have a1:= @Jz;have a2:= @DD;have a3:= @Yb;have l3:=da λ_ _ _ _ n a=>∃(o:AB)(v:AU)(f:AB)(s:Int),(a 0=bA 2 (FO v)/\a 4=bA 7 z0/\a 5=bA 7 [vO 2 Bo f.Sync.AF,si f.Sync.Tx,vO 1 eB f.Sync.Bn,vO 3 An f.Sync.AA,vO 1 eI f.Cells,vO 1 eI f.AK,vS 1 eI f.Count]/\a 142=si (o.Cells.length:Int)/\a 143=si s)/\Gg o n v f s=some r;have l2:=da λ_ _ _ _ n b=>∃(l:AB)(w:AU)(a:AB)(d:Int),(b 0=bA 2 (FO w)/\b 4=bA 7 z0/\b 5=bA 7 [vO 2 Bo a.Sync.AF,si a.Sync.Tx,vO 1 eB a.Sync.Bn,vO 3 An a.Sync.AA,vO 1 eI a.Cells,vO 1 eI a.AK,vS 1 eI a.Count]/\b 63=si (l.Sync.AF.length:Int)/\b 64=si d)/\DF l n w a d=some r;have l1:=da λ_ _ _ _ n a=>∃(p:AB)(u:AU)(b:AB)(c:Int),(a 0=bA 2 (FO u)/\a 4=bA 7 z0/\a 5=bA 7 (GG b)/\a 15=si (p.Count.length:Int)/\a 16=si c)/\Aa p n u b c=some r;have c10:=db 10 λ_ _ _ _ a=>∃(aa:AU)(e:AB),(a 0=bA 2 (FO aa)/\a 4=bA 7 z0/\a 5=bA 7 [vO 2 Bo e.Sync.AF,si e.Sync.Tx,vO 1 eB e.Sync.Bn,vO 3 An e.Sync.AA,vO 1 eI e.Cells,vO 1 eI e.AK,vS 1 eI e.Count])/\Oz aa e=some r;unfold Af at h;exact walk
end
namespace CY
def J2(l:AO)(j:d5):ABd ((List AQ)×AO):=
some (j,l)
def J1(L1:go)(R100:fm)(a b:Int)(c:d5)(d:AO)(o:Bool):=
if o then
(R100 d a).bind λi=>
if Ap (c.length+1) 176=true then
L1 i.2 (c++[i.1]) (BA (b+1))
else none
else
J2 d c
def L1(R100:fm)(a e:Int)(L1:go)(d:AO)(c:d5)(b:Int):=
if decide (b<e)then
if b==0 then
J1 L1 R100 a b c d true
else
J1 L1 R100 a b c d (decide (d.left>0))
else
J1 L1 R100 a b c d false
def Aa(R100:fm)(a e:Int):Nat->AO->(List AQ)->Int->ABd ((List AQ)×AO)
|0,_,_,_=>none
|n+1,d,c,b=>L1 R100 a e (Aa R100 a e n) d c b
end CY
variable{q:fm}{f:AO}{c e:Int}
section
open CY
def CY(R100:fm)(f:AO)(a e:Int):=
Aa R100 a e BW f [] 0
theorem Qb(H100:∀{x0 x1 r},q x0 x1=some r->BD prog 223 [bA 8 (CX x0),si x1] (.agg [si r.1.Op,si r.1.FK,BZ r.1.Name,BZ r.1.Arg,vS 4 BH r.1.Index,si r.1.Expr.Op,si r.1.Expr.N,BZ r.1.Expr.Name,vS 4 BH r.1.Expr.L,vS 11 A7 r.1.Body,vS 11 A7 r.1.Else]) [bA 8 (CX r.2),.dead]){r:(List AQ)×AO}(h:CY q f c e=some r):BD prog 187 [bA 8 (CX f),si c,si e] (vO 11 A7 r.1) [bA 8 (CX r.2),.dead,.dead]:=by refine kL mix func187 (hn [(0,[16,17,18,26]),(7,[25,31])]) ?_;have a1:= @H100;have l1:=da λ_ _ _ _ n f=>∃d a b,(f 0=bA 8 (CX d)/\f 1=si c/\f 2=si e/\f 7=vO 11 A7 a/\f 8=si b)/\Aa q c e n d a b=some r;unfold CY at h;exact walk
end
namespace Ay
def J3(bi:AO)(bj:AQ):ABd (AQ×AO):=
some (bj,bi)
def rK(ad:AO)(bl:Bool):ABd (AQ×AO):=
if bl then
some ((AQ.mk 15 0 (⟨#[97]⟩:ABe) (⟨#[102]⟩:ABe) [] (BE.mk 0 0 (⟨#[]⟩:ABe) []) [] []),ad)
else
(CO BW ad 1).bind λbb=>
(En (⟨#[120]⟩:ABe) bb.1).bind λca=>
some (ca,bb.2)
def Y4(e:AO)(b:d4)(z:Bool):ABd (AQ×AO):=
if z then
(CO BW (AO.mk e.t e.Bb e.left true e.tx e.atomic e.loop e.held) 1).bind λaz=>
some ((AQ.mk 14 0 (⟨#[102]⟩:ABe) (⟨#[]⟩:ABe) [] az.1 [] []),az.2)
else
if b.1==17 then
if !e.tx then
(Ah e.t 2).bind λba=>
rK (AO.mk ba.2 e.Bb e.left e.HR e.tx e.atomic e.loop e.held) (ba.1==1)
else
rK e false
else
rK e false
def Oz(b:d4)(e:AO)(y:Bool):=
if y then
(Ah e.t 2).bind λay=>
some ((AQ.mk 4 0 (⟨#[109]⟩:ABe) (⟨#[]⟩:ABe) [] (BE.mk 0 0 (⟨#[]⟩:ABe) []) [(AQ.mk (BA (10+ay.1)) 0 (⟨#[99]⟩:ABe) (⟨#[]⟩:ABe) [] (BE.mk 0 0 (⟨#[]⟩:ABe) []) [] [])] []),(AO.mk ay.2 e.Bb e.left e.HR e.tx e.atomic e.loop e.held))
else
if b.1==16 then
if !e.tx then
if !e.loop then
Y4 e b (!e.HR)
else
Y4 e b false
else
Y4 e b false
else
Y4 e b false
def J9(c:Bool)(b:d4)(q:AO)(x:Bool):=
if x then
(Ii (⟨#[120]⟩:ABe)).bind λbx=>
(En (⟨#[97]⟩:ABe) bx).bind λbz=>
some ((AQ.mk 4 0 (⟨#[109]⟩:ABe) (⟨#[]⟩:ABe) [] (BE.mk 0 0 (⟨#[]⟩:ABe) []) [(AQ.mk 9 0 (⟨#[99]⟩:ABe) (⟨#[]⟩:ABe) [] (BE.mk 0 0 (⟨#[]⟩:ABe) []) [] []),bz] []),q)
else
if b.1==15 then
if c then
(Dq q (⟨#[109]⟩:ABe)).bind λax=>
Oz b ax.2 (!ax.1)
else
Oz b q false
else
Oz b q false
def J8(R102:dC)(d:Int)(f:AO)(c:Bool)(b:d4)(w:Bool):=
if w then
(R102 (AO.mk f.t f.Bb f.left f.HR f.tx true f.loop f.held) (BA (d-1)) 2).bind λp=>
some ((AQ.mk 8 0 (⟨#[]⟩:ABe) (⟨#[]⟩:ABe) [] (BE.mk 0 0 (⟨#[]⟩:ABe) []) p.1 []),(AO.mk p.2.t p.2.Bb p.2.left p.2.HR p.2.tx false p.2.loop p.2.held))
else
if b.1==14 then
if c then
if !f.atomic then
(Dq f (⟨#[109]⟩:ABe)).bind λav=>
J9 c b av.2 (!av.1)
else
J9 c b f false
else
J9 c b f false
else
J9 c b f false
def J7(R102:dC)(d:Int)(f:AO)(c:Bool)(b:d4)(v:Bool):=
if v then
(Ah f.t 2).bind λau=>
(R102 (AO.mk au.2 f.Bb f.left f.HR true f.atomic f.loop f.held) 0 (BA (1+au.1))).bind λo=>
some ((AQ.mk 7 0 (⟨#[]⟩:ABe) (⟨#[]⟩:ABe) [] (BE.mk 0 0 (⟨#[]⟩:ABe) []) o.1 []),(AO.mk o.2.t o.2.Bb o.2.left o.2.HR false o.2.atomic o.2.loop o.2.held))
else
if b.1==13 then
if c then
J8 R102 d f c b (!f.atomic)
else
J8 R102 d f c b false
else
J8 R102 d f c b false
def J6(R101:ea)(R102:dC)(d:Int)(c:Bool)(b:d4)(f:AO)(u:Bool):=
if u then
(R101 f (⟨#[114]⟩:ABe) (BA (d-1))).bind λaq=>
some ((AQ.mk (BA ((BA (b.1-10))+5)) 0 (⟨#[114]⟩:ABe) (⟨#[]⟩:ABe) [] (BE.mk 0 0 (⟨#[]⟩:ABe) []) aq.1 []),aq.2)
else
if b.1==12 then
J7 R102 d f c b c
else
J7 R102 d f c b false
def J5(R101:ea)(R102:dC)(d:Int)(c:Bool)(b:d4)(j:AO)(t:Bool):=
if t then
(gt [(⟨#[109]⟩:ABe),(⟨#[110]⟩:ABe)] (BA (b.1-8))).bind λbf=>
(R101 j bf (BA (d-1))).bind λal=>
some ((AQ.mk 4 0 bf (⟨#[]⟩:ABe) [] (BE.mk 0 0 (⟨#[]⟩:ABe) []) al.1 []),al.2)
else
if b.1==10 then
if c then
(Dq j (⟨#[114]⟩:ABe)).bind λao=>
J6 R101 R102 d c b ao.2 (!ao.1)
else
J6 R101 R102 d c b j false
else
if b.1==11 then
if c then
(Dq j (⟨#[114]⟩:ABe)).bind λap=>
J6 R101 R102 d c b ap.2 (!ap.1)
else
J6 R101 R102 d c b j false
else
J6 R101 R102 d c b j false
def J4(R101:ea)(R102:dC)(d:Int)(a:AO)(c:Bool)(b:d4)(s:Bool):=
if s then
(Ii (⟨#[98]⟩:ABe)).bind λbo=>
(Jo 2).bind λbp=>
(IJ 13 bo bp).bind λbq=>
(R102 (AO.mk b.2 a.Bb (BA (a.left-1)) a.HR a.tx a.atomic true a.held) (BA (d-1)) 1).bind λl=>
(Ii (⟨#[98]⟩:ABe)).bind λbs=>
(Jo 1).bind λbt=>
(IJ 6 bs bt).bind λbu=>
(En (⟨#[98]⟩:ABe) bu).bind λbv=>
if Ap (l.1.length+1) 176=true then
some ((AQ.mk 3 0 (⟨#[]⟩:ABe) (⟨#[]⟩:ABe) [] bq (l.1++[bv]) []),(AO.mk l.2.t l.2.Bb l.2.left l.2.HR l.2.tx l.2.atomic a.loop l.2.held))
else none
else
if b.1==8 then
if c then
(gt [(⟨#[109]⟩:ABe),(⟨#[110]⟩:ABe)] (BA (b.1-8))).bind λce=>
(Dq (AO.mk b.2 a.Bb (BA (a.left-1)) a.HR a.tx a.atomic a.loop a.held) ce).bind λai=>
J5 R101 R102 d c b ai.2 (!ai.1)
else
J5 R101 R102 d c b (AO.mk b.2 a.Bb (BA (a.left-1)) a.HR a.tx a.atomic a.loop a.held) false
else
if b.1==9 then
if c then
(gt [(⟨#[109]⟩:ABe),(⟨#[110]⟩:ABe)] (BA (b.1-8))).bind λcf=>
(Dq (AO.mk b.2 a.Bb (BA (a.left-1)) a.HR a.tx a.atomic a.loop a.held) cf).bind λaj=>
J5 R101 R102 d c b aj.2 (!aj.1)
else
J5 R101 R102 d c b (AO.mk b.2 a.Bb (BA (a.left-1)) a.HR a.tx a.atomic a.loop a.held) false
else
J5 R101 R102 d c b (AO.mk b.2 a.Bb (BA (a.left-1)) a.HR a.tx a.atomic a.loop a.held) false
def J2(R101:ea)(R102:dC)(d:Int)(a:AO)(c:Bool)(b:d4)(aa:Bool):=
if aa then
(CO BW (AO.mk b.2 a.Bb (BA (a.left-1)) a.HR a.tx a.atomic a.loop a.held) 1).bind λac=>
(R102 ac.2 (BA (d-1)) 1).bind λi=>
(Ah i.2.t 2).bind λab=>
if ab.1==1 then
(R102 (AO.mk ab.2 i.2.Bb i.2.left i.2.HR i.2.tx i.2.atomic i.2.loop i.2.held) (BA (d-1)) 1).bind λaf=>
J3 af.2 (AQ.mk 2 0 (⟨#[]⟩:ABe) (⟨#[]⟩:ABe) [] ac.1 i.1 af.1)
else
J3 (AO.mk ab.2 i.2.Bb i.2.left i.2.HR i.2.tx i.2.atomic i.2.loop i.2.held) (AQ.mk 2 0 (⟨#[]⟩:ABe) (⟨#[]⟩:ABe) [] ac.1 i.1 [])
else
if b.1==7 then
J4 R101 R102 d a c b (decide (d>0))
else
J4 R101 R102 d a c b false
def J1(R101:ea)(R102:dC)(d:Int)(a:AO)(b:d4)(c:Bool):=
if decide (b.1<4)then
(gt [(⟨#[120]⟩:ABe),(⟨#[121]⟩:ABe),(⟨#[120]⟩:ABe),(⟨#[118]⟩:ABe)] b.1).bind λcc=>
(CO BW (AO.mk b.2 a.Bb (BA (a.left-1)) a.HR a.tx a.atomic a.loop a.held) 1).bind λae=>
(En cc ae.1).bind λbw=>
some (bw,ae.2)
else
if b.1==4 then
(Ah b.2 2).bind λaw=>
(gt [(⟨#[97]⟩:ABe),(⟨#[98]⟩:ABe)] aw.1).bind λcd=>
(CO BW (AO.mk aw.2 a.Bb (BA (a.left-1)) a.HR a.tx a.atomic a.loop a.held) 1).bind λbc=>
(En cd bc.1).bind λcb=>
some (cb,bc.2)
else
if b.1==5 then
(CO BW (AO.mk b.2 a.Bb (BA (a.left-1)) a.HR a.tx a.atomic a.loop a.held) 0).bind λbd=>
(CO BW bd.2 1).bind λbe=>
some ((AQ.mk 1 0 (⟨#[113]⟩:ABe) (⟨#[]⟩:ABe) [bd.1] be.1 [] []),be.2)
else
if b.1==6 then
J2 R101 R102 d a c b (decide (d>0))
else
J2 R101 R102 d a c b false
end Ay
variable{n:ea}{j:dC}{d:Int}
section
open Ay
def Ay(R101:ea)(R102:dC)(a:AO)(d:Int):=
(Ah a.t 18).bind λb=>
if decide (d>0)then
if decide ((BA (a.left-1))>0)then
J1 R101 R102 d a b (!a.tx)
else
J1 R101 R102 d a b false
else
J1 R101 R102 d a b false
theorem Rf(H101:∀{x0 x1 x2 r},n x0 x1 x2=some r->BD prog 258 [bA 8 (CX x0),BZ x1,si x2] (vO 11 A7 r.1) [bA 8 (CX r.2),.dead,.dead])(H102:∀{x0 x1 x2 r},j x0 x1 x2=some r->BD prog 187 [bA 8 (CX x0),si x1,si x2] (vO 11 A7 r.1) [bA 8 (CX r.2),.dead,.dead]){r:AQ×AO}(h:Ay n j f d=some r):BD prog 223 [bA 8 (CX f),si d] (.agg [si r.1.Op,si r.1.FK,BZ r.1.Name,BZ r.1.Arg,vS 4 BH r.1.Index,si r.1.Expr.Op,si r.1.Expr.N,BZ r.1.Expr.Name,vS 4 BH r.1.Expr.L,vS 11 A7 r.1.Body,vS 11 A7 r.1.Else]) [bA 8 (CX r.2),.dead]:=by refine kP mix func223 (hn [(0,[13,14,15,18,19,20,21,22,23,28,29,30,35,36,37,48,55,56,57,58,68,71,81,83,88,89,90,91,94,107,108,109,111,112,113,117,128,130,131,144,159,176,183,194,195,196,197,198,199,200,201,206,207,208,217,218,219,223,224,225,226,231,232,233,242,243,244,249,265,269,270,271,272,282,283,284,289,290,291,296,297,298,302,303,304,305,312,313,314,319,320,321,322,327]),(7,[98,99]),(9,[132]),(11,[209]),(12,[234]),(44,[46]),(54,[60]),(145,[148]),(153,[156])] [(3,1),(11,2),(16,4),(22,5),(25,6),(27,7),(32,8),(37,9),(39,10),(41,11)] (E:=[(7,(.bY [(0,8,9,62)] [⟨some ⟨54,[60],[]⟩,.Nk 1 [[BZ ⟨#[]⟩],[BZ ⟨#[]⟩]] [(0,.c (BZ ⟨#[97]⟩)),(1,.c (BZ ⟨#[98]⟩))],none⟩,i1 55 0 (.cp (.t 0)),i1 56 0 (.Jp (.t 55)),LU 57 0 0 56,Zk 58 0 57,i0 59 (.Uv 132 [] (.t 58) none [.c (si 2)]),xG 60 54 1 54 59,iL 61 60,i0 62 .fl,i0 63 (.Uv 254 [] (.t 0) none [.c (si 1)]),i0 64 (.call 188 [.t 61,.t 63] 1),iS 11 4 64]))])) ?_;have a1:= @DD;have a2:= @QZ;have a3:= @PY;have a4:= @H102;have a5:= @Sw;have a6:= @Pc;have a7:= @PZ;have a8:= @H101;have a9:= @Qa;have c11:=db 11 λ_ _ _ _ f=>∃(e:AO)(b:d4)(z:Bool),(f 0=bA 8 (CX e)/\f 4=bA 11 z1/\f 5=si b.1/\f 278=sb z)/\Y4 e b z=some r;have c10:=db 10 λ_ _ _ _ f=>∃(b:d4)(e:AO)(y:Bool),(f 0=bA 8 (CX e)/\f 4=bA 11 z1/\f 5=si b.1/\f 258=sb y)/\Oz b e y=some r;have c9:=db 9 λ_ _ _ _ f=>∃(c:Bool)(b:d4)(q:AO)(x:Bool),(f 0=bA 8 (CX q)/\f 4=bA 11 z1/\f 5=si b.1/\f 6=sb c/\f 235=sb x)/\J9 c b q x=some r;have c8:=db 8 λ_ _ _ _ f=>∃(a:AO)(c:Bool)(b:d4)(w:Bool),(f 0=bA 8 (CX a)/\f 1=si d/\f 4=bA 11 z1/\f 5=si b.1/\f 6=sb c/\f 210=sb w)/\J8 j d a c b w=some r;have c7:=db 7 λ_ _ _ _ f=>∃(a:AO)(c:Bool)(b:d4)(v:Bool),(f 0=bA 8 (CX a)/\f 1=si d/\f 4=bA 11 z1/\f 5=si b.1/\f 6=sb c/\f 188=sb v)/\J7 j d a c b v=some r;have c6:=db 6 λ_ _ _ _ f=>∃(c:Bool)(b:d4)(a:AO)(u:Bool),(f 0=bA 8 (CX a)/\f 1=si d/\f 4=bA 11 z1/\f 5=si b.1/\f 6=sb c/\f 165=sb u)/\J6 n j d c b a u=some r;have c5:=db 5 λ_ _ _ _ f=>∃(c:Bool)(b:d4)(R102:AO)(t:Bool),(f 0=bA 8 (CX R102)/\f 1=si d/\f 4=bA 11 z1/\f 5=si b.1/\f 6=sb c/\f 133=sb t)/\J5 n j d c b R102 t=some r;have c4:=db 4 λ_ _ _ _ e=>∃(c:Bool)(b:d4)(s:Bool),(e 0=bA 8 [bA 2 (FO b.2),si f.Bb,si (BA (f.left-1)),sb f.HR,sb f.tx,sb f.atomic,sb f.loop,vO 1 eS f.held]/\e 1=si d/\e 4=bA 11 z1/\e 5=si b.1/\e 6=sb c/\e 100=sb s)/\J4 n j d f c b s=some r;have c2:=db 2 λ_ _ _ _ e=>∃(c:Bool)(b:d4)(aa:Bool),(e 0=bA 8 [bA 2 (FO b.2),si f.Bb,si (BA (f.left-1)),sb f.HR,sb f.tx,sb f.atomic,sb f.loop,vO 1 eS f.held]/\e 1=si d/\e 4=bA 11 z1/\e 5=si b.1/\e 6=sb c/\e 74=sb aa)/\J2 n j d f c b aa=some r;have c1:=db 1 λ_ _ _ _ e=>∃(b:d4)(c:Bool),(e 0=bA 8 [bA 2 (FO b.2),si f.Bb,si (BA (f.left-1)),sb f.HR,sb f.tx,sb f.atomic,sb f.loop,vO 1 eS f.held]/\e 1=si d/\e 4=bA 11 z1/\e 5=si b.1/\e 6=sb c)/\J1 n j d f b c=some r;unfold Ay at h;exact walk
end
def HO(R102:dC)(b:AO)(d:ABe)(c:Int):ABd ((List AQ)×AO):=
if Ap (b.held.length+1) 16=true then
(Ah b.t 2).bind λe=>
(R102 (AO.mk e.2 b.Bb b.left b.HR b.tx b.atomic b.loop (b.held++[d])) c (BA (1+e.1))).bind λa=>
if 0<=(BA ((a.2.held.length:Int)-1))/\((BA ((a.2.held.length:Int)-1)).toNat)<=a.2.held.length then
some (a.1,(AO.mk a.2.t a.2.Bb a.2.left a.2.HR a.2.tx a.2.atomic a.2.loop (a.2.held.take ((BA ((a.2.held.length:Int)-1)).toNat))))
else none
else none
theorem QX(H102:∀{x0 x1 x2 r},j x0 x1 x2=some r->BD prog 187 [bA 8 (CX x0),si x1,si x2] (vO 11 A7 r.1) [bA 8 (CX r.2),.dead,.dead]){d:ABe}{r:(List AQ)×AO}(h:HO j f d c=some r):BD prog 258 [bA 8 (CX f),BZ d,si c] (vO 11 A7 r.1) [bA 8 (CX r.2),.dead,.dead]:=by refine kL mix func258 (hn [(0,[8,9,10,11,12,16,17,18,20,21,22,23,28,29,30,31,32,33,34,35,39,40]),(7,[41])] (E:=[(3,(.bY [(0,0,12,27)] [i0 27 .fl,i1 28 0 (.cp (.t 0)),i1 29 0 (.Jp (.t 28)),LU 30 0 7 29,Zk 31 0 30,i1 32 0 (.cp (.t 0)),i1 33 0 (.Jp (.t 32)),LU 34 0 7 33,Zk 35 0 34,iZ 36 35,iP 37 .sub 36 1,i0 38 (.slc 1 false (.t 31) none (some (.t 37)) none),i1 39 0 (.Jp (.t 0)),LU 40 0 7 39,iS 1 40 38]))])) ?_;have a1:= @DD;have a2:= @H102;unfold HO at h;exact walk
def E2:Nat->(AO->Int->Int->ABd ((List AQ)×AO))×(AO->Int->ABd (AQ×AO))×(AO->ABe->Int->ABd ((List AQ)×AO))
|0=>((λ_ _ _=>none),(λ_ _=>none),(λ_ _ _=>none))
|n+1=>(CY ((E2 n).2.1),Ay ((E2 n).2.2) ((E2 n).1),HO ((E2 n).1))
def Du(n:Nat):AO->Int->Int->ABd ((List AQ)×AO):=(E2 n).1
def FZ(n:Nat):AO->Int->ABd (AQ×AO):=(E2 n).2.1
def Jn(n:Nat):AO->ABe->Int->ABd ((List AQ)×AO):=(E2 n).2.2
theorem Pa(n:Nat):(∀{x0 x1 x2 r},(Du n) x0 x1 x2=some r->BD prog 187 [bA 8 (CX x0),si x1,si x2] (.own false 11 (r.1.map A7)) [bA 8 (CX r.2),.dead,.dead])/\(∀{x0 x1 r},(FZ n) x0 x1=some r->BD prog 223 [bA 8 (CX x0),si x1] (.agg [si r.1.Op,si r.1.FK,BZ r.1.Name,BZ r.1.Arg,.sl false 4 (r.1.Index.map BH),si r.1.Expr.Op,si r.1.Expr.N,BZ r.1.Expr.Name,.sl false 4 (r.1.Expr.L.map BH),.sl false 11 (r.1.Body.map A7),.sl false 11 (r.1.Else.map A7)]) [bA 8 (CX r.2),.dead])/\(∀{x0 x1 x2 r},(Jn n) x0 x1 x2=some r->BD prog 258 [bA 8 (CX x0),BZ x1,si x2] (.own false 11 (r.1.map A7)) [bA 8 (CX r.2),.dead,.dead]):=by
  induction n with
  |zero=>exact⟨λh=>ET h,λh=>ET h,λh=>ET h⟩
  |succ n ih=>exact⟨λh=>Qb ih.2.1 h,λh=>Rf ih.2.2 ih.1 h,λh=>QX ih.1 h⟩
variable{l:Nat}
def Pb:∀{x0 x1 x2 r},(Du l) x0 x1 x2=some r->BD prog 187 [bA 8 (CX x0),si x1,si x2] (.own false 11 (r.1.map A7)) [bA 8 (CX r.2),.dead,.dead]:=(Pa l).1
def f106c:IC:=(Ra 12 [.b 6 [118,141] (.bx 6 (.t 0)),.b 7 [21,28,33,34,36,37,40,41,43,44,48,49,52,53,57,58,60,61,64,65,67,68,70,71,72,76,77,80,81,83,84,86,87,88,91,92,96,99,102,103,105,106,109,110,112,113,116,117,124,125,126,127,129,130,133,134,135,136,139,140,148,149,150,151,153,154,156,157,158,159,162,175,176,178,179,183,192,193,198,199,204,205,207,208,211,212,214,215] (.bx 4 (.t 1)),.o (.bx 4 (.c (.agg z5))),.K 13 0,.B 14 false]
(Sq (Ra 20 [.A 6 6,.y 7 (.ld true 4 (.t 7)),.C 2,.C 3,.C 4,.c 66 [20,21,22,23,24] 0,.N 25]
(Ci 26 (Rb 27 [.o (.T2 z5 []),.S 4 12 27,.K 13 0,.B 14 false])))
(Ra 28 [.y 7 (.ld true 4 (.t 7)),.c 118 [28] 2,.S 4 7 29]
(Ra 0 [.K 15 0]
(Np 5 (Ra 30 [.C 3]
(Bk 0 (Ra 32 [.q 30 1 31]
(Cn 31 (Rc 33 [.m 7 3 7,.C 2,.J 7 3 34 35,.H 7 0 36,.T 37 2]) (Ra 39 [.q 30 2 38]
(Cn 38 (Rc 40 [.m 7 3 7,.C 2,.J 7 3 41 42,.H 7 0 43,.T 44 5]) (Np 1 (Ra 46 [.q 30 6 45]
(Cn 45 .skip (Rc 47 [.q 30 10 45])))
(Cn 45 (Rc 48 [.m 7 0 7,.C 4,.C 2,.J 7 2 49 50,.H 7 0 52,.S 1 53 51]) (Np 2 (Ra 55 [.q 30 7 54]
(Cn 54 .skip (Rc 56 [.q 30 11 54])))
(Cn 54 (Rc 57 [.m 7 0 7,.C 4,.J 7 2 58 59,.H 7 0 60,.T 61 (-1)]) (Ra 63 [.q 30 8 62]
(Cn 62 (Rc 64 [.m 7 0 7,.C 4,.m 7 0 7,.C 4,.J 7 2 68 69,.m 7 1 70,.C 2,.o (.Nk 1 [[si 0]] [(0,.t 73)]),.c 156 [72,74] 2,.J 7 2 65 66,.H 7 1 76,.S 1 77 75]) (Ra 79 [.q 30 9 78]
(Cn 78 (Rc 80 [.m 7 0 7,.C 4,.m 7 0 7,.C 4,.J 7 2 84 85,.m 7 1 86,.C 2,.c 157 [88,89] 2,.J 7 2 81 82,.H 7 1 91,.S 1 92 90]) (Ra 94 [.q 30 12 93]
(Cn 93 (Rc 95 [.C 2,.F 1 7,.S 1 96 95]) (Ra 98 [.q 30 13 97]
(Cn 97 (Rc 99 [.F 1 7,.T 99 (-1)]) (Ra 101 [.q 30 14 100]
(Cn 100 (Rc 102 [.m 7 3 7,.C 2,.J 7 3 103 104,.H 7 2 105,.x ⟨none,.st 1 (.t 106) (.c (sb true)),none⟩]) (Ra 108 [.q 30 15 107]
(Cn 107 (Rc 109 [.m 7 3 7,.C 2,.J 7 3 110 111,.H 7 2 112,.x ⟨none,.st 1 (.t 113) (.c (sb false)),none⟩]) (Ra 115 [.q 30 16 114]
(Cn 114 (Ra 116 [.m 7 0 7,.f 2 6,.C 4,.I 2 119 120,.U 1 121,.J 7 2 117 123,.H 7 0 124,.T 125 (-1)]
(Rc 126 [.F 3 7,.y 7 (.Xn (.t 126)),.C 2,.F 3 7,.y 7 (.Xn (.t 129)),.C 2,.C 4,.J 7 3 127 128,.H 7 0 133,.x ⟨none,.WU (.t 134) (.c (si 3)),none⟩,.J 7 3 130 131,.H 7 1 135,.x ⟨none,.WU (.t 136) (.t 132),none⟩])) (Ra 138 [.q 30 17 137]
(Cn 137 (Ra 139 [.m 7 0 7,.f 2 6,.C 4,.I 2 142 143,.U 1 144,.C 2,.J 7 2 140 146,.H 7 0 148,.S 1 149 147]
(Rc 150 [.F 3 7,.y 7 (.Xn (.t 150)),.C 2,.F 3 7,.y 7 (.Xn (.t 153)),.C 2,.J 7 3 151 152,.H 7 0 156,.x ⟨none,.WU (.t 157) (.c (si 2)),none⟩,.J 7 3 154 155,.H 7 1 158,.x ⟨none,.WU (.t 159) (.c (si 0)),none⟩])) (Ra 161 [.q 30 18 160]
(Cn 160 (Ra 162 [.y 7 (.ld true 4 (.t 7)),.C 4,.c 119 [162,163] 2,.b 16 [165,168,169,171] (.mv (.t 164))]
(Ra 0 [.K 15 (-1)]
(Ra 165 [.y 16 (.cp (.t 16)),.Z 165,.P .gtr 166 0]
(Ci 167 (Ra 168 [.y 16 (.cp (.t 16)),.y 16 (.WX 1 (.t 168) (.c (si 0))),.L 169,.M 17 170]
(Sq (Ra 171 [.y 16 (.cp (.t 16)),.C 5,.c 65 [171,172] 0]
(Ci 173 (Rc 174 [.C 5,.M 17 174])))
(Ra 175 [.m 7 3 7,.C 17,.J 7 3 176 177,.H 7 0 178,.T 179 4]
(Rc 180 [.C 17,.M 15 180])))))))) (Ra 182 [.q 30 19 181]
(Cn 181 (Ra 183 [.y 7 (.ld true 4 (.t 7)),.C 4,.c 119 [183,184] 2,.b 18 [187,194,196,200] (.mv (.t 185))]
(Sq (Ra 0 [.K 19 0]
(Bl 1 (Sq (Ra 186 [.C 19,.y 18 (.cp (.t 18)),.Z 187,.O .lss 186 188]
(cX 189 1))
(Sq (Bk 2 (Rc 192 [.m 7 3 7,.y 18 (.cp (.t 18)),.C 19,.J 18 1 194 195,.L 196,.J 7 3 193 197,.H 7 0 198,.T 199 4]))
(Rc 190 [.C 19,.P .add 190 1,.M 19 191])))))
(Rc 200 [.y 18 (.cp (.t 18)),.Z 200,.M 15 201]))) (Ra 203 [.q 30 20 202]
(Cn 202 (Rc 204 [.m 7 3 7,.C 4,.J 7 3 205 206,.H 7 0 207,.T 208 1]) (Ra 210 [.q 30 22 209]
(Ci 209 (Rc 211 [.m 7 2 7,.C 4,.J 7 1 212 213,.x ⟨none,.st 1 (.t 214) (.c (sb true)),none⟩])))))))))))))))))))))))))))))))))))
(Rb 215 [.y 7 (.ld true 4 (.t 7)),.C 15,.S 4 12 215,.M 13 216,.B 14 true]))))))
def f106g:Gi:=⟨[(21,[7]),(28,[7]),(33,[7]),(34,[7]),(36,[7]),(37,[7]),(40,[7]),(41,[7]),(43,[7]),(44,[7]),(48,[7]),(49,[7]),(52,[7]),(53,[7]),(57,[7]),(58,[7]),(60,[7]),(61,[7]),(64,[7]),(65,[7]),(67,[7]),(68,[7]),(70,[7]),(71,[7]),(72,[7]),(76,[7]),(77,[7]),(80,[7]),(81,[7]),(83,[7]),(84,[7]),(86,[7]),(87,[7]),(88,[7]),(91,[7]),(92,[7]),(96,[7]),(99,[7]),(102,[7]),(103,[7]),(105,[7]),(106,[7]),(109,[7]),(110,[7]),(112,[7]),(113,[7]),(116,[7]),(117,[7]),(118,[6]),(124,[7]),(125,[7]),(126,[7]),(127,[7]),(129,[7]),(130,[7]),(133,[7]),(134,[7]),(135,[7]),(136,[7]),(139,[7]),(140,[7]),(141,[6]),(148,[7]),(149,[7]),(150,[7]),(151,[7]),(153,[7]),(154,[7]),(156,[7]),(157,[7]),(158,[7]),(159,[7]),(162,[7]),(165,[16]),(168,[16]),(169,[16]),(171,[16]),(175,[7]),(176,[7]),(178,[7]),(179,[7]),(183,[7]),(187,[18]),(192,[7]),(193,[7]),(194,[18]),(196,[18]),(198,[7]),(199,[7]),(200,[18]),(204,[7]),(205,[7]),(207,[7]),(208,[7]),(211,[7]),(212,[7]),(214,[7]),(215,[7])]⟩
def f106r:List RV:=[.cell 12 true 4,.tmp 13,.tmp 14]
namespace DN
def J5(p:AP)(t:Int):ABd (AP×Int×Bool):=
some (p,t,true)
def J3(a:AP)(w:Int):=
(gt a.AA w).bind λad=>
J5 (AP.mk a.AF a.Tx a.Bn (a.AA.set w.toNat (AH.mk 4 ad.Dg ad.Atomic))) w
def J4(i:dc)(au:AP):=
J5 au (i.length:Int)
def L1(i:dc)(L1:AP->Int->ABd (AP×Int×Bool))(j:AP)(l:Int):=
if decide (l<(i.length:Int))then
(gt i l).bind λae=>
(gt j.AA ae).bind λaf=>
L1 (AP.mk j.AF j.Tx j.Bn (j.AA.set ae.toNat (AH.mk 4 af.Dg af.Atomic))) (BA (l+1))
else
J4 i j
def Aa(i:dc):Nat->AP->Int->ABd (AP×Int×Bool)
|0,_,_=>none
|n+1,j,l=>L1 i (Aa i n) j l
def J2(c d b:Int)(a:AP)(f:Int)(e:AD)(s:Bool):=
if s then
(gt a.AF d).bind λbc=>
J5 (AP.mk (a.AF.set d.toNat (AW.mk (-1) bc.Ak)) a.Tx a.Bn a.AA) 0
else
if c==8 then
(gt a.AF d).bind λaj=>
(D8 aj.Ak [b]).bind λaw=>
J5 (AP.mk (a.AF.set d.toNat (AW.mk aj.CG aw)) a.Tx a.Bn a.AA) 0
else
if c==9 then
(gt a.AF d).bind λal=>
(EA al.Ak b).bind λax=>
J5 (AP.mk (a.AF.set d.toNat (AW.mk al.CG ax)) a.Tx a.Bn a.AA) 0
else
if c==12 then
J5 (AP.mk a.AF b a.Bn a.AA) 0
else
if c==13 then
J5 (AP.mk a.AF (-1) a.Bn a.AA) 0
else
if c==14 then
(gt a.AA b).bind λao=>
J5 (AP.mk a.AF a.Tx a.Bn (a.AA.set b.toNat (AH.mk ao.Status ao.Dg true))) 0
else
if c==15 then
(gt a.AA b).bind λap=>
J5 (AP.mk a.AF a.Tx a.Bn (a.AA.set b.toNat (AH.mk ap.Status ap.Dg false))) 0
else
if c==16 then
(gt e.Ai d).bind λaq=>
(gt a.AF aq.Mutex).bind λbd=>
(gt a.AA b).bind λu=>
(gt (a.AA.set b.toNat (AH.mk 3 u.Dg u.Atomic)) b).bind λaa=>
J5 (AP.mk (a.AF.set aq.Mutex.toNat (AW.mk (-1) bd.Ak)) a.Tx a.Bn ((a.AA.set b.toNat (AH.mk 3 u.Dg u.Atomic)).set b.toNat (AH.mk aa.Status d aa.Atomic))) 0
else
if c==17 then
(gt e.Ai d).bind λab=>
(gt a.AF ab.Mutex).bind λaz=>
(gt a.AA b).bind λv=>
(gt (a.AA.set b.toNat (AH.mk 2 v.Dg v.Atomic)) b).bind λac=>
J5 (AP.mk (a.AF.set ab.Mutex.toNat (AW.mk b az.Ak)) a.Tx a.Bn ((a.AA.set b.toNat (AH.mk 2 v.Dg v.Atomic)).set b.toNat (AH.mk ac.Status 0 ac.Atomic))) 0
else
if c==18 then
(C4 a d).bind λx=>
if decide ((x.length:Int)>0)then
(gt x 0).bind λba=>
(GP x f).bind λay=>
if ay then
J3 a f
else
J3 a ba
else
J5 a (-1)
else
if c==19 then
(C4 a d).bind λi=>
Aa i BW a 0
else
if c==20 then
(gt a.AA d).bind λai=>
J5 (AP.mk a.AF a.Tx a.Bn (a.AA.set d.toNat (AH.mk 1 ai.Dg ai.Atomic))) 0
else
if c==22 then
(gt a.Bn d).bind λbe=>
J5 (AP.mk a.AF a.Tx (a.Bn.set d.toNat true) a.AA) 0
else
J5 a 0
def J1(c d b:Int)(a:AP)(f:Int)(e:AD)(q:Bool):=
if q then
(gt a.AF d).bind λbb=>
J5 (AP.mk (a.AF.set d.toNat (AW.mk b bb.Ak)) a.Tx a.Bn a.AA) 0
else
if c==7 then
J2 c d b a f e (c==7)
else
J2 c d b a f e (c==11)
end DN
section
open DN
def DN(e:AD)(o:AP)(b c:Int)(d f:Int):=
(Ch e o b c d).bind λav=>
if !av then
some ((AP.mk [] 0 [] []),0,false)
else
(GM o).bind λa=>
if c==1 then
(gt a.AA b).bind λy=>
J5 (AP.mk a.AF a.Tx a.Bn (a.AA.set b.toNat (AH.mk 2 y.Dg y.Atomic))) 0
else
if c==2 then
(gt a.AA b).bind λz=>
J5 (AP.mk a.AF a.Tx a.Bn (a.AA.set b.toNat (AH.mk 5 z.Dg z.Atomic))) 0
else
if c==6 then
J1 c d b a f e (c==6)
else
J1 c d b a f e (c==10)
theorem NU{e:AD}{o:AP}{b c:Int}{d f:Int}{r:ft}(h:DN e o b c d f=some r):Says prog 106 [.agg (Aq e),.agg (F8 o),si b,si c,si d,si f] (.BQ [.agg (Ht r.1),si r.2.1,sb r.2.2]):=by refine wO mix func106 (I:=⟨f106c,f106g,f106r⟩) ?_;simp only[f106c,f106g,f106r];have a1:= @NW;have a2:= @Q4;have a3:= @Po;have a4:= @UW;have a5:= @NX;have a6:= @Mc;have l1:=da λ_ _ _ _ n a=>∃i j l,(a 7=bA 4 (Ht j)/\a 12=bA 4 z5/\a 18=vO 1 eI i/\a 19=si l)/\Aa i n j l=some r;have c5:=db 5 λ_ _ _ _ a=>∃p t,(a 7=bA 4 (Ht p)/\a 12=bA 4 z5/\a 15=si t)/\J5 p t=some r;have c2:=db 2 λ_ _ _ _ g=>∃a s,(g 2=si b/\g 4=si d/\g 5=si f/\g 6=bA 6 (Aq e)/\g 7=bA 4 (Ht a)/\g 12=bA 4 z5/\g 15=si 0/\g 30=si c/\g 54=sb s)/\J2 c d b a f e s=some r;have c1:=db 1 λ_ _ _ _ g=>∃a q,(g 2=si b/\g 4=si d/\g 5=si f/\g 6=bA 6 (Aq e)/\g 7=bA 4 (Ht a)/\g 12=bA 4 z5/\g 15=si 0/\g 30=si c/\g 45=sb q)/\J1 c d b a f e q=some r;unfold DN at h;exact walk
end
namespace As
def Oz:=
some true
def J9(L3:df)(b:Int):=
L3 (BA (b+1))
def J8(L3:df)(b:Int)(s:Bool):=
if s then
some false
else
J9 L3 b
def J7(L3:df)(b:Int)(a:AD)(c:Dk)(q:Bool):=
if q then
if c.Stmt != 0 then
J8 L3 b true
else
if decide (b>0)then
(gt a.BU (BA (b-1))).bind λy=>
J8 L3 b (decide (y.Thread>c.Thread))
else
J8 L3 b false
else
(gt a.BU (BA (b-1))).bind λz=>
if c.Stmt != (BA (z.Stmt+1))then
some false
else
J9 L3 b
def J6(L3:df)(b:Int)(a:AD)(c:Dk)(i:Bool):=
if i then
some false
else
if b==0 then
J7 L3 b a c true
else
(gt a.BU (BA (b-1))).bind λx=>
J7 L3 b a c (x.Thread != c.Thread)
def L3(a:AD)(L3:df)(b:Int):=
if decide (b<(a.BU.length:Int))then
(gt a.BU b).bind λc=>
if decide (c.Thread<0)then
J6 L3 b a c true
else
J6 L3 b a c (decide (c.Thread>=(a.AA.length:Int)))
else
Oz
def Gg(a:AD):Nat->Int->ABd Bool
|0,_=>none
|n+1,b=>L3 a (Gg a n) b
def J5(a:AD):=
Gg a BW 0
def J4(L2:df)(f:Int)(p:Bool):=
if p then
some false
else
L2 (BA (f+1))
def L2(a:AD)(L2:df)(f:Int):=
if decide (f<(a.Ai.length:Int))then
(gt a.Ai f).bind λl=>
if decide (l.Mutex<0)then
J4 L2 f true
else
if decide (l.Mutex>=(a.AF.length:Int))then
J4 L2 f true
else
(gt a.AF l.Mutex).bind λw=>
J4 L2 f w.RW
else
J5 a
def DF(a:AD):Nat->Int->ABd Bool
|0,_=>none
|n+1,f=>L2 a (DF a n) f
def J3(a:AD):=
DF a BW 0
def J2(L1:df)(d:Int)(t:Bool):=
if t then
some false
else
L1 (BA (d+1))
def L1(e:gr)(a:AD)(L1:df)(d:Int):=
if decide (d<(e.1.length:Int))then
(gt e.1 d).bind λo=>
(B5 o).bind λu=>
if !u then
J2 L1 d true
else
if 0<=d/\d.toNat<=e.1.length then
(CU (e.1.take d.toNat) o).bind λv=>
J2 L1 d (decide (v>=0))
else none
else
J3 a
def Aa(e:gr)(a:AD):Nat->Int->ABd Bool
|0,_=>none
|n+1,d=>L1 e a (Aa e a n) d
def J1(a:AD)(j:Bool):=
if j then
some false
else
(BR a).bind λe=>
if !e.2 then
some false
else
Aa e a BW 0
end As
section
open As
def As(a:AD):=
if decide ((a.Cells.length:Int)>12)then
J1 a true
else
if decide ((a.AF.length:Int)>4)then
J1 a true
else
if decide ((a.Ai.length:Int)>2)then
J1 a true
else
if decide ((a.AK.length:Int)>2)then
J1 a true
else
if decide ((a.AA.length:Int)<1)then
J1 a true
else
if decide ((a.AA.length:Int)>4)then
J1 a true
else
J1 a (decide ((a.BU.length:Int)>60))
theorem I1{a:AD}{r:Bool}(h:As a=some r):Says prog 50 [.agg (Aq a)] (sb r):=by refine kO mix func50 (hn [(1,[10,15,21,27,33,39,45,81,87,97,103,111,117,128,136,154,168]),(9,[122,126,143,147,161,166])] [(2,1),(30,6)]) ?_;have a1:= @YF;have a2:= @Hp;have a3:= @HY;have l3:=da λ_ _ _ _ n c=>∃b,(c 1=bA 6 (Aq a)/\c 8=si b)/\Gg a n b=some r;have l2:=da λ_ _ _ _ n b=>∃f,(b 1=bA 6 (Aq a)/\b 6=si f)/\DF a n f=some r;have l1:=da λ_ _ _ _ n b=>∃(e:gr)(d:Int),(b 1=bA 6 (Aq a)/\b 3=vS 1 eS e.1/\b 5=si d)/\Aa e a n d=some r;have c6:=db 6 λ_ _ d _ e=>∃b c i,(e 1=bA 6 (Aq a)/\e 8=si b/\e 9=bA 3 (Gb c)/\e 132=sb i)/\J6 (Gg a d) b a c i=some r;have c1:=db 1 λ_ _ _ _ b=>∃j,(b 1=bA 6 (Aq a)/\b 49=sb j)/\J1 a j=some r;unfold As at h;exact walk
end
namespace D6
def J3(i:Int):ABd Int:=
some i
def J2(L1:gm)(R100:fv)(a:BE)(d:Int)(b:AR)(e c:Int)(j:Bool):=
if j then
(gt a.L d).bind λq=>
(R100 b c q).bind λp=>
L1 p (BA (d+1))
else
J3 e
def L1(R100:fv)(a:BE)(b:AR)(c:Int)(L1:gm)(e d:Int):=
if decide (d<(a.L.length:Int))then
J2 L1 R100 a d b e c (e==0)
else
J2 L1 R100 a d b e c false
def Aa(R100:fv)(a:BE)(b:AR)(c:Int):Nat->Int->Int->ABd Int
|0,_,_=>none
|n+1,e,d=>L1 R100 a b c (Aa R100 a b c n) e d
def J1(R100:fv)(a:BE)(b:AR)(c f:Int):=
Aa R100 a b c BW f 0
end D6
variable{p:fv}{g:BE}
section
open D6
def D6(R100:fv)(b:AR)(c:Int)(a:BE):=
if a.Op==2 then
(DT b c a.Name 8 1).bind λl=>
J1 R100 a b c l
else
if a.Op==3 then
(DT b c a.Name 2 2).bind λo=>
J1 R100 a b c o
else
J1 R100 a b c 0
theorem X9(H100:∀{x0 x1 x2 e},p x0 x1 x2=some e->Says prog 281 [.agg (CS x0),si x1,.agg [si x2.Op,si x2.N,BZ x2.Name,vS 4 BH x2.L]] (si e)){b:AR}(h:D6 p b c g=some e):Says prog 281 [.agg (CS b),si c,.agg [si g.Op,si g.N,BZ g.Name,vS 4 BH g.L]] (si e):=by refine kO mix func281 (hn [(5,[9,15,22,26,38])] [(2,1)]) ?_;have a1:= @H100;have a2:= @Q0;have l1:=da λ_ _ _ _ n f=>∃r d,(f 1=si c/\f 3=bA 2 (CS b)/\f 5=bA 4 [si g.Op,si g.N,BZ g.Name,vS 4 BH g.L]/\f 7=si r/\f 8=si d)/\Aa p g b c n r d=some e;have c1:=db 1 λ_ _ _ _ d=>∃f,(d 1=si c/\d 3=bA 2 (CS b)/\d 5=bA 4 [si g.Op,si g.N,BZ g.Name,vS 4 BH g.L]/\d 7=si f)/\J1 p g b c f=some e;unfold D6 at h;exact walk
end
def TS:Nat->(AR->Int->BE->ABd Int)
|0=>(λ_ _ _=>none)
|n+1=>D6 ((TS n))
def Il(n:Nat):AR->Int->BE->ABd Int:=(TS n)
theorem Vq(n:Nat):(∀{x0 x1 x2 r},(Il n) x0 x1 x2=some r->Says prog 281 [.agg (CS x0),si x1,.agg [si x2.Op,si x2.N,BZ x2.Name,.sl false 4 (x2.L.map BH)]] (si r)):=by
  induction n with
  |zero=>exactλh=>ET h
  |succ n ih=>exactλh=>X9 ih h
def Vr{n:Nat}:∀{x0 x1 x2 r},(Il n) x0 x1 x2=some r->Says prog 281 [.agg (CS x0),si x1,.agg [si x2.Op,si x2.N,BZ x2.Name,.sl false 4 (x2.L.map BH)]] (si r):=(Vq n)
namespace Dd
def J3:ABd (AM×Bool):=
some ((AM.mk 0 [] [] 0),false)
def J2(L1:AM->Int->ABd (AM×Bool))(a:Az)(c:Int)(b:AM)(f:Bool):=
if f then
some ((AM.mk 0 [] [] 0),false)
else
(gt a.Br b.PC).bind λj=>
(Fp j.Op).bind λo=>
if !o then
some (b,true)
else
if c==(a.Br.length:Int)then
some ((AM.mk 0 [] [] 0),false)
else
(ER j b).bind λi=>
if !i.2 then
some ((AM.mk 0 [] [] 0),false)
else
L1 i.1 (BA (c+1))
def L1(a:Az)(L1:AM->Int->ABd (AM×Bool))(b:AM)(c:Int):=
if decide (c<=(a.Br.length:Int))then
if decide (b.PC<0)then
J2 L1 a c b true
else
J2 L1 a c b (decide (b.PC>=(a.Br.length:Int)))
else
J3
def Aa(a:Az):Nat->AM->Int->ABd (AM×Bool)
|0,_,_=>none
|n+1,b,c=>L1 a (Aa a n) b c
def J1(a:Az)(d:AM)(e:Bool):=
if e then
some ((AM.mk 0 [] [] 0),false)
else
(E6 d).bind λl=>
Aa a BW l 0
end Dd
section
open Dd
def Dd(a:Az)(d:AM):=
if(d.Ck.length:Int) != a.Ck then
J1 a d true
else
J1 a d ((d.Cd.length:Int) != a.Ck)
theorem Vv{a:Az}{d:AM}{r:AM×Bool}(h:Dd a d=some r):Says prog 214 [.agg (Cf a),.agg (E0 d)] (.BQ [.agg (B2 r.1),sb r.2]):=by refine kO mix func214 (hn [(2,[13,20,28,40,46,58]),(3,[10,11,17,18,25,34,38,48,56,65]),(7,[52]),(8,[72]),(9,[69]),(66,[63,67,68])] [(2,1),(11,2)]) ?_;have a1:= @Q3;have a2:= @OY;have a3:= @ZT;have l1:=da λ_ _ _ _ n d=>∃b c,(d 2=bA 2 (Cf a)/\d 3=bA 4 (B2 b)/\d 4=bA 4 z9/\d 6=si c)/\Aa a n b c=some r;have c2:=db 2 λd _ _ _ e=>∃c b f,(e 2=bA 2 (Cf a)/\e 3=bA 4 (B2 b)/\e 4=bA 4 z9/\e 6=si c/\e 44=sb f)/\J2 (Aa a d) a c b f=some r;have c1:=db 1 λ_ _ _ _ b=>∃e,(b 2=bA 2 (Cf a)/\b 3=bA 4 (E0 d)/\b 4=bA 4 z9/\b 23=sb e)/\J1 a d e=some r;unfold Dd at h;exact walk
end
namespace Be
def J4(a:AD):ABd Bool:=
(Cb a).bind λl=>
some l
def L1(a:AD)(L1:df)(b:Int):=
if decide (b<(a.Ai.length:Int))then
(gt a.Ai b).bind λo=>
(Fu a o.Mutex false).bind λj=>
if !j then
some false
else
L1 (BA (b+1))
else
J4 a
def Aa(a:AD):Nat->Int->ABd Bool
|0,_=>none
|n+1,b=>L1 a (Aa a n) b
def J3(a:AD)(e:Bool):=
if e then
some false
else
Aa a BW 0
def J2(a:AD)(d:Bool):=
if d then
some false
else
(AY a.Cells).bind λf=>
if !f.2 then
J3 a true
else
(BK a f.1).bind λi=>
J3 a (!i)
def J1(a:AD)(c:Bool):=
if c then
some false
else
if decide ((a.AA.length:Int)<1)then
J2 a true
else
J2 a (decide ((a.AA.length:Int)>4))
end Be
section
open Be
def Be(a:AD):=
if decide ((a.Cells.length:Int)>12)then
J1 a true
else
if decide ((a.AF.length:Int)>4)then
J1 a true
else
if decide ((a.Ai.length:Int)>2)then
J1 a true
else
if decide ((a.AK.length:Int)>2)then
J1 a true
else
J1 a (decide ((a.BU.length:Int)>60))
theorem Lq{a:AD}{r:Bool}(h:Be a=some r):Says prog 43 [.agg (Aq a)] (sb r):=by refine kO mix func43 (hn [(1,[7,12,18,24,30,35,40,46,59]),(3,[55]),(4,[51]),(6,[67]),(48,[45,49,50])] [(2,1),(5,2),(9,3)]) ?_;have a1:= @Oh;have a2:= @Oj;have a3:= @SU;have a4:= @Oi;have l1:=da λ_ _ _ _ n c=>∃b,(c 1=bA 6 (Aq a)/\c 60=vS 2 Hx a.Ai/\c 61=si (a.Ai.length:Int)/\c 62=si b)/\Aa a n b=some r;have c3:=db 3 λ_ _ _ _ b=>∃e,(b 1=bA 6 (Aq a)/\b 58=sb e)/\J3 a e=some r;have c2:=db 2 λ_ _ _ _ b=>∃d,(b 1=bA 6 (Aq a)/\b 44=sb d)/\J2 a d=some r;have c1:=db 1 λ_ _ _ _ b=>∃c,(b 1=bA 6 (Aq a)/\b 34=sb c)/\J1 a c=some r;unfold Be at h;exact walk
end
namespace MR
def J5(f:FC)(l:Bool):ABd (FC×Bool):=
some (f,l)
def J4(f:FC):=
if f.State==3 then
J5 f ((f.AF.length:Int)==0)
else
J5 f false
def J3(b:Bool)(i:FC):=
if b then
J4 (FC.mk 3 i.CG i.AF)
else
J4 i
def J2(d:dc)(a:FC)(b j:Bool):=
if j then
(Ka a.AF d).bind λq=>
J3 b (FC.mk a.State 0 q)
else
some ((FC.mk 0 0 []),false)
def J1(a:FC)(c:Int)(b:Bool)(d:dc):=
if a.State==0 then
some ((FC.mk 1 c []),false)
else
if a.State==1 then
if c==a.CG then
some ((FC.mk 1 c []),false)
else
(OR d).bind λp=>
J3 b (FC.mk 2 0 p)
else
if a.State==2 then
J2 d a b (a.State==2)
else
J2 d a b (a.State==3)
end MR
section
open MR
def MR(a:FC)(c:Int)(b:Bool)(e:FL):=
if !b then
(Of [e.Hb,e.M9]).bind λo=>
J1 a c b o
else
J1 a c b e.Hb
theorem lockset_Step_ok{a:FC}{c:Int}{b:Bool}{e:FL}{r:FC×Bool}(h:MR a c b e=some r):Says prog 61 [.agg (mB a),si c,sb b,.agg (MH e)] (.BQ [.agg (mB r.1),sb r.2]):=by refine kF mix func61 (hn [(4,[22,32,43,45]),(7,[12,16,18]),(11,[51,53,57])] [(2,1)] [(116,1)]) ?_;have a1:= @Xp;have a2:= @fN;have a3:= @zC;have c1:=db 1 λ_ _ _ _ e=>∃d,(e 1=si c/\e 2=sb b/\e 4=bA 3 (mB a)/\e 8=bA 3 [si 0,si 0,.own false 1 []]/\e 10=vS 1 eI d)/\J1 a c b d=some r;unfold MR at h;exact walk
end
namespace Co
def J3(d:Bool):ABd Bool:=
some d
def J2(a:EX)(c:Bool):=
if c then
some false
else
if decide (a.Init>(-9223372036854775808))then
if a.Init==0 then
J3 true
else
if a.Kind==1 then
J3 true
else
J3 (a.Kind==2)
else
J3 false
def J1(a:EX)(b:Bool):=
if b then
some false
else
if a.Kind==5 then
(B5 a.On).bind λf=>
if !f then
J2 a true
else
if a.Kind != 5 then
J2 a (!(a.On.toList==(⟨#[]⟩:ABe).toList))
else
J2 a false
else
if a.Kind != 5 then
J2 a (!(a.On.toList==(⟨#[]⟩:ABe).toList))
else
J2 a false
end Co
section
open Co
def Co(a:EX):=
if decide (a.Kind<1)then
J1 a true
else
if decide (a.Kind>6)then
J1 a true
else
(B5 a.Name).bind λe=>
if !e then
J1 a true
else
if decide (a.Bq<0)then
J1 a true
else
if a.Kind != 1 then
J1 a (a.Bq != 0)
else
J1 a false
theorem Qf{a:EX}{r:Bool}(h:Co a=some r):Says prog 244 [.agg (Jj a)] (sb r):=by refine kO mix func244 (hn [(1,[3,7,12,18,23,27,32,36,42,46,51,55,59,64])] [(2,1),(5,2)]) ?_;have a1:= @Hp;have c2:=db 2 λ_ _ _ _ b=>∃c,(b 1=bA 6 (Jj a)/\b 50=sb c)/\J2 a c=some r;have c1:=db 1 λ_ _ _ _ c=>∃b,(c 1=bA 6 (Jj a)/\c 31=sb b)/\J1 a b=some r;unfold Co at h;exact walk
end
namespace Dm
def J2(j:Bool):ABd Bool:=
some j
def J3(l:Bool):ABd Bool:=
some l
def J1(b c:Int)(d:AP)(e:Int)(a:AD)(f:Bool):=
if f then
some false
else
(gt d.AA e).bind λi=>
if b==1 then
some (i.Status==1)
else
if b==17 then
if i.Status==4 then
if i.Dg==c then
(gt a.Ai c).bind λt=>
(gt d.AF t.Mutex).bind λu=>
J2 (u.CG==(-1))
else
J2 false
else
J2 false
else
if i.Status==2 then
(EK a d e b c).bind λs=>
J3 s
else
J3 false
end Dm
section
open Dm
def Dm(a:AD)(d:AP)(e b c:Int):=
(EM a d).bind λo=>
if !o then
J1 b c d e a true
else
(DP e (a.AA.length:Int)).bind λp=>
if !p then
J1 b c d e a true
else
(CT a b c).bind λq=>
J1 b c d e a (!q)
theorem MV{a:AD}{d:AP}{e b c:Int}{r:Bool}(h:Dm a d e b c=some r):Says prog 146 [.agg (Aq a),.agg (F8 d),si e,si b,si c] (sb r):=by refine kO mix func146 (hn [(5,[18,56]),(6,[31,54]),(11,[39,44,48,67])] [(2,1)]) ?_;have a1:= @Vg;have a2:= @Ku;have a3:= @JY;have a4:= @S6;have c1:=db 1 λ_ _ _ _ g=>∃f,(g 2=si e/\g 3=si b/\g 4=si c/\g 5=bA 6 (Aq a)/\g 6=bA 4 (F8 d)/\g 30=sb f)/\J1 b c d e a f=some r;unfold Dm at h;exact walk
end
namespace AX
def J6:=
some true
def J5(L1:df)(b:Int):=
L1 (BA (b+1))
def L2(L1:df)(a:Az)(b:Int)(f:dc)(L2:df)(i:Int):=
if decide (i<(f.length:Int))then
(gt f i).bind λab=>
(Da ab a.Ck).bind λy=>
if !y then
some false
else
L2 (BA (i+1))
else
J5 L1 b
def DF(L1:df)(a:Az)(b:Int)(f:dc):Nat->Int->ABd Bool
|0,_=>none
|n+1,i=>L2 L1 a b f (DF L1 a b f n) i
def J4(L1:df)(a:Az)(b:Int)(c:Ad)(l:Bool):=
if l then
some false
else
(AZ c).bind λf=>
DF L1 a b f BW 0
def J3(L1:df)(a:Az)(b:Int)(c:Ad)(j:Bool):=
if j then
some false
else
if c.Op==5 then
(Da c.A (a.Br.length:Int)).bind λv=>
if !v then
J4 L1 a b c true
else
if c.Op==10 then
(Da c.B (a.Br.length:Int)).bind λw=>
J4 L1 a b c (!w)
else
J4 L1 a b c false
else
if c.Op==10 then
(Da c.B (a.Br.length:Int)).bind λx=>
J4 L1 a b c (!x)
else
J4 L1 a b c false
def J2(L1:df)(a:Az)(b e:Int)(d:AD)(c:Ad)(p:Bool):=
if p then
some false
else
if c.Op==28 then
if c.Site != (-1)then
J3 L1 a b c true
else
if c.Op != 28 then
(Da c.Site (d.BU.length:Int)).bind λt=>
if !t then
J3 L1 a b c true
else
(gt d.BU c.Site).bind λz=>
J3 L1 a b c (z.Thread != e)
else
J3 L1 a b c false
else
if c.Op != 28 then
(Da c.Site (d.BU.length:Int)).bind λu=>
if !u then
J3 L1 a b c true
else
(gt d.BU c.Site).bind λaa=>
J3 L1 a b c (aa.Thread != e)
else
J3 L1 a b c false
def L1(a:Az)(e:Int)(d:AD)(L1:df)(b:Int):=
if decide (b<(a.Br.length:Int))then
(gt a.Br b).bind λc=>
if decide (c.Op<1)then
J2 L1 a b e d c true
else
if decide (c.Op>28)then
J2 L1 a b e d c true
else
if !((c.Op==28)==(b==(BA ((a.Br.length:Int)-1))))then
J2 L1 a b e d c true
else
(AN d c).bind λq=>
if !q then
J2 L1 a b e d c true
else
(CJ a.Br b).bind λs=>
J2 L1 a b e d c (!s)
else
J6
def Aa(a:Az)(e:Int)(d:AD):Nat->Int->ABd Bool
|0,_=>none
|n+1,b=>L1 a e d (Aa a e d n) b
def J1(a:Az)(e:Int)(d:AD)(o:Bool):=
if o then
some false
else
Aa a e d BW 0
end AX
section
open AX
def AX(d:AD)(e:Int)(a:Az):=
if decide (a.Ck<0)then
J1 a e d true
else
if decide (a.Ck>32)then
J1 a e d true
else
J1 a e d ((a.Br.length:Int)==0)
theorem Pn{d:AD}{e:Int}{a:Az}{r:Bool}(h:AX d e a=some r):Says prog 179 [.agg (Aq d),si e,.agg (Cf a)] (sb r):=by refine kO mix func179 (hn [(3,[83,89]),(5,[12,15,19,32,62,135]),(9,[37,41,46,68,72,77,81,91,101,105,112,116]),(10,[126,131,133])] [(3,1),(12,2),(15,3),(18,4)]) ?_;have a1:= @JO;have a2:= @Pm;have a3:= @UU;have a4:= @YE;have l1:=da λ_ _ _ _ n c=>∃b,(c 1=si e/\c 3=bA 6 (Aq d)/\c 5=bA 2 (Cf a)/\c 7=si (a.Br.length:Int)/\c 8=si b)/\Aa a e d n b=some r;have l2:=da λc _ _ _ n g=>∃b f i,(g 1=si e/\g 3=bA 6 (Aq d)/\g 5=bA 2 (Cf a)/\g 7=si (a.Br.length:Int)/\g 8=si b/\g 10=vO 1 eI f/\g 11=si i)/\DF (Aa a e d c) a b f n i=some r;have c4:=db 4 λf _ _ _ g=>∃b c l,(g 1=si e/\g 3=bA 6 (Aq d)/\g 5=bA 2 (Cf a)/\g 7=si (a.Br.length:Int)/\g 8=si b/\g 9=bA 6 (EF c)/\g 122=sb l)/\J4 (Aa a e d f) a b c l=some r;have c3:=db 3 λf _ _ _ g=>∃b c j,(g 1=si e/\g 3=bA 6 (Aq d)/\g 5=bA 2 (Cf a)/\g 7=si (a.Br.length:Int)/\g 8=si b/\g 9=bA 6 (EF c)/\g 100=sb j)/\J3 (Aa a e d f) a b c j=some r;have c2:=db 2 λf _ _ _ g=>∃b c p,(g 1=si e/\g 3=bA 6 (Aq d)/\g 5=bA 2 (Cf a)/\g 7=si (a.Br.length:Int)/\g 8=si b/\g 9=bA 6 (EF c)/\g 67=sb p)/\J2 (Aa a e d f) a b e d c p=some r;have c1:=db 1 λ_ _ _ _ b=>∃o,(b 1=si e/\b 3=bA 6 (Aq d)/\b 5=bA 2 (Cf a)/\b 7=si (a.Br.length:Int)/\b 26=sb o)/\J1 a e d o=some r;unfold AX at h;exact walk
end
namespace Ca
def J3:=
some true
def L1(R100:ij)(a:BE)(L1:df)(b:Int):=
if decide (b<(a.L.length:Int))then
(gt a.L b).bind λj=>
(R100 j).bind λi=>
if !i then
some false
else
L1 (BA (b+1))
else
J3
def Aa(R100:ij)(a:BE):Nat->Int->ABd Bool
|0,_=>none
|n+1,b=>L1 R100 a (Aa R100 a n) b
def J2(R100:ij)(a:BE)(d:Bool):=
if d then
some false
else
Aa R100 a BW 0
def J1(R100:ij)(a:BE)(c:Bool):=
(D5 a.Op).bind λe=>
if e != (a.L.length:Int)then
J2 R100 a true
else
if !(c==(!(a.Name.toList==(⟨#[]⟩:ABe).toList)))then
J2 R100 a true
else
if c then
(B5 a.Name).bind λf=>
if !f then
J2 R100 a true
else
if decide (a.N<0)then
J2 R100 a true
else
if a.Op != 1 then
J2 R100 a (a.N != 0)
else
J2 R100 a false
else
if decide (a.N<0)then
J2 R100 a true
else
if a.Op != 1 then
J2 R100 a (a.N != 0)
else
J2 R100 a false
end Ca
variable{o:ij}
section
open Ca
def Ca(R100:ij)(a:BE):=
if a.Op==2 then
J1 R100 a true
else
J1 R100 a (a.Op==3)
theorem Qd(H100:∀{x0 r},o x0=some r->Says prog 277 [.agg [si x0.Op,si x0.N,BZ x0.Name,vS 4 BH x0.L]] (sb r)){r:Bool}(h:Ca o g=some r):Says prog 277 [.agg [si g.Op,si g.N,BZ g.Name,vS 4 BH g.L]] (sb r):=by refine kO mix func277 (hn [(1,[5,9,13,16,22,30,37,42,46,52,58])] [(1,1),(3,2)]) ?_;have a1:= @H100;have a2:= @TP;have a3:= @Hp;have l1:=da λ_ _ _ _ n c=>∃b,(c 1=bA 4 [si g.Op,si g.N,BZ g.Name,vS 4 BH g.L]/\c 4=si b)/\Aa o g n b=some r;have c2:=db 2 λ_ _ _ _ b=>∃d,(b 1=bA 4 [si g.Op,si g.N,BZ g.Name,vS 4 BH g.L]/\b 50=sb d)/\J2 o g d=some r;have c1:=db 1 λ_ _ _ _ b=>∃c,(b 1=bA 4 [si g.Op,si g.N,BZ g.Name,vS 4 BH g.L]/\b 3=sb c)/\J1 o g c=some r;unfold Ca at h;exact walk
end
def Mb:Nat->(BE->ABd Bool)
|0=>(λ_=>none)
|n+1=>Ca ((Mb n))
def DE(n:Nat):BE->ABd Bool:=(Mb n)
theorem Ph(n:Nat):(∀{x0 r},(DE n) x0=some r->Says prog 277 [.agg [si x0.Op,si x0.N,BZ x0.Name,.sl false 4 (x0.L.map BH)]] (sb r)):=by
  induction n with
  |zero=>exactλh=>ET h
  |succ n ih=>exactλh=>Qd ih h
def Kw{n:Nat}:∀{x0 r},(DE n) x0=some r->Says prog 277 [.agg [si x0.Op,si x0.N,BZ x0.Name,.sl false 4 (x0.L.map BH)]] (sb r):=(Ph n)
namespace CH
def L1(R100:fy)(a:d5)(L1:BB->Int->ABd BB)(c:BB)(b:Int):=
if decide (b<(a.length:Int))then
(gt a b).bind λf=>
(R100 c f).bind λe=>
L1 e (BA (b+1))
else
some c
def Aa(R100:fy)(a:d5):Nat->BB->Int->ABd BB
|0,_,_=>none
|n+1,c,b=>L1 R100 a (Aa R100 a n) c b
end CH
variable{k:fy}{b r:BB}
section
open CH
def CH(R100:fy)(d:BB)(a:d5):=
Aa R100 a BW d 0
theorem Ro(H100:∀{x0 x1 r},k x0 x1=some r->BD prog 222 [bA 10 (EN x0),.agg [si x1.Op,si x1.FK,BZ x1.Name,BZ x1.Arg,vS 4 BH x1.Index,si x1.Expr.Op,si x1.Expr.N,BZ x1.Expr.Name,vS 4 BH x1.Expr.L,vS 11 A7 x1.Body,vS 11 A7 x1.Else]] (.BQ []) [bA 10 (EN r),.dead]){a:d5}(h:CH k b a=some r):BD prog 183 [bA 10 (EN b),vS 11 A7 a] (.BQ []) [bA 10 (EN r),.dead]:=by refine kL mix func183 (hn [(0,[11])]) ?_;have a1:= @H100;have l1:=da λ_ _ _ _ n b=>∃c d,(b 0=bA 10 (EN c)/\b 1=vS 11 A7 a/\b 4=si d)/\Aa k a n c d=some r;unfold CH at h;exact walk
end
namespace Cc
def J1(R101:fy)(R102:fw)(a:BB)(b:AQ)(c:Bool):ABd BB:=
if c then
(R101 (BB.mk a.w a.locals a.out a.next (BA (a.next+1))) b).bind λl=>
some l
else
if b.Op==4 then
(Dv a.w.AF b.Name).bind λw=>
(R102 (BB.mk a.w a.locals a.out a.next (BA (a.next+1))) b 11 12 w).bind λac=>
some ac
else
if b.Op==5 then
(Dv a.w.AF b.Name).bind λad=>
(R102 (BB.mk a.w a.locals a.out a.next (BA (a.next+1))) b 13 14 ad).bind λae=>
some ae
else
if b.Op==6 then
(Dv a.w.AF b.Name).bind λaf=>
(R102 (BB.mk a.w a.locals a.out a.next (BA (a.next+1))) b 15 16 af).bind λai=>
some ai
else
if b.Op==7 then
(R102 (BB.mk a.w a.locals a.out a.next (BA (a.next+1))) b 17 18 0).bind λaj=>
some aj
else
if b.Op==8 then
(R102 (BB.mk a.w a.locals a.out a.next (BA (a.next+1))) b 19 20 0).bind λal=>
some al
else
if b.Op==9 then
(CV (BB.mk a.w a.locals a.out a.next (BA (a.next+1))) b.Name).bind λd=>
(A6 d.2 (Ad.mk 21 d.1 0 0 0 0)).bind λo=>
some o
else
if b.Op==10 then
(CV (BB.mk a.w a.locals a.out a.next (BA (a.next+1))) b.Name).bind λe=>
(A6 e.2 (Ad.mk 22 e.1 0 0 0 0)).bind λp=>
some p
else
if b.Op==11 then
(CV (BB.mk a.w a.locals a.out a.next (BA (a.next+1))) b.Name).bind λf=>
(A6 f.2 (Ad.mk 23 f.1 0 0 0 0)).bind λq=>
some q
else
if b.Op==12 then
(CU a.w.AA b.Name).bind λs=>
(A6 (BB.mk a.w a.locals a.out a.next (BA (a.next+1))) (Ad.mk 24 s 0 0 0 0)).bind λt=>
some t
else
if b.Op==13 then
(CU a.w.AA b.Name).bind λu=>
(A6 (BB.mk a.w a.locals a.out a.next (BA (a.next+1))) (Ad.mk 25 u 0 0 0 0)).bind λv=>
some v
else
if b.Op==14 then
(Cp BW (BB.mk a.w a.locals a.out a.next (BA (a.next+1))) b.Expr (a.locals.length:Int)).bind λi=>
(CU i.w.AK b.Name).bind λx=>
(A6 i (Ad.mk 26 x (a.locals.length:Int) 0 0 0)).bind λy=>
some y
else
if b.Op==15 then
(CU a.locals b.Name).bind λz=>
(CU a.w.AK b.Arg).bind λaa=>
(A6 (BB.mk a.w a.locals a.out a.next (BA (a.next+1))) (Ad.mk 27 z aa 0 0 0)).bind λab=>
some ab
else
some (BB.mk a.w a.locals a.out a.next (BA (a.next+1)))
end Cc
variable{m:fw}{a:AQ}
section
open Cc
def Cc(R101:fy)(R102:fw)(a:BB)(b:AQ):=
if b.Op==1 then
(Fe (BB.mk a.w a.locals a.out a.next (BA (a.next+1))) b).bind λj=>
some j
else
if b.Op==2 then
J1 R101 R102 a b (b.Op==2)
else
J1 R101 R102 a b (b.Op==3)
theorem TZ(H101:∀{x0 x1 r},k x0 x1=some r->BD prog 250 [bA 10 (EN x0),.agg [si x1.Op,si x1.FK,BZ x1.Name,BZ x1.Arg,vS 4 BH x1.Index,si x1.Expr.Op,si x1.Expr.N,BZ x1.Expr.Name,vS 4 BH x1.Expr.L,vS 11 A7 x1.Body,vS 11 A7 x1.Else]] (.BQ []) [bA 10 (EN r),.dead])(H102:∀{x0 x1 x2 x3 x4 r},m x0 x1 x2 x3 x4=some r->BD prog 251 [bA 10 (EN x0),.agg [si x1.Op,si x1.FK,BZ x1.Name,BZ x1.Arg,vS 4 BH x1.Index,si x1.Expr.Op,si x1.Expr.N,BZ x1.Expr.Name,vS 4 BH x1.Expr.L,vS 11 A7 x1.Body,vS 11 A7 x1.Else],si x2,si x3,si x4] (.BQ []) [bA 10 (EN r),.dead,.dead,.dead,.dead])(h:Cc k m b a=some r):BD prog 222 [bA 10 (EN b),.agg [si a.Op,si a.FK,BZ a.Name,BZ a.Arg,vS 4 BH a.Index,si a.Expr.Op,si a.Expr.N,BZ a.Expr.Name,vS 4 BH a.Expr.L,vS 11 A7 a.Body,vS 11 A7 a.Else]] (.BQ []) [bA 10 (EN r),.dead]:=by refine kL mix func222 (hn [(0,[5,6,7,8,10,11,12,13,14,17,18,19,20,21,22,28,34,39,41,42,43,44,45,52,54,55,56,57,58,65,67,68,69,70,71,78,83,88,89,97,98,106,107,115,116,117,118,119,120,128,129,130,131,132,133,141,146,147,148,149,150,151,160,161,162,163,164,168,169,170,171,172]),(3,[24,46,59,72,90,99,108,121,134,142,152,165,173])] [(6,1)]) ?_;have a1:= @Qh;have a2:= @H101;have a3:= @Oa;have a4:= @H102;have a5:= @TY;have a6:= @Gl;have a7:= @HY;have a8:= @I2;have c1:=db 1 λ_ _ _ _ d=>∃c,(d 0=bA 10 [vS 5 Gy b.w.Cells,vS 2 Hy b.w.AF,vS 2 Hx b.w.Ai,vS 1 eS b.w.AK,vS 1 eS b.w.AA,vS 3 Gb b.w.BU,vS 1 eS b.locals,vO 6 EF b.out,si b.next,si (BA (b.next+1))]/\d 3=bA 11 [si a.Op,si a.FK,BZ a.Name,BZ a.Arg,vS 4 BH a.Index,si a.Expr.Op,si a.Expr.N,BZ a.Expr.Name,vS 4 BH a.Expr.L,vS 11 A7 a.Body,vS 11 A7 a.Else]/\d 4=si (b.locals.length:Int)/\d 25=si a.Op/\d 31=sb c)/\J1 k m b a c=some r;unfold Cc at h;exact walk
end
def Ct(R103:gj)(c:BB)(a:AQ):ABd BB:=
(Cp BW c a.Expr (c.locals.length:Int)).bind λd=>
(A6 d (Ad.mk 10 (d.locals.length:Int) 0 0 0 0)).bind λq=>
(R103 q a.Body).bind λb=>
if a.Op==3 then
(A6 (BB.mk b.w b.locals b.out c.site b.next) (Ad.mk 5 (c.out.length:Int) 0 0 0 0)).bind λe=>
(gt e.out (d.out.length:Int)).bind λj=>
some (BB.mk e.w e.locals (e.out.set d.out.length (Ad.mk j.Op j.A (e.out.length:Int) j.C j.N j.Site)) e.site e.next)
else
if(a.Else.length:Int)==0 then
(gt b.out (d.out.length:Int)).bind λl=>
some (BB.mk b.w b.locals (b.out.set d.out.length (Ad.mk l.Op l.A (b.out.length:Int) l.C l.N l.Site)) c.site b.next)
else
(A6 (BB.mk b.w b.locals b.out c.site b.next) (Ad.mk 5 0 0 0 0 0)).bind λf=>
(gt f.out (d.out.length:Int)).bind λo=>
(R103 (BB.mk f.w f.locals (f.out.set d.out.length (Ad.mk o.Op o.A (f.out.length:Int) o.C o.N o.Site)) f.site f.next) a.Else).bind λi=>
(gt i.out (b.out.length:Int)).bind λp=>
some (BB.mk i.w i.locals (i.out.set b.out.length (Ad.mk p.Op (i.out.length:Int) p.B p.C p.N p.Site)) i.site i.next)
variable{i:gj}
theorem Ot(H103:∀{x0 x1 r},i x0 x1=some r->BD prog 183 [bA 10 (EN x0),vS 11 A7 x1] (.BQ []) [bA 10 (EN r),.dead])(h:Ct i b a=some r):BD prog 250 [bA 10 (EN b),.agg [si a.Op,si a.FK,BZ a.Name,BZ a.Arg,vS 4 BH a.Index,si a.Expr.Op,si a.Expr.N,BZ a.Expr.Name,vS 4 BH a.Expr.L,vS 11 A7 a.Body,vS 11 A7 a.Else]] (.BQ []) [bA 10 (EN r),.dead]:=by refine kL mix func250 (hn [(0,[8,9,10,12,13,14,15,17,20,21,22,23,26,27,28,29,31,32,33,34,35,39,43,45,46,50,54,55,56,57,59,60,61,62,64,65,70,71,72,73,75,76,77,78,80,81,82,83,84,85,87,90,91,92,93,95,96,97,98,100,101,102,106,107,108,109,111,112,113,114,116,117]),(3,[18,40,47,66,103])]) ?_;have a1:= @I2;have a2:= @Gl;have a3:= @H103;unfold Ct at h;exact walk
def DC(R103:gj)(b:BB)(a:AQ)(d e c:Int):ABd BB:=
(A6 b (Ad.mk d c 0 0 0 0)).bind λi=>
(R103 i a.Body).bind λf=>
(A6 (BB.mk f.w f.locals f.out b.site f.next) (Ad.mk e c 0 0 0 0)).bind λj=>
some j
theorem Qg(H103:∀{x0 x1 r},i x0 x1=some r->BD prog 183 [bA 10 (EN x0),vS 11 A7 x1] (.BQ []) [bA 10 (EN r),.dead])(h:DC i b a d e c=some r):BD prog 251 [bA 10 (EN b),.agg [si a.Op,si a.FK,BZ a.Name,BZ a.Arg,vS 4 BH a.Index,si a.Expr.Op,si a.Expr.N,BZ a.Expr.Name,vS 4 BH a.Expr.L,vS 11 A7 a.Body,vS 11 A7 a.Else],si d,si e,si c] (.BQ []) [bA 10 (EN r),.dead,.dead,.dead,.dead]:=by refine kL mix func251 (hn [(0,[11,12,13,15,20,24,26,27,28]),(6,[21])]) ?_;have a1:= @Gl;have a2:= @H103;unfold DC at h;exact walk
def EL:Nat->(BB->(List AQ)->ABd BB)×(BB->AQ->ABd BB)×(BB->AQ->ABd BB)×(BB->AQ->Int->Int->Int->ABd BB)
|0=>((λ_ _=>none),(λ_ _=>none),(λ_ _=>none),(λ_ _ _ _ _=>none))
|n+1=>(CH ((EL n).2.1),Cc ((EL n).2.2.1) ((EL n).2.2.2),Ct ((EL n).1),DC ((EL n).1))
def DU(n:Nat):BB->(List AQ)->ABd BB:=(EL n).1
def OZ(n:Nat):BB->AQ->ABd BB:=(EL n).2.1
def Qi(n:Nat):BB->AQ->ABd BB:=(EL n).2.2.1
def TW(n:Nat):BB->AQ->Int->Int->Int->ABd BB:=(EL n).2.2.2
theorem Qj(n:Nat):(∀{x0 x1 r},(DU n) x0 x1=some r->BD prog 183 [bA 10 (EN x0),.sl false 11 (x1.map A7)] (.BQ []) [bA 10 (EN r),.dead])/\(∀{x0 x1 r},(OZ n) x0 x1=some r->BD prog 222 [bA 10 (EN x0),.agg [si x1.Op,si x1.FK,BZ x1.Name,BZ x1.Arg,.sl false 4 (x1.Index.map BH),si x1.Expr.Op,si x1.Expr.N,BZ x1.Expr.Name,.sl false 4 (x1.Expr.L.map BH),.sl false 11 (x1.Body.map A7),.sl false 11 (x1.Else.map A7)]] (.BQ []) [bA 10 (EN r),.dead])/\(∀{x0 x1 r},(Qi n) x0 x1=some r->BD prog 250 [bA 10 (EN x0),.agg [si x1.Op,si x1.FK,BZ x1.Name,BZ x1.Arg,.sl false 4 (x1.Index.map BH),si x1.Expr.Op,si x1.Expr.N,BZ x1.Expr.Name,.sl false 4 (x1.Expr.L.map BH),.sl false 11 (x1.Body.map A7),.sl false 11 (x1.Else.map A7)]] (.BQ []) [bA 10 (EN r),.dead])/\(∀{x0 x1 x2 x3 x4 r},(TW n) x0 x1 x2 x3 x4=some r->BD prog 251 [bA 10 (EN x0),.agg [si x1.Op,si x1.FK,BZ x1.Name,BZ x1.Arg,.sl false 4 (x1.Index.map BH),si x1.Expr.Op,si x1.Expr.N,BZ x1.Expr.Name,.sl false 4 (x1.Expr.L.map BH),.sl false 11 (x1.Body.map A7),.sl false 11 (x1.Else.map A7)],si x2,si x3,si x4] (.BQ []) [bA 10 (EN r),.dead,.dead,.dead,.dead]):=by
  induction n with
  |zero=>exact⟨λh=>ET h,λh=>ET h,λh=>ET h,λh=>ET h⟩
  |succ n ih=>exact⟨λh=>Ro ih.2.1 h,λh=>TZ ih.2.2.1 ih.2.2.2 h,λh=>Ot ih.1 h,λh=>Qg ih.1 h⟩
def Qk{n:Nat}:∀{x0 x1 r},(DU n) x0 x1=some r->BD prog 183 [bA 10 (EN x0),.sl false 11 (x1.map A7)] (.BQ []) [bA 10 (EN r),.dead]:=(Qj n).1
end Go.Abs
