/- Typed programs of Go functions, and that the functions do what these say. -/
import Derived.Test.YthmijagacgnmkaaGreatDoorWalkD
import Derived.Test.YthmijagacgnmkaaGreatDoorWalkE
set_option linter.unusedSimpArgs false
set_option linter.unusedVariables false
namespace Go.Abs
open Go.Proofs
set_option maxRecDepth 1000000
set_option maxHeartbeats 4000000
namespace EM
def J3 (a:Aa) (b:AL) (t:Int) (l:Bool) (e:List Int):ABr (AL×Bool):=
if Af (e.length) 8=true then
(gt b.CY a.A).bind λad=>
(gt b.CS a.A).bind λac=>
some ((AL.mk (Ay (b.PC+1)) (b.CY.set a.A.toNat t) (b.CS.set a.A.toNat e) b.AH),l)
else none
def J2 (a:Aa) (b:AL):ABr (AL×Bool):=
if a.Op==5 then
some ((AL.mk a.A b.CY b.CS b.AH),true)
else
if a.Op==1 then
J3 a b a.N true []
else
if a.Op==2 then
(gt b.CY a.B).bind λu=>
(gt b.CS a.B).bind λv=>
J3 a b u true v
else
if a.Op==3 then
(EW a.N).bind λp=>
(gt b.CY a.B).bind λw=>
(Kz p w).bind λf=>
(gt b.CS a.B).bind λx=>
J3 a b f.1 f.2 x
else
(EW a.N).bind λq=>
(gt b.CY a.B).bind λy=>
(gt b.CY a.C).bind λz=>
(Fk q y z).bind λi=>
(gt b.CS a.B).bind λaa=>
(gt b.CS a.C).bind λab=>
(D5 aa ab).bind λs=>
J3 a b i.1 i.2 s
def J1 (L1:Int->ABr (AL×Bool)) (c:Int) (o:Bool):ABr (AL×Bool):=
if o then
some ((AL.mk 0 [] [] 0),false)
else
L1 (Ay (c+1))
def L1 (a:Aa) (b:AL) (d:List Int) (L1:Int->ABr (AL×Bool)) (c:Int):ABr (AL×Bool):=
if decide (c<(d.length:Int))then
(gt d c).bind λj=>
if decide (j<0)then
J1 L1 c true
else
J1 L1 c (decide (j≥(b.CY.length:Int)))
else
J2 a b
def AZ (a:Aa) (b:AL) (d:List Int):Nat->Int->ABr (AL×Bool)
|0,_=>none
|n+1,c=>L1 a b d (AZ a b d n) c
end EM
section
open EM
def EM (a:Aa) (b:AL):ABr (AL×Bool):=
(AW a).bind λd=>
AZ a b d BU 0
theorem Y9 {a:Aa} {b:AL} {r:AL×Bool} (h:EM a b=some r):Says Tryz.prog 234 [.agg (EC a),.agg (Br b)] (.BI [.agg (Br r.1),sb r.2]):=by refine kO mix Tryz.func234 (hn [(2,[35,38,43,49,58,64,71,77,83,89,96,101,110,116,120]),(3,[29,30,41,42,45,47,48,51,56,57,60,61,62,63,66,67,73,74,81,82,85,87,88,91,92,99,100,103,108,109,112,113,114,115,118,119,126,127,128,131,132]),(6,[14,19,21,25,27]),(10,[124])] (F:=[10]) (E:=[(22,(.pg true 3 [(0,2,0)] (Rc 114 [.F 1 3,.y 3 (.XZ (.t 114)),.f 1 2,.F 2 3,.y 3 (.XZ (.t 118)),.f 1 2,.C 8,.o (.OD 1 [] []),.y 10 (.cp (.t 10)),.o (.app 1 8 (.t 123) (.t 124)),.J 3 1 115 117,.x ⟨none,.WC (.t 126) (.t 122),none⟩,.J 3 1 119 121,.S 1 127 125])))])) ?_;have a1:= @JR;have a2:= @TZ;have a3:= @Xw;have a4:= @Vh;have a5:= @Pg;have l1:=λn1 n2 n3 n4:Nat=>A0 λn τ=>∃(d:List Int) (c:Int),(τ 2=bA 6 (EC a)/\τ 3=bA 4 (Br b)/\τ 4=bA 4 z9/\τ 6=vO 1 eI d/\τ 7=si c)/\AZ a b d n c=some r;unfold EM at h;exact walk
end
namespace Gw
def J6 (j:Ae) (s:Bool):ABr (Ae×Bool):=
some (j,s)
def J5 (j:Ae):ABr (Ae×Bool):=
if j.State==3 then
J6 j ((j.AF.length:Int)==0)
else
J6 j false
def J4 (L1:Ae->Int->ABr (Ae×Bool)) (e:Int) (p:Ae):ABr (Ae×Bool):=
L1 p (Ay (e+1))
def L1 (b:List Int) (a:Ae) (L1:Ae->Int->ABr (Ae×Bool)) (d:Ae) (e:Int):ABr (Ae×Bool):=
if decide (e<(a.AF.length:Int))then
(gt a.AF e).bind λo=>
(IF b o).bind λu=>
if u then
if Af (d.AF.length+1) 8=true then
J4 L1 e (Ae.mk d.State d.Bz (d.AF++[o]))
else none
else
J4 L1 e d
else
J5 d
def AZ (b:List Int) (a:Ae):Nat->Ae->Int->ABr (Ae×Bool)
|0,_,_=>none
|n+1,d,e=>L1 b a (AZ b a n) d e
def J3 (b:List Int) (a:Ae) (c:Int) (i:Ae):ABr (Ae×Bool):=
if a.State==0 then
some ((Ae.mk 1 c []),false)
else
if a.State==1 then
if a.Bz==c then
some ((Ae.mk 1 c []),false)
else
J5 (Ae.mk i.State i.Bz b)
else
AZ b a BU i 0
def J2 (b:List Int) (a:Ae) (c:Int) (q:Bool):ABr (Ae×Bool):=
if q then
J3 b a c (Ae.mk 3 0 [])
else
J3 b a c (Ae.mk 2 0 [])
def J1 (a:Ae) (c:Int) (f:Bool) (b:List Int):ABr (Ae×Bool):=
if f then
J2 b a c true
else
J2 b a c (a.State==3)
end Gw
section
open Gw
def Gw (a:Ae) (c:Int) (f:Bool) (l:Be):ABr (Ae×Bool):=
(OU l).bind λv=>
if f then
(Ec l.E9).bind λt=>
J1 a c f t
else
J1 a c f v
theorem Vm {a:Ae} {c:Int} {f:Bool} {l:Be} {r:Ae×Bool} (h:Gw a c f l=some r):Says Tryz.prog 79 [.agg (G5 a),si c,sb f,.agg (G6 l)] (.BI [.agg (G5 r.1),sb r.2]):=by refine kF mix Tryz.func79 (hn [(4,[23,28,30,53]),(7,[17]),(10,[37,59]),(11,[27,40,41,45,60,62,66])] [(2,1),(5,3)] (Z:=[(20,false,11,[(0,2,0)])])) ?_;have a1:= @X8;have a2:= @Tb;have a3:= @OV;have l1:=λn1 n2 n3 n4:Nat=>A0 λn τ=>∃(b:List Int) (d:Ae) (e:Int),(τ 8=bA 3 z16/\τ 10=vO 1 eI b/\τ 11=bA 3 (Wy d)/\τ 31=vS 1 eI a.AF/\τ 32=si (a.AF.length:Int)/\τ 33=si e)/\AZ b a n d e=some r;have c3:=λn1 n2 n3 n4:Nat=>Bo 3 λτ=>∃(b:List Int) (i:Ae),(τ 1=si c/\τ 4=bA 3 (G5 a)/\τ 8=bA 3 z16/\τ 10=vO 1 eI b/\τ 11=bA 3 (Wy i))/\J3 b a c i=some r;have c1:=λn1 n2 n3 n4:Nat=>Bo 1 λτ=>∃(b:List Int),(τ 1=si c/\τ 2=sb f/\τ 4=bA 3 (G5 a)/\τ 8=bA 3 z16/\τ 10=vO 1 eI b)/\J1 a c f b=some r;unfold Gw at h;exact walk
end
namespace EF
def J1 (o:Bool):ABr Bool:=
some o
def J2 (p:Bool):ABr Bool:=
some p
def J5 (q:Bool):ABr Bool:=
some q
def J6 (s:Bool):ABr Bool:=
some s
def J4 (a c:Int) (b:AN) (d:Int) (e:AB) (f:Bool):ABr Bool:=
if f then
(gt e.Ah c).bind λad=>
(gt b.AF ad.Mutex).bind λae=>
some (ae.Bz==d)
else
if a==20 then
if c != d then
(gt b.AA c).bind λaf=>
J5 (af.Status==0)
else
J5 false
else
if a==21 then
if c != d then
(gt b.AA c).bind λw=>
J6 (w.Status==5)
else
J6 false
else
if a==22 then
(gt b.B6 c).bind λx=>
some (!x)
else
if a==23 then
(gt b.B6 c).bind λy=>
some y
else
some true
def J3 (a c:Int) (b:AN) (d:Int) (e:AB) (i:Bool):ABr Bool:=
if i then
(gt b.AF c).bind λz=>
some (z.Bz==d)
else
if a==9 then
(gt b.AF c).bind λaa=>
(GP aa.Ax d).bind λu=>
some u
else
if a==12 then
some (b.Tx==(-1))
else
if a==13 then
some (b.Tx==d)
else
if a==14 then
(gt b.AA d).bind λab=>
some (!ab.Atomic)
else
if a==15 then
(gt b.AA d).bind λac=>
some ac.Atomic
else
if a==16 then
J4 a c b d e (a==16)
else
if a==18 then
J4 a c b d e (a==18)
else
J4 a c b d e (a==19)
end EF
section
open EF
def EF (e:AB) (b:AN) (d a c:Int):ABr Bool:=
if a==6 then
(gt b.AF c).bind λv=>
some (v.Bz==(-1))
else
if a==10 then
(gt b.AF c).bind λj=>
if j.Bz==(-1)then
J1 ((j.Ax.length:Int)==0)
else
J1 false
else
if a==8 then
(gt b.AF c).bind λl=>
if l.Bz==(-1)then
(GP l.Ax d).bind λt=>
J2 (!t)
else
J2 false
else
if a==7 then
J3 a c b d e (a==7)
else
J3 a c b d e (a==11)
theorem VW {e:AB} {b:AN} {d a c:Int} {r:Bool} (h:EF e b d a c=some r):Says Tryz.prog 112 [.agg (Am e),.agg (EH b),si d,si a,si c] (sb r):=by refine kO mix Tryz.func112 (hn [(5,[115]),(6,[14,23,31,42,50,63,73,83,88,94,103,113,132,146,156,164])] [(9,3),(22,4)]) ?_;have a1:= @Lw;have c4:=λn1 n2 n3 n4:Nat=>Bo 4 λτ=>∃(f:Bool),(τ 2=si d/\τ 4=si c/\τ 5=bA 6 (Am e)/\τ 6=bA 4 (EH b)/\τ 11=si a/\τ 109=sb f)/\J4 a c b d e f=some r;have c3:=λn1 n2 n3 n4:Nat=>Bo 3 λτ=>∃(i:Bool),(τ 2=si d/\τ 4=si c/\τ 5=bA 6 (Am e)/\τ 6=bA 4 (EH b)/\τ 11=si a/\τ 60=sb i)/\J3 a c b d e i=some r;unfold EF at h;exact walk
end
namespace Dc
def J4 (p s:List Int):ABr ((List Int)×(List Int)):=
some (p,s)
def J3 (L1:(List Int)->(List Int)->Int->ABr ((List Int)×(List Int))) (c:Int) (o q:List Int):ABr ((List Int)×(List Int)):=
L1 o q (Ay (c+1))
def J2 (L1:(List Int)->(List Int)->Int->ABr ((List Int)×(List Int))) (d:List Int) (c a:Int) (i:AY) (l:List Int):ABr ((List Int)×(List Int)):=
(GP i.Ax a).bind λv=>
if v then
if Af (d.length+1) 8=true then
J3 L1 c l (d++[c])
else none
else
J3 L1 c l d
def L1 (b:AN) (a:Int) (L1:(List Int)->(List Int)->Int->ABr ((List Int)×(List Int))) (e d:List Int) (c:Int):ABr ((List Int)×(List Int)):=
if decide (c<(b.AF.length:Int))then
(gt b.AF c).bind λi=>
if i.Bz==a then
if Af (e.length+1) 8=true then
J2 L1 d c a i (e++[c])
else none
else
J2 L1 d c a i e
else
J4 e d
def AZ (b:AN) (a:Int):Nat->(List Int)->(List Int)->Int->ABr ((List Int)×(List Int))
|0,_,_,_=>none
|n+1,e,d,c=>L1 b a (AZ b a n) e d c
def J1 (b:AN) (a:Int) (j:Bool):ABr ((List Int)×(List Int)):=
if j then
some ([],[])
else
AZ b a BU [] [] 0
end Dc
section
open Dc
def Dc (f:AB) (b:AN) (a:Int):ABr ((List Int)×(List Int)):=
(EP f b).bind λt=>
if !t then
J1 b a true
else
(DA a (f.AA.length:Int)).bind λu=>
J1 b a (!u)
theorem VR {f:AB} {b:AN} {a:Int} {r:(List Int)×(List Int)} (h:Dc f b a=some r):Says Tryz.prog 134 [.agg (Am f),.agg (EH b),si a] (.BI [vO 1 eI r.1,vO 1 eI r.2]):=by refine kO mix Tryz.func134 (hn [(3,[18]),(4,[24]),(8,[36,49]),(9,[44,50]),(11,[32,40])] [(2,1)]) ?_;have a1:= @Lw;have a2:= @Lo;have a3:= @Ik;have l1:=λn1 n2 n3 n4:Nat=>A0 λn τ=>∃(e d:List Int) (c:Int),(τ 2=si a/\τ 8=vO 1 eI e/\τ 9=vO 1 eI d/\τ 25=vS 2 Hk b.AF/\τ 26=si (b.AF.length:Int)/\τ 27=si c)/\AZ b a n e d c=some r;have c1:=λn1 n2 n3 n4:Nat=>Bo 1 λτ=>∃(j:Bool),(τ 2=si a/\τ 4=bA 4 (EH b)/\τ 23=sb j)/\J1 b a j=some r;unfold Dc at h;exact walk
end
def FW (b:A6) (a:AP):ABr A6:=
if decide ((a.Index.length:Int)>0)then
(gt a.Index 0).bind λp=>
(Cb BU b p (b.locals.length:Int)).bind λi=>
(Cb BU i a.Expr (Ay ((b.locals.length:Int)+1))).bind λd=>
(Bb d.w a.Name).bind λe=>
(gt d.w.Cells e).bind λq=>
(A3 d (Aa.mk 9 e (Ay ((b.locals.length:Int)+1)) (b.locals.length:Int) q.B7 0)).bind λj=>
some j
else
(Cb BU b a.Expr (b.locals.length:Int)).bind λc=>
(CF c.locals a.Name).bind λf=>
if decide (f≥0)then
(A3 c (Aa.mk 2 f (b.locals.length:Int) 0 0 0)).bind λl=>
some l
else
(Bb c.w a.Name).bind λo=>
(A3 c (Aa.mk 8 o (b.locals.length:Int) 0 0 0)).bind λs=>
some s
theorem Qe {b:A6} {a:AP} {r:A6} (h:FW b a=some r):A8 Tryz.prog 240 [bA 10 (EJ b),.agg [si a.Op,si a.FG,BR a.Name,BR a.Arg,vS 4 A9 a.Index,si a.Expr.Op,si a.Expr.N,BR a.Expr.Name,vS 4 A9 a.Expr.L,vS 11 A4 a.Body,vS 11 A4 a.Else]] (.BI []) [bA 10 (EJ r),.dead]:=by refine kL mix Tryz.func240 (hn [(0,[7,8,9,10,16,23,29,30,31,32,36,41,42,43,44,45,47,48,52,57,58,59,60,66,71,72,73,74,75]),(3,[12,17,24,33,53,61,76])]) ?_;have a1:= @I0;have a2:= @OP;have a3:= @Gn;have a4:= @He;unfold FW at h;exact walk
namespace DK
def J2 (l:List Int):ABr (List Int):=
some l
def J1 (L1:(List Int)->Int->ABr (List Int)) (a:Int) (j:List Int):ABr (List Int):=
L1 j (Ay (a+1))
def L1 (d b:List Int) (L1:(List Int)->Int->ABr (List Int)) (c:List Int) (a:Int):ABr (List Int):=
if decide (a<(b.length:Int))then
(gt b a).bind λi=>
(I1 d i).bind λo=>
if o.2 then
if Af (c.length+1) 8=true then
J1 L1 a (c++[i])
else none
else
J1 L1 a c
else
J2 c
def AZ (d b:List Int):Nat->(List Int)->Int->ABr (List Int)
|0,_,_=>none
|n+1,c,a=>L1 d b (AZ d b n) c a
end DK
section
open DK
def DK (e f:List Int):ABr (List Int):=
(G3 f).bind λd=>
(G3 e).bind λb=>
AZ d b BU [] 0
theorem Og {e f r:List Int} (h:DK e f=some r):Says Tryz.prog 137 [vS 1 eI e,vS 1 eI f] (vO 1 eI r):=by refine kO mix Tryz.func137 (hn [(5,[27,32]),(6,[21]),(14,[18])]) ?_;have a1:= @Lk;have a2:= @N7;have l1:=λn1 n2 n3 n4:Nat=>A0 λn τ=>∃(d b c:List Int) (a:Int),(τ 5=vO 1 eI c/\τ 6=vO 1 eI d/\τ 14=vO 1 eI b/\τ 15=si (b.length:Int)/\τ 16=si a)/\AZ d b n c a=some r;unfold DK at h;exact walk
end
namespace Bu
def J2:ABr Bool:=
some true
def L1 (a:ABs) (L1:Int->ABr Bool) (b:Int):ABr Bool:=
if decide (b<(a.size:Int))then
(sgt a b).bind λe=>
(HB (e.toNat:Int)).bind λi=>
if !i then
some false
else
L1 (Ay (b+1))
else
J2
def AZ (a:ABs):Nat->Int->ABr Bool
|0,_=>none
|n+1,b=>L1 a (AZ a n) b
def J1 (a:ABs) (c:Bool):ABr Bool:=
if c then
some false
else
AZ a BU 0
end Bu
section
open Bu
def Bu (a:ABs):ABr Bool:=
if decide ((a.size:Int)<1)then
J1 a true
else
if decide ((a.size:Int)>12)then
J1 a true
else
(sgt a 0).bind λd=>
(Fj (d.toNat:Int)).bind λf=>
if !f then
J1 a true
else
(DH a).bind λj=>
J1 a j
theorem Hy {a:ABs} {r:Bool} (h:Bu a=some r):Says Tryz.prog 125 [BR a] (sb r):=by refine kO mix Tryz.func125 (hn (Q:=[(2,1)])) ?_;have a1:= @Xo;have a2:= @ON;have a3:= @Re;have l1:=λn1 n2 n3 n4:Nat=>A0 λn τ=>∃(b:Int),(τ 0=BR a/\τ 3=si b)/\AZ a n b=some r;have c1:=λn1 n2 n3 n4:Nat=>Bo 1 λτ=>∃(c:Bool),(τ 0=BR a/\τ 21=sb c)/\J1 a c=some r;unfold Bu at h;exact walk
end
namespace FB
def J1 (c:Bool):ABr Bool:=
some c
end FB
section
open FB
def FB (a b:AD):ABr Bool:=
(HX a.Sync b.Sync).bind λd=>
if d then
(FK a.Cells b.Cells).bind λe=>
if e then
(FK a.AK b.AK).bind λf=>
if f then
(F8 a.Count b.Count).bind λi=>
J1 i
else
J1 false
else
J1 false
else
J1 false
theorem Om {a b:AD} {r:Bool} (h:FB a b=some r):Says Tryz.prog 23 [.agg (BH a),.agg (BH b)] (sb r):=by refine kO mix Tryz.func23 (hn [(2,[5,11,18,25]),(3,[7,13,20,27])]) ?_;have a1:= @ZA;have a2:= @Rj;have a3:= @Mf;unfold FB at h;exact walk
end
namespace Ed
def J1 (c:Bool):ABr Bool:=
some c
end Ed
section
open Ed
def Ed (b:AB) (a:AD):ABr Bool:=
(EP b a.Sync).bind λd=>
if d then
if(a.Cells.length:Int)==(b.Cells.length:Int)then
if(a.AK.length:Int)==(b.AK.length:Int)then
J1 ((a.Count.length:Int)==(b.AA.length:Int))
else
J1 false
else
J1 false
else
J1 false
theorem Rr {b:AB} {a:AD} {r:Bool} (h:Ed b a=some r):Says Tryz.prog 53 [.agg (Am b),.agg (BH a)] (sb r):=by refine kO mix Tryz.func53 (hn [(2,[13,22,31]),(3,[6,10,19,28])]) ?_;have a1:= @Lo;unfold Ed at h;exact walk
end
namespace DL
def J1 (i:Bool):ABr Int:=
if i then
some 6
else
some 0
end DL
section
open DL
def DL (c:AQ) (e:Int) (d:ABs) (a b:Int):ABr Int:=
(Ea c e d).bind λf=>
if f==0 then
some 5
else
if f != a then
J1 (f != b)
else
J1 false
theorem Qv {c:AQ} {e:Int} {d:ABs} {a b r:Int} (h:DL c e d a b=some r):Says Tryz.prog 258 [.agg (CC c),si e,BR d,si a,si b] (si r):=by refine kO mix Tryz.func258 hn ?_;have a1:= @Vc;unfold DL at h;exact walk
end
end Go.Abs
