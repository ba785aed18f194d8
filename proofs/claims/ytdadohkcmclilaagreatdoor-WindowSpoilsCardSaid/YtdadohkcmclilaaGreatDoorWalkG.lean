/- Typed programs of Go functions, and that the functions do what these say. -/
import Derived.Test.YtdadohkcmclilaaGreatDoorWalkD
import Derived.Test.YtdadohkcmclilaaGreatDoorWalkE
import Derived.Shelf.Slices.SearchI
set_option linter.unusedSimpArgs false
set_option linter.unusedVariables false
namespace Go.Abs
open Go.Proofs
set_option maxRecDepth 1000000
set_option maxHeartbeats 4000000
namespace AL
def J1 (i:Bool):ABh Bool:=
some i
def J2 (j:Bool):ABh Bool:=
some j
def J4 (l:Bool):ABh Bool:=
some l
def J6 (o:Bool):ABh Bool:=
some o
def J9 (p:Bool):ABh Bool:=
some p
def RX (q:Bool):ABh Bool:=
some q
def J8 (a:Ac) (b:AD) (c:Bool):ABh Bool:=
if c then
(DL a.A (b.AA.length:Int)).bind λz=>
some z
else
if a.Op==26 then
(DL a.A (b.AH.length:Int)).bind λaa=>
some aa
else
if a.Op==27 then
(DL a.B (b.AH.length:Int)).bind λab=>
some ab
else
if a.Op==3 then
if a.N==4 then
J9 true
else
J9 (a.N==5)
else
if a.Op==4 then
if decide (a.N≥6)then
RX (decide (a.N≤18))
else
RX false
else
some true
def J7 (a:Ac) (b:AD) (f:Bool):ABh Bool:=
if f then
(DL a.A (b.Af.length:Int)).bind λy=>
some y
else
if a.Op==24 then
J8 a b (a.Op==24)
else
J8 a b (a.Op==25)
def J5 (a:Ac) (b:AD) (e:Bool):ABh Bool:=
if e then
(DL a.A (b.AG.length:Int)).bind λx=>
if x then
(gt b.AG a.A).bind λaf=>
J6 af.RW
else
J6 false
else
if a.Op==21 then
J7 a b (a.Op==21)
else
if a.Op==22 then
J7 a b (a.Op==22)
else
J7 a b (a.Op==23)
def J3 (a:Ac) (b:AD) (d:Bool):ABh Bool:=
if d then
(DL a.A (b.AG.length:Int)).bind λw=>
if w then
(gt b.AG a.A).bind λae=>
J4 (!ae.RW)
else
J4 false
else
if a.Op==13 then
J5 a b (a.Op==13)
else
if a.Op==14 then
J5 a b (a.Op==14)
else
if a.Op==15 then
J5 a b (a.Op==15)
else
J5 a b (a.Op==16)
end AL
section
open AL
def AL (b:AD) (a:Ac):ABh Bool:=
if a.Op==6 then
(DL a.B (b.Cells.length:Int)).bind λs=>
if s then
(gt b.Cells a.B).bind λac=>
J1 (ac.CG==0)
else
J1 false
else
if a.Op==8 then
(DL a.A (b.Cells.length:Int)).bind λt=>
if t then
(gt b.Cells a.A).bind λad=>
J2 (ad.CG==0)
else
J2 false
else
if a.Op==7 then
(Ei b a.B a.N).bind λu=>
some u
else
if a.Op==9 then
(Ei b a.A a.N).bind λv=>
some v
else
if a.Op==11 then
J3 a b (a.Op==11)
else
J3 a b (a.Op==12)
theorem Ty {b:AD} {a:Ac} {r:Bool} (h:AL b a=some r):Says Tryz.prog 126 [.agg (Az b),.agg (EB a)] (sb r):=by refine kO mix Tryz.func126 (hn [(2,[11,16,29,34,64,69,85,90,104,113,121,129]),(3,[5,9,18,27,36,46,48,54,56,62,71,83,92,102,111,119,127,135,139,145,149])] [(11,3),(14,5),(19,7),(23,8)]) ?_;have a1:= @PB;have a2:= @XJ;have c8:=λn1 n2 n3 n4:Nat=>Bu 8 λτ=>∃(c:Bool),(τ 2=bA 6 (Az b)/\τ 3=bA 6 (EB a)/\τ 6=si a.Op/\τ 108=sb c)/\J8 a b c=some r;have c7:=λn1 n2 n3 n4:Nat=>Bu 7 λτ=>∃(f:Bool),(τ 2=bA 6 (Az b)/\τ 3=bA 6 (EB a)/\τ 6=si a.Op/\τ 98=sb f)/\J7 a b f=some r;have c5:=λn1 n2 n3 n4:Nat=>Bu 5 λτ=>∃(e:Bool),(τ 2=bA 6 (Az b)/\τ 3=bA 6 (EB a)/\τ 6=si a.Op/\τ 78=sb e)/\J5 a b e=some r;have c3:=λn1 n2 n3 n4:Nat=>Bu 3 λτ=>∃(d:Bool),(τ 2=bA 6 (Az b)/\τ 3=bA 6 (EB a)/\τ 6=si a.Op/\τ 59=sb d)/\J3 a b d=some r;unfold AL at h;exact walk
end
namespace CX
def J3 (a:Ac) (b:AM) (t:Int) (l:Bool) (e:List Int):ABh (AM×Bool):=
if Ap (e.length) 8=true then
(gt b.B5 a.A).bind λad=>
(gt b.CA a.A).bind λac=>
some ((AM.mk (Aq (b.PC+1)) (b.B5.set a.A.toNat t) (b.CA.set a.A.toNat e) b.AE),l)
else none
def J2 (a:Ac) (b:AM):ABh (AM×Bool):=
if a.Op==5 then
some ((AM.mk a.A b.B5 b.CA b.AE),true)
else
if a.Op==1 then
J3 a b a.N true []
else
if a.Op==2 then
(gt b.B5 a.B).bind λu=>
(gt b.CA a.B).bind λv=>
J3 a b u true v
else
if a.Op==3 then
(DH a.N).bind λp=>
(gt b.B5 a.B).bind λw=>
(Ht p w).bind λf=>
(gt b.CA a.B).bind λx=>
J3 a b f.1 f.2 x
else
(DH a.N).bind λq=>
(gt b.B5 a.B).bind λy=>
(gt b.B5 a.C).bind λz=>
(Dp q y z).bind λi=>
(gt b.CA a.B).bind λaa=>
(gt b.CA a.C).bind λab=>
(D4 aa ab).bind λs=>
J3 a b i.1 i.2 s
def J1 (L1:Int->ABh (AM×Bool)) (c:Int) (o:Bool):ABh (AM×Bool):=
if o then
some ((AM.mk 0 [] [] 0),false)
else
L1 (Aq (c+1))
def L1 (a:Ac) (b:AM) (d:List Int) (L1:Int->ABh (AM×Bool)) (c:Int):ABh (AM×Bool):=
if decide (c<(d.length:Int))then
(gt d c).bind λj=>
if decide (j<0)then
J1 L1 c true
else
J1 L1 c (decide (j≥(b.B5.length:Int)))
else
J2 a b
def AZ (a:Ac) (b:AM) (d:List Int):Nat->Int->ABh (AM×Bool)
|0,_=>none
|n+1,c=>L1 a b d (AZ a b d n) c
end CX
section
open CX
def CX (a:Ac) (b:AM):ABh (AM×Bool):=
(AY a).bind λd=>
AZ a b d Bg 0
theorem YL {a:Ac} {b:AM} {r:AM×Bool} (h:CX a b=some r):Says Tryz.prog 170 [.agg (EB a),.agg (Bw b)] (.BT [.agg (Bw r.1),sb r.2]):=by refine kO mix Tryz.func170 (hn [(2,[35,38,43,49,58,64,71,77,83,89,96,101,110,116,120]),(3,[29,30,41,42,45,47,48,51,56,57,60,61,62,63,66,67,73,74,81,82,85,87,88,91,92,99,100,103,108,109,112,113,114,115,118,119,126,127,128,131,132]),(6,[14,19,21,25,27]),(10,[124])] (F:=[10]) (E:=[(22,(.pg true 3 [(0,2,0)] (Rc 114 [.F 1 3,.y 3 (.Wv (.t 114)),.f 1 2,.F 2 3,.y 3 (.Wv (.t 118)),.f 1 2,.C 8,.o (.NH 1 [] []),.y 10 (.cp (.t 10)),.o (.app 1 8 (.t 123) (.t 124)),.J 3 1 115 117,.x ⟨none,.Vg (.t 126) (.t 122),none⟩,.J 3 1 119 121,.S 1 127 125])))])) ?_;have a1:= @I4;have a2:= @S5;have a3:= @XH;have a4:= @VD;have a5:= @PF;have l1:=λn1 n2 n3 n4:Nat=>A7 λn τ=>∃(d:List Int) (c:Int),(τ 2=bA 6 (EB a)/\τ 3=bA 4 (Bw b)/\τ 4=bA 4 z8/\τ 6=vO 1 eI d/\τ 7=si c)/\AZ a b d n c=some r;unfold CX at h;exact walk
end
namespace EF
def J1 (o:Bool):ABh Bool:=
some o
def J2 (p:Bool):ABh Bool:=
some p
def J5 (q:Bool):ABh Bool:=
some q
def J6 (s:Bool):ABh Bool:=
some s
def J4 (a c:Int) (b:AQ) (d:Int) (e:AD) (f:Bool):ABh Bool:=
if f then
(gt e.Af c).bind λad=>
(gt b.AG ad.Mutex).bind λae=>
some (ae.CS==d)
else
if a==20 then
if c != d then
(gt b.AA c).bind λaf=>
J5 (af.Status==0)
else
J5 false
else
if a==21 then
if c != d then
(gt b.AA c).bind λw=>
J6 (w.Status==5)
else
J6 false
else
if a==22 then
(gt b.B4 c).bind λx=>
some (!x)
else
if a==23 then
(gt b.B4 c).bind λy=>
some y
else
some true
def J3 (a c:Int) (b:AQ) (d:Int) (e:AD) (i:Bool):ABh Bool:=
if i then
(gt b.AG c).bind λz=>
some (z.CS==d)
else
if a==9 then
(gt b.AG c).bind λaa=>
(Gk aa.Aj d).bind λu=>
some u
else
if a==12 then
some (b.Tx==(-1))
else
if a==13 then
some (b.Tx==d)
else
if a==14 then
(gt b.AA d).bind λab=>
some (!ab.Atomic)
else
if a==15 then
(gt b.AA d).bind λac=>
some ac.Atomic
else
if a==16 then
J4 a c b d e (a==16)
else
if a==18 then
J4 a c b d e (a==18)
else
J4 a c b d e (a==19)
end EF
section
open EF
def EF (e:AD) (b:AQ) (d a c:Int):ABh Bool:=
if a==6 then
(gt b.AG c).bind λv=>
some (v.CS==(-1))
else
if a==10 then
(gt b.AG c).bind λj=>
if j.CS==(-1)then
J1 ((j.Aj.length:Int)==0)
else
J1 false
else
if a==8 then
(gt b.AG c).bind λl=>
if l.CS==(-1)then
(Gk l.Aj d).bind λt=>
J2 (!t)
else
J2 false
else
if a==7 then
J3 a c b d e (a==7)
else
J3 a c b d e (a==11)
theorem Uz {e:AD} {b:AQ} {d a c:Int} {r:Bool} (h:EF e b d a c=some r):Says Tryz.prog 118 [.agg (Az e),.agg (FK b),si d,si a,si c] (sb r):=by refine kO mix Tryz.func118 (hn [(5,[115]),(6,[14,23,31,42,50,63,73,83,88,94,103,113,132,146,156,164])] [(9,3),(22,4)]) ?_;have a1:= @RN;have c4:=λn1 n2 n3 n4:Nat=>Bu 4 λτ=>∃(f:Bool),(τ 2=si d/\τ 4=si c/\τ 5=bA 6 (Az e)/\τ 6=bA 4 (FK b)/\τ 11=si a/\τ 109=sb f)/\J4 a c b d e f=some r;have c3:=λn1 n2 n3 n4:Nat=>Bu 3 λτ=>∃(i:Bool),(τ 2=si d/\τ 4=si c/\τ 5=bA 6 (Az e)/\τ 6=bA 4 (FK b)/\τ 11=si a/\τ 60=sb i)/\J3 a c b d e i=some r;unfold EF at h;exact walk
end
def FG (b:A8) (a:AR):ABh A8:=
if decide ((a.Index.length:Int)>0)then
(gt a.Index 0).bind λp=>
(Ch Bg b p (b.locals.length:Int)).bind λi=>
(Ch Bg i a.Expr (Aq ((b.locals.length:Int)+1))).bind λd=>
(Bi d.w a.Name).bind λe=>
(gt d.w.Cells e).bind λq=>
(A5 d (Ac.mk 9 e (Aq ((b.locals.length:Int)+1)) (b.locals.length:Int) q.CG 0)).bind λj=>
some j
else
(Ch Bg b a.Expr (b.locals.length:Int)).bind λc=>
(CN c.locals a.Name).bind λf=>
if decide (f≥0)then
(A5 c (Ac.mk 2 f (b.locals.length:Int) 0 0 0)).bind λl=>
some l
else
(Bi c.w a.Name).bind λo=>
(A5 c (Ac.mk 8 o (b.locals.length:Int) 0 0 0)).bind λs=>
some s
theorem QF {b:A8} {a:AR} {r:A8} (h:FG b a=some r):BM Tryz.prog 149 [bA 10 (EJ b),.agg [si a.Op,si a.E8,BZ a.Name,BZ a.Arg,vS 4 BC a.Index,si a.Expr.Op,si a.Expr.N,BZ a.Expr.Name,vS 4 BC a.Expr.L,vS 11 A6 a.Body,vS 11 A6 a.Else]] (.BT []) [bA 10 (EJ r),.dead]:=by refine kL mix Tryz.func149 (hn [(0,[7,8,9,10,16,23,29,30,31,32,36,41,42,43,44,45,47,48,52,57,58,59,60,66,71,72,73,74,75]),(3,[12,17,24,33,53,61,76])]) ?_;have a1:= @Ig;have a2:= @Ny;have a3:= @GO;have a4:= @HK;unfold FG at h;exact walk
namespace B1
def J2:ABh Bool:=
some true
def L1 (a:ABi) (L1:Int->ABh Bool) (b:Int):ABh Bool:=
if decide (b<(a.size:Int))then
(sgt a b).bind λe=>
(Gs (e.toNat:Int)).bind λi=>
if !i then
some false
else
L1 (Aq (b+1))
else
J2
def AZ (a:ABi):Nat->Int->ABh Bool
|0,_=>none
|n+1,b=>L1 a (AZ a n) b
def J1 (a:ABi) (c:Bool):ABh Bool:=
if c then
some false
else
AZ a Bg 0
end B1
section
open B1
def B1 (a:ABi):ABh Bool:=
if decide ((a.size:Int)<1)then
J1 a true
else
if decide ((a.size:Int)>12)then
J1 a true
else
(sgt a 0).bind λd=>
(FO (d.toNat:Int)).bind λf=>
if !f then
J1 a true
else
(DD a).bind λj=>
J1 a j
theorem HW {a:ABi} {r:Bool} (h:B1 a=some r):Says Tryz.prog 94 [BZ a] (sb r):=by refine kO mix Tryz.func94 (hn (Q:=[(2,1)])) ?_;have a1:= @XA;have a2:= @Nv;have a3:= @RC;have l1:=λn1 n2 n3 n4:Nat=>A7 λn τ=>∃(b:Int),(τ 0=BZ a/\τ 3=si b)/\AZ a n b=some r;have c1:=λn1 n2 n3 n4:Nat=>Bu 1 λτ=>∃(c:Bool),(τ 0=BZ a/\τ 21=sb c)/\J1 a c=some r;unfold B1 at h;exact walk
end
namespace EU
def J1:ABh Bool:=
some true
def L1 (a b:List AK) (L1:Int->ABh Bool) (c:Int):ABh Bool:=
if decide (c<(a.length:Int))then
(gt a c).bind λe=>
(gt b c).bind λf=>
(Fq e f).bind λd=>
if !d then
some false
else
L1 (Aq (c+1))
else
J1
def AZ (a b:List AK):Nat->Int->ABh Bool
|0,_=>none
|n+1,c=>L1 a b (AZ a b n) c
end EU
section
open EU
def EU (a b:List AK):ABh Bool:=
if(a.length:Int) != (b.length:Int)then
some false
else
AZ a b Bg 0
theorem QK {a b:List AK} {r:Bool} (h:EU a b=some r):Says Tryz.prog 17 [vS 7 BQ a,vS 7 BQ b] (sb r):=by refine kO mix Tryz.func17 hn ?_;have a1:= @RH;have l1:=λn1 n2 n3 n4:Nat=>A7 λn τ=>∃(c:Int),(τ 0=vS 7 BQ a/\τ 1=vS 7 BQ b/\τ 5=si c)/\AZ a b n c=some r;unfold EU at h;exact walk
end
namespace Eb
def J1 (c:Bool):ABh Bool:=
some c
end Eb
section
open Eb
def Eb (b:AD) (a:AB):ABh Bool:=
(ER b a.Sync).bind λd=>
if d then
if(a.Cells.length:Int)==(b.Cells.length:Int)then
if(a.AH.length:Int)==(b.AH.length:Int)then
J1 ((a.Count.length:Int)==(b.AA.length:Int))
else
J1 false
else
J1 false
else
J1 false
theorem RR {b:AD} {a:AB} {r:Bool} (h:Eb b a=some r):Says Tryz.prog 78 [.agg (Az b),.agg (BH a)] (sb r):=by refine kO mix Tryz.func78 (hn [(2,[13,22,31]),(3,[6,10,19,28])]) ?_;have a1:= @LN;unfold Eb at h;exact walk
end
namespace Hz
def J1 (c:Bool):ABh Bool:=
some c
end Hz
section
open Hz
def Hz (b:AD) (a:AB):ABh Bool:=
(ER b a.Sync).bind λd=>
if d then
if(a.Cells.length:Int)==(b.Cells.length:Int)then
if(a.AH.length:Int)==(b.AH.length:Int)then
J1 ((a.Count.length:Int)==(b.AA.length:Int))
else
J1 false
else
J1 false
else
J1 false
theorem Xq {b:AD} {a:AB} {r:Bool} (h:Hz b a=some r):Says Tryz.prog 40 [.agg (Az b),.agg (BH a)] (sb r):=by refine kO mix Tryz.func40 (hn [(2,[13,22,31]),(3,[6,10,19,28])]) ?_;have a1:= @LN;unfold Hz at h;exact walk
end
namespace DE
def J1 (i:Bool):ABh Int:=
if i then
some 6
else
some 0
end DE
section
open DE
def DE (c:AU) (e:Int) (d:ABi) (a b:Int):ABh Int:=
(EZ c e d).bind λf=>
if f==0 then
some 5
else
if f != a then
J1 (f != b)
else
J1 false
theorem Qc {c:AU} {e:Int} {d:ABi} {a b r:Int} (h:DE c e d a b=some r):Says Tryz.prog 178 [.agg (CL c),si e,BZ d,si a,si b] (si r):=by refine kO mix Tryz.func178 hn ?_;have a1:= @U7;unfold DE at h;exact walk
end
end Go.Abs
