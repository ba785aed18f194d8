/- Typed programs of Go functions, and that the functions do what these say. -/
import Derived.Test.YtdadohkcmclilaaGreatDoorWalkF
import Derived.Test.YtdadohkcmclilaaGreatDoorWalkG
import Derived.Shelf.Slices.SearchI
set_option linter.unusedSimpArgs false
set_option linter.unusedVariables false
namespace Go.Abs
open Go.Proofs
set_option maxRecDepth 1000000
set_option maxHeartbeats 4000000
namespace D1
def J3 (i:Int):ABh Int:=
some i
def J2 (L1:Int->Int->ABh Int) (R100:AU->Int->BA->ABh Int) (a:BA) (d:Int) (b:AU) (e c:Int) (j:Bool):ABh Int:=
if j then
(gt a.L d).bind λq=>
(R100 b c q).bind λp=>
L1 p (Aq (d+1))
else
J3 e
def L1 (R100:AU->Int->BA->ABh Int) (a:BA) (b:AU) (c:Int) (L1:Int->Int->ABh Int) (e d:Int):ABh Int:=
if decide (d<(a.L.length:Int))then
J2 L1 R100 a d b e c (e==0)
else
J2 L1 R100 a d b e c false
def AZ (R100:AU->Int->BA->ABh Int) (a:BA) (b:AU) (c:Int):Nat->Int->Int->ABh Int
|0,_,_=>none
|n+1,e,d=>L1 R100 a b c (AZ R100 a b c n) e d
def J1 (R100:AU->Int->BA->ABh Int) (a:BA) (b:AU) (c f:Int):ABh Int:=
AZ R100 a b c Bg f 0
end D1
section
open D1
def D1 (R100:AU->Int->BA->ABh Int) (b:AU) (c:Int) (a:BA):ABh Int:=
if a.Op==2 then
(DE b c a.Name 8 1).bind λl=>
J1 R100 a b c l
else
if a.Op==3 then
(DE b c a.Name 2 2).bind λo=>
J1 R100 a b c o
else
J1 R100 a b c 0
theorem XF {R100:AU->Int->BA->ABh Int} (H100:∀{x0 x1 x2 r},R100 x0 x1 x2=some r->Says Tryz.prog 202 [.agg (CL x0),si x1,.agg [si x2.Op,si x2.N,BZ x2.Name,vS 4 BC x2.L]] (si r)) {b:AU} {c:Int} {a:BA} {r:Int} (h:D1 R100 b c a=some r):Says Tryz.prog 202 [.agg (CL b),si c,.agg [si a.Op,si a.N,BZ a.Name,vS 4 BC a.L]] (si r):=by refine kO mix Tryz.func202 (hn [(5,[9,15,22,26,38])] [(2,1)]) ?_;have a1:= @H100;have a2:= @Qc;have l1:=λn1 n2 n3 n4:Nat=>A7 λn τ=>∃(e d:Int),(τ 1=si c/\τ 3=bA 2 (CL b)/\τ 5=bA 4 [si a.Op,si a.N,BZ a.Name,vS 4 BC a.L]/\τ 7=si e/\τ 8=si d)/\AZ R100 a b c n e d=some r;have c1:=λn1 n2 n3 n4:Nat=>Bu 1 λτ=>∃(f:Int),(τ 1=si c/\τ 3=bA 2 (CL b)/\τ 5=bA 4 [si a.Op,si a.N,BZ a.Name,vS 4 BC a.L]/\τ 7=si f)/\J1 R100 a b c f=some r;unfold D1 at h;exact walk
end
def Su:Nat->(AU->Int->BA->ABh Int)
|0=>(λ_ _ _=>none)
|n+1=>D1 ((Su n))
def IK (n:Nat):AU->Int->BA->ABh Int:=(Su n)
theorem VA (n:Nat):(∀{x0 x1 x2 r},(IK n) x0 x1 x2=some r->Says Tryz.prog 202 [.agg (CL x0),si x1,.agg [si x2.Op,si x2.N,BZ x2.Name,.sl false 4 (x2.L.map BC)]] (si r)):=by
  induction n with
  |zero=>exactλh=>Dm h
  |succ n ih=>exactλh=>XF ih h
theorem VB {n:Nat}:∀{x0 x1 x2 r},(IK n) x0 x1 x2=some r->Says Tryz.prog 202 [.agg (CL x0),si x1,.agg [si x2.Op,si x2.N,BZ x2.Name,.sl false 4 (x2.L.map BC)]] (si r):=(VA n)
namespace B3
def J3:ABh (AM×Bool):=
some ((AM.mk 0 [] [] 0),false)
def J2 (L1:AM->Int->ABh (AM×Bool)) (a:Al) (c:Int) (b:AM) (f:Bool):ABh (AM×Bool):=
if f then
some ((AM.mk 0 [] [] 0),false)
else
(gt a.Aw b.PC).bind λj=>
(FP j.Op).bind λo=>
if !o then
some (b,true)
else
if c==(a.Aw.length:Int)then
some ((AM.mk 0 [] [] 0),false)
else
(CX j b).bind λi=>
if !i.2 then
some ((AM.mk 0 [] [] 0),false)
else
L1 i.1 (Aq (c+1))
def L1 (a:Al) (L1:AM->Int->ABh (AM×Bool)) (b:AM) (c:Int):ABh (AM×Bool):=
if decide (c≤(a.Aw.length:Int))then
if decide (b.PC<0)then
J2 L1 a c b true
else
J2 L1 a c b (decide (b.PC≥(a.Aw.length:Int)))
else
J3
def AZ (a:Al):Nat->AM->Int->ABh (AM×Bool)
|0,_,_=>none
|n+1,b,c=>L1 a (AZ a n) b c
def J1 (a:Al) (d:AM) (e:Bool):ABh (AM×Bool):=
if e then
some ((AM.mk 0 [] [] 0),false)
else
(DG d).bind λl=>
AZ a Bg l 0
end B3
section
open B3
def B3 (a:Al) (d:AM):ABh (AM×Bool):=
if(d.B5.length:Int) != a.B5 then
J1 a d true
else
J1 a d ((d.CA.length:Int) != a.B5)
theorem VG {a:Al} {d:AM} {r:AM×Bool} (h:B3 a d=some r):Says Tryz.prog 131 [.agg (Ce a),.agg (Eu d)] (.BT [.agg (Bw r.1),sb r.2]):=by refine kO mix Tryz.func131 (hn [(2,[13,20,28,40,46,58]),(3,[10,11,17,18,25,34,38,48,56,65]),(7,[52]),(8,[72]),(9,[69]),(66,[63,67,68])] [(2,1),(11,2)]) ?_;have a1:= @Qd;have a2:= @Nz;have a3:= @YL;have l1:=λn1 n2 n3 n4:Nat=>A7 λn τ=>∃(b:AM) (c:Int),(τ 2=bA 2 (Ce a)/\τ 3=bA 4 (Bw b)/\τ 4=bA 4 z8/\τ 6=si c)/\AZ a n b c=some r;have c2:=λn1 n2 n3 n4:Nat=>Bu 2 λτ=>∃(c:Int) (b:AM) (f:Bool),(τ 2=bA 2 (Ce a)/\τ 3=bA 4 (Bw b)/\τ 4=bA 4 z8/\τ 6=si c/\τ 44=sb f)/\J2 (AZ a n1) a c b f=some r;have c1:=λn1 n2 n3 n4:Nat=>Bu 1 λτ=>∃(e:Bool),(τ 2=bA 2 (Ce a)/\τ 3=bA 4 (Eu d)/\τ 4=bA 4 z8/\τ 23=sb e)/\J1 a d e=some r;unfold B3 at h;exact walk
end
namespace Bf
def J4 (a:AD):ABh Bool:=
(CW a).bind λl=>
some l
def L1 (a:AD) (L1:Int->ABh Bool) (b:Int):ABh Bool:=
if decide (b<(a.Af.length:Int))then
(gt a.Af b).bind λo=>
(FV a o.Mutex false).bind λj=>
if !j then
some false
else
L1 (Aq (b+1))
else
J4 a
def AZ (a:AD):Nat->Int->ABh Bool
|0,_=>none
|n+1,b=>L1 a (AZ a n) b
def J3 (a:AD) (e:Bool):ABh Bool:=
if e then
some false
else
AZ a Bg 0
def J2 (a:AD) (d:Bool):ABh Bool:=
if d then
some false
else
(AW a.Cells).bind λf=>
if !f.2 then
J3 a true
else
(BE a f.1).bind λi=>
J3 a (!i)
def J1 (a:AD) (c:Bool):ABh Bool:=
if c then
some false
else
if decide ((a.AA.length:Int)<1)then
J2 a true
else
J2 a (decide ((a.AA.length:Int)>4))
end Bf
section
open Bf
def Bf (a:AD):ABh Bool:=
if decide ((a.Cells.length:Int)>12)then
J1 a true
else
if decide ((a.AG.length:Int)>4)then
J1 a true
else
if decide ((a.Af.length:Int)>2)then
J1 a true
else
if decide ((a.AH.length:Int)>2)then
J1 a true
else
J1 a (decide ((a.BL.length:Int)>60))
theorem Jk {a:AD} {r:Bool} (h:Bf a=some r):Says Tryz.prog 39 [.agg (Az a)] (sb r):=by refine kO mix Tryz.func39 (hn [(1,[7,12,18,24,30,35,40,46,59]),(3,[55]),(4,[51]),(6,[67]),(48,[45,49,50])] [(2,1),(5,2),(9,3)]) ?_;have a1:= @OB;have a2:= @OD;have a3:= @Rk;have a4:= @OC;have l1:=λn1 n2 n3 n4:Nat=>A7 λn τ=>∃(b:Int),(τ 1=bA 6 (Az a)/\τ 60=vS 2 Hf a.Af/\τ 61=si (a.Af.length:Int)/\τ 62=si b)/\AZ a n b=some r;have c3:=λn1 n2 n3 n4:Nat=>Bu 3 λτ=>∃(e:Bool),(τ 1=bA 6 (Az a)/\τ 58=sb e)/\J3 a e=some r;have c2:=λn1 n2 n3 n4:Nat=>Bu 2 λτ=>∃(d:Bool),(τ 1=bA 6 (Az a)/\τ 44=sb d)/\J2 a d=some r;have c1:=λn1 n2 n3 n4:Nat=>Bu 1 λτ=>∃(c:Bool),(τ 1=bA 6 (Az a)/\τ 34=sb c)/\J1 a c=some r;unfold Bf at h;exact walk
end
namespace Cg
def J3 (d:Bool):ABh Bool:=
some d
def J2 (a:EV) (c:Bool):ABh Bool:=
if c then
some false
else
if decide (a.Init>(-9223372036854775808))then
if a.Init==0 then
J3 true
else
if a.Kind==1 then
J3 true
else
J3 (a.Kind==2)
else
J3 false
def J1 (a:EV) (b:Bool):ABh Bool:=
if b then
some false
else
if a.Kind==5 then
(B1 a.On).bind λf=>
if !f then
J2 a true
else
if a.Kind != 5 then
J2 a (!(a.On.toList==(⟨#[]⟩:ABi).toList))
else
J2 a false
else
if a.Kind != 5 then
J2 a (!(a.On.toList==(⟨#[]⟩:ABi).toList))
else
J2 a false
end Cg
section
open Cg
def Cg (a:EV):ABh Bool:=
if decide (a.Kind<1)then
J1 a true
else
if decide (a.Kind>6)then
J1 a true
else
(B1 a.Name).bind λe=>
if !e then
J1 a true
else
if decide (a.CG<0)then
J1 a true
else
if a.Kind != 1 then
J1 a (a.CG != 0)
else
J1 a false
theorem QD {a:EV} {r:Bool} (h:Cg a=some r):Says Tryz.prog 144 [.agg (JR a)] (sb r):=by refine kO mix Tryz.func144 (hn [(1,[3,7,12,18,23,27,32,36,42,46,51,55,59,64])] [(2,1),(5,2)]) ?_;have a1:= @HW;have c2:=λn1 n2 n3 n4:Nat=>Bu 2 λτ=>∃(c:Bool),(τ 1=bA 6 (JR a)/\τ 50=sb c)/\J2 a c=some r;have c1:=λn1 n2 n3 n4:Nat=>Bu 1 λτ=>∃(b:Bool),(τ 1=bA 6 (JR a)/\τ 31=sb b)/\J1 a b=some r;unfold Cg at h;exact walk
end
namespace Dc
def J2 (j:Bool):ABh Bool:=
some j
def J3 (l:Bool):ABh Bool:=
some l
def J1 (b c:Int) (d:AQ) (e:Int) (a:AD) (f:Bool):ABh Bool:=
if f then
some false
else
(gt d.AA e).bind λi=>
if b==1 then
some (i.Status==1)
else
if b==17 then
if i.Status==4 then
if i.DC==c then
(gt a.Af c).bind λt=>
(gt d.AG t.Mutex).bind λu=>
J2 (u.CS==(-1))
else
J2 false
else
J2 false
else
if i.Status==2 then
(EF a d e b c).bind λs=>
J3 s
else
J3 false
end Dc
section
open Dc
def Dc (a:AD) (d:AQ) (e b c:Int):ABh Bool:=
(ER a d).bind λo=>
if !o then
J1 b c d e a true
else
(DJ e (a.AA.length:Int)).bind λp=>
if !p then
J1 b c d e a true
else
(CM a b c).bind λq=>
J1 b c d e a (!q)
theorem Lt {a:AD} {d:AQ} {e b c:Int} {r:Bool} (h:Dc a d e b c=some r):Says Tryz.prog 79 [.agg (Az a),.agg (FK d),si e,si b,si c] (sb r):=by refine kO mix Tryz.func79 (hn [(5,[18,56]),(6,[31,54]),(11,[39,44,48,67])] [(2,1)]) ?_;have a1:= @Uz;have a2:= @LN;have a3:= @Jz;have a4:= @SV;have c1:=λn1 n2 n3 n4:Nat=>Bu 1 λτ=>∃(f:Bool),(τ 2=si e/\τ 3=si b/\τ 4=si c/\τ 5=bA 6 (Az a)/\τ 6=bA 4 (FK d)/\τ 30=sb f)/\J1 b c d e a f=some r;unfold Dc at h;exact walk
end
end Go.Abs
