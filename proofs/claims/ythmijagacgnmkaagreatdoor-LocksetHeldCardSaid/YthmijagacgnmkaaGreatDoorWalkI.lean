/- Typed programs of Go functions, and that the functions do what these say. -/
import Derived.Test.YthmijagacgnmkaaGreatDoorWalkF
import Derived.Test.YthmijagacgnmkaaGreatDoorWalkG
set_option linter.unusedSimpArgs false
set_option linter.unusedVariables false
namespace Go.Abs
open Go.Proofs
set_option maxRecDepth 1000000
set_option maxHeartbeats 4000000
namespace D3
def J3 (i:Int):ABr Int:=
some i
def J2 (L1:Int->Int->ABr Int) (R100:AQ->Int->A7->ABr Int) (a:A7) (d:Int) (b:AQ) (e c:Int) (j:Bool):ABr Int:=
if j then
(gt a.L d).bind λq=>
(R100 b c q).bind λp=>
L1 p (Ay (d+1))
else
J3 e
def L1 (R100:AQ->Int->A7->ABr Int) (a:A7) (b:AQ) (c:Int) (L1:Int->Int->ABr Int) (e d:Int):ABr Int:=
if decide (d<(a.L.length:Int))then
J2 L1 R100 a d b e c (e==0)
else
J2 L1 R100 a d b e c false
def AZ (R100:AQ->Int->A7->ABr Int) (a:A7) (b:AQ) (c:Int):Nat->Int->Int->ABr Int
|0,_,_=>none
|n+1,e,d=>L1 R100 a b c (AZ R100 a b c n) e d
def J1 (R100:AQ->Int->A7->ABr Int) (a:A7) (b:AQ) (c f:Int):ABr Int:=
AZ R100 a b c BU f 0
end D3
section
open D3
def D3 (R100:AQ->Int->A7->ABr Int) (b:AQ) (c:Int) (a:A7):ABr Int:=
if a.Op==2 then
(DL b c a.Name 8 1).bind λl=>
J1 R100 a b c l
else
if a.Op==3 then
(DL b c a.Name 2 2).bind λo=>
J1 R100 a b c o
else
J1 R100 a b c 0
theorem Xu {R100:AQ->Int->A7->ABr Int} (H100:∀{x0 x1 x2 r},R100 x0 x1 x2=some r->Says Tryz.prog 267 [.agg (CC x0),si x1,.agg [si x2.Op,si x2.N,BR x2.Name,vS 4 A9 x2.L]] (si r)) {b:AQ} {c:Int} {a:A7} {r:Int} (h:D3 R100 b c a=some r):Says Tryz.prog 267 [.agg (CC b),si c,.agg [si a.Op,si a.N,BR a.Name,vS 4 A9 a.L]] (si r):=by refine kO mix Tryz.func267 (hn [(5,[9,15,22,26,38])] [(2,1)]) ?_;have a1:= @H100;have a2:= @Qv;have l1:=λn1 n2 n3 n4:Nat=>A0 λn τ=>∃(e d:Int),(τ 1=si c/\τ 3=bA 2 (CC b)/\τ 5=bA 4 [si a.Op,si a.N,BR a.Name,vS 4 A9 a.L]/\τ 7=si e/\τ 8=si d)/\AZ R100 a b c n e d=some r;have c1:=λn1 n2 n3 n4:Nat=>Bo 1 λτ=>∃(f:Int),(τ 1=si c/\τ 3=bA 2 (CC b)/\τ 5=bA 4 [si a.Op,si a.N,BR a.Name,vS 4 A9 a.L]/\τ 7=si f)/\J1 R100 a b c f=some r;unfold D3 at h;exact walk
end
def TQ:Nat->(AQ->Int->A7->ABr Int)
|0=>(λ_ _ _=>none)
|n+1=>D3 ((TQ n))
def Im (n:Nat):AQ->Int->A7->ABr Int:=(TQ n)
theorem Vf (n:Nat):(∀{x0 x1 x2 r},(Im n) x0 x1 x2=some r->Says Tryz.prog 267 [.agg (CC x0),si x1,.agg [si x2.Op,si x2.N,BR x2.Name,.sl false 4 (x2.L.map A9)]] (si r)):=by
  induction n with
  |zero=>exactλh=>EO h
  |succ n ih=>exactλh=>Xu ih h
theorem Vg {n:Nat}:∀{x0 x1 x2 r},(Im n) x0 x1 x2=some r->Says Tryz.prog 267 [.agg (CC x0),si x1,.agg [si x2.Op,si x2.N,BR x2.Name,.sl false 4 (x2.L.map A9)]] (si r):=(Vf n)
namespace DW
def J3:ABr (AL×Bool):=
some ((AL.mk 0 [] [] 0),false)
def J2 (L1:AL->Int->ABr (AL×Bool)) (a:Av) (c:Int) (b:AL) (f:Bool):ABr (AL×Bool):=
if f then
some ((AL.mk 0 [] [] 0),false)
else
(gt a.Bg b.PC).bind λj=>
(Fl j.Op).bind λo=>
if !o then
some (b,true)
else
if c==(a.Bg.length:Int)then
some ((AL.mk 0 [] [] 0),false)
else
(EM j b).bind λi=>
if !i.2 then
some ((AL.mk 0 [] [] 0),false)
else
L1 i.1 (Ay (c+1))
def L1 (a:Av) (L1:AL->Int->ABr (AL×Bool)) (b:AL) (c:Int):ABr (AL×Bool):=
if decide (c≤(a.Bg.length:Int))then
if decide (b.PC<0)then
J2 L1 a c b true
else
J2 L1 a c b (decide (b.PC≥(a.Bg.length:Int)))
else
J3
def AZ (a:Av):Nat->AL->Int->ABr (AL×Bool)
|0,_,_=>none
|n+1,b,c=>L1 a (AZ a n) b c
def J1 (a:Av) (d:AL) (e:Bool):ABr (AL×Bool):=
if e then
some ((AL.mk 0 [] [] 0),false)
else
(E6 d).bind λl=>
AZ a BU l 0
end DW
section
open DW
def DW (a:Av) (d:AL):ABr (AL×Bool):=
if(d.CY.length:Int) != a.CY then
J1 a d true
else
J1 a d ((d.CS.length:Int) != a.CY)
theorem Vk {a:Av} {d:AL} {r:AL×Bool} (h:DW a d=some r):Says Tryz.prog 212 [.agg (CT a),.agg (E0 d)] (.BI [.agg (Br r.1),sb r.2]):=by refine kO mix Tryz.func212 (hn [(2,[13,20,28,40,46,58]),(3,[10,11,17,18,25,34,38,48,56,65]),(7,[52]),(8,[72]),(9,[69]),(66,[63,67,68])] [(2,1),(11,2)]) ?_;have a1:= @Qw;have a2:= @OQ;have a3:= @Y9;have l1:=λn1 n2 n3 n4:Nat=>A0 λn τ=>∃(b:AL) (c:Int),(τ 2=bA 2 (CT a)/\τ 3=bA 4 (Br b)/\τ 4=bA 4 z9/\τ 6=si c)/\AZ a n b c=some r;have c2:=λn1 n2 n3 n4:Nat=>Bo 2 λτ=>∃(c:Int) (b:AL) (f:Bool),(τ 2=bA 2 (CT a)/\τ 3=bA 4 (Br b)/\τ 4=bA 4 z9/\τ 6=si c/\τ 44=sb f)/\J2 (AZ a n1) a c b f=some r;have c1:=λn1 n2 n3 n4:Nat=>Bo 1 λτ=>∃(e:Bool),(τ 2=bA 2 (CT a)/\τ 3=bA 4 (E0 d)/\τ 4=bA 4 z9/\τ 23=sb e)/\J1 a d e=some r;unfold DW at h;exact walk
end
namespace Bh
def J4 (a:AB):ABr Bool:=
(CP a).bind λl=>
some l
def L1 (a:AB) (L1:Int->ABr Bool) (b:Int):ABr Bool:=
if decide (b<(a.Ah.length:Int))then
(gt a.Ah b).bind λo=>
(Fq a o.Mutex false).bind λj=>
if !j then
some false
else
L1 (Ay (b+1))
else
J4 a
def AZ (a:AB):Nat->Int->ABr Bool
|0,_=>none
|n+1,b=>L1 a (AZ a n) b
def J3 (a:AB) (e:Bool):ABr Bool:=
if e then
some false
else
AZ a BU 0
def J2 (a:AB) (d:Bool):ABr Bool:=
if d then
some false
else
(AU a.Cells).bind λf=>
if !f.2 then
J3 a true
else
(BB a f.1).bind λi=>
J3 a (!i)
def J1 (a:AB) (c:Bool):ABr Bool:=
if c then
some false
else
if decide ((a.AA.length:Int)<1)then
J2 a true
else
J2 a (decide ((a.AA.length:Int)>4))
end Bh
section
open Bh
def Bh (a:AB):ABr Bool:=
if decide ((a.Cells.length:Int)>12)then
J1 a true
else
if decide ((a.AF.length:Int)>4)then
J1 a true
else
if decide ((a.Ah.length:Int)>2)then
J1 a true
else
if decide ((a.AK.length:Int)>2)then
J1 a true
else
J1 a (decide ((a.BF.length:Int)>60))
theorem OZ {a:AB} {r:Bool} (h:Bh a=some r):Says Tryz.prog 61 [.agg (Am a)] (sb r):=by refine kO mix Tryz.func61 (hn [(1,[7,12,18,24,30,35,40,46,59]),(3,[55]),(4,[51]),(6,[67]),(48,[45,49,50])] [(2,1),(5,2),(9,3)]) ?_;have a1:= @Oa;have a2:= @Oc;have a3:= @SO;have a4:= @Ob;have l1:=λn1 n2 n3 n4:Nat=>A0 λn τ=>∃(b:Int),(τ 1=bA 6 (Am a)/\τ 60=vS 2 Jd a.Ah/\τ 61=si (a.Ah.length:Int)/\τ 62=si b)/\AZ a n b=some r;have c3:=λn1 n2 n3 n4:Nat=>Bo 3 λτ=>∃(e:Bool),(τ 1=bA 6 (Am a)/\τ 58=sb e)/\J3 a e=some r;have c2:=λn1 n2 n3 n4:Nat=>Bo 2 λτ=>∃(d:Bool),(τ 1=bA 6 (Am a)/\τ 44=sb d)/\J2 a d=some r;have c1:=λn1 n2 n3 n4:Nat=>Bo 1 λτ=>∃(c:Bool),(τ 1=bA 6 (Am a)/\τ 34=sb c)/\J1 a c=some r;unfold Bh at h;exact walk
end
namespace Dw
def J5 (f:Ae) (l:Bool):ABr (Ae×Bool):=
some (f,l)
def J4 (f:Ae):ABr (Ae×Bool):=
if f.State==3 then
J5 f ((f.AF.length:Int)==0)
else
J5 f false
def J3 (b:Bool) (i:Ae):ABr (Ae×Bool):=
if b then
J4 (Ae.mk 3 i.Bz i.AF)
else
J4 i
def J2 (d:List Int) (a:Ae) (b j:Bool):ABr (Ae×Bool):=
if j then
(DK a.AF d).bind λq=>
J3 b (Ae.mk a.State 0 q)
else
some ((Ae.mk 0 0 []),false)
def J1 (a:Ae) (c:Int) (b:Bool) (d:List Int):ABr (Ae×Bool):=
if a.State==0 then
some ((Ae.mk 1 c []),false)
else
if a.State==1 then
if c==a.Bz then
some ((Ae.mk 1 c []),false)
else
(G3 d).bind λp=>
J3 b (Ae.mk 2 0 p)
else
if a.State==2 then
J2 d a b (a.State==2)
else
J2 d a b (a.State==3)
end Dw
section
open Dw
def Dw (a:Ae) (c:Int) (b:Bool) (e:Be):ABr (Ae×Bool):=
if !b then
(DG [e.E9,e.JK]).bind λo=>
J1 a c b o
else
J1 a c b e.E9
theorem OJ {a:Ae} {c:Int} {b:Bool} {e:Be} {r:Ae×Bool} (h:Dw a c b e=some r):Says Tryz.prog 77 [.agg (G5 a),si c,sb b,.agg (G6 e)] (.BI [.agg (G5 r.1),sb r.2]):=by refine kF mix Tryz.func77 (hn [(4,[22,32,43,45]),(7,[12,16,18]),(11,[51,53,57])] [(2,1)] [(136,1)]) ?_;have a1:= @Lk;have a2:= @Og;have a3:= @UX;have c1:=λn1 n2 n3 n4:Nat=>Bo 1 λτ=>∃(d:List Int),(τ 1=si c/\τ 2=sb b/\τ 4=bA 3 (G5 a)/\τ 8=bA 3 z16/\τ 10=vS 1 eI d)/\J1 a c b d=some r;unfold Dw at h;exact walk
end
namespace Ca
def J3 (d:Bool):ABr Bool:=
some d
def J2 (a:ET) (c:Bool):ABr Bool:=
if c then
some false
else
if decide (a.Init>(-9223372036854775808))then
if a.Init==0 then
J3 true
else
if a.Kind==1 then
J3 true
else
J3 (a.Kind==2)
else
J3 false
def J1 (a:ET) (b:Bool):ABr Bool:=
if b then
some false
else
if a.Kind==5 then
(Bu a.On).bind λf=>
if !f then
J2 a true
else
if a.Kind != 5 then
J2 a (!(a.On.toList==(⟨#[]⟩:ABs).toList))
else
J2 a false
else
if a.Kind != 5 then
J2 a (!(a.On.toList==(⟨#[]⟩:ABs).toList))
else
J2 a false
end Ca
section
open Ca
def Ca (a:ET):ABr Bool:=
if decide (a.Kind<1)then
J1 a true
else
if decide (a.Kind>6)then
J1 a true
else
(Bu a.Name).bind λe=>
if !e then
J1 a true
else
if decide (a.B7<0)then
J1 a true
else
if a.Kind != 1 then
J1 a (a.B7 != 0)
else
J1 a false
theorem Qc {a:ET} {r:Bool} (h:Ca a=some r):Says Tryz.prog 235 [.agg (Jm a)] (sb r):=by refine kO mix Tryz.func235 (hn [(1,[3,7,12,18,23,27,32,36,42,46,51,55,59,64])] [(2,1),(5,2)]) ?_;have a1:= @Hy;have c2:=λn1 n2 n3 n4:Nat=>Bo 2 λτ=>∃(c:Bool),(τ 1=bA 6 (Jm a)/\τ 50=sb c)/\J2 a c=some r;have c1:=λn1 n2 n3 n4:Nat=>Bo 1 λτ=>∃(b:Bool),(τ 1=bA 6 (Jm a)/\τ 31=sb b)/\J1 a b=some r;unfold Ca at h;exact walk
end
namespace De
def J2 (j:Bool):ABr Bool:=
some j
def J3 (l:Bool):ABr Bool:=
some l
def J1 (b c:Int) (d:AN) (e:Int) (a:AB) (f:Bool):ABr Bool:=
if f then
some false
else
(gt d.AA e).bind λi=>
if b==1 then
some (i.Status==1)
else
if b==17 then
if i.Status==4 then
if i.Es==c then
(gt a.Ah c).bind λt=>
(gt d.AF t.Mutex).bind λu=>
J2 (u.Bz==(-1))
else
J2 false
else
J2 false
else
if i.Status==2 then
(EF a d e b c).bind λs=>
J3 s
else
J3 false
end De
section
open De
def De (a:AB) (d:AN) (e b c:Int):ABr Bool:=
(EP a d).bind λo=>
if !o then
J1 b c d e a true
else
(DA e (a.AA.length:Int)).bind λp=>
if !p then
J1 b c d e a true
else
(CD a b c).bind λq=>
J1 b c d e a (!q)
theorem MZ {a:AB} {d:AN} {e b c:Int} {r:Bool} (h:De a d e b c=some r):Says Tryz.prog 54 [.agg (Am a),.agg (EH d),si e,si b,si c] (sb r):=by refine kO mix Tryz.func54 (hn [(5,[18,56]),(6,[31,54]),(11,[39,44,48,67])] [(2,1)]) ?_;have a1:= @VW;have a2:= @Lo;have a3:= @Ik;have a4:= @Sz;have c1:=λn1 n2 n3 n4:Nat=>Bo 1 λτ=>∃(f:Bool),(τ 2=si e/\τ 3=si b/\τ 4=si c/\τ 5=bA 6 (Am a)/\τ 6=bA 4 (EH d)/\τ 30=sb f)/\J1 b c d e a f=some r;unfold De at h;exact walk
end
end Go.Abs
