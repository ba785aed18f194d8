/- Typed programs of Go functions, and that the functions do what these say. -/
import Derived.Test.YthmijagacgnmkaaGreatDoorWalkF
import Derived.Test.YthmijagacgnmkaaGreatDoorWalkG
set_option linter.unusedSimpArgs false
set_option linter.unusedVariables false
namespace Go.Abs
open Go.Proofs
set_option maxRecDepth 1000000
set_option maxHeartbeats 4000000
namespace EB
def J3 (i:Int):AB8 Int:=
some i
def J2 (L1:Int->Int->AB8 Int) (R100:AR->Int->BB->AB8 Int) (a:BB) (d:Int) (b:AR) (e c:Int) (j:Bool):AB8 Int:=
if j then
(gt a.L d).bind λq=>
(R100 b c q).bind λp=>
L1 p (A1 (d+1))
else
J3 e
def L1 (R100:AR->Int->BB->AB8 Int) (a:BB) (b:AR) (c:Int) (L1:Int->Int->AB8 Int) (e d:Int):AB8 Int:=
if decide (d<(a.L.length:Int))then
J2 L1 R100 a d b e c (e==0)
else
J2 L1 R100 a d b e c false
def AZ (R100:AR->Int->BB->AB8 Int) (a:BB) (b:AR) (c:Int):Nat->Int->Int->AB8 Int
|0,_,_=>none
|n+1,e,d=>L1 R100 a b c (AZ R100 a b c n) e d
def J1 (R100:AR->Int->BB->AB8 Int) (a:BB) (b:AR) (c f:Int):AB8 Int:=
AZ R100 a b c BP f 0
end EB
section
open EB
def EB (R100:AR->Int->BB->AB8 Int) (b:AR) (c:Int) (a:BB):AB8 Int:=
if a.Op==2 then
(DT b c a.Name 8 1).bind λl=>
J1 R100 a b c l
else
if a.Op==3 then
(DT b c a.Name 2 2).bind λo=>
J1 R100 a b c o
else
J1 R100 a b c 0
theorem Yi {R100:AR->Int->BB->AB8 Int} (H100:∀{x0 x1 x2 r},R100 x0 x1 x2=some r->Says Tryz.prog 267 [.agg (CN x0),si x1,.agg [si x2.Op,si x2.N,BZ x2.Name,vS 4 BD x2.L]] (si r)) {b:AR} {c:Int} {a:BB} {r:Int} (h:EB R100 b c a=some r):Says Tryz.prog 267 [.agg (CN b),si c,.agg [si a.Op,si a.N,BZ a.Name,vS 4 BD a.L]] (si r):=by refine kO mix Tryz.func267 (hn [(5,[9,15,22,26,38])] [(2,1)]) ?_;have a1:= @H100;have a2:= @RX;have l1:=λn1 n2 n3 n4:Nat=>Av λn τ=>∃(e d:Int),(τ 1=si c/\τ 3=bA 2 (CN b)/\τ 5=bA 4 [si a.Op,si a.N,BZ a.Name,vS 4 BD a.L]/\τ 7=si e/\τ 8=si d)/\AZ R100 a b c n e d=some r;have c1:=λn1 n2 n3 n4:Nat=>Bm 1 λτ=>∃(f:Int),(τ 1=si c/\τ 3=bA 2 (CN b)/\τ 5=bA 4 [si a.Op,si a.N,BZ a.Name,vS 4 BD a.L]/\τ 7=si f)/\J1 R100 a b c f=some r;unfold EB at h;exact walk
end
def T5:Nat->(AR->Int->BB->AB8 Int)
|0=>(λ_ _ _=>none)
|n+1=>EB ((T5 n))
def I2 (n:Nat):AR->Int->BB->AB8 Int:=(T5 n)
theorem WT (n:Nat):(∀{x0 x1 x2 r},(I2 n) x0 x1 x2=some r->Says Tryz.prog 267 [.agg (CN x0),si x1,.agg [si x2.Op,si x2.N,BZ x2.Name,.sl false 4 (x2.L.map BD)]] (si r)):=by
  induction n with
  |zero=>exactλh=>DP h
  |succ n ih=>exactλh=>Yi ih h
theorem WU {n:Nat}:∀{x0 x1 x2 r},(I2 n) x0 x1 x2=some r->Says Tryz.prog 267 [.agg (CN x0),si x1,.agg [si x2.Op,si x2.N,BZ x2.Name,.sl false 4 (x2.L.map BD)]] (si r):=(WT n)
namespace De
def J3:AB8 (AL×Bool):=
some ((AL.mk 0 [] [] 0),false)
def J2 (L1:AL->Int->AB8 (AL×Bool)) (a:Az) (c:Int) (b:AL) (f:Bool):AB8 (AL×Bool):=
if f then
some ((AL.mk 0 [] [] 0),false)
else
(gt a.Bq b.PC).bind λj=>
(GF j.Op).bind λo=>
if !o then
some (b,true)
else
if c==(a.Bq.length:Int)then
some ((AL.mk 0 [] [] 0),false)
else
(EZ j b).bind λi=>
if !i.2 then
some ((AL.mk 0 [] [] 0),false)
else
L1 i.1 (A1 (c+1))
def L1 (a:Az) (L1:AL->Int->AB8 (AL×Bool)) (b:AL) (c:Int):AB8 (AL×Bool):=
if decide (c≤(a.Bq.length:Int))then
if decide (b.PC<0)then
J2 L1 a c b true
else
J2 L1 a c b (decide (b.PC≥(a.Bq.length:Int)))
else
J3
def AZ (a:Az):Nat->AL->Int->AB8 (AL×Bool)
|0,_,_=>none
|n+1,b,c=>L1 a (AZ a n) b c
def J1 (a:Az) (d:AL) (e:Bool):AB8 (AL×Bool):=
if e then
some ((AL.mk 0 [] [] 0),false)
else
(FO d).bind λl=>
AZ a BP l 0
end De
section
open De
def De (a:Az) (d:AL):AB8 (AL×Bool):=
if(d.Ch.length:Int) != a.Ch then
J1 a d true
else
J1 a d ((d.Cc.length:Int) != a.Ch)
theorem WZ {a:Az} {d:AL} {r:AL×Bool} (h:De a d=some r):Says Tryz.prog 212 [.agg (Cd a),.agg (FF d)] (.BM [.agg (B0 r.1),sb r.2]):=by refine kO mix Tryz.func212 (hn [(2,[13,20,28,40,46,58]),(3,[10,11,17,18,25,34,38,48,56,65]),(7,[52]),(8,[72]),(9,[69]),(66,[63,67,68])] [(2,1),(11,2)]) ?_;have a1:= @RY;have a2:= @Oy;have a3:= @Zw;have l1:=λn1 n2 n3 n4:Nat=>Av λn τ=>∃(b:AL) (c:Int),(τ 2=bA 2 (Cd a)/\τ 3=bA 4 (B0 b)/\τ 4=bA 4 z9/\τ 6=si c)/\AZ a n b c=some r;have c2:=λn1 n2 n3 n4:Nat=>Bm 2 λτ=>∃(c:Int) (b:AL) (f:Bool),(τ 2=bA 2 (Cd a)/\τ 3=bA 4 (B0 b)/\τ 4=bA 4 z9/\τ 6=si c/\τ 44=sb f)/\J2 (AZ a n1) a c b f=some r;have c1:=λn1 n2 n3 n4:Nat=>Bm 1 λτ=>∃(e:Bool),(τ 2=bA 2 (Cd a)/\τ 3=bA 4 (FF d)/\τ 4=bA 4 z9/\τ 23=sb e)/\J1 a d e=some r;unfold De at h;exact walk
end
namespace Bf
def J4 (a:AD):AB8 Bool:=
(CY a).bind λl=>
some l
def L1 (a:AD) (L1:Int->AB8 Bool) (b:Int):AB8 Bool:=
if decide (b<(a.Af.length:Int))then
(gt a.Af b).bind λo=>
(GL a o.Mutex false).bind λj=>
if !j then
some false
else
L1 (A1 (b+1))
else
J4 a
def AZ (a:AD):Nat->Int->AB8 Bool
|0,_=>none
|n+1,b=>L1 a (AZ a n) b
def J3 (a:AD) (e:Bool):AB8 Bool:=
if e then
some false
else
AZ a BP 0
def J2 (a:AD) (d:Bool):AB8 Bool:=
if d then
some false
else
(AY a.Cells).bind λf=>
if !f.2 then
J3 a true
else
(BF a f.1).bind λi=>
J3 a (!i)
def J1 (a:AD) (c:Bool):AB8 Bool:=
if c then
some false
else
if decide ((a.AA.length:Int)<1)then
J2 a true
else
J2 a (decide ((a.AA.length:Int)>4))
end Bf
section
open Bf
def Bf (a:AD):AB8 Bool:=
if decide ((a.Cells.length:Int)>12)then
J1 a true
else
if decide ((a.AE.length:Int)>4)then
J1 a true
else
if decide ((a.Af.length:Int)>2)then
J1 a true
else
if decide ((a.AK.length:Int)>2)then
J1 a true
else
J1 a (decide ((a.BL.length:Int)>60))
theorem Kb {a:AD} {r:Bool} (h:Bf a=some r):Says Tryz.prog 61 [.agg (Ah a)] (sb r):=by refine kO mix Tryz.func61 (hn [(1,[7,12,18,24,30,35,40,46,59]),(3,[55]),(4,[51]),(6,[67]),(48,[45,49,50])] [(2,1),(5,2),(9,3)]) ?_;have a1:= @O8;have a2:= @PA;have a3:= @TC;have a4:= @O9;have l1:=λn1 n2 n3 n4:Nat=>Av λn τ=>∃(b:Int),(τ 1=bA 6 (Ah a)/\τ 60=vS 2 Ht a.Af/\τ 61=si (a.Af.length:Int)/\τ 62=si b)/\AZ a n b=some r;have c3:=λn1 n2 n3 n4:Nat=>Bm 3 λτ=>∃(e:Bool),(τ 1=bA 6 (Ah a)/\τ 58=sb e)/\J3 a e=some r;have c2:=λn1 n2 n3 n4:Nat=>Bm 2 λτ=>∃(d:Bool),(τ 1=bA 6 (Ah a)/\τ 44=sb d)/\J2 a d=some r;have c1:=λn1 n2 n3 n4:Nat=>Bm 1 λτ=>∃(c:Bool),(τ 1=bA 6 (Ah a)/\τ 34=sb c)/\J1 a c=some r;unfold Bf at h;exact walk
end
namespace HQ
def J5 (f:DO) (l:Bool):AB8 (DO×Bool):=
some (f,l)
def J4 (f:DO):AB8 (DO×Bool):=
if f.State==3 then
J5 f ((f.AE.length:Int)==0)
else
J5 f false
def J3 (b:Bool) (i:DO):AB8 (DO×Bool):=
if b then
J4 (DO.mk 3 i.B6 i.AE)
else
J4 i
def J2 (d:List Int) (a:DO) (b j:Bool):AB8 (DO×Bool):=
if j then
(Ft a.AE d).bind λq=>
J3 b (DO.mk a.State 0 q)
else
some ((DO.mk 0 0 []),false)
def J1 (a:DO) (c:Int) (b:Bool) (d:List Int):AB8 (DO×Bool):=
if a.State==0 then
some ((DO.mk 1 c []),false)
else
if a.State==1 then
if c==a.B6 then
some ((DO.mk 1 c []),false)
else
(IP d).bind λp=>
J3 b (DO.mk 2 0 p)
else
if a.State==2 then
J2 d a b (a.State==2)
else
J2 d a b (a.State==3)
end HQ
section
open HQ
def HQ (a:DO) (c:Int) (b:Bool) (e:D5):AB8 (DO×Bool):=
if !b then
(IU [e.HW,e.MX]).bind λo=>
J1 a c b o
else
J1 a c b e.HW
theorem V5 {a:DO} {c:Int} {b:Bool} {e:D5} {r:DO×Bool} (h:HQ a c b e=some r):Says Tryz.prog 77 [.agg (Wu a),si c,sb b,.agg (K6 e)] (.BM [.agg (Wu r.1),sb r.2]):=by refine kF mix Tryz.func77 (hn [(4,[22,32,43,45]),(7,[12,16,18]),(11,[51,53,57])] [(2,1)] [(136,1)]) ?_;have a1:= @ME;have a2:= @PD;have a3:= @U9;have c1:=λn1 n2 n3 n4:Nat=>Bm 1 λτ=>∃(d:List Int),(τ 1=si c/\τ 2=sb b/\τ 4=bA 3 (Wu a)/\τ 8=bA 3 z16/\τ 10=vS 1 eI d)/\J1 a c b d=some r;unfold HQ at h;exact walk
end
namespace Ck
def J3 (d:Bool):AB8 Bool:=
some d
def J2 (a:Eg) (c:Bool):AB8 Bool:=
if c then
some false
else
if decide (a.Init>(-9223372036854775808))then
if a.Init==0 then
J3 true
else
if a.Kind==1 then
J3 true
else
J3 (a.Kind==2)
else
J3 false
def J1 (a:Eg) (b:Bool):AB8 Bool:=
if b then
some false
else
if a.Kind==5 then
(B3 a.On).bind λf=>
if !f then
J2 a true
else
if a.Kind != 5 then
J2 a (!(a.On.toList==(⟨#[]⟩:AB9).toList))
else
J2 a false
else
if a.Kind != 5 then
J2 a (!(a.On.toList==(⟨#[]⟩:AB9).toList))
else
J2 a false
end Ck
section
open Ck
def Ck (a:Eg):AB8 Bool:=
if decide (a.Kind<1)then
J1 a true
else
if decide (a.Kind>6)then
J1 a true
else
(B3 a.Name).bind λe=>
if !e then
J1 a true
else
if decide (a.Bw<0)then
J1 a true
else
if a.Kind != 1 then
J1 a (a.Bw != 0)
else
J1 a false
theorem Q8 {a:Eg} {r:Bool} (h:Ck a=some r):Says Tryz.prog 235 [.agg (KG a)] (sb r):=by refine kO mix Tryz.func235 (hn [(1,[3,7,12,18,23,27,32,36,42,46,51,55,59,64])] [(2,1),(5,2)]) ?_;have a1:= @IQ;have c2:=λn1 n2 n3 n4:Nat=>Bm 2 λτ=>∃(c:Bool),(τ 1=bA 6 (KG a)/\τ 50=sb c)/\J2 a c=some r;have c1:=λn1 n2 n3 n4:Nat=>Bm 1 λτ=>∃(b:Bool),(τ 1=bA 6 (KG a)/\τ 31=sb b)/\J1 a b=some r;unfold Ck at h;exact walk
end
namespace Dl
def J2 (j:Bool):AB8 Bool:=
some j
def J3 (l:Bool):AB8 Bool:=
some l
def J1 (b c:Int) (d:AP) (e:Int) (a:AD) (f:Bool):AB8 Bool:=
if f then
some false
else
(gt d.AA e).bind λi=>
if b==1 then
some (i.Status==1)
else
if b==17 then
if i.Status==4 then
if i.D7==c then
(gt a.Af c).bind λt=>
(gt d.AE t.Mutex).bind λu=>
J2 (u.B6==(-1))
else
J2 false
else
J2 false
else
if i.Status==2 then
(ER a d e b c).bind λs=>
J3 s
else
J3 false
end Dl
section
open Dl
def Dl (a:AD) (d:AP) (e b c:Int):AB8 Bool:=
(D9 a d).bind λo=>
if !o then
J1 b c d e a true
else
(DH e (a.AA.length:Int)).bind λp=>
if !p then
J1 b c d e a true
else
(CO a b c).bind λq=>
J1 b c d e a (!q)
theorem Mt {a:AD} {d:AP} {e b c:Int} {r:Bool} (h:Dl a d e b c=some r):Says Tryz.prog 54 [.agg (Ah a),.agg (FZ d),si e,si b,si c] (sb r):=by refine kO mix Tryz.func54 (hn [(5,[18,56]),(6,[31,54]),(11,[39,44,48,67])] [(2,1)]) ?_;have a1:= @WE;have a2:= @KL;have a3:= @I0;have a4:= @Tn;have c1:=λn1 n2 n3 n4:Nat=>Bm 1 λτ=>∃(f:Bool),(τ 2=si e/\τ 3=si b/\τ 4=si c/\τ 5=bA 6 (Ah a)/\τ 6=bA 4 (FZ d)/\τ 30=sb f)/\J1 b c d e a f=some r;unfold Dl at h;exact walk
end
namespace Jf
def J1 (c:Bool):AB8 Bool:=
some c
end Jf
section
open Jf
def Jf (a b:AO):AB8 Bool:=
(Br a.World b.World).bind λd=>
if d then
if a.Start==b.Start then
(EU a.Init b.Init).bind λe=>
if e then
(E9 a.AF b.AF).bind λf=>
J1 f
else
J1 false
else
J1 false
else
J1 false
theorem Z3 {a b:AO} {r:Bool} (h:Jf a b=some r):Says Tryz.prog 45 [.agg (BV a),.agg (BV b)] (sb r):=by refine kO mix Tryz.func45 (hn [(2,[5,11,18,25]),(3,[7,13,20,27])]) ?_;have a1:= @Sa;have a2:= @Kf;have a3:= @RG;unfold Jf at h;exact walk
end
end Go.Abs
