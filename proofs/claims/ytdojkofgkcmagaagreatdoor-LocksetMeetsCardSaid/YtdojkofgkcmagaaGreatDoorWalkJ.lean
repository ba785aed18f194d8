/- Typed programs of Go functions, and that the functions do what these say. -/
import Derived.Test.YtdojkofgkcmagaaGreatDoorWalkG
import Derived.Test.YtdojkofgkcmagaaGreatDoorWalkH
set_option linter.defProp false
set_option linter.unusedSimpArgs false
set_option linter.unusedVariables false
namespace Go.Abs
open Go.Proofs Tryz
set_option maxRecDepth 1000000
set_option maxHeartbeats 4000000
namespace EU
def J3(i:Int):ABu Int:=
some i
def J2(L1:mg)(R100:lm)(a:BO)(d:Int)(b:AU)(e c:Int)(j:Bool):=
if j then
(gt a.L d).bind λq=>
(R100 b c q).bind λp=>
L1 p (A6 (d+1))
else
J3 e
def L1(R100:lm)(a:BO)(b:AU)(c:Int)(L1:mg)(e d:Int):=
if decide (d<(a.L.length:Int))then
J2 L1 R100 a d b e c (e==0)
else
J2 L1 R100 a d b e c false
def AW(R100:lm)(a:BO)(b:AU)(c:Int):Nat->Int->Int->ABu Int
|0,_,_=>none
|n+1,e,d=>L1 R100 a b c (AW R100 a b c n) e d
def J1(R100:lm)(a:BO)(b:AU)(c f:Int):=
AW R100 a b c BT f 0
end EU
variable{e:lm}{c:AU}{b a:Int}{d:BO}
section
open EU
def EU(R100:lm)(b:AU)(c:Int)(a:BO):=
if a.Op==2 then
(Dk b c a.di 8 1).bind λl=>
J1 R100 a b c l
else
if a.Op==3 then
(Dk b c a.di 2 2).bind λo=>
J1 R100 a b c o
else
J1 R100 a b c 0
theorem Zr(H100:∀{x0 x1 x2 a},e x0 x1 x2=some a->Says prog 281 [.agg (Cf x0),si x1,.agg [si x2.Op,si x2.N,Bq x2.di,vS 4 BR x2.L]] (si a))(h:EU e c b d=some a):Says prog 281 [.agg (Cf c),si b,.agg [si d.Op,si d.N,Bq d.di,vS 4 BR d.L]] (si a):=by refine kO mix func281 (hn [(5,[9,15,22,26,38])] [(2,1)]) ?_;have a1:= @H100;have a2:= @Sx;have l1:=im λ_ _ _ _ n f=>∃R100 r,(f 1=si b/\f 3=bA 2 (Cf c)/\f 5=bA 4 [si d.Op,si d.N,Bq d.di,vS 4 BR d.L]/\f 7=si R100/\f 8=si r)/\AW e d c b n R100 r=some a;have c1:=ip 1 λ_ _ _ _ r=>∃f,(r 1=si b/\r 3=bA 2 (Cf c)/\r 5=bA 4 [si d.Op,si d.N,Bq d.di,vS 4 BR d.L]/\r 7=si f)/\J1 e d c b f=some a;unfold EU at h;exact walk
end
def U8:Nat->(AU->Int->BO->ABu Int)
|0=>(λ_ _ _=>none)
|n+1=>EU ((U8 n))
def Jc(n:Nat):AU->Int->BO->ABu Int:=(U8 n)
theorem Xl(n:Nat):(∀{x0 x1 x2 r},(Jc n) x0 x1 x2=some r->Says prog 281 [.agg (Cf x0),si x1,.agg [si x2.Op,si x2.N,Bq x2.di,vS 4 BR x2.L]] (si r)):=by
  induction n with
  |zero=>exactλh=>Et h
  |succ n ih=>exactλh=>Zr ih h
def Xm{n:Nat}:∀{x0 x1 x2 r},(Jc n) x0 x1 x2=some r->Says prog 281 [.agg (Cf x0),si x1,.agg [si x2.Op,si x2.N,Bq x2.di,vS 4 BR x2.L]] (si r):=(Xl n)
namespace Dz
def J3:ABu (AN×Bool):=
some ((AN.mk 0 [] [] 0),false)
def J2(L1:AN->Int->ABu (AN×Bool))(a:A5)(c:Int)(b:AN)(f:Bool):=
if f then
some ((AN.mk 0 [] [] 0),false)
else
(gt a.B8 b.PC).bind λj=>
(Gg j.Op).bind λo=>
if !o then
some (b,true)
else
if c==(a.B8.length:Int)then
some ((AN.mk 0 [] [] 0),false)
else
(Ep j b).bind λi=>
if !i.2 then
some ((AN.mk 0 [] [] 0),false)
else
L1 i.1 (A6 (c+1))
def L1(a:A5)(L1:AN->Int->ABu (AN×Bool))(b:AN)(c:Int):=
if decide (c<=(a.B8.length:Int))then
if decide (b.PC<0)then
J2 L1 a c b true
else
J2 L1 a c b (decide (b.PC>=(a.B8.length:Int)))
else
J3
def AW(a:A5):Nat->AN->Int->ABu (AN×Bool)
|0,_,_=>none
|n+1,b,c=>L1 a (AW a n) b c
def J1(a:A5)(d:AN)(e:Bool):=
if e then
some ((AN.mk 0 [] [] 0),false)
else
(Fp d).bind λl=>
AW a BT l 0
end Dz
section
open Dz
def Dz(a:A5)(d:AN):=
if(d.C3.length:Int) != a.C3 then
J1 a d true
else
J1 a d ((d.Cx.length:Int) != a.C3)
theorem Xq{a:A5}{d:AN}{r:AN×Bool}(h:Dz a d=some r):Says prog 214 [.agg (Cz a),.agg (Fh d)] (.BZ [.agg (CL r.1),sb r.2]):=by refine kO mix func214 (hn [(2,[13,20,28,40,46,58]),(3,[10,11,17,18,25,34,38,48,56,65]),(7,[52]),(8,[72]),(9,[69]),(66,[63,67,68])] [(2,1),(11,2)]) ?_;have a1:= @Sy;have a2:= @P0;have a3:= @cV;have l1:=im λ_ _ _ _ n d=>∃b c,(d 2=bA 2 (Cz a)/\d 3=bA 4 (CL b)/\d 4=bA 4 z9/\d 6=si c)/\AW a n b c=some r;have c2:=ip 2 λd _ _ _ e=>∃c b f,(e 2=bA 2 (Cz a)/\e 3=bA 4 (CL b)/\e 4=bA 4 z9/\e 6=si c/\e 44=sb f)/\J2 (AW a d) a c b f=some r;have c1:=ip 1 λ_ _ _ _ b=>∃e,(b 2=bA 2 (Cz a)/\b 3=bA 4 (Fh d)/\b 4=bA 4 z9/\b 23=sb e)/\J1 a d e=some r;unfold Dz at h;exact walk
end
namespace Bw
def J4(a:AF):ABu Bool:=
(Cv a).bind λl=>
some l
def L1(a:AF)(L1:ir)(b:Int):=
if decide (b<(a.Ak.length:Int))then
(gt a.Ak b).bind λo=>
(Gl a o.dm false).bind λj=>
if !j then
some false
else
L1 (A6 (b+1))
else
J4 a
def AW(a:AF):Nat->Int->ABu Bool
|0,_=>none
|n+1,b=>L1 a (AW a n) b
def J3(a:AF)(e:Bool):=
if e then
some false
else
AW a BT 0
def J2(a:AF)(d:Bool):=
if d then
some false
else
(Aa a.df).bind λf=>
if !f.2 then
J3 a true
else
(BU a f.1).bind λi=>
J3 a (!i)
def J1(a:AF)(c:Bool):=
if c then
some false
else
if decide ((a.AA.length:Int)<1)then
J2 a true
else
J2 a (decide ((a.AA.length:Int)>4))
end Bw
section
open Bw
def Bw(a:AF):=
if decide ((a.df.length:Int)>12)then
J1 a true
else
if decide ((a.AK.length:Int)>4)then
J1 a true
else
if decide ((a.Ak.length:Int)>2)then
J1 a true
else
if decide ((a.AL.length:Int)>2)then
J1 a true
else
J1 a (decide ((a.Be.length:Int)>60))
theorem P8{a:AF}{r:Bool}(h:Bw a=some r):Says prog 43 [.agg (Aw a)] (sb r):=by refine kO mix func43 (hn [(1,[7,12,18,24,30,35,40,46,59]),(3,[55]),(4,[51]),(6,[67]),(48,[45,49,50])] [(2,1),(5,2),(9,3)]) ?_;have a1:= @P9;have a2:= @QB;have a3:= @UE;have a4:= @QA;have l1:=im λ_ _ _ _ n c=>∃b,(c 1=bA 6 (Aw a)/\c 60=vS 2 IW a.Ak/\c 61=si (a.Ak.length:Int)/\c 62=si b)/\AW a n b=some r;have c3:=ip 3 λ_ _ _ _ b=>∃e,(b 1=bA 6 (Aw a)/\b 58=sb e)/\J3 a e=some r;have c2:=ip 2 λ_ _ _ _ b=>∃d,(b 1=bA 6 (Aw a)/\b 44=sb d)/\J2 a d=some r;have c1:=ip 1 λ_ _ _ _ b=>∃c,(b 1=bA 6 (Aw a)/\b 34=sb c)/\J1 a c=some r;unfold Bw at h;exact walk
end
namespace Hq
def J5(f:Dh)(l:Bool):ABu (Dh×Bool):=
some (f,l)
def J4(f:Dh):=
if f.d8==3 then
J5 f ((f.AK.length:Int)==0)
else
J5 f false
def J3(b:Bool)(i:Dh):=
if b then
J4 (Dh.mk 3 i.B9 i.AK)
else
J4 i
def J2(d:iq)(a:Dh)(b j:Bool):=
if j then
(Dp a.AK d).bind λq=>
J3 b (Dh.mk a.d8 0 q)
else
some ((Dh.mk 0 0 []),false)
def J1(a:Dh)(c:Int)(b:Bool)(d:iq):=
if a.d8==0 then
some ((Dh.mk 1 c []),false)
else
if a.d8==1 then
if c==a.B9 then
some ((Dh.mk 1 c []),false)
else
(IF d).bind λp=>
J3 b (Dh.mk 2 0 p)
else
if a.d8==2 then
J2 d a b (a.d8==2)
else
J2 d a b (a.d8==3)
end Hq
section
open Hq
def Hq(a:Dh)(c:Int)(b:Bool)(e:Em):=
if !b then
(Iu [e.F6,e.MG]).bind λo=>
J1 a c b o
else
J1 a c b e.F6
theorem XU{a:Dh}{c:Int}{b:Bool}{e:Em}{r:Dh×Bool}(h:Hq a c b e=some r):Says prog 61 [.agg (X9 a),si c,sb b,.agg (NZ e)] (.BZ [.agg (X9 r.1),sb r.2]):=by refine kF mix func61 (hn [(4,[22,32,43,45]),(7,[12,16,18]),(11,[51,53,57])] [(2,1)] [(116,1)]) ?_;have a1:= @M5;have a2:= @LL;have a3:= @WJ;have c1:=ip 1 λ_ _ _ _ e=>∃d,(e 1=si c/\e 2=sb b/\e 4=bA 3 (X9 a)/\e 8=bA 3 [si 0,si 0,.own false 1 []]/\e 10=vS 1 eI d)/\J1 a c b d=some r;unfold Hq at h;exact walk
end
namespace C5
def J3(d:Bool):ABu Bool:=
some d
def J2(a:Ey)(c:Bool):=
if c then
some false
else
if decide (a.db>(-9223372036854775808))then
if a.db==0 then
J3 true
else
if a.da==1 then
J3 true
else
J3 (a.da==2)
else
J3 false
def J1(a:Ey)(b:Bool):=
if b then
some false
else
if a.da==5 then
(CO a.On).bind λf=>
if !f then
J2 a true
else
if a.da != 5 then
J2 a (!(a.On.toList==(⟨#[]⟩:ABv).toList))
else
J2 a false
else
if a.da != 5 then
J2 a (!(a.On.toList==(⟨#[]⟩:ABv).toList))
else
J2 a false
end C5
section
open C5
def C5(a:Ey):=
if decide (a.da<1)then
J1 a true
else
if decide (a.da>6)then
J1 a true
else
(CO a.di).bind λe=>
if !e then
J1 a true
else
if decide (a.B3<0)then
J1 a true
else
if a.da != 1 then
J1 a (a.B3 != 0)
else
J1 a false
theorem SX{a:Ey}{r:Bool}(h:C5 a=some r):Says prog 244 [.agg (Kq a)] (sb r):=by refine kO mix func244 (hn [(1,[3,7,12,18,23,27,32,36,42,46,51,55,59,64])] [(2,1),(5,2)]) ?_;have a1:= @Iq;have c2:=ip 2 λ_ _ _ _ b=>∃c,(b 1=bA 6 (Kq a)/\b 50=sb c)/\J2 a c=some r;have c1:=ip 1 λ_ _ _ _ c=>∃b,(c 1=bA 6 (Kq a)/\c 31=sb b)/\J1 a b=some r;unfold C5 at h;exact walk
end
namespace D8
def J2(j:Bool):ABu Bool:=
some j
def J3(l:Bool):ABu Bool:=
some l
def J1(b c:Int)(d:AQ)(e:Int)(a:AF)(f:Bool):=
if f then
some false
else
(gt d.AA e).bind λi=>
if b==1 then
some (i.dg==1)
else
if b==17 then
if i.dg==4 then
if i.Dy==c then
(gt a.Ak c).bind λt=>
(gt d.AK t.dm).bind λu=>
J2 (u.B9==(-1))
else
J2 false
else
J2 false
else
if i.dg==2 then
(Eg a d e b c).bind λs=>
J3 s
else
J3 false
end D8
section
open D8
def D8(a:AF)(d:AQ)(e b c:Int):=
(ES a d).bind λo=>
if !o then
J1 b c d e a true
else
(Da e (a.AA.length:Int)).bind λp=>
if !p then
J1 b c d e a true
else
(Cg a b c).bind λq=>
J1 b c d e a (!q)
theorem Ng{a:AF}{d:AQ}{e b c:Int}{r:Bool}(h:D8 a d e b c=some r):Says prog 146 [.agg (Aw a),.agg (He d),si e,si b,si c] (sb r):=by refine kO mix func146 (hn [(5,[18,56]),(6,[31,54]),(11,[39,44,48,67])] [(2,1)]) ?_;have a1:= @Xc;have a2:= @Kv;have a3:= @JZ;have a4:= @Un;have c1:=ip 1 λ_ _ _ _ g=>∃f,(g 2=si e/\g 3=si b/\g 4=si c/\g 5=bA 6 (Aw a)/\g 6=bA 4 (He d)/\g 30=sb f)/\J1 b c d e a f=some r;unfold D8 at h;exact walk
end
namespace E5
def J1(f:Bool):ABu Bool:=
some f
end E5
section
open E5
def E5(a:AG)(b:Ac)(c:Int):=
(Gj a b c).bind λe=>
if decide (e<0)then
some false
else
(gt a.AB e).bind λd=>
(Cu a.cT b.de c d.da d.dn).bind λi=>
if i then
(EY a b c d.EA).bind λj=>
J1 j
else
J1 false
theorem Lb{a:AG}{b:Ac}{c:Int}{r:Bool}(h:E5 a b c=some r):Says prog 25 [.agg (A4 a),.agg (IH b),si c] (sb r):=by refine kO mix func25 (hn [(3,[15,20]),(4,[22]),(8,[25,27,34])]) ?_;have a1:= @Ll;have a2:= @LZ;have a3:= @Nn;unfold E5 at h;exact walk
end
def Gt(a b:iq):ABu Bool:=
(Dp a b).bind λc=>
some (decide ((c.length:Int)>0))
theorem SK{a b:iq}{r:Bool}(h:Gt a b=some r):Says prog 68 [vS 1 eI a,vS 1 eI b] (sb r):=by refine kO mix func68 (hn (C:=[(117,2)])) ?_;have a1:= @LL;unfold Gt at h;exact walk
end Go.Abs
