/- Typed programs of Go functions, and that the functions do what these say. -/
import Derived.Test.YtdojkofgkcmagaaGreatDoorBaseA
set_option linter.defProp false
set_option linter.unusedSimpArgs false
set_option linter.unusedVariables false
namespace Go.Abs
open Go.Proofs Tryz
set_option maxRecDepth 1000000
set_option maxHeartbeats 4000000
namespace Ck
def J4(o:AQ):ABu AQ:=
some o
def J3(L3:ma)(c:Int)(b:AQ)(p:AM):=
if Am (b.AA.length+1) 24=true then
L3 (AQ.mk b.AK b.Tx b.Bp (b.AA++[p])) (A6 (c+1))
else none
def L3(a:AF)(L3:ma)(b:AQ)(c:Int):=
if decide (c<(a.AA.length:Int))then
if c==0 then
J3 L3 c b (AM.mk 1 0 false)
else
J3 L3 c b (AM.mk 0 0 false)
else
J4 b
def Gc(a:AF):Nat->AQ->Int->ABu AQ
|0,_,_=>none
|n+1,b,c=>L3 a (Gc a n) b c
def J2(a:AF)(l:AQ):=
Gc a BT l 0
def L2(a:AF)(L2:ma)(e:AQ)(i:Int):=
if decide (i<(a.AL.length:Int))then
if Am (e.Bp.length+1) 1=true then
L2 (AQ.mk e.AK e.Tx (e.Bp++[false]) e.AA) (A6 (i+1))
else none
else
J2 a e
def CC(a:AF):Nat->AQ->Int->ABu AQ
|0,_,_=>none
|n+1,e,i=>L2 a (CC a n) e i
def J1(a:AF)(j:AQ):=
CC a BT j 0
def L1(a:AF)(L1:ma)(d:AQ)(f:Int):=
if decide (f<(a.AK.length:Int))then
if Am (d.AK.length+1) 32=true then
L1 (AQ.mk (d.AK++[(AY.mk (-1) [])]) d.Tx d.Bp d.AA) (A6 (f+1))
else none
else
J1 a d
def AW(a:AF):Nat->AQ->Int->ABu AQ
|0,_,_=>none
|n+1,d,f=>L1 a (AW a n) d f
end Ck
section
open Ck
def Ck(a:AF):=
AW a BT (AQ.mk [] (-1) [] []) 0
def Q5{a:AF}{r:AQ}(h:Ck a=some r):Says prog 135 [.agg (Aw a)] (.agg (JB r)):=by refine kO mix func135 (hn [(1,[10,23,35]),(3,[16,17,21,29,30,33,45,46,50,51]),(7,[44])]) ?_;have l3:=im λ_ _ _ _ n d=>∃b c,(d 1=bA 6 (Aw a)/\d 2=bA 4 z5/\d 3=bA 4 (JB b)/\d 6=si c)/\Gc a n b c=some r;have l2:=im λ_ _ _ _ n b=>∃e i,(b 1=bA 6 (Aw a)/\b 2=bA 4 z5/\b 3=bA 4 (JB e)/\b 5=si i)/\CC a n e i=some r;have l1:=im λ_ _ _ _ n b=>∃d f,(b 1=bA 6 (Aw a)/\b 2=bA 4 z5/\b 3=bA 4 (JB d)/\b 4=si f)/\AW a n d f=some r;unfold Ck at h;exact walk
end
namespace DK
def J5:=
some true
def J4(L1:ir)(a:Int):=
L1 (A6 (a+1))
def J3(L1:ir)(a:Int)(s:Bool):=
if !s then
some false
else
J4 L1 a
def J2(L2:kq)(f o:Int)(q:Bool):=
L2 o q (A6 (f+1))
def J1(L2:kq)(f i:Int)(p:Bool):=
J2 L2 f (A6 (i+1)) p
def L2(L1:ir)(c a:Int)(d:jm)(b:iq)(e:Int)(L2:kq)(i:Int)(j:Bool)(f:Int):=
if decide (f<c)then
(gt d f).bind λl=>
if l.cr != e then
J2 L2 f i j
else
if j then
J1 L2 f i true
else
(gt b a).bind λt=>
if i==t then
if l.da==3 then
J1 L2 f i true
else
J1 L2 f i (l.da==23)
else
J1 L2 f i false
else
J3 L1 a j
def CC(L1:ir)(c a:Int)(d:jm)(b:iq)(e:Int):Nat->Int->Bool->Int->ABu Bool
|0,_,_,_=>none
|n+1,i,j,f=>L2 L1 c a d b e (CC L1 c a d b e n) i j f
def L1(c:Int)(d:jm)(b:iq)(e:Int)(L1:ir)(a:Int):=
if decide (a<(b.length:Int))then
CC L1 c a d b e BT 0 false 0
else
J5
def AW(c:Int)(d:jm)(b:iq)(e:Int):Nat->Int->ABu Bool
|0,_=>none
|n+1,a=>L1 c d b e (AW c d b e n) a
end DK
section
open DK
def DK(d:jm)(c e:Int)(b:iq):=
AW c d b e BT 0
def Z3{d:jm}{c e:Int}{b:iq}{r:Bool}(h:DK d c e b=some r):Says prog 141 [vS 7 A7 d,si c,si e,vS 1 eI b] (sb r):=by refine kO mix func141 hn ?_;have l1:=im λ_ _ _ _ n f=>∃a,(f 0=vS 7 A7 d/\f 1=si c/\f 2=si e/\f 3=vS 1 eI b/\f 9=si a)/\AW c d b e n a=some r;have l2:=im λg _ _ _ n h=>∃a i j f,(h 0=vS 7 A7 d/\h 1=si c/\h 2=si e/\h 3=vS 1 eI b/\h 9=si a/\h 10=si i/\h 11=sb j/\h 12=si f)/\CC (AW c d b e g) c a d b e n i j f=some r;unfold DK at h;exact walk
end
namespace A8
def J4:=
some true
def J3(L1:ir)(b:Int):=
L1 (A6 (b+1))
def J2(L2:ir)(e:Int)(i:Bool):=
if i then
some false
else
L2 (A6 (e+1))
def L2(L1:ir)(d:iq)(a:jD)(b:Int)(L2:ir)(e:Int):=
if decide (e<(d.length:Int))then
(gt d e).bind λf=>
if decide (f<0)then
J2 L2 e true
else
if decide (f>=(a.length:Int))then
J2 L2 e true
else
(gt a f).bind λj=>
J2 L2 e (!j)
else
J3 L1 b
def CC(L1:ir)(d:iq)(a:jD)(b:Int):Nat->Int->ABu Bool
|0,_=>none
|n+1,e=>L2 L1 d a b (CC L1 d a b n) e
def J1(L1:ir)(a:jD)(b:Int)(d:iq):=
CC L1 d a b BT 0
def L1(c:AH)(a:jD)(L1:ir)(b:Int):=
if decide (b<2)then
if b==0 then
J1 L1 a b c.EA
else
if b==1 then
J1 L1 a b c.DW
else
none
else
J4
def AW(c:AH)(a:jD):Nat->Int->ABu Bool
|0,_=>none
|n+1,b=>L1 c a (AW c a n) b
end A8
section
open A8
def A8(a:jD)(c:AH):=
AW c a BT 0
end
namespace Gs
def J2(f:AF):ABu AF:=
some f
def J1(L1:kf)(a:Int)(e:AF):=
L1 e (A6 (a+1))
def L2(L1:kf)(a:Int)(L2:kf)(b:AF)(c:Int):=
if decide (c<6)then
if Am (b.Be.length+1) 24=true then
L2 (AF.mk b.df b.AK b.Ak b.AL b.AA (b.Be++[(EG.mk a c (A6 ((A6 ((A6 (10*a))+c))+1)))])) (A6 (c+1))
else none
else
J1 L1 a b
def CC(L1:kf)(a:Int):Nat->AF->Int->ABu AF
|0,_,_=>none
|n+1,b,c=>L2 L1 a (CC L1 a n) b c
def L1(L1:kf)(d:AF)(a:Int):=
if decide (a<4)then
CC L1 a BT d 0
else
J2 d
def AW:Nat->AF->Int->ABu AF
|0,_,_=>none
|n+1,d,a=>L1 (AW n) d a
end Gs
section
open Gs
def Gs:=
AW BT (AF.mk [(Du.mk (⟨#[120]⟩:ABv) 0 0 false 0),(Du.mk (⟨#[121]⟩:ABv) 0 0 false 1),(Du.mk (⟨#[118]⟩:ABv) 0 0 true 0),(Du.mk (⟨#[113]⟩:ABv) 0 2 false 0),(Du.mk (⟨#[113]⟩:ABv) 1 2 false 0)] [(Kj.mk (⟨#[109]⟩:ABv) false),(Kj.mk (⟨#[110]⟩:ABv) false),(Kj.mk (⟨#[114]⟩:ABv) true)] [(T8.mk (⟨#[99]⟩:ABv) 0)] [(⟨#[102]⟩:ABv)] [(⟨#[109,97,105,110]⟩:ABv),(⟨#[116,49]⟩:ABv),(⟨#[116,50]⟩:ABv),(⟨#[116,51]⟩:ABv)] []) 0
def RF{r:AF}(h:Gs=some r):Says prog 81 [] (.agg (Mc r)):=by refine kO mix func81 (hn [(1,[19,20,29,30,41,43])]) ?_;have l1:=im λ_ _ _ _ n b=>∃d a,(b 0=bA 6 z8/\b 1=bA 6 (Mc d)/\b 21=si 4/\b 22=si a)/\AW n d a=some r;have l2:=im λd _ _ _ n e=>∃a b c,(e 0=bA 6 z8/\e 1=bA 6 (Mc b)/\e 2=si a/\e 3=si c/\e 21=si 4/\e 22=si a)/\CC (AW d) a n b c=some r;unfold Gs at h;exact walk
end
namespace DQ
def J3(a:AE)(l:iq):ABu ((List Int)×AE):=
some (l,a)
def J2(L1:lp)(c:Int)(j:iq):=
L1 j (A6 (c+1))
def J1(L1:lp)(e:iq)(a:AE)(c b f i:Int)(o:Bool):=
if o then
(gt a.eb b).bind λq=>
(gt q (A6 (f-i))).bind λs=>
if Am (e.length+1) 8=true then
J2 L1 c (e++[s])
else none
else
J2 L1 c e
def L1(d:iq)(a:AE)(b:Int)(L1:lp)(e:iq)(c:Int):=
if decide (c<(d.length:Int))then
(gt d c).bind λf=>
(gt a.w.db.dc b).bind λi=>
if decide ((A6 (f-i))>=0)then
(gt a.eb b).bind λp=>
J1 L1 e a c b f i (decide ((A6 (f-i))<(p.length:Int)))
else
J1 L1 e a c b f i false
else
J3 a e
def AW(d:iq)(a:AE)(b:Int):Nat->(List Int)->Int->ABu ((List Int)×AE)
|0,_,_=>none
|n+1,e,c=>L1 d a b (AW d a b n) e c
end DQ
section
open DQ
def DQ(a:AE)(b:Int)(d:iq):=
AW d a b BT [] 0
def PO{a:AE}{b:Int}{d:iq}{r:ns}(h:DQ a b d=some r):BB prog 173 [bA 18 (Bh a),si b,vS 1 eI d] (vO 1 eI r.1) [bA 18 (Bh r.2),.dead,.dead]:=by refine kL mix func173 (hn [(0,[17,18,19,20,21,22,24,31,32,33,34,36,37,42,43,44,45,47,48,50]),(7,[41,55])]) ?_;have l1:=im λ_ _ _ _ n f=>∃e c,(f 0=bA 18 (Bh a)/\f 1=si b/\f 7=vO 1 eI e/\f 10=vS 1 eI d/\f 11=si (d.length:Int)/\f 12=si c)/\AW d a b n e c=some r;unfold DQ at h;exact walk
end
namespace GC
def J1(i f:Int):ABu (Int×Int):=
some (i,A6 (f+1))
def L1(R100:my)(a:BO)(L1:Int->Int->Int->ABu (Int×Int))(d b c:Int):=
if decide (c<(a.L.length:Int))then
(gt a.L c).bind λj=>
(R100 j).bind λe=>
L1 (A6 (d+e.1)) (if e.2>b then e.2 else b) (A6 (c+1))
else
J1 d b
def AW(R100:my)(a:BO):Nat->Int->Int->Int->ABu (Int×Int)
|0,_,_,_=>none
|n+1,d,b,c=>L1 R100 a (AW R100 a n) d b c
end GC
variable{f:my}{d:BO}{a:Int×Int}
section
open GC
def GC(R100:my)(a:BO):=
AW R100 a BT 1 0 0
theorem Zp(H100:∀{x0 a},f x0=some a->Says prog 280 [.agg [si x0.Op,si x0.N,Bq x0.di,vS 4 BR x0.L]] (.BZ [si a.1,si a.2]))(h:GC f d=some a):Says prog 280 [.agg [si d.Op,si d.N,Bq d.di,vS 4 BR d.L]] (.BZ [si a.1,si a.2]):=by refine kO mix func280 (hn [(1,[10,17])]) ?_;have a1:= @H100;have l1:=im λ_ _ _ _ n e=>∃r b c,(e 1=bA 4 [si d.Op,si d.N,Bq d.di,vS 4 BR d.L]/\e 4=si r/\e 5=si b/\e 6=si c)/\AW f d n r b c=some a;unfold GC at h;exact walk
end
def U7:Nat->(BO->ABu (Int×Int))
|0=>(λ_=>none)
|n+1=>GC ((U7 n))
def K3(n:Nat):BO->ABu (Int×Int):=(U7 n)
theorem Xj(n:Nat):(∀{x0 r},(K3 n) x0=some r->Says prog 280 [.agg [si x0.Op,si x0.N,Bq x0.di,vS 4 BR x0.L]] (.BZ [si r.1,si r.2])):=by
  induction n with
  |zero=>exactλh=>Et h
  |succ n ih=>exactλh=>Zp ih h
def Xk{n:Nat}:∀{x0 r},(K3 n) x0=some r->Says prog 280 [.agg [si x0.Op,si x0.N,Bq x0.di,vS 4 BR x0.L]] (.BZ [si r.1,si r.2]):=(Xj n)
namespace E1
def J2(f:AQ):ABu AQ:=
some f
def J1(d:AQ):=
if decide ((d.AA.length:Int)>0)then
(gt d.AA 0).bind λe=>
J2 (AQ.mk d.AK d.Tx d.Bp (d.AA.set 0 (AM.mk 1 e.Dy e.dy)))
else
J2 d
def L1(a:AF)(L1:ma)(b:AQ)(c:Int):=
if decide (c<(a.AK.length:Int))then
(gt b.AK c).bind λi=>
L1 (AQ.mk (b.AK.set c.toNat (AY.mk (-1) i.An)) b.Tx b.Bp b.AA) (A6 (c+1))
else
J1 b
def AW(a:AF):Nat->AQ->Int->ABu AQ
|0,_,_=>none
|n+1,b,c=>L1 a (AW a n) b c
end E1
section
open E1
def E1(a:AF):=
if 0<=(a.AK.length:Int)/\(a.AK.length:Int)<=(a.AK.length:Int)/\Am a.AK.length 32=true then
if 0<=(a.AL.length:Int)/\(a.AL.length:Int)<=(a.AL.length:Int)/\Am a.AL.length 1=true then
if 0<=(a.AA.length:Int)/\(a.AA.length:Int)<=(a.AA.length:Int)/\Am a.AA.length 24=true then
AW a BT (AQ.mk (List.replicate a.AK.length (AY.mk 0 [])) (-1) (List.replicate a.AL.length false) (List.replicate a.AA.length (AM.mk 0 0 false))) 0
else none
else none
else none
end
namespace DG
def J1(e:Int):ABu Int:=
some e
def L1(R100:mz)(a:ju)(L1:mg)(c b:Int):=
if decide (b<(a.length:Int))then
(gt a b).bind λd=>
(R100 d.dx).bind λf=>
(R100 d.d7).bind λi=>
L1 (A6 ((A6 (c+f))+i)) (A6 (b+1))
else
J1 c
def AW(R100:mz)(a:ju):Nat->Int->Int->ABu Int
|0,_,_=>none
|n+1,c,b=>L1 R100 a (AW R100 a n) c b
end DG
variable{e:mz}{c:ju}{b:Int}
section
open DG
def DG(R100:mz)(a:ju):=
AW R100 a BT (a.length:Int) 0
theorem Zo(H100:∀{x0 b},e x0=some b->Says prog 218 [vS 11 BJ x0] (si b))(h:DG e c=some b):Says prog 218 [vS 11 BJ c] (si b):=by refine kO mix func218 hn ?_;have a1:= @H100;have l1:=im λ_ _ _ _ n d=>∃a r,(d 0=vS 11 BJ c/\d 3=si a/\d 4=si r)/\AW e c n a r=some b;unfold DG at h;exact walk
end
def U6:Nat->((List AR)->ABu Int)
|0=>(λ_=>none)
|n+1=>DG ((U6 n))
def HE(n:Nat):(List AR)->ABu Int:=(U6 n)
theorem Xg(n:Nat):(∀{x0 r},(HE n) x0=some r->Says prog 218 [vS 11 BJ x0] (si r)):=by
  induction n with
  |zero=>exactλh=>Et h
  |succ n ih=>exactλh=>Zo ih h
def Xh{n:Nat}:∀{x0 r},(HE n) x0=some r->Says prog 218 [vS 11 BJ x0] (si r):=(Xg n)
namespace Ex
def J3(c:Int)(a:iq)(b:Int)(f:Bool):ABu (List Int):=
if f then
some a
else
if 0<=c/\c.toNat<=a.length then
if Am ((a.take c.toNat).length) 8=true then
if Am ((a.take c.toNat).length+1) 8=true then
if 0<=c/\c.toNat<=a.length then
if Am (((a.take c.toNat)++[b]).length+((a.drop c.toNat).take (a.length-c.toNat)).length) 8=true then
some (((a.take c.toNat)++[b])++((a.drop c.toNat).take (a.length-c.toNat)))
else none
else none
else none
else none
else none
def J2(a:iq)(b c:Int):=
if decide (c<(a.length:Int))then
(gt a c).bind λj=>
J3 c a b (j==b)
else
J3 c a b false
def J1(L1:Int->ABu (List Int))(d:Int)(a:iq)(b:Int)(e:Bool):=
if e then
L1 (A6 (d+1))
else
J2 a b d
def L1(a:iq)(b:Int)(L1:Int->ABu (List Int))(d:Int):=
if decide (d<(a.length:Int))then
(gt a d).bind λi=>
J1 L1 d a b (decide (i<b))
else
J1 L1 d a b false
def AW(a:iq)(b:Int):Nat->Int->ABu (List Int)
|0,_=>none
|n+1,d=>L1 a b (AW a b n) d
end Ex
section
open Ex
def Ex(a:iq)(b:Int):=
AW a b BT 0
theorem kD{a:iq}{b:Int}{r:iq}(h:Ex a b=some r):Says prog 200 [vO 1 eI a,si b] (vO 1 eI r):=by refine kO mix func200 (hn [(0,[8,12,14,22,26,28,33,35,44]),(6,[39,43])]) ?_;have l1:=im λ_ _ _ _ n c=>∃d,(c 0=vO 1 eI a/\c 1=si b/\c 5=si d)/\AW a b n d=some r;unfold Ex at h;exact walk
end
namespace Bn
def J2(a:BX):ABu (Bool×BX):=
some (false,a)
def J1(L1:nl)(b:Int)(a:BX)(i:Bool):=
if i then
some (true,a)
else
L1 (A6 (b+1))
def L1(d e:Int)(c:ABv)(a:BX)(L1:nl)(b:Int):=
if decide (b<(a.G3.length:Int))then
(gt a.G3 b).bind λf=>
if f.Op==d then
if c.toList==(⟨#[]⟩:ABv).toList then
J1 L1 b a true
else
J1 L1 b a (f.di.toList==c.toList)
else
if f.Op==e then
if c.toList==(⟨#[]⟩:ABv).toList then
J1 L1 b a true
else
J1 L1 b a (f.di.toList==c.toList)
else
J1 L1 b a false
else
J2 a
def AW(d e:Int)(c:ABv)(a:BX):Nat->Int->ABu (Bool×BX)
|0,_=>none
|n+1,b=>L1 d e c a (AW d e c a n) b
end Bn
section
open Bn
def Bn(a:BX)(d e:Int)(c:ABv):=
AW d e c a BT 0
theorem Qx{a:BX}{d e:Int}{c:ABv}{r:lv}(h:Bn a d e c=some r):BB prog 269 [bA 6 (Hx a),si d,si e,Bq c] (sb r.1) [bA 6 (Hx r.2),.dead,.dead,.dead]:=by refine kL mix func269 (hn [(0,[12,13,14,15,20,21,22,23,25,26]),(10,[27,32,41])]) ?_;have l1:=im λ_ _ _ _ n f=>∃b,(f 0=bA 6 (Hx a)/\f 1=si d/\f 2=si e/\f 3=Bq c/\f 9=si b)/\AW d e c a n b=some r;unfold Bn at h;exact walk
end
namespace Cv
def J3:=
some true
def J2(L1:m0)(b:Int)(d:EG)(j f:Int):=
if d.ek != f then
some false
else
L1 j (A6 (f+1)) (A6 (b+1))
def J1(L1:m0)(e b c:Int)(d:EG)(i:Bool):=
if i then
some false
else
if decide (d.cr>c)then
J2 L1 b d d.cr 0
else
J2 L1 b d c e
def L1(a:AF)(L1:m0)(c e b:Int):=
if decide (b<(a.Be.length:Int))then
(gt a.Be b).bind λd=>
if decide (d.cr<c)then
J1 L1 e b c d true
else
J1 L1 e b c d (decide (d.cr>=(a.AA.length:Int)))
else
J3
def AW(a:AF):Nat->Int->Int->Int->ABu Bool
|0,_,_,_=>none
|n+1,c,e,b=>L1 a (AW a n) c e b
end Cv
section
open Cv
def Cv(a:AF):=
AW a BT 0 0 0
theorem QB{a:AF}{r:Bool}(h:Cv a=some r):Says prog 93 [.agg (Aw a)] (sb r):=by refine kO mix func93 (hn [(1,[7,21]),(6,[14,19,26,30,32])]) ?_;have l1:=im λ_ _ _ _ n d=>∃c e b,(d 1=bA 6 (Aw a)/\d 3=si c/\d 4=si e/\d 8=vS 3 Gu a.Be/\d 9=si (a.Be.length:Int)/\d 10=si b)/\AW a n c e b=some r;unfold Cv at h;exact walk
end
namespace Ms
def J4(e:iq):ABu (List Int):=
some e
def J3(a:iq)(c b:Int)(f:Bool):=
if f then
(gt (a.take c.toNat++(List.replicate c.toNat (0:Int)).drop a.length) b).bind λj=>
J4 ((a.take c.toNat++(List.replicate c.toNat (0:Int)).drop a.length).set b.toNat (A6 (j+1)))
else
J4 (a.take c.toNat++(List.replicate c.toNat (0:Int)).drop a.length)
def J2(a:iq)(d:Bool)(b c:Int):=
if 0<=c/\c<=c/\Am c.toNat 8=true then
if d then
(gt (a.take c.toNat++(List.replicate c.toNat (0:Int)).drop a.length) b).bind λi=>
J3 a c b (decide (i<9223372036854775807))
else
J3 a c b false
else none
def J1(a:iq)(b:Int)(d:Bool):=
if d then
J2 a d b (if(A6 (b+1))>(a.length:Int)then(A6 (b+1))else(a.length:Int))
else
J2 a d b (a.length:Int)
end Ms
section
open Ms
def Ms(a:iq)(b:Int):=
if decide (b>=0)then
J1 a b (decide (b<4))
else
J1 a b false
end
namespace Ab
def J3(a:Ai)(d:Bool):ABu (List Int):=
if d then
some [a.B]
else
if a.Op==9 then
some [a.B,a.C]
else
some []
def J2(a:Ai)(b:Bool):=
if b then
some [a.A,a.B]
else
if a.Op==4 then
some [a.A,a.B,a.C]
else
if a.Op==7 then
some [a.A,a.C]
else
if a.Op==8 then
J3 a (a.Op==8)
else
J3 a (a.Op==26)
def J1(a:Ai)(c:Bool):=
if c then
some [a.A]
else
if a.Op==2 then
J2 a (a.Op==2)
else
J2 a (a.Op==3)
end Ab
section
open Ab
def Ab(a:Ai):=
if a.Op==1 then
J1 a (a.Op==1)
else
if a.Op==6 then
J1 a (a.Op==6)
else
if a.Op==10 then
J1 a (a.Op==10)
else
J1 a (a.Op==27)
theorem KQ{a:Ai}{r:iq}(h:Ab a=some r):Says prog 185 [.agg (Ed a)] (vO 1 eI r):=by refine kO mix func185 (hn [(1,[3,10,16,18,23,25,27,32,34,40,45,47])] [(3,1),(8,2)]) ?_;have c2:=ip 2 λ_ _ _ _ c=>∃b,(c 1=bA 6 (Ed a)/\c 4=si a.Op/\c 13=sb b)/\J2 a b=some r;have c1:=ip 1 λ_ _ _ _ b=>∃c,(b 1=bA 6 (Ed a)/\b 4=si a.Op/\b 5=sb c)/\J1 a c=some r;unfold Ab at h;exact walk
end
namespace C0
def J3(i:iq):ABu (List Int):=
some i
def J2(L1:iw)(a:Int)(f:iq):=
L1 f (A6 (a+1))
def J1(L1:iw)(a:Int)(b:iq)(j:Bool):=
if j then
if Am (b.length+1) 8=true then
J2 L1 a (b++[a])
else none
else
J2 L1 a b
def L1(d:Int)(c:AQ)(L1:iw)(b:iq)(a:Int):=
if decide (a<(c.AA.length:Int))then
(gt c.AA a).bind λe=>
if e.dg==3 then
J1 L1 a b (e.Dy==d)
else
J1 L1 a b false
else
J3 b
def AW(d:Int)(c:AQ):Nat->(List Int)->Int->ABu (List Int)
|0,_,_=>none
|n+1,b,a=>L1 d c (AW d c n) b a
end C0
section
open C0
def C0(c:AQ)(d:Int):=
AW d c BT [] 0
theorem La{c:AQ}{d:Int}{r:iq}(h:C0 c d=some r):Says prog 119 [.agg (He c),si d] (vO 1 eI r):=by refine kO mix func119 (hn [(2,[8,14,22]),(5,[31,35])]) ?_;have l1:=im λ_ _ _ _ n e=>∃b a,(e 1=si d/\e 2=bA 4 (He c)/\e 5=vO 1 eI b/\e 6=si a)/\AW d c n b a=some r;unfold C0 at h;exact walk
end
namespace E8
def J3(f:Bool):ABu Bool:=
some f
def J2(b:AQ)(a:AF):=
if(b.AK.length:Int)==(a.AK.length:Int)then
if(b.Bp.length:Int)==(a.AL.length:Int)then
J3 ((b.AA.length:Int)==(a.AA.length:Int))
else
J3 false
else
J3 false
def J1(L1:ir)(c:Int)(e:Bool):=
if e then
some false
else
L1 (A6 (c+1))
def L1(b:AQ)(a:AF)(L1:ir)(c:Int):=
if decide (c<(a.Ak.length:Int))then
(gt a.Ak c).bind λd=>
if decide (d.dm<0)then
J1 L1 c true
else
J1 L1 c (decide (d.dm>=(a.AK.length:Int)))
else
J2 b a
def AW(b:AQ)(a:AF):Nat->Int->ABu Bool
|0,_=>none
|n+1,c=>L1 b a (AW b a n) c
end E8
section
open E8
def E8(a:AF)(b:AQ):=
AW b a BT 0
theorem OG{a:AF}{b:AQ}{r:Bool}(h:E8 a b=some r):Says prog 100 [.agg (Aw a),.agg (He b)] (sb r):=by refine kO mix func100 (hn [(2,[7,13,21,27,35,43,52]),(3,[32,40,49])]) ?_;have l1:=im λ_ _ _ _ n d=>∃c,(d 2=bA 6 (Aw a)/\d 3=bA 4 (He b)/\d 5=si c)/\AW b a n c=some r;unfold E8 at h;exact walk
end
namespace Fp
def J1(e:AN):ABu AN:=
some e
def L1(a:AN)(L1:AN->Int->ABu AN)(b:AN)(c:Int):=
if decide (c<(a.Cx.length:Int))then
(gt a.Cx c).bind λd=>
if Am (d.length) 8=true then
if Am (b.Cx.length+1) 24=true then
L1 (AN.mk b.PC b.C3 (b.Cx++[d]) b.AB) (A6 (c+1))
else none
else none
else
J1 b
def AW(a:AN):Nat->AN->Int->ABu AN
|0,_,_=>none
|n+1,b,c=>L1 a (AW a n) b c
end Fp
section
open Fp
def Fp(a:AN):=
if Am (a.C3.length) 8=true then
AW a BT (AN.mk a.PC a.C3 [] a.AB) 0
else none
theorem Sy{a r:AN}(h:Fp a=some r):Says prog 242 [.agg (Fh a)] (.agg (CL r)):=by refine kO mix func242 (hn [(1,[5,7,10,15,24]),(3,[21,22,32,33])] (Z:=[(6,true,3,[(0,2,0)])])) ?_;have l1:=im λ_ _ _ _ n d=>∃(b:AN)(c:Int),(d 1=bA 4 (Fh a)/\d 2=bA 4 z9/\d 3=bA 4 [si b.PC,vO 1 eI b.C3,vO 1 N6 b.Cx,si b.AB]/\d 4=si c)/\AW a n b c=some r;unfold Fp at h;exact walk
end
def f166c:IC:=(.seq (.dH [⟨some ⟨2,[],[]⟩,.mv (.c (.own false 3 [])),none⟩])
(.seq (.seq (.fR [.o ⟨some ⟨3,[],[]⟩,.cp (.t 0),none⟩,
.jU ⟨4,[],[]⟩ false (.t 3)])
(.cond (.t 4) (.seq (.dH [⟨some ⟨2,[],[]⟩,.mv (.c (.own false 3 [])),none⟩])
.ret) .skip))
(.seq (.dH [⟨some ⟨5,[],[]⟩,.OR 3 [] [],none⟩,
⟨some ⟨6,[],[]⟩,.cp (.t 0),none⟩,
⟨some ⟨7,[],[]⟩,.app 3 24 (.t 5) (.t 6),none⟩,
⟨some ⟨2,[],[]⟩,.mv (.t 7),none⟩])
.ret)))
def f166g:Gi:=⟨[]⟩
def f166r:List RV:=[.tmp 2]
def f166:FI:=⟨f166c,f166g,f166r⟩
theorem chk166:OT prog Tryz.f166 f166=true:=by kernel_rfl
def HH(l:ke):ABu (List AM):=if Am l.length 24=true then some l else none
theorem Lc{l r:ke}(h:HH l=some r):Says prog 166 [vS 3 Ap l] (vO 3 Ap r):=by
  obtain⟨g,h⟩:=KA h;obtain rfl:=AAW h;refine Rt mix func166 chk166 (AAc (by kernel_rfl)) rfl ?_;simp only[f166,f166c,f166g,f166r];simp +decide only[go_sem,g];intro b hb;cases b with
  |true=>have hl:l=[]:=(by simpa using hb rfl);subst hl;simp +decide only[go_sem,g]
  |false=>simp +decide only[go_sem,g]
namespace CS
def J3(i:Bool):ABu Bool:=
some i
def J2(a:AG)(e:Int):=
if a.ej==e then
J3 (decide ((A6 (e+(a.AB.length:Int)))<=400))
else
J3 false
def J1(L1:jw)(c b d:Int)(f:Bool):=
if f then
some false
else
L1 (A6 (c+d)) (A6 (b+1))
def L1(a:AG)(L1:jw)(c b:Int):=
if decide (b<(a.db.dc.length:Int))then
(gt a.db.dc b).bind λd=>
if decide (d<0)then
J1 L1 c b d true
else
J1 L1 c b d (decide (d>400))
else
J2 a c
def AW(a:AG):Nat->Int->Int->ABu Bool
|0,_,_=>none
|n+1,c,b=>L1 a (AW a n) c b
end CS
section
open CS
def CS(a:AG):=
AW a BT 0 0
theorem Ve{a:AG}{r:Bool}(h:CS a=some r):Says prog 45 [.agg (A4 a)] (sb r):=by refine kO mix func45 (hn [(1,[6,7,24,30])]) ?_;have l1:=im λ_ _ _ _ n d=>∃c b,(d 1=bA 15 (A4 a)/\d 3=si c/\d 8=vS 1 eI a.db.dc/\d 9=si (a.db.dc.length:Int)/\d 10=si b)/\AW a n c b=some r;unfold CS at h;exact walk
end
namespace Fv
def J3(i:Bool):ABu Bool:=
some i
def J2(a:AG)(d:Int):=
if a.ej==d then
J3 (decide ((A6 (d+(a.AB.length:Int)))<=400))
else
J3 false
def J1(L1:jw)(b c:Int)(a:AG)(f:Bool):=
if f then
some false
else
(gt a.db.dc b).bind λj=>
L1 (A6 (c+j)) (A6 (b+1))
def L1(a:AG)(L1:jw)(c b:Int):=
if decide (b<(a.db.dc.length:Int))then
(gt a.db.dc b).bind λe=>
if decide (e<0)then
J1 L1 b c a true
else
J1 L1 b c a (decide (e>400))
else
J2 a c
def AW(a:AG):Nat->Int->Int->ABu Bool
|0,_,_=>none
|n+1,c,b=>L1 a (AW a n) c b
end Fv
section
open Fv
def Fv(a:AG):=
AW a BT 0 0
theorem Xt{a:AG}{r:Bool}(h:Fv a=some r):Says prog 52 [.agg (A4 a)] (sb r):=by refine kO mix func52 (hn [(1,[6,7,13,14,21,22,30,31,37,43])]) ?_;have l1:=im λ_ _ _ _ n d=>∃c b,(d 1=bA 15 (A4 a)/\d 3=si c/\d 4=si b)/\AW a n c b=some r;unfold Fv at h;exact walk
end
namespace Ea
def J2(e:iq):ABu (List Int):=
some e
def J1(L1:iw)(b:Int)(d:iq):=
L1 d (A6 (b+1))
def L1(a:AD)(L1:iw)(c:iq)(b:Int):=
if decide (b<(a.de.AA.length:Int))then
(gt a.de.AA b).bind λf=>
if f.dg==3 then
if Am (c.length+1) 8=true then
J1 L1 b (c++[b])
else none
else
J1 L1 b c
else
J2 c
def AW(a:AD):Nat->(List Int)->Int->ABu (List Int)
|0,_,_=>none
|n+1,c,b=>L1 a (AW a n) c b
end Ea
section
open Ea
def Ea(a:AD):=
AW a BT [] 0
theorem WH{a:AD}{r:iq}(h:Ea a=some r):Says prog 208 [.agg (BQ a)] (vO 1 eI r):=by refine kO mix func208 (hn [(1,[6,7]),(3,[18,23]),(5,[15])]) ?_;have l1:=im λ_ _ _ _ n d=>∃c b,(d 3=vO 1 eI c/\d 8=vS 3 Ap a.de.AA/\d 9=si (a.de.AA.length:Int)/\d 10=si b)/\AW a n c b=some r;unfold Ea at h;exact walk
end
def f151c:IC:=(.seq (.dH [⟨some ⟨2,[],[]⟩,.mv (.c (.own false 1 [])),none⟩])
(.seq (.seq (.fR [.o ⟨some ⟨3,[],[]⟩,.cp (.t 0),none⟩,
.jU ⟨4,[],[]⟩ false (.t 3)])
(.cond (.t 4) (.seq (.dH [⟨some ⟨2,[],[]⟩,.mv (.c (.own false 1 [])),none⟩])
.ret) .skip))
(.seq (.dH [⟨some ⟨5,[],[]⟩,.OR 1 [] [],none⟩,
⟨some ⟨6,[],[]⟩,.cp (.t 0),none⟩,
⟨some ⟨7,[],[]⟩,.app 1 8 (.t 5) (.t 6),none⟩,
⟨some ⟨2,[],[]⟩,.mv (.t 7),none⟩])
.ret)))
def f151g:Gi:=⟨[]⟩
def f151r:List RV:=[.tmp 2]
def f151:FI:=⟨f151c,f151g,f151r⟩
theorem chk151:OT prog Tryz.f151 f151=true:=by kernel_rfl
def Io(l:iq):ABu (List Int):=if Am l.length 8=true then some l else none
theorem QK{l r:iq}(h:Io l=some r):Says prog 151 [vS 1 eI l] (vO 1 eI r):=by
  obtain⟨g,h⟩:=KA h;obtain rfl:=AAW h;refine Rt mix func151 chk151 (AAc (by kernel_rfl)) rfl ?_;simp only[f151,f151c,f151g,f151r];simp +decide only[go_sem,g];intro b hb;cases b with
  |true=>have hl:l=[]:=(by simpa using hb rfl);subst hl;simp +decide only[go_sem,g]
  |false=>simp +decide only[go_sem,g]
def f165c:IC:=(.seq (.dH [⟨some ⟨2,[],[]⟩,.mv (.c (.own false 1 [])),none⟩])
(.seq (.seq (.fR [.o ⟨some ⟨3,[],[]⟩,.cp (.t 0),none⟩,
.jU ⟨4,[],[]⟩ false (.t 3)])
(.cond (.t 4) (.seq (.dH [⟨some ⟨2,[],[]⟩,.mv (.c (.own false 1 [])),none⟩])
.ret) .skip))
(.seq (.dH [⟨some ⟨5,[],[]⟩,.OR 1 [] [],none⟩,
⟨some ⟨6,[],[]⟩,.cp (.t 0),none⟩,
⟨some ⟨7,[],[]⟩,.app 1 1 (.t 5) (.t 6),none⟩,
⟨some ⟨2,[],[]⟩,.mv (.t 7),none⟩])
.ret)))
def f165g:Gi:=⟨[]⟩
def f165r:List RV:=[.tmp 2]
def f165:FI:=⟨f165c,f165g,f165r⟩
theorem chk165:OT prog Tryz.f165 f165=true:=by kernel_rfl
def K9(l:jD):ABu (List Bool):=if Am l.length 1=true then some l else none
theorem RG{l r:jD}(h:K9 l=some r):Says prog 165 [vS 1 eB l] (vO 1 eB r):=by
  obtain⟨g,h⟩:=KA h;obtain rfl:=AAW h;refine Rt mix func165 chk165 (AAc (by kernel_rfl)) rfl ?_;simp only[f165,f165c,f165g,f165r];simp +decide only[go_sem,g];intro b hb;cases b with
  |true=>have hl:l=[]:=(by simpa using hb rfl);subst hl;simp +decide only[go_sem,g]
  |false=>simp +decide only[go_sem,g]
def f152c:IC:=(.seq (.dH [⟨some ⟨2,[],[]⟩,.mv (.c (.own false 1 [])),none⟩])
(.seq (.seq (.fR [.o ⟨some ⟨3,[],[]⟩,.cp (.t 0),none⟩,
.jU ⟨4,[],[]⟩ false (.t 3)])
(.cond (.t 4) (.seq (.dH [⟨some ⟨2,[],[]⟩,.mv (.c (.own false 1 [])),none⟩])
.ret) .skip))
(.seq (.dH [⟨some ⟨5,[],[]⟩,.OR 1 [] [],none⟩,
⟨some ⟨6,[],[]⟩,.cp (.t 0),none⟩,
⟨some ⟨7,[],[]⟩,.app 1 8 (.t 5) (.t 6),none⟩,
⟨some ⟨2,[],[]⟩,.mv (.t 7),none⟩])
.ret)))
def f152g:Gi:=⟨[]⟩
def f152r:List RV:=[.tmp 2]
def f152:FI:=⟨f152c,f152g,f152r⟩
theorem chk152:OT prog Tryz.f152 f152=true:=by kernel_rfl
def slices_Clone_int(l:iq):ABu (List Int):=if Am l.length 8=true then some l else none
theorem Jv{l r:iq}(h:slices_Clone_int l=some r):Says prog 152 [vS 1 eI l] (vO 1 eI r):=by
  obtain⟨g,h⟩:=KA h;obtain rfl:=AAW h;refine Rt mix func152 chk152 (AAc (by kernel_rfl)) rfl ?_;simp only[f152,f152c,f152g,f152r];simp +decide only[go_sem,g];intro b hb;cases b with
  |true=>have hl:l=[]:=(by simpa using hb rfl);subst hl;simp +decide only[go_sem,g]
  |false=>simp +decide only[go_sem,g]
namespace Fq
def J1(e:AQ):ABu AQ:=
some e
def L1(a:AQ)(L1:ma)(b:AQ)(c:Int):=
if decide (c<(a.AK.length:Int))then
(gt a.AK c).bind λd=>
if Am (d.An.length) 8=true then
if Am (b.AK.length+1) 32=true then
L1 (AQ.mk (b.AK++[d]) b.Tx b.Bp b.AA) (A6 (c+1))
else none
else none
else
J1 b
def AW(a:AQ):Nat->AQ->Int->ABu AQ
|0,_,_=>none
|n+1,b,c=>L1 a (AW a n) b c
end Fq
section
open Fq
def Fq(a:AQ):=
if Am (a.Bp.length) 1=true then
if Am (a.AA.length) 24=true then
AW a BT (AQ.mk [] a.Tx a.Bp a.AA) 0
else none
else none
theorem Lj{a r:AQ}(h:Fq a=some r):Says prog 118 [.agg (He a)] (.agg (JB r)):=by refine kO mix func118 (hn [(1,[5,8,12,17,25,32]),(3,[23,24,42,43])]) ?_;have l1:=im λ_ _ _ _ n d=>∃b c,(d 1=bA 4 (He a)/\d 2=bA 4 z5/\d 3=bA 4 (JB b)/\d 4=si c)/\AW a n b c=some r;unfold Fq at h;exact walk
end
end Go.Abs
