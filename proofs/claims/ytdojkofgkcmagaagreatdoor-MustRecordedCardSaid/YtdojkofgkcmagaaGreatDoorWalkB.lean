/- Go functions do what typed programs say. -/
import Derived.Test.YtdojkofgkcmagaaGreatDoorBaseA
import Derived.Shelf.Slices.SearchI
set_option linter.all false
namespace Go.Abs
open Go.Proofs Tryz
set_option maxRecDepth 1000000
set_option maxHeartbeats 4000000
namespace Cx
def J4(o:AQ):ABi AQ:=some o
def J3(L3:my)(c:Int)(b:AQ)(p:AM):=if Ap (b.AA.length+1) 24=true then
L3 (AQ.mk b.AK b.Tx b.Br (b.AA++[p])) (A8 (c+1))
else none
def L3(a:AG)(L3:my)(b:AQ)(c:Int):=if decide (c<(a.AA.length:Int))then
if c==0 then
J3 L3 c b (AM.mk 1 0 false)
else
J3 L3 c b (AM.mk 0 0 false)
else
J4 b
def E3(a:AG):Nat->AQ->Int->ABi AQ
|0,_,_=>none
|n+1,b,c=>L3 a (E3 a n) b c
def J2(a:AG)(l:AQ):=E3 a BQ l 0
def L2(a:AG)(L2:my)(e:AQ)(i:Int):=if decide (i<(a.AL.length:Int))then
if Ap (e.Br.length+1) 1=true then
L2 (AQ.mk e.AK e.Tx (e.Br++[false]) e.AA) (A8 (i+1))
else none
else
J2 a e
def Bs(a:AG):Nat->AQ->Int->ABi AQ
|0,_,_=>none
|n+1,e,i=>L2 a (Bs a n) e i
def J1(a:AG)(j:AQ):=Bs a BQ j 0
def L1(a:AG)(L1:my)(d:AQ)(f:Int):=if decide (f<(a.AK.length:Int))then
if Ap (d.AK.length+1) 32=true then
L1 (AQ.mk (d.AK++[(AW.mk (-1) [])]) d.Tx d.Br d.AA) (A8 (f+1))
else none
else
J1 a d
def AR(a:AG):Nat->AQ->Int->ABi AQ
|0,_,_=>none
|n+1,d,f=>L1 a (AR a n) d f
end Cx
section
open Cx
def Cx(a:AG):=AR a BQ (AQ.mk [] (-1) [] []) 0
def Rg{a:AG}{r:AQ}(h:Cx a=some r):Says prog 135 [.agg (A5 a)] (.agg (JV r)):=by refine kO mix func135 (hn [(1,[10,23,35]),(3,[16,17,21,29,30,33,45,46,50,51]),(7,[44])]) ?_;have l3:=i4 λn d=>∃b c,(d 1=bA 6 (A5 a)/\d 2=bA 4 z5/\d 3=bA 4 (JV b)/\d 6=si c)/\E3 a n b c=some r;have l2:=i4 λn b=>∃e i,(b 1=bA 6 (A5 a)/\b 2=bA 4 z5/\b 3=bA 4 (JV e)/\b 5=si i)/\Bs a n e i=some r;have l1:=i4 λn b=>∃d f,(b 1=bA 6 (A5 a)/\b 2=bA 4 z5/\b 3=bA 4 (JV d)/\b 4=si f)/\AR a n d f=some r;unfold Cx at h;exact walk
end
namespace Dc
def J5:=some true
def J4(L1:ja)(a:Int):=L1 (A8 (a+1))
def J3(L1:ja)(a:Int)(s:Bool):=if !s then
some false
else
J4 L1 a
def J2(L2:lq)(f o:Int)(q:Bool):=L2 o q (A8 (f+1))
def J1(L2:lq)(f i:Int)(p:Bool):=J2 L2 f (A8 (i+1)) p
def L2(L1:ja)(c a:Int)(d:js)(b:i6)(e:Int)(L2:lq)(i:Int)(j:Bool)(f:Int):=if decide (f<c)then(gt d f).bind λl=>if l.db != e then
J2 L2 f i j
else
if j then
J1 L2 f i true
else(gt b a).bind λt=>if i==t then
if l.de==3 then
J1 L2 f i true
else
J1 L2 f i (l.de==23)
else
J1 L2 f i false
else
J3 L1 a j
def Bs(L1:ja)(c a:Int)(d:js)(b:i6)(e:Int):Nat->Int->Bool->Int->ABi Bool
|0,_,_,_=>none
|n+1,i,j,f=>L2 L1 c a d b e (Bs L1 c a d b e n) i j f
def L1(c:Int)(d:js)(b:i6)(e:Int)(L1:ja)(a:Int):=if decide (a<(b.length:Int))then
Bs L1 c a d b e BQ 0 false 0
else
J5
def AR(c:Int)(d:js)(b:i6)(e:Int):Nat->Int->ABi Bool
|0,_=>none
|n+1,a=>L1 c d b e (AR c d b e n) a
end Dc
section
open Dc
def Dc(d:js)(c e:Int)(b:i6):=AR c d b e BQ 0
def cB{d:js}{c e:Int}{b:i6}{r:Bool}(h:Dc d c e b=some r):Says prog 141 [vS 7 Aw d,si c,si e,vS 1 eI b] (sb r):=by refine kO mix func141 hn ?_;have l1:=i4 λn f=>∃a,(f 0=vS 7 Aw d/\f 1=si c/\f 2=si e/\f 3=vS 1 eI b/\f 9=si a)/\AR c d b e n a=some r;have l2:=iy λg _ _ _ n h=>∃a i j f,(h 0=vS 7 Aw d/\h 1=si c/\h 2=si e/\h 3=vS 1 eI b/\h 9=si a/\h 10=si i/\h 11=sb j/\h 12=si f)/\Bs (AR c d b e g) c a d b e n i j f=some r;unfold Dc at h;exact walk
end
namespace BH
def J4:=some true
def J3(L1:ja)(b:Int):=L1 (A8 (b+1))
def J2(L2:ja)(e:Int)(i:Bool):=if i then
some false
else
L2 (A8 (e+1))
def L2(L1:ja)(d:i6)(a:ko)(b:Int)(L2:ja)(e:Int):=if decide (e<(d.length:Int))then(gt d e).bind λf=>if decide (f<0)then
J2 L2 e true
else
if decide (f>=(a.length:Int))then
J2 L2 e true
else(gt a f).bind λj=>J2 L2 e (!j)
else
J3 L1 b
def Bs(L1:ja)(d:i6)(a:ko)(b:Int):Nat->Int->ABi Bool
|0,_=>none
|n+1,e=>L2 L1 d a b (Bs L1 d a b n) e
def J1(L1:ja)(a:ko)(b:Int)(d:i6):=Bs L1 d a b BQ 0
def L1(c:AH)(a:ko)(L1:ja)(b:Int):=if decide (b<2)then
if b==0 then
J1 L1 a b c.Dy
else
if b==1 then
J1 L1 a b c.DS
else
none
else
J4
def AR(c:AH)(a:ko):Nat->Int->ABi Bool
|0,_=>none
|n+1,b=>L1 c a (AR c a n) b
end BH
section
open BH
def BH(a:ko)(c:AH):=AR c a BQ 0
end
namespace G6
def J2(f:AG):ABi AG:=some f
def J1(L1:la)(a:Int)(e:AG):=L1 e (A8 (a+1))
def L2(L1:la)(a:Int)(L2:la)(b:AG)(c:Int):=if decide (c<6)then
if Ap (b.Bt.length+1) 24=true then
L2 (AG.mk b.di b.AK b.Al b.AL b.AA (b.Bt++[(Eb.mk a c (A8 ((A8 ((A8 (10*a))+c))+1)))])) (A8 (c+1))
else none
else
J1 L1 a b
def Bs(L1:la)(a:Int):Nat->AG->Int->ABi AG
|0,_,_=>none
|n+1,b,c=>L2 L1 a (Bs L1 a n) b c
def L1(L1:la)(d:AG)(a:Int):=if decide (a<4)then
Bs L1 a BQ d 0
else
J2 d
def AR:Nat->AG->Int->ABi AG
|0,_,_=>none
|n+1,d,a=>L1 (AR n) d a
end G6
section
open G6
def G6:=AR BQ (AG.mk [(ED.mk (⟨#[120]⟩:ABj) 0 0 false 0),(ED.mk (⟨#[121]⟩:ABj) 0 0 false 1),(ED.mk (⟨#[118]⟩:ABj) 0 0 true 0),(ED.mk (⟨#[113]⟩:ABj) 0 2 false 0),(ED.mk (⟨#[113]⟩:ABj) 1 2 false 0)] [(Kt.mk (⟨#[109]⟩:ABj) false),(Kt.mk (⟨#[110]⟩:ABj) false),(Kt.mk (⟨#[114]⟩:ABj) true)] [(Uk.mk (⟨#[99]⟩:ABj) 0)] [(⟨#[102]⟩:ABj)] [(⟨#[109,97,105,110]⟩:ABj),(⟨#[116,49]⟩:ABj),(⟨#[116,50]⟩:ABj),(⟨#[116,51]⟩:ABj)] []) 0
def Rr{r:AG}(h:G6=some r):Says prog 81 [] (.agg (Mo r)):=by refine kO mix func81 (hn [(1,[19,20,29,30,41,43])]) ?_;have l1:=i4 λn b=>∃d a,(b 0=bA 6 z8/\b 1=bA 6 (Mo d)/\b 21=si 4/\b 22=si a)/\AR n d a=some r;have l2:=iy λd _ _ _ n e=>∃a b c,(e 0=bA 6 z8/\e 1=bA 6 (Mo b)/\e 2=si a/\e 3=si c/\e 21=si 4/\e 22=si a)/\Bs (AR d) a n b c=some r;unfold G6 at h;exact walk
end
namespace B9
def J3(a:AF)(l:i6):ABi ((List Int)×AF):=some (l,a)
def J2(L1:mf)(c:Int)(j:i6):=L1 j (A8 (c+1))
def J1(L1:mf)(e:i6)(a:AF)(c b f i:Int)(o:Bool):=if o then(gt a.ej b).bind λq=>(gt q (A8 (f-i))).bind λs=>if Ap (e.length+1) 8=true then
J2 L1 c (e++[s])
else none
else
J2 L1 c e
def L1(d:i6)(a:AF)(b:Int)(L1:mf)(e:i6)(c:Int):=if decide (c<(d.length:Int))then(gt d c).bind λf=>(gt a.w.dg.dh b).bind λi=>if decide ((A8 (f-i))>=0)then(gt a.ej b).bind λp=>J1 L1 e a c b f i (decide ((A8 (f-i))<(p.length:Int)))
else
J1 L1 e a c b f i false
else
J3 a e
def AR(d:i6)(a:AF)(b:Int):Nat->(List Int)->Int->ABi ((List Int)×AF)
|0,_,_=>none
|n+1,e,c=>L1 d a b (AR d a b n) e c
end B9
section
open B9
def B9(a:AF)(b:Int)(d:i6):=AR d a b BQ [] 0
def Pt{a:AF}{b:Int}{d:i6}{r:(List Int)×AF}(h:B9 a b d=some r):BM prog 173 [bA 18 (Bw a),si b,vS 1 eI d] (vO 1 eI r.1) [bA 18 (Bw r.2),.dead,.dead]:=by refine kL mix func173 (hn [(0,[17,18,19,20,21,22,24,31,32,33,34,36,37,42,43,44,45,47,48,50]),(7,[41,55])]) ?_;have l1:=i4 λn f=>∃e c,(f 0=bA 18 (Bw a)/\f 1=si b/\f 7=vO 1 eI e/\f 10=vS 1 eI d/\f 11=si (d.length:Int)/\f 12=si c)/\AR d a b n e c=some r;unfold B9 at h;exact walk
end
namespace Ga
def J1(i f:Int):ABi (Int×Int):=some (i,A8 (f+1))
def L1(R100:np)(a:Ba)(L1:Int->Int->Int->ABi (Int×Int))(d b c:Int):=if decide (c<(a.L.length:Int))then(gt a.L c).bind λj=>(R100 j).bind λe=>L1 (A8 (d+e.1)) (if e.2>b then e.2 else b) (A8 (c+1))
else
J1 d b
def AR(R100:np)(a:Ba):Nat->Int->Int->Int->ABi (Int×Int)
|0,_,_,_=>none
|n+1,d,b,c=>L1 R100 a (AR R100 a n) d b c
end Ga
variable{i:np}{e:Ba}{c:Int×Int}
section
open Ga
def Ga(R100:np)(a:Ba):=AR R100 a BQ 1 0 0
theorem bO(H100:∀{x0 c},i x0=some c->Says prog 280 [.agg [si x0.Op,si x0.N,B4 x0.dv,vS 4 Bc x0.L]] (.Bo [si c.1,si c.2]))(h:Ga i e=some c):Says prog 280 [.agg [si e.Op,si e.N,B4 e.dv,vS 4 Bc e.L]] (.Bo [si c.1,si c.2]):=by refine kO mix func280 (hn [(1,[10,17])]) ?_;have a1:=@H100;have l1:=i4 λn a=>∃d b r,(a 1=bA 4 [si e.Op,si e.N,B4 e.dv,vS 4 Bc e.L]/\a 4=si d/\a 5=si b/\a 6=si r)/\AR i e n d b r=some c;unfold Ga at h;exact walk
end
def Vo:Nat->(Ba->ABi (Int×Int))
|0=>(λ_=>none)
|n+1=>Ga ((Vo n))
def LD(n:Nat):Ba->ABi (Int×Int):=(Vo n)
theorem Yc(n:Nat):(∀{x0 r},(LD n) x0=some r->Says prog 280 [.agg [si x0.Op,si x0.N,B4 x0.dv,vS 4 Bc x0.L]] (.Bo [si r.1,si r.2])):=by induction n with|zero=>exactλh=>DT h|succ n ih=>exactλh=>bO ih h
def Yd{n:Nat}:∀{x0 r},(LD n) x0=some r->Says prog 280 [.agg [si x0.Op,si x0.N,B4 x0.dv,vS 4 Bc x0.L]] (.Bo [si r.1,si r.2]):=(Yc n)
namespace FN
def J2(f:AQ):ABi AQ:=some f
def J1(d:AQ):=if decide ((d.AA.length:Int)>0)then(gt d.AA 0).bind λe=>J2 (AQ.mk d.AK d.Tx d.Br (d.AA.set 0 (AM.mk 1 e.D7 e.d6)))
else
J2 d
def L1(a:AG)(L1:my)(b:AQ)(c:Int):=if decide (c<(a.AK.length:Int))then(gt b.AK c).bind λi=>L1 (AQ.mk (b.AK.set c.toNat (AW.mk (-1) i.Am)) b.Tx b.Br b.AA) (A8 (c+1))
else
J1 b
def AR(a:AG):Nat->AQ->Int->ABi AQ
|0,_,_=>none
|n+1,b,c=>L1 a (AR a n) b c
end FN
section
open FN
def FN(a:AG):=if 0<=(a.AK.length:Int)/\(a.AK.length:Int)<=(a.AK.length:Int)/\Ap a.AK.length 32=true then
if 0<=(a.AL.length:Int)/\(a.AL.length:Int)<=(a.AL.length:Int)/\Ap a.AL.length 1=true then
if 0<=(a.AA.length:Int)/\(a.AA.length:Int)<=(a.AA.length:Int)/\Ap a.AA.length 24=true then
AR a BQ (AQ.mk (List.replicate a.AK.length (AW.mk 0 [])) (-1) (List.replicate a.AL.length false) (List.replicate a.AA.length (AM.mk 0 0 false))) 0
else none
else none
else none
end
namespace DZ
def J1(e:Int):ABi Int:=some e
def L1(R100:nq)(a:kf)(L1:m8)(c b:Int):=if decide (b<(a.length:Int))then(gt a b).bind λd=>(R100 d.dz).bind λf=>(R100 d.ed).bind λi=>L1 (A8 ((A8 (c+f))+i)) (A8 (b+1))
else
J1 c
def AR(R100:nq)(a:kf):Nat->Int->Int->ABi Int
|0,_,_=>none
|n+1,c,b=>L1 R100 a (AR R100 a n) c b
end DZ
variable{g:nq}{d:kf}{a:Int}
section
open DZ
def DZ(R100:nq)(a:kf):=AR R100 a BQ (a.length:Int) 0
theorem bN(H100:∀{x0 a},g x0=some a->Says prog 218 [vS 11 BV x0] (si a))(h:DZ g d=some a):Says prog 218 [vS 11 BV d] (si a):=by refine kO mix func218 hn ?_;have a1:=@H100;have l1:=i4 λn r=>∃c b,(r 0=vS 11 BV d/\r 3=si c/\r 4=si b)/\AR g d n c b=some a;unfold DZ at h;exact walk
end
def Vn:Nat->((List AU)->ABi Int)
|0=>(λ_=>none)
|n+1=>DZ ((Vn n))
def HY(n:Nat):(List AU)->ABi Int:=(Vn n)
theorem YZ(n:Nat):(∀{x0 r},(HY n) x0=some r->Says prog 218 [vS 11 BV x0] (si r)):=by induction n with|zero=>exactλh=>DT h|succ n ih=>exactλh=>bN ih h
def Ya{n:Nat}:∀{x0 r},(HY n) x0=some r->Says prog 218 [vS 11 BV x0] (si r):=(YZ n)
namespace FC
def J3(c:Int)(a:i6)(b:Int)(f:Bool):ABi (List Int):=if f then
some a
else
if 0<=c/\c.toNat<=a.length then
if Ap ((a.take c.toNat).length) 8=true then
if Ap ((a.take c.toNat).length+1) 8=true then
if 0<=c/\c.toNat<=a.length then
if Ap (((a.take c.toNat)++[b]).length+((a.drop c.toNat).take (a.length-c.toNat)).length) 8=true then
some (((a.take c.toNat)++[b])++((a.drop c.toNat).take (a.length-c.toNat)))
else none
else none
else none
else none
else none
def J2(a:i6)(b c:Int):=if decide (c<(a.length:Int))then(gt a c).bind λj=>J3 c a b (j==b)
else
J3 c a b false
def J1(L1:Int->ABi (List Int))(d:Int)(a:i6)(b:Int)(e:Bool):=if e then
L1 (A8 (d+1))
else
J2 a b d
def L1(a:i6)(b:Int)(L1:Int->ABi (List Int))(d:Int):=if decide (d<(a.length:Int))then(gt a d).bind λi=>J1 L1 d a b (decide (i<b))
else
J1 L1 d a b false
def AR(a:i6)(b:Int):Nat->Int->ABi (List Int)
|0,_=>none
|n+1,d=>L1 a b (AR a b n) d
end FC
section
open FC
def FC(a:i6)(b:Int):=AR a b BQ 0
theorem mW{a:i6}{b:Int}{r:i6}(h:FC a b=some r):Says prog 200 [vO 1 eI a,si b] (vO 1 eI r):=by refine kO mix func200 (hn [(0,[8,12,14,22,26,28,33,35,44]),(6,[39,43])]) ?_;have l1:=i4 λn c=>∃d,(c 0=vO 1 eI a/\c 1=si b/\c 5=si d)/\AR a b n d=some r;unfold FC at h;exact walk
end
namespace B1
def J2(a:Bj):ABi (Bool×Bj):=some (false,a)
def J1(L1:oi)(b:Int)(a:Bj)(i:Bool):=if i then
some (true,a)
else
L1 (A8 (b+1))
def L1(d e:Int)(c:ABj)(a:Bj)(L1:oi)(b:Int):=if decide (b<(a.HH.length:Int))then(gt a.HH b).bind λf=>if f.Op==d then
if c.toList==(⟨#[]⟩:ABj).toList then
J1 L1 b a true
else
J1 L1 b a (f.dv.toList==c.toList)
else
if f.Op==e then
if c.toList==(⟨#[]⟩:ABj).toList then
J1 L1 b a true
else
J1 L1 b a (f.dv.toList==c.toList)
else
J1 L1 b a false
else
J2 a
def AR(d e:Int)(c:ABj)(a:Bj):Nat->Int->ABi (Bool×Bj)
|0,_=>none
|n+1,b=>L1 d e c a (AR d e c a n) b
end B1
section
open B1
def B1(a:Bj)(d e:Int)(c:ABj):=AR d e c a BQ 0
theorem RU{a:Bj}{d e:Int}{c:ABj}{r:mn}(h:B1 a d e c=some r):BM prog 269 [bA 6 (IX a),si d,si e,B4 c] (sb r.1) [bA 6 (IX r.2),.dead,.dead,.dead]:=by refine kL mix func269 (hn [(0,[12,13,14,15,20,21,22,23,25,26]),(10,[27,32,41])]) ?_;have l1:=i4 λn f=>∃b,(f 0=bA 6 (IX a)/\f 1=si d/\f 2=si e/\f 3=B4 c/\f 9=si b)/\AR d e c a n b=some r;unfold B1 at h;exact walk
end
namespace C3
def J3:=some true
def J2(L1:nr)(b:Int)(d:Eb)(j f:Int):=if d.eA != f then
some false
else
L1 j (A8 (f+1)) (A8 (b+1))
def J1(L1:nr)(e b c:Int)(d:Eb)(i:Bool):=if i then
some false
else
if decide (d.db>c)then
J2 L1 b d d.db 0
else
J2 L1 b d c e
def L1(a:AG)(L1:nr)(c e b:Int):=if decide (b<(a.Bt.length:Int))then(gt a.Bt b).bind λd=>if decide (d.db<c)then
J1 L1 e b c d true
else
J1 L1 e b c d (decide (d.db>=(a.AA.length:Int)))
else
J3
def AR(a:AG):Nat->Int->Int->Int->ABi Bool
|0,_,_,_=>none
|n+1,c,e,b=>L1 a (AR a n) c e b
end C3
section
open C3
def C3(a:AG):=AR a BQ 0 0 0
theorem Qg{a:AG}{r:Bool}(h:C3 a=some r):Says prog 93 [.agg (A5 a)] (sb r):=by refine kO mix func93 (hn [(1,[7,21]),(6,[14,19,26,30,32])]) ?_;have l1:=i4 λn d=>∃c e b,(d 1=bA 6 (A5 a)/\d 3=si c/\d 4=si e/\d 8=vS 3 G9 a.Bt/\d 9=si (a.Bt.length:Int)/\d 10=si b)/\AR a n c e b=some r;unfold C3 at h;exact walk
end
namespace ND
def J4(e:i6):ABi (List Int):=some e
def J3(a:i6)(c b:Int)(f:Bool):=if f then(gt (a.take c.toNat++(List.replicate c.toNat (0:Int)).drop a.length) b).bind λj=>J4 ((a.take c.toNat++(List.replicate c.toNat (0:Int)).drop a.length).set b.toNat (A8 (j+1)))
else
J4 (a.take c.toNat++(List.replicate c.toNat (0:Int)).drop a.length)
def J2(a:i6)(d:Bool)(b c:Int):=if 0<=c/\c<=c/\Ap c.toNat 8=true then
if d then(gt (a.take c.toNat++(List.replicate c.toNat (0:Int)).drop a.length) b).bind λi=>J3 a c b (decide (i<9223372036854775807))
else
J3 a c b false
else none
def J1(a:i6)(b:Int)(d:Bool):=if d then
J2 a d b (if(A8 (b+1))>(a.length:Int)then(A8 (b+1))else(a.length:Int))
else
J2 a d b (a.length:Int)
end ND
section
open ND
def ND(a:i6)(b:Int):=if decide (b>=0)then
J1 a b (decide (b<4))
else
J1 a b false
end
namespace Af
def J3(a:Ak)(d:Bool):ABi (List Int):=if d then
some [a.B]
else
if a.Op==9 then
some [a.B,a.C]
else
some []
def J2(a:Ak)(b:Bool):=if b then
some [a.A,a.B]
else
if a.Op==4 then
some [a.A,a.B,a.C]
else
if a.Op==7 then
some [a.A,a.C]
else
if a.Op==8 then
J3 a (a.Op==8)
else
J3 a (a.Op==26)
def J1(a:Ak)(c:Bool):=if c then
some [a.A]
else
if a.Op==2 then
J2 a (a.Op==2)
else
J2 a (a.Op==3)
end Af
section
open Af
def Af(a:Ak):=if a.Op==1 then
J1 a (a.Op==1)
else
if a.Op==6 then
J1 a (a.Op==6)
else
if a.Op==10 then
J1 a (a.Op==10)
else
J1 a (a.Op==27)
theorem Kc{a:Ak}{r:i6}(h:Af a=some r):Says prog 185 [.agg (Ew a)] (vO 1 eI r):=by refine kO mix func185 (hn [(1,[3,10,16,18,23,25,27,32,34,40,45,47])] [(3,1),(8,2)]) ?_;have c2:=i5 2 λc=>∃b,(c 1=bA 6 (Ew a)/\c 4=si a.Op/\c 13=sb b)/\J2 a b=some r;have c1:=i5 1 λb=>∃c,(b 1=bA 6 (Ew a)/\b 4=si a.Op/\b 5=sb c)/\J1 a c=some r;unfold Af at h;exact walk
end
namespace DD
def J3(i:i6):ABi (List Int):=some i
def J2(L1:jg)(a:Int)(f:i6):=L1 f (A8 (a+1))
def J1(L1:jg)(a:Int)(b:i6)(j:Bool):=if j then
if Ap (b.length+1) 8=true then
J2 L1 a (b++[a])
else none
else
J2 L1 a b
def L1(d:Int)(c:AQ)(L1:jg)(b:i6)(a:Int):=if decide (a<(c.AA.length:Int))then(gt c.AA a).bind λe=>if e.dm==3 then
J1 L1 a b (e.D7==d)
else
J1 L1 a b false
else
J3 b
def AR(d:Int)(c:AQ):Nat->(List Int)->Int->ABi (List Int)
|0,_,_=>none
|n+1,b,a=>L1 d c (AR d c n) b a
end DD
section
open DD
def DD(c:AQ)(d:Int):=AR d c BQ [] 0
theorem Lm{c:AQ}{d:Int}{r:i6}(h:DD c d=some r):Says prog 119 [.agg (Hq c),si d] (vO 1 eI r):=by refine kO mix func119 (hn [(2,[8,14,22]),(5,[31,35])]) ?_;have l1:=i4 λn e=>∃b a,(e 1=si d/\e 2=bA 4 (Hq c)/\e 5=vO 1 eI b/\e 6=si a)/\AR d c n b a=some r;unfold DD at h;exact walk
end
namespace FZ
def J3(f:Bool):ABi Bool:=some f
def J2(b:AQ)(a:AG):=if(b.AK.length:Int)==(a.AK.length:Int)then
if(b.Br.length:Int)==(a.AL.length:Int)then
J3 ((b.AA.length:Int)==(a.AA.length:Int))
else
J3 false
else
J3 false
def J1(L1:ja)(c:Int)(e:Bool):=if e then
some false
else
L1 (A8 (c+1))
def L1(b:AQ)(a:AG)(L1:ja)(c:Int):=if decide (c<(a.Al.length:Int))then(gt a.Al c).bind λd=>if decide (d.dr<0)then
J1 L1 c true
else
J1 L1 c (decide (d.dr>=(a.AK.length:Int)))
else
J2 b a
def AR(b:AQ)(a:AG):Nat->Int->ABi Bool
|0,_=>none
|n+1,c=>L1 b a (AR b a n) c
end FZ
section
open FZ
def FZ(a:AG)(b:AQ):=AR b a BQ 0
theorem Of{a:AG}{b:AQ}{r:Bool}(h:FZ a b=some r):Says prog 100 [.agg (A5 a),.agg (Hq b)] (sb r):=by refine kO mix func100 (hn [(2,[7,13,21,27,35,43,52]),(3,[32,40,49])]) ?_;have l1:=i4 λn d=>∃c,(d 2=bA 6 (A5 a)/\d 3=bA 4 (Hq b)/\d 5=si c)/\AR b a n c=some r;unfold FZ at h;exact walk
end
namespace GL
def J1(e:AN):ABi AN:=some e
def L1(a:AN)(L1:AN->Int->ABi AN)(b:AN)(c:Int):=if decide (c<(a.C9.length:Int))then(gt a.C9 c).bind λd=>if Ap (d.length) 8=true then
if Ap (b.C9.length+1) 24=true then
L1 (AN.mk b.PC b.DH (b.C9++[d]) b.AB) (A8 (c+1))
else none
else none
else
J1 b
def AR(a:AN):Nat->AN->Int->ABi AN
|0,_,_=>none
|n+1,b,c=>L1 a (AR a n) b c
end GL
section
open GL
def GL(a:AN):=if Ap (a.DH.length) 8=true then
AR a BQ (AN.mk a.PC a.DH [] a.AB) 0
else none
theorem TV{a r:AN}(h:GL a=some r):Says prog 242 [.agg (GC a)] (.agg (CW r)):=by refine kO mix func242 (hn [(1,[5,7,10,15,24]),(3,[21,22,32,33])] (Z:=[(6,true,3,[(0,2,0)])])) ?_;have l1:=i4 λn d=>∃(b:AN)(c:Int),(d 1=bA 4 (GC a)/\d 2=bA 4 z9/\d 3=bA 4 [si b.PC,vO 1 eI b.DH,vO 1 OX b.C9,si b.AB]/\d 4=si c)/\AR a n b c=some r;unfold GL at h;exact walk
end
def f166c:IC:=(.seq (.fY [⟨some ⟨2,[],[]⟩,.mv (.c (.own false 3 [])),none⟩])
(.seq (.seq (.kH [.o ⟨some ⟨3,[],[]⟩,.cp (.t 0),none⟩,
.mK ⟨4,[],[]⟩ false (.t 3)])
(.cond (.t 4) (.seq (.fY [⟨some ⟨2,[],[]⟩,.mv (.c (.own false 3 [])),none⟩])
.ret) .skip))
(.seq (.fY [⟨some ⟨5,[],[]⟩,.Ox 3 [] [],none⟩,
⟨some ⟨6,[],[]⟩,.cp (.t 0),none⟩,
⟨some ⟨7,[],[]⟩,.app 3 24 (.t 5) (.t 6),none⟩,
⟨some ⟨2,[],[]⟩,.mv (.t 7),none⟩])
.ret)))
def f166g:Gi:=⟨[]⟩
def f166r:List RV:=[.tmp 2]
def f166:FI:=⟨f166c,f166g,f166r⟩
theorem chk166:OW prog Tryz.f166 f166:=by kernel_rfl
def Hb(l:kx):ABi (List AM):=if Ap l.length 24=true then some l else none
theorem Ln{l r:kx}(h:Hb l=some r):Says prog 166 [vS 3 Ay l] (vO 3 Ay r):=by obtain⟨g,h⟩:=Lx h;obtain rfl:=AAK h;refine P7 mix func166 chk166 (AAQ (by kernel_rfl)) rfl ?_;simp only[f166,f166c,f166g,f166r];simp +decide only[go_sem,g];intro b hb;cases b with|true=>have hl:l=[]:=(by simpa using hb rfl);subst hl;simp +decide only[go_sem,g]|false=>simp +decide only[go_sem,g]
namespace HO
def J2(a:AE)(b:AH):ABi (Int×Bool):=(gt a.dg.df.AA b.db).bind λi=>if i.dm==3 then
some (A8 ((-1)-b.db),true)
else
some (0,false)
def J1(L1:Int->ABi (Int×Bool))(c:Int)(f:Bool):=if f then
some (c,true)
else
L1 (A8 (c-1))
def L1(a:AE)(b:AH)(L1:Int->ABi (Int×Bool))(c:Int):=if decide (c>=0)then(gt a.AB c).bind λe=>if e.db==b.db then
J1 L1 c (e.de==16)
else
J1 L1 c false
else
J2 a b
def AR(a:AE)(b:AH):Nat->Int->ABi (Int×Bool)
|0,_=>none
|n+1,c=>L1 a b (AR a b n) c
end HO
variable{f:AE}{b:mo}
section
open HO
def HO(a:AE)(d:Int):=(gt a.AB d).bind λb=>AR a b BQ (A8 (d-1))
theorem Yq(h:HO f a=some b):Says prog 72 [.agg (Av f),si a] (.Bo [si b.1,sb b.2]):=by refine kO mix func72 (hn [(2,[8,20,29,38,39,40])]) ?_;have l1:=i4 λn a=>∃(r:AH)(c:Int),(a 2=bA 15 (Av f)/\a 6=si r.db/\a 7=si c)/\AR f r n c=some b;unfold HO at h;exact walk
end
namespace Cd
def J3(i:Bool):ABi Bool:=some i
def J2(a:AE)(e:Int):=if a.eO==e then
J3 (decide ((A8 (e+(a.AB.length:Int)))<=400))
else
J3 false
def J1(L1:ka)(c b d:Int)(f:Bool):=if f then
some false
else
L1 (A8 (c+d)) (A8 (b+1))
def L1(a:AE)(L1:ka)(c b:Int):=if decide (b<(a.dg.dh.length:Int))then(gt a.dg.dh b).bind λd=>if decide (d<0)then
J1 L1 c b d true
else
J1 L1 c b d (decide (d>400))
else
J2 a c
def AR(a:AE):Nat->Int->Int->ABi Bool
|0,_,_=>none
|n+1,c,b=>L1 a (AR a n) c b
end Cd
section
open Cd
def Cd(a:AE):=AR a BQ 0 0
theorem WY{a:AE}{r:Bool}(h:Cd a=some r):Says prog 45 [.agg (Av a)] (sb r):=by refine kO mix func45 (hn [(1,[6,7,24,30])]) ?_;have l1:=i4 λn d=>∃c b,(d 1=bA 15 (Av a)/\d 3=si c/\d 8=vS 1 eI a.dg.dh/\d 9=si (a.dg.dh.length:Int)/\d 10=si b)/\AR a n c b=some r;unfold Cd at h;exact walk
end
namespace GP
def J3(i:Bool):ABi Bool:=some i
def J2(a:AE)(d:Int):=if a.eO==d then
J3 (decide ((A8 (d+(a.AB.length:Int)))<=400))
else
J3 false
def J1(L1:ka)(b c:Int)(a:AE)(f:Bool):=if f then
some false
else(gt a.dg.dh b).bind λj=>L1 (A8 (c+j)) (A8 (b+1))
def L1(a:AE)(L1:ka)(c b:Int):=if decide (b<(a.dg.dh.length:Int))then(gt a.dg.dh b).bind λe=>if decide (e<0)then
J1 L1 b c a true
else
J1 L1 b c a (decide (e>400))
else
J2 a c
def AR(a:AE):Nat->Int->Int->ABi Bool
|0,_,_=>none
|n+1,c,b=>L1 a (AR a n) c b
end GP
section
open GP
def GP(a:AE):=AR a BQ 0 0
theorem Ym{a:AE}{r:Bool}(h:GP a=some r):Says prog 52 [.agg (Av a)] (sb r):=by refine kO mix func52 (hn [(1,[6,7,13,14,21,22,30,31,37,43])]) ?_;have l1:=i4 λn d=>∃c b,(d 1=bA 15 (Av a)/\d 3=si c/\d 4=si b)/\AR a n c b=some r;unfold GP at h;exact walk
end
namespace Er
def J2(e:i6):ABi (List Int):=some e
def J1(L1:jg)(b:Int)(d:i6):=L1 d (A8 (b+1))
def L1(a:AD)(L1:jg)(c:i6)(b:Int):=if decide (b<(a.df.AA.length:Int))then(gt a.df.AA b).bind λf=>if f.dm==3 then
if Ap (c.length+1) 8=true then
J1 L1 b (c++[b])
else none
else
J1 L1 b c
else
J2 c
def AR(a:AD):Nat->(List Int)->Int->ABi (List Int)
|0,_,_=>none
|n+1,c,b=>L1 a (AR a n) c b
end Er
section
open Er
def Er(a:AD):=AR a BQ [] 0
theorem XN{a:AD}{r:i6}(h:Er a=some r):Says prog 208 [.agg (Bi a)] (vO 1 eI r):=by refine kO mix func208 (hn [(1,[6,7]),(3,[18,23]),(5,[15])]) ?_;have l1:=i4 λn d=>∃c b,(d 3=vO 1 eI c/\d 8=vS 3 Ay a.df.AA/\d 9=si (a.df.AA.length:Int)/\d 10=si b)/\AR a n c b=some r;unfold Er at h;exact walk
end
def f151c:IC:=(.seq (.fY [⟨some ⟨2,[],[]⟩,.mv (.c (.own false 1 [])),none⟩])
(.seq (.seq (.kH [.o ⟨some ⟨3,[],[]⟩,.cp (.t 0),none⟩,
.mK ⟨4,[],[]⟩ false (.t 3)])
(.cond (.t 4) (.seq (.fY [⟨some ⟨2,[],[]⟩,.mv (.c (.own false 1 [])),none⟩])
.ret) .skip))
(.seq (.fY [⟨some ⟨5,[],[]⟩,.Ox 1 [] [],none⟩,
⟨some ⟨6,[],[]⟩,.cp (.t 0),none⟩,
⟨some ⟨7,[],[]⟩,.app 1 8 (.t 5) (.t 6),none⟩,
⟨some ⟨2,[],[]⟩,.mv (.t 7),none⟩])
.ret)))
def f151g:Gi:=⟨[]⟩
def f151r:List RV:=[.tmp 2]
def f151:FI:=⟨f151c,f151g,f151r⟩
theorem chk151:OW prog Tryz.f151 f151:=by kernel_rfl
def JA(l:i6):ABi (List Int):=if Ap l.length 8=true then some l else none
theorem Qp{l r:i6}(h:JA l=some r):Says prog 151 [vS 1 eI l] (vO 1 eI r):=by obtain⟨g,h⟩:=Lx h;obtain rfl:=AAK h;refine P7 mix func151 chk151 (AAQ (by kernel_rfl)) rfl ?_;simp only[f151,f151c,f151g,f151r];simp +decide only[go_sem,g];intro b hb;cases b with|true=>have hl:l=[]:=(by simpa using hb rfl);subst hl;simp +decide only[go_sem,g]|false=>simp +decide only[go_sem,g]
def f165c:IC:=(.seq (.fY [⟨some ⟨2,[],[]⟩,.mv (.c (.own false 1 [])),none⟩])
(.seq (.seq (.kH [.o ⟨some ⟨3,[],[]⟩,.cp (.t 0),none⟩,
.mK ⟨4,[],[]⟩ false (.t 3)])
(.cond (.t 4) (.seq (.fY [⟨some ⟨2,[],[]⟩,.mv (.c (.own false 1 [])),none⟩])
.ret) .skip))
(.seq (.fY [⟨some ⟨5,[],[]⟩,.Ox 1 [] [],none⟩,
⟨some ⟨6,[],[]⟩,.cp (.t 0),none⟩,
⟨some ⟨7,[],[]⟩,.app 1 1 (.t 5) (.t 6),none⟩,
⟨some ⟨2,[],[]⟩,.mv (.t 7),none⟩])
.ret)))
def f165g:Gi:=⟨[]⟩
def f165r:List RV:=[.tmp 2]
def f165:FI:=⟨f165c,f165g,f165r⟩
theorem chk165:OW prog Tryz.f165 f165:=by kernel_rfl
def LM(l:ko):ABi (List Bool):=if Ap l.length 1=true then some l else none
theorem Rt{l r:ko}(h:LM l=some r):Says prog 165 [vS 1 eB l] (vO 1 eB r):=by obtain⟨g,h⟩:=Lx h;obtain rfl:=AAK h;refine P7 mix func165 chk165 (AAQ (by kernel_rfl)) rfl ?_;simp only[f165,f165c,f165g,f165r];simp +decide only[go_sem,g];intro b hb;cases b with|true=>have hl:l=[]:=(by simpa using hb rfl);subst hl;simp +decide only[go_sem,g]|false=>simp +decide only[go_sem,g]
def f152c:IC:=(.seq (.fY [⟨some ⟨2,[],[]⟩,.mv (.c (.own false 1 [])),none⟩])
(.seq (.seq (.kH [.o ⟨some ⟨3,[],[]⟩,.cp (.t 0),none⟩,
.mK ⟨4,[],[]⟩ false (.t 3)])
(.cond (.t 4) (.seq (.fY [⟨some ⟨2,[],[]⟩,.mv (.c (.own false 1 [])),none⟩])
.ret) .skip))
(.seq (.fY [⟨some ⟨5,[],[]⟩,.Ox 1 [] [],none⟩,
⟨some ⟨6,[],[]⟩,.cp (.t 0),none⟩,
⟨some ⟨7,[],[]⟩,.app 1 8 (.t 5) (.t 6),none⟩,
⟨some ⟨2,[],[]⟩,.mv (.t 7),none⟩])
.ret)))
def f152g:Gi:=⟨[]⟩
def f152r:List RV:=[.tmp 2]
def f152:FI:=⟨f152c,f152g,f152r⟩
theorem chk152:OW prog Tryz.f152 f152:=by kernel_rfl
def slices_Clone_int(l:i6):ABi (List Int):=if Ap l.length 8=true then some l else none
theorem Mi{l r:i6}(h:slices_Clone_int l=some r):Says prog 152 [vS 1 eI l] (vO 1 eI r):=by obtain⟨g,h⟩:=Lx h;obtain rfl:=AAK h;refine P7 mix func152 chk152 (AAQ (by kernel_rfl)) rfl ?_;simp only[f152,f152c,f152g,f152r];simp +decide only[go_sem,g];intro b hb;cases b with|true=>have hl:l=[]:=(by simpa using hb rfl);subst hl;simp +decide only[go_sem,g]|false=>simp +decide only[go_sem,g]
namespace GM
def J1(e:AQ):ABi AQ:=some e
def L1(a:AQ)(L1:my)(b:AQ)(c:Int):=if decide (c<(a.AK.length:Int))then(gt a.AK c).bind λd=>if Ap (d.Am.length) 8=true then
if Ap (b.AK.length+1) 32=true then
L1 (AQ.mk (b.AK++[d]) b.Tx b.Br b.AA) (A8 (c+1))
else none
else none
else
J1 b
def AR(a:AQ):Nat->AQ->Int->ABi AQ
|0,_,_=>none
|n+1,b,c=>L1 a (AR a n) b c
end GM
section
open GM
def GM(a:AQ):=if Ap (a.Br.length) 1=true then
if Ap (a.AA.length) 24=true then
AR a BQ (AQ.mk [] a.Tx a.Br a.AA) 0
else none
else none
theorem Ls{a r:AQ}(h:GM a=some r):Says prog 118 [.agg (Hq a)] (.agg (JV r)):=by refine kO mix func118 (hn [(1,[5,8,12,17,25,32]),(3,[23,24,42,43])]) ?_;have l1:=i4 λn d=>∃b c,(d 1=bA 4 (Hq a)/\d 2=bA 4 z5/\d 3=bA 4 (JV b)/\d 4=si c)/\AR a n b c=some r;unfold GM at h;exact walk
end
end Go.Abs
