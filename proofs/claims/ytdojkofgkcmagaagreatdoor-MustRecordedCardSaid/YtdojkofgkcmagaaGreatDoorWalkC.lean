/- Go functions do what typed programs say. -/
import Derived.Test.YtdojkofgkcmagaaGreatDoorBaseA
import Derived.Shelf.Slices.SearchI
set_option linter.all false
namespace Go.Abs
open Go.Proofs Tryz
set_option maxRecDepth 1000000
set_option maxHeartbeats 4000000
namespace Ep
def J2(i:i6):ABi (List Int):=some i
def J1(L1:jg)(b:Int)(f:i6):=L1 f (A8 (b+1))
def L1(a:i6)(c:Int)(L1:jg)(d:i6)(b:Int):=if decide (b<(a.length:Int))then(gt a b).bind λe=>if e != c then
if Ap (d.length+1) 8=true then
J1 L1 b (d++[e])
else none
else
J1 L1 b d
else
J2 d
def AR(a:i6)(c:Int):Nat->(List Int)->Int->ABi (List Int)
|0,_,_=>none
|n+1,d,b=>L1 a c (AR a c n) d b
end Ep
section
open Ep
def Ep(a:i6)(c:Int):=AR a c BQ [] 0
def XH{a:i6}{c:Int}{r:i6}(h:Ep a c=some r):Says prog 157 [vS 1 eI a,si c] (vO 1 eI r):=by refine kO mix func157 (hn [(5,[19,26])]) ?_;have l1:=i4 λn e=>∃d b,(e 0=vS 1 eI a/\e 1=si c/\e 5=vO 1 eI d/\e 6=si b)/\AR a c n d b=some r;unfold Ep at h;exact walk
end
def LB:ABi (List ABj):=some [(⟨#[118,97,114]⟩:ABj),(⟨#[118,111,108,97,116,105,108,101]⟩:ABj),(⟨#[109,117,116,101,120]⟩:ABj),(⟨#[114,119,108,111,99,107]⟩:ABj),(⟨#[99,111,110,100]⟩:ABj),(⟨#[102,117,116,117,114,101]⟩:ABj),(⟨#[116,104,114,101,97,100]⟩:ABj),(⟨#[105,102]⟩:ABj),(⟨#[101,108,115,101]⟩:ABj),(⟨#[119,104,105,108,101]⟩:ABj),(⟨#[108,111,99,107]⟩:ABj),(⟨#[114,101,97,100]⟩:ABj),(⟨#[119,114,105,116,101]⟩:ABj),(⟨#[116,114,97,110,115,97,99,116,105,111,110]⟩:ABj),(⟨#[97,116,111,109,105,99]⟩:ABj),(⟨#[119,97,105,116]⟩:ABj),(⟨#[110,111,116,105,102,121]⟩:ABj),(⟨#[110,111,116,105,102,121,97,108,108]⟩:ABj),(⟨#[115,112,97,119,110]⟩:ABj),(⟨#[106,111,105,110]⟩:ABj),(⟨#[115,101,116]⟩:ABj),(⟨#[103,101,116]⟩:ABj)]
def Vl{r:jt}(h:LB=some r):Says prog 198 [] (vO 1 eS r):=by refine kO mix func198 hn ?_;unfold LB at h;exact walk
namespace EW
def J2:=some true
def J1(L1:ja)(a:Int)(e:Bool):=if e then
some false
else
L1 (A8 (a+1))
def L1(c:Int)(b:i6)(L1:ja)(a:Int):=if decide (a<(b.length:Int))then(gt b a).bind λd=>if decide (d<1)then
J1 L1 a true
else
if decide (d>=c)then
J1 L1 a true
else
if decide (a>0)then(gt b (A8 (a-1))).bind λf=>J1 L1 a (decide (d<=f))
else
J1 L1 a false
else
J2
def AR(c:Int)(b:i6):Nat->Int->ABi Bool
|0,_=>none
|n+1,a=>L1 c b (AR c b n) a
end EW
section
open EW
def EW(b:i6)(c:Int):=AR c b BQ 0
def XK{b:i6}{c:Int}{r:Bool}(h:EW b c=some r):Says prog 104 [vS 1 eI b,si c] (sb r):=by refine kO mix func104 hn ?_;have l1:=i4 λn d=>∃a,(d 0=vS 1 eI b/\d 1=si c/\d 5=si a)/\AR c b n a=some r;unfold EW at h;exact walk
end
namespace CA
def J2:=some true
def J1(L1:ja)(b:Int)(c:Bool):=if c then
some false
else
L1 (A8 (b+1))
def L1(a:AD)(L1:ja)(b:Int):=if decide (b<(a.df.Br.length:Int))then(gt a.df.Br b).bind λd=>if !d then(gt a.AL b).bind λe=>J1 L1 b (e != 0)
else
J1 L1 b false
else
J2
def AR(a:AD):Nat->Int->ABi Bool
|0,_=>none
|n+1,b=>L1 a (AR a n) b
end CA
section
open CA
def CA(a:AD):=AR a BQ 0
def QB{a:AD}{r:Bool}(h:CA a=some r):Says prog 48 [.agg (Bi a)] (sb r):=by refine kO mix func48 (hn [(1,[5,6,17])]) ?_;have l1:=i4 λn c=>∃b,(c 1=bA 7 (Bi a)/\c 7=vS 1 eB a.df.Br/\c 8=si (a.df.Br.length:Int)/\c 9=si b)/\AR a n b=some r;unfold CA at h;exact walk
end
namespace FM
def J1(e:lm):ABi (List An):=some e
def L1(a:i6)(L1:(List An)->Int->ABi (List An))(c:lm)(b:Int):=if decide (b<(a.length:Int))then(gt a b).bind λd=>if Ap (c.length+1) 16=true then
L1 (c++[(An.mk ((A8 d).tmod 4) (A8 (((A8 ((A8 d).tdiv 4)).tmod 5)-1)))]) (A8 (b+1))
else none
else
J1 c
def AR(a:i6):Nat->(List An)->Int->ABi (List An)
|0,_,_=>none
|n+1,c,b=>L1 a (AR a n) c b
end FM
section
open FM
def FM(a:i6):=AR a BQ [] 0
def YP{a:i6}{r:lm}(h:FM a=some r):Says prog 87 [vS 1 l5 a] (vO 2 HW r):=by refine kO mix func87 (hn [(3,[11,29])]) ?_;have l1:=i4 λn d=>∃c b,(d 0=vS 1 l5 a/\d 3=vO 2 HW c/\d 4=si b)/\AR a n c b=some r;unfold FM at h;exact walk
end
namespace Cw
def J1(a:BW):ABi (Int×BW):=some ((-1),a)
def L1(a:BW)(b:ABj)(L1:Int->ABi (Int×BW))(c:Int):=if decide (c<(a.w.Al.length:Int))then(gt a.w.Al c).bind λd=>if d.dv.toList==b.toList then
some (c,a)
else
L1 (A8 (c+1))
else
J1 a
def AR(a:BW)(b:ABj):Nat->Int->ABi (Int×BW)
|0,_=>none
|n+1,c=>L1 a b (AR a b n) c
end Cw
section
open Cw
def Cw(a:BW)(b:ABj):=AR a b BQ 0
def Vt{a:BW}{b:ABj}{r:Int×BW}(h:Cw a b=some r):BM prog 252 [bA 10 (E2 a),B4 b] (si r.1) [bA 10 (E2 r.2),.dead]:=by refine kL mix func252 (hn [(0,[7,8,9,10,11,16,17,18,19,20,22,23])]) ?_;have l1:=i4 λn d=>∃c,(d 0=bA 10 (E2 a)/\d 1=B4 b/\d 5=si c)/\AR a b n c=some r;unfold Cw at h;exact walk
end
namespace E4
def J2:og:=some (-1)
def J1(L1:m8)(a f:Int):=L1 f (A8 (a+1))
def L1(c:Int)(b:AE)(L1:m8)(d a:Int):=if decide (a<(b.AB.length:Int))then(gt b.AB a).bind λi=>if i.db==c then
if d==0 then
some a
else
J1 L1 a (A8 (d-1))
else
J1 L1 a d
else
J2
def AR(c:Int)(b:AE):Nat->Int->Int->ABi Int
|0,_,_=>none
|n+1,d,a=>L1 c b (AR c b n) d a
end E4
section
open E4
def E4(b:AE)(c e:Int):=AR c b BQ e 0
def Vx{b:AE}{c e r:Int}(h:E4 b c e=some r):Says prog 107 [.agg (Av b),si c,si e] (si r):=by refine kO mix func107 (hn [(3,[9,15])]) ?_;have l1:=i4 λn e=>∃d a,(e 1=si c/\e 2=si d/\e 3=bA 15 (Av b)/\e 7=si a)/\AR c b n d a=some r;unfold E4 at h;exact walk
end
namespace CU
def J1(c:Bool):ABi Bool:=some c
end CU
section
open CU
def CU(b:Int)(a:AE):=if decide (b>=0)then
if decide (b<(a.dg.dh.length:Int))then(gt a.dg.dh b).bind λd=>J1 (decide (d>=1))
else
J1 false
else
J1 false
def Om{b:Int}{a:AE}{r:Bool}(h:CU b a=some r):Says prog 95 [si b,.fp [vS 5 Hp a.dc.di,vS 2 Ix a.dc.AK,vS 2 Iw a.dc.Al,vS 1 eS a.dc.AL,vS 1 eS a.dc.AA,vS 3 G9 a.dc.Bt,si a.eO,vS 2 De a.dg.df.AK,si a.dg.df.Tx,vS 1 eB a.dg.df.Br,vS 3 Ay a.dg.df.AA,vS 1 eI a.dg.di,vS 1 eI a.dg.AL,vS 1 eI a.dg.dh,vS 7 Aw a.AB]] (sb r):=by refine kO mix func95 hn ?_;unfold CU at h;exact walk
end
namespace Rj
def J1:=some true
def L1(a b:i6)(L1:ja)(c:Int):=if decide (c<(a.length:Int))then(gt a c).bind λd=>(gt b c).bind λe=>if d != e then
some false
else
L1 (A8 (c+1))
else
J1
def AR(a b:i6):Nat->Int->ABi Bool
|0,_=>none
|n+1,c=>L1 a b (AR a b n) c
end Rj
section
open Rj
def Rj(a b:i6):=if(a.length:Int) != (b.length:Int)then
some false
else
AR a b BQ 0
end
namespace Gt
def J1(a:AH)(b:AG)(c:Bool):ABi Int:=if c then
some a.dq
else
if a.de==16 then(gt b.Al a.dq).bind λd=>some d.dr
else
if a.de==13 then
some (b.AK.length:Int)
else
some (-1)
end Gt
section
open Gt
def Gt(b:AG)(a:AH):=if a.de==7 then
J1 a b (a.de==7)
else
if a.de==9 then
J1 a b (a.de==9)
else
J1 a b (a.de==11)
def W5{b:AG}{a:AH}{r:Int}(h:Gt b a=some r):Says prog 206 [.agg (A5 b),.agg (Aw a)] (si r):=by refine kO mix func206 (hn [(2,[15,24]),(3,[5,11,17])] [(3,1)]) ?_;have c1:=i5 1 λd=>∃c,(d 2=bA 6 (A5 b)/\d 3=bA 7 (Aw a)/\d 6=si a.de/\d 7=sb c)/\J1 a b c=some r;unfold Gt at h;exact walk
end
namespace Gs
def J1(a:AH)(b:AG)(c:Bool):ABi Int:=if c then
some a.dq
else
if a.de==17 then(gt b.Al a.dq).bind λd=>some d.dr
else
if a.de==12 then
some (b.AK.length:Int)
else
some (-1)
end Gs
section
open Gs
def Gs(b:AG)(a:AH):=if a.de==6 then
J1 a b (a.de==6)
else
if a.de==8 then
J1 a b (a.de==8)
else
J1 a b (a.de==10)
def W4{b:AG}{a:AH}{r:Int}(h:Gs b a=some r):Says prog 207 [.agg (A5 b),.agg (Aw a)] (si r):=by refine kO mix func207 (hn [(2,[15,24]),(3,[5,11,17])] [(3,1)]) ?_;have c1:=i5 1 λd=>∃c,(d 2=bA 6 (A5 b)/\d 3=bA 7 (Aw a)/\d 6=si a.de/\d 7=sb c)/\J1 a b c=some r;unfold Gs at h;exact walk
end
namespace DQ
def J1:og:=some (-1)
def L1(a:List DM)(b:ABj)(L1:l0)(c:Int):=if decide (c<(a.length:Int))then(gt a c).bind λd=>if d.dv.toList==b.toList then
some c
else
L1 (A8 (c+1))
else
J1
def AR(a:List DM)(b:ABj):Nat->Int->ABi Int
|0,_=>none
|n+1,c=>L1 a b (AR a b n) c
end DQ
section
open DQ
def DQ(a:List DM)(b:ABj):=AR a b BQ 0
def LF{a:List DM}{b:ABj}{r:Int}(h:DQ a b=some r):Says prog 247 [vS 4 Jl a,B4 b] (si r):=by refine kO mix func247 hn ?_;have l1:=i4 λn d=>∃c,(d 0=vS 4 Jl a/\d 1=B4 b/\d 5=si c)/\AR a b n c=some r;unfold DQ at h;exact walk
end
namespace CB
def J1:og:=some (-1)
def L1(b:ABj)(a:AG)(L1:l0)(c:Int):=if decide (c<(a.di.length:Int))then(gt a.di c).bind λd=>if d.dv.toList==b.toList then
some c
else
L1 (A8 (c+1))
else
J1
def AR(b:ABj)(a:AG):Nat->Int->ABi Int
|0,_=>none
|n+1,c=>L1 b a (AR b a n) c
end CB
section
open CB
def CB(a:AG)(b:ABj):=AR b a BQ 0
def QS{a:AG}{b:ABj}{r:Int}(h:CB a b=some r):Says prog 274 [.agg (A5 a),B4 b] (si r):=by refine kO mix func274 (hn [(2,[7,13])]) ?_;have l1:=i4 λn d=>∃c,(d 1=B4 b/\d 2=bA 6 (A5 a)/\d 5=si c)/\AR b a n c=some r;unfold CB at h;exact walk
end
namespace ET
def J1:=some false
def L1(a:ABj)(L1:ja)(b:Int):=if decide (b<22)then
if b<22 then(gt NH b).bind λc=>if a.toList==c.toList then
some true
else
L1 (A8 (b+1))
else none
else
J1
def AR(a:ABj):Nat->Int->ABi Bool
|0,_=>none
|n+1,b=>L1 a (AR a n) b
end ET
variable{g:ABj}{a:Bool}
section
open ET
def ET(a:ABj):=AR a BQ 0
theorem UX(h:ET g=some a):Says prog 190 [B4 g] (sb a):=by refine kO mix func190 (hn (E:=[(1,(.kH [.gld ⟨5,[],[]⟩ 0 22,.o (iU 6 0)]))])) ?_;have l1:=i4 λn c=>∃b,(c 0=B4 g/\c 5=.agg (NH.map B4)/\c 6=si b)/\AR g n b=some a;unfold ET at h;exact walk
end
namespace Hg
def J1:og:=some (-1)
def L1(a:Int)(b:js)(L1:l0)(c:Int):=if decide (c>=0)then(gt b c).bind λd=>(gt b a).bind λe=>if d.db==e.db then
some c
else
L1 (A8 (c-1))
else
J1
def AR(a:Int)(b:js):Nat->Int->ABi Int
|0,_=>none
|n+1,c=>L1 a b (AR a b n) c
end Hg
variable{f:js}{d r:Int}
section
open Hg
def Hg(b:js)(a:Int):=AR a b BQ (A8 (a-1))
theorem V0(h:Hg f d=some r):Says prog 69 [vS 7 Aw f,si d] (si r):=by refine kO mix func69 hn ?_;have l1:=i4 λn a=>∃c,(a 0=vS 7 Aw f/\a 1=si d/\a 5=si c)/\AR d f n c=some r;unfold Hg at h;exact walk
end
namespace DU
def J1:og:=some (-1)
def L1(a:nf)(b:ABj)(L1:l0)(c:Int):=if decide (c<(a.length:Int))then(gt a c).bind λd=>if d.dv.toList==b.toList then
some c
else
L1 (A8 (c+1))
else
J1
def AR(a:nf)(b:ABj):Nat->Int->ABi Int
|0,_=>none
|n+1,c=>L1 a b (AR a b n) c
end DU
section
open DU
def DU(a:nf)(b:ABj):=AR a b BQ 0
theorem KU{a:nf}{b:ABj}{r:Int}(h:DU a b=some r):Says prog 246 [vS 6 Ky a,B4 b] (si r):=by refine kO mix func246 hn ?_;have l1:=i4 λn d=>∃c,(d 0=vS 6 Ky a/\d 1=B4 b/\d 5=si c)/\AR a b n c=some r;unfold DU at h;exact walk
end
namespace Ee
def J1:og:=some (-1)
def L1(a:List Kt)(b:ABj)(L1:l0)(c:Int):=if decide (c<(a.length:Int))then(gt a c).bind λd=>if d.dv.toList==b.toList then
some c
else
L1 (A8 (c+1))
else
J1
def AR(a:List Kt)(b:ABj):Nat->Int->ABi Int
|0,_=>none
|n+1,c=>L1 a b (AR a b n) c
end Ee
section
open Ee
def Ee(a:List Kt)(b:ABj):=AR a b BQ 0
theorem QV{a:List Kt}{b:ABj}{r:Int}(h:Ee a b=some r):Says prog 220 [vS 2 Ix a,B4 b] (si r):=by refine kO mix func220 hn ?_;have l1:=i4 λn d=>∃c,(d 0=vS 2 Ix a/\d 1=B4 b/\d 5=si c)/\AR a b n c=some r;unfold Ee at h;exact walk
end
namespace Cv
def J1:og:=some (-1)
def L1(a:jt)(b:ABj)(L1:l0)(c:Int):=if decide (c<(a.length:Int))then(gt a c).bind λd=>if d.toList==b.toList then
some c
else
L1 (A8 (c+1))
else
J1
def AR(a:jt)(b:ABj):Nat->Int->ABi Int
|0,_=>none
|n+1,c=>L1 a b (AR a b n) c
end Cv
section
open Cv
def Cv(a:jt)(b:ABj):=AR a b BQ 0
theorem I0{a:jt}{b:ABj}{r:Int}(h:Cv a b=some r):Says prog 99 [vS 1 eS a,B4 b] (si r):=by refine kO mix func99 hn ?_;have l1:=i4 λn d=>∃c,(d 0=vS 1 eS a/\d 1=B4 b/\d 5=si c)/\AR a b n c=some r;unfold Cv at h;exact walk
end
namespace Iq
def J1:=some false
def L1(a:i6)(b:Int)(L1:ja)(c:Int):=if decide (c<(a.length:Int))then(gt a c).bind λd=>if d==b then
some true
else
L1 (A8 (c+1))
else
J1
def AR(a:i6)(b:Int):Nat->Int->ABi Bool
|0,_=>none
|n+1,c=>L1 a b (AR a b n) c
end Iq
section
open Iq
def Iq(a:i6)(b:Int):=AR a b BQ 0
theorem V3{a:i6}{b:Int}{r:Bool}(h:Iq a b=some r):Says prog 35 [vS 1 eI a,si b] (sb r):=by refine kO mix func35 hn ?_;have l1:=i4 λn d=>∃c,(d 1=si b/\d 7=vS 1 eI a/\d 8=si (a.length:Int)/\d 9=si c)/\AR a b n c=some r;unfold Iq at h;exact walk
end
namespace Gy
def J1:og:=some (-1)
def L1(a:i6)(b:Int)(L1:l0)(c:Int):=if decide (c<(a.length:Int))then(gt a c).bind λd=>if b==d then
some c
else
L1 (A8 (c+1))
else
J1
def AR(a:i6)(b:Int):Nat->Int->ABi Int
|0,_=>none
|n+1,c=>L1 a b (AR a b n) c
end Gy
section
open Gy
def Gy(a:i6)(b:Int):=AR a b BQ 0
theorem Yt{a:i6}{b r:Int}(h:Gy a b=some r):Says prog 201 [vS 1 eI a,si b] (si r):=by refine kO mix func201 hn ?_;have l1:=i4 λn d=>∃c,(d 0=vS 1 eI a/\d 1=si b/\d 7=si (a.length:Int)/\d 8=si c)/\AR a b n c=some r;unfold Gy at h;exact walk
end
namespace EB
def J2(d:Bool):ABi Bool:=some d
def J1(a:AH)(b:AG)(c:Bool):=if c then
some (a.d7==(-1))
else
if decide (a.d7>=0)then
if decide (a.d7<(b.Bt.length:Int))then(gt b.Bt a.d7).bind λe=>J2 (e.db==a.db)
else
J2 false
else
J2 false
end EB
section
open EB
def EB(b:AG)(a:AH):=if a.de==1 then
J1 a b true
else
J1 a b (a.de==2)
theorem Ry{b:AG}{a:AH}{r:Bool}(h:EB b a=some r):Says prog 147 [.agg (A5 b),.agg (Aw a)] (sb r):=by refine kO mix func147 (hn [(2,[22,28]),(3,[5,9,13,16,20,30,35])]) ?_;unfold EB at h;exact walk
end
namespace Ek
def J3(d:Bool):ABi Int:=if d then
some 2
else
some (-1)
def J2(a:Int)(c:Bool):=if c then
some 1
else
if decide (a>=6)then
J3 (decide (a<=18))
else
J3 false
def J1(a:Int)(b:Bool):=if b then
some 0
else
if decide (a>=3)then
J2 a (decide (a<=5))
else
J2 a false
end Ek
section
open Ek
def Ek(a:Int):=if a==1 then
J1 a true
else
J1 a (a==2)
theorem Vm{a r:Int}(h:Ek a=some r):Says prog 282 [si a] (si r):=by refine kO mix func282 (hn (Q:=[(2,1)])) ?_;have c1:=i5 1 λc=>∃b,(c 0=si a/\c 3=sb b)/\J1 a b=some r;unfold Ek at h;exact walk
end
namespace HA
def J1:=some false
def L1(a:i6)(b:Int)(L1:ja)(c:Int):=if decide (c<(a.length:Int))then(gt a c).bind λd=>if d==b then
some true
else
L1 (A8 (c+1))
else
J1
def AR(a:i6)(b:Int):Nat->Int->ABi Bool
|0,_=>none
|n+1,c=>L1 a b (AR a b n) c
end HA
section
open HA
def HA(a:i6)(b:Int):=AR a b BQ 0
theorem Ms{a:i6}{b:Int}{r:Bool}(h:HA a b=some r):Says prog 65 [vS 1 eI a,si b] (sb r):=by refine kO mix func65 hn ?_;have l1:=i4 λn d=>∃c,(d 0=vS 1 eI a/\d 1=si b/\d 5=si c)/\AR a b n c=some r;unfold HA at h;exact walk
end
namespace Aq
def J1(b:Int)(a:AZ)(c:Bool):ABi (Int×AZ):=if c then
some (0,a)
else(gt a.L (A8 ((A8 (a.At+1))-1))).bind λd=>if¬b=0 then
some ((A8 d).tmod b,(AZ.mk a.L (A8 (a.At+1))))
else none
end Aq
section
open Aq
def Aq(a:AZ)(b:Int):=if decide (a.At>=(a.L.length:Int))then
J1 b a true
else
J1 b a (decide (b<1))
theorem Dj{a:AZ}{b:Int}{r:j9}(h:Aq a b=some r):BM prog 132 [bA 2 (Gg a),si b] (si r.1) [bA 2 (Gg r.2),.dead]:=by refine kL mix func132 (hn [(0,[5,6,7,9,10,11,12,19,20,21,24,25,26,27,28,29,30,31,32,35])]) ?_;unfold Aq at h;exact walk
end
def FW:ABi (List FF):=some [(FF.mk 1 0 (⟨#[120]⟩:ABj) 0 0 (⟨#[]⟩:ABj)),(FF.mk 1 0 (⟨#[121]⟩:ABj) 0 1 (⟨#[]⟩:ABj)),(FF.mk 2 0 (⟨#[118]⟩:ABj) 0 0 (⟨#[]⟩:ABj)),(FF.mk 1 0 (⟨#[113]⟩:ABj) 2 0 (⟨#[]⟩:ABj)),(FF.mk 3 0 (⟨#[109]⟩:ABj) 0 0 (⟨#[]⟩:ABj)),(FF.mk 3 0 (⟨#[110]⟩:ABj) 0 0 (⟨#[]⟩:ABj)),(FF.mk 4 0 (⟨#[114]⟩:ABj) 0 0 (⟨#[]⟩:ABj)),(FF.mk 5 0 (⟨#[99]⟩:ABj) 0 0 (⟨#[109]⟩:ABj)),(FF.mk 6 0 (⟨#[102]⟩:ABj) 0 0 (⟨#[]⟩:ABj))]
variable{b:nf}
theorem TR(h:FW=some b):Says prog 186 [] (vO 6 Ky b):=by refine kO mix func186 hn ?_;unfold FW at h;exact walk
def BU(a:BW)(b:Ak):ABi BW:=if Ap (a.dx.length+1) 48=true then
some (BW.mk a.w a.du (a.dx++[(Ak.mk b.Op b.A b.B b.C b.N a.dy)]) a.dy a.next)
else none
theorem Hk{a:BW}{b:Ak}{r:BW}(h:BU a b=some r):BM prog 184 [bA 10 (E2 a),.agg (Ew b)] (.Bo []) [bA 10 (E2 r),.dead]:=by refine kL mix func184 (hn [(0,[4,5,6,10,11,12,13,17,18]),(3,[8])] (E:=[(2,(.l7 [(0,0,8,9)] [i0 9 .fl,i1 10 0 (.cp (.t 0)),i1 11 0 (.JQ (.t 10)),Ko 12 0 7 11,We 13 0 12,iA 14 6 3,i0 15 (.Ox 6 [z17] [(0,.t 14)]),i0 16 (.app 6 48 (.t 13) (.t 15)),i1 17 0 (.JQ (.t 0)),Ko 18 0 7 17,iS 1 18 16]))])) ?_;unfold BU at h;exact walk
namespace HS
def J1(c:Bool):ABi Bool:=some c
end HS
section
open HS
def HS(b:AE)(a:AH):=if a.de==23 then(gt b.dg.df.Br a.dq).bind λd=>if d then(gt b.dg.AL a.dq).bind λe=>J1 (e==a.dn)
else
J1 false
else(gt b.dg.di a.dq).bind λf=>some (f==a.dn)
theorem XM{b:AE}{a:AH}{r:Bool}(h:HS b a=some r):Says prog 78 [.agg (Av b),.agg (Aw a)] (sb r):=by refine kO mix func78 (hn [(2,[8,9,10,17,18,28,29]),(3,[5,12,20,24,31,35])]) ?_;unfold HS at h;exact walk
end
namespace ID
def J1(f:Bool):ABi Bool:=some f
end ID
variable{e:AE}{c:Int}
section
open ID
def ID(e:AE)(d b c:Int):=(gt e.AB d).bind λa=>if a.de==18 then
if a.dq==b then
J1 (a.db != c)
else
J1 false
else
if a.de==19 then
if a.dq==b then
J1 (a.db != c)
else
J1 false
else
J1 false
theorem V4(h:ID e d r c=some a):Says prog 73 [.agg (Av e),si d,si r,si c] (sb a):=by refine kO mix func73 (hn [(4,[10]),(9,[15,19,24,30])]) ?_;unfold ID at h;exact walk
end
namespace GQ
def J1(c:Bool):ABi Bool:=some c
end GQ
section
open GQ
def GQ(b a:AH):=if b.dq==a.dq then
if b.de==4 then
if a.de==3 then
J1 true
else
if b.de==22 then
J1 (a.de==23)
else
J1 false
else
if b.de==22 then
J1 (a.de==23)
else
J1 false
else
J1 false
theorem QX{b a:AH}{r:Bool}(h:GQ b a=some r):Says prog 34 [.agg (Aw b),.agg (Aw a)] (sb r):=by refine kO mix func34 (hn [(2,[5,11,20]),(3,[7,15,24])]) ?_;unfold GQ at h;exact walk
end
namespace Iz
def J1(b:Bool):ABi Bool:=some b
end Iz
section
open Iz
def Iz(a:Ba):=if a.Op==0 then
if a.N==0 then
if a.dv.toList==(⟨#[]⟩:ABj).toList then
J1 ((a.L.length:Int)==0)
else
J1 false
else
J1 false
else
J1 false
theorem bM{a:Ba}{r:Bool}(h:Iz a=some r):Says prog 278 [.agg [si a.Op,si a.N,B4 a.dv,vS 4 Bc a.L]] (sb r):=by refine kO mix func278 (hn [(1,[3,7,12,17])]) ?_;unfold Iz at h;exact walk
end
namespace Gv
def J1(b:Bool):ABi Bool:=some b
end Gv
section
open Gv
def Gv(a:Int):=if decide (a>=97)then
if decide (a<=122)then
J1 true
else
if decide (a>=65)then
J1 (decide (a<=90))
else
J1 false
else
if decide (a>=65)then
J1 (decide (a<=90))
else
J1 false
theorem QQ{a:Int}{r:Bool}(h:Gv a=some r):Says prog 153 [.sc (.int .u8 a)] (sb r):=by refine kO mix func153 hn ?_;unfold Gv at h;exact walk
end
namespace JC
def J1(a:Int)(b:AG)(c:Bool):ABi Int:=if c then
some (-1)
else(gt b.Al a).bind λd=>some d.dr
end JC
section
open JC
def JC(b:AG)(a:Int):=if decide (a<0)then
J1 a b true
else
J1 a b (decide (a>=(b.Al.length:Int)))
theorem Rk{b:AG}{a r:Int}(h:JC b a=some r):Says prog 172 [.agg (A5 b),si a] (si r):=by refine kO mix func172 (hn [(2,[9,14])]) ?_;unfold JC at h;exact walk
end
namespace I9
def J1(a:Int)(b:Bool):ABi Int:=if b then
some 0
else(gt [3,3,4,4,5,6,7,8,9,10,11,12,13,14,15,16,18,19,20,21,22,23,2] (A8 (a-6))).bind λc=>some c
end I9
section
open I9
def I9(a:Int):=if decide (a<6)then
J1 a true
else
J1 a (decide (a>28))
theorem fU{a r:Int}(h:I9 a=some r):Says prog 240 [si a] (si r):=by refine kO mix func240 (hn [(3,[11,14])]) ?_;unfold I9 at h;exact walk
end
def Fl(b:ABj)(a:Ba):ABi AU:=some (AU.mk 1 0 b (⟨#[]⟩:ABj) [] a [] [])
theorem RF{b:ABj}{a:Ba}{r:AU}(h:Fl b a=some r):Says prog 188 [B4 b,.agg [si a.Op,si a.N,B4 a.dv,vS 4 Bc a.L]] (.agg [si r.Op,si r.Gd,B4 r.dv,B4 r.eT,vS 4 Bc r.d8,si r.dX.Op,si r.dX.N,B4 r.dX.dv,vS 4 Bc r.dX.L,vS 11 BV r.dz,vS 11 BV r.ed]):=by refine kF mix func188 hn ?_;unfold Fl at h;exact walk
namespace Ri
def J1(b:i6)(a:Int)(c:Bool):ABi Int:=if c then
some 0
else(gt b a).bind λd=>some d
end Ri
section
open Ri
def Ri(b:i6)(a:Int):=if decide (a<0)then
J1 b a true
else
J1 b a (decide (a>=(b.length:Int)))
end
namespace Hf
def J1(c:Int):ABi Int:=some c
end Hf
section
open Hf
def Hf(b a:Int):=if decide (a<1)then
some 0
else
if¬a=0 then
if decide ((b.tmod a)<0)then
J1 (A8 ((b.tmod a)+a))
else
J1 (b.tmod a)
else none
theorem bR{b a r:Int}(h:Hf b a=some r):Says prog 264 [si b,si a] (si r):=by refine kO mix func264 hn ?_;unfold Hf at h;exact walk
end
namespace Gu
def J1(c:Bool):ABi Bool:=some c
end Gu
section
open Gu
def Gu(a:AM)(b:Int):=if a.dm==3 then
J1 (a.D7==b)
else
J1 false
theorem QN{a:AM}{b:Int}{r:Bool}(h:Gu a b=some r):Says prog 225 [.agg (Ay a),si b] (sb r):=by refine kO mix func225 (hn [(2,[5,9])]) ?_;unfold Gu at h;exact walk
end
namespace FK
def J1(a:Int)(b:Bool):ABi Int:=if b then
some 0
else
some a
end FK
section
open FK
def FK(a:Int):=if decide (a<1)then
J1 a true
else
J1 a (decide (a>100))
theorem Vw{a r:Int}(h:FK a=some r):Says prog 266 [si a] (si r):=by refine kO mix func266 hn ?_;unfold FK at h;exact walk
end
def JZ(c:Int)(a b:Ba):ABi Ba:=some (Ba.mk c 0 (⟨#[]⟩:ABj) [a,b])
theorem RG{c:Int}{a b r:Ba}(h:JZ c a b=some r):Says prog 255 [si c,.agg [si a.Op,si a.N,B4 a.dv,vS 4 Bc a.L],.agg [si b.Op,si b.N,B4 b.dv,vS 4 Bc b.L]] (.agg [si r.Op,si r.N,B4 r.dv,vS 4 Bc r.L]):=by refine kF mix func255 hn ?_;unfold JZ at h;exact walk
namespace F9
def J1(c:Bool):ABi Bool:=some c
end F9
section
open F9
def F9(a b:Int):=if decide (a>=0)then
J1 (decide (a<b))
else
J1 false
theorem Us{a b:Int}{r:Bool}(h:F9 a b=some r):Says prog 143 [si a,si b] (sb r):=by refine kO mix func143 hn ?_;unfold F9 at h;exact walk
end
namespace D9
def J1(c:Bool):ABi Bool:=some c
end D9
section
open D9
def D9(a b:Int):=if decide (a>=0)then
J1 (decide (a<b))
else
J1 false
theorem Li{a b:Int}{r:Bool}(h:D9 a b=some r):Says prog 144 [si a,si b] (sb r):=by refine kO mix func144 hn ?_;unfold D9 at h;exact walk
end
namespace Ib
def J1(b:Bool):ABi Bool:=some b
end Ib
section
open Ib
def Ib(a:AH):=if a.de==3 then
J1 true
else
J1 (a.de==23)
theorem Ta{a:AH}{r:Bool}(h:Ib a=some r):Says prog 33 [.agg (Aw a)] (sb r):=by refine kO mix func33 (hn [(1,[3,7])]) ?_;unfold Ib at h;exact walk
end
namespace Iy
def J1(b:Bool):ABi Bool:=some b
end Iy
section
open Iy
def Iy(a:Int):=if decide (a>=48)then
J1 (decide (a<=57))
else
J1 false
theorem bH{a:Int}{r:Bool}(h:Iy a=some r):Says prog 199 [.sc (.int .u8 a)] (sb r):=by refine kO mix func199 hn ?_;unfold Iy at h;exact walk
end
namespace Gx
def J1(b:Bool):ABi Bool:=some b
end Gx
section
open Gx
def Gx(a:Int):=if decide (a>=1)then
J1 (decide (a<=5))
else
J1 false
theorem QT{a:Int}{r:Bool}(h:Gx a=some r):Says prog 238 [si a] (sb r):=by refine kO mix func238 hn ?_;unfold Gx at h;exact walk
end
namespace MM
def J1(c:Bool):ABi Bool:=some c
end MM
section
open MM
def MM(a b:Int):=if decide (a>=0)then
J1 (decide (a<b))
else
J1 false
theorem rU{a b:Int}{r:Bool}(h:MM a b=some r):Says prog 103 [si a,si b] (sb r):=by refine kO mix func103 hn ?_;unfold MM at h;exact walk
end
namespace Ip
def J1(c:Bool):ABi Bool:=some c
end Ip
section
open Ip
def Ip(a b:Int):=if decide (a>=0)then
J1 (decide (a<b))
else
J1 false
theorem Xw{a b:Int}{r:Bool}(h:Ip a b=some r):Says prog 114 [si a,si b] (sb r):=by refine kO mix func114 hn ?_;unfold Ip at h;exact walk
end
namespace MN
def J1(c:Bool):ABi Bool:=some c
end MN
section
open MN
def MN(a b:Int):=if decide (a>=0)then
J1 (decide (a<b))
else
J1 false
theorem Xz{a b:Int}{r:Bool}(h:MN a b=some r):Says prog 101 [si a,si b] (sb r):=by refine kO mix func101 hn ?_;unfold MN at h;exact walk
end
namespace EE
def J1(c:Bool):ABi Bool:=some c
end EE
section
open EE
def EE(a b:Int):=if decide (a>=0)then
J1 (decide (a<b))
else
J1 false
theorem RY{a b:Int}{r:Bool}(h:EE a b=some r):Says prog 211 [si a,si b] (sb r):=by refine kO mix func211 hn ?_;unfold EE at h;exact walk
end
def OK:ABi (List Int):=some [3,3,3,3,3,4,4,4,4,4,5,5,5,6,6,6,7,7,7,8,9,10,11,12,13,14,14,15,16,16,17,17,18,18,19,20,1,1,2,21,22,23,23]
theorem cZ{r:i6}(h:OK=some r):Says prog 175 [] (vO 1 eI r):=by refine kO mix func175 hn ?_;unfold OK at h;exact walk
def K5(a:Int):ABi Ba:=some (Ba.mk 1 a (⟨#[]⟩:ABj) [])
theorem RJ{a:Int}{r:Ba}(h:K5 a=some r):Says prog 189 [si a] (.agg [si r.Op,si r.N,B4 r.dv,vS 4 Bc r.L]):=by refine kF mix func189 hn ?_;unfold K5 at h;exact walk
def Jn(a:ABj):ABi Ba:=some (Ba.mk 2 0 a [])
theorem VP{a:ABj}{r:Ba}(h:Jn a=some r):Says prog 256 [B4 a] (.agg [si r.Op,si r.N,B4 r.dv,vS 4 Bc r.L]):=by refine kF mix func256 hn ?_;unfold Jn at h;exact walk
def CX(a:Bool):ABi Int:=if a then
some 7
else
some 0
theorem XD{a:Bool}{r:Int}(h:CX a=some r):Says prog 273 [sb a] (si r):=by refine kO mix func273 hn ?_;unfold CX at h;exact walk
def Em(a:Bool):ABi Int:=if a then
some 1
else
some 0
theorem RX{a:Bool}{r:Int}(h:Em a=some r):Says prog 276 [sb a] (si r):=by refine kO mix func276 hn ?_;unfold Em at h;exact walk
def GJ(a b:Int):ABi Int:=if a != 0 then
some a
else
some b
theorem rS{a b r:Int}(h:GJ a b=some r):Says prog 270 [si a,si b] (si r):=by refine kO mix func270 hn ?_;unfold GJ at h;exact walk
end Go.Abs
