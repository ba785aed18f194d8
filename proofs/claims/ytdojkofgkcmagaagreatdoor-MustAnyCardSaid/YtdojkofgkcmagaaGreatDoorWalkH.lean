/- Go functions do what typed programs say. -/
import Derived.Test.YtdojkofgkcmagaaGreatDoorWalkD
import Derived.Test.YtdojkofgkcmagaaGreatDoorWalkE
import Derived.Shelf.Slices.SearchI
set_option linter.all false
namespace Go.Abs
open Go.Proofs Tryz
set_option maxRecDepth 1000000
set_option maxHeartbeats 4000000
def Hb(b:BX)(a:AX):ABm BX:=if decide ((a.d6.length:Int)>0)then(gt a.d6 0).bind λp=>(DU BQ b p (b.dr.length:Int)).bind λi=>(DU BQ i a.du (A9 ((b.dr.length:Int)+1))).bind λd=>(Ce d.w a.dq).bind λe=>(gt d.w.dg e).bind λq=>(BV d (An.mk 9 e (A9 ((b.dr.length:Int)+1)) (b.dr.length:Int) q.Ca 0)).bind λj=>some j
else(DU BQ b a.du (b.dr.length:Int)).bind λc=>(Cz c.dr a.dq).bind λf=>if decide (f>=0)then(BV c (An.mk 2 f (b.dr.length:Int) 0 0 0)).bind λl=>some l
else(Ce c.w a.dq).bind λo=>(BV c (An.mk 8 o (b.dr.length:Int) 0 0 0)).bind λs=>some s
def Sb{b:BX}{a:AX}{r:BX}(h:Hb b a=some r):BF prog 249 [bA 10 (Ee b),.agg [si a.Op,si a.Fq,B0 a.dq,B0 a.e6,vS 4 BT a.d6,si a.du.Op,si a.du.N,B0 a.du.dq,vS 4 BT a.du.L,vS 11 BM a.dz,vS 11 BM a.ea]] (.Bp []) [bA 10 (Ee r),.dead]:=by refine kL mix func249 (hn [(0,[7,8,9,10,16,23,29,30,31,32,36,41,42,43,44,45,47,48,52,57,58,59,60,66,71,72,73,74,75]),(3,[12,17,24,33,53,61,76])]) ?_;have a1:=@Jf;have a2:=@P0;have a3:=@HK;have a4:=@IX;unfold Hb at h;exact walk
namespace CU
def J2:=some true
def L1(a:ABn)(L1:i6)(b:Int):=if decide (b<(a.size:Int))then(sgt a b).bind λe=>(Hj (e.toNat:Int)).bind λi=>if !i then
some false
else
L1 (A9 (b+1))
else
J2
def AU(a:ABn):Nat->Int->ABm Bool
|0,_=>none
|n+1,b=>L1 a (AU a n) b
def J1(a:ABn)(c:Bool):=if c then
some false
else
AU a BQ 0
end CU
section
open CU
def CU(a:ABn):=if decide ((a.size:Int)<1)then
J1 a true
else
if decide ((a.size:Int)>12)then
J1 a true
else(sgt a 0).bind λd=>(GH (d.toNat:Int)).bind λf=>if !f then
J1 a true
else(DR a).bind λj=>J1 a j
def Im{a:ABn}{r:Bool}(h:CU a=some r):Says prog 98 [B0 a] (sb r):=by refine kO mix func98 (hn (Q:=[(2,1)])) ?_;have a1:=@Zp;have a2:=@Py;have a3:=@Tt;have l1:=iJ λn c=>∃b,(c 0=B0 a/\c 3=si b)/\AU a n b=some r;have c1:=iR 1 λb=>∃c,(b 0=B0 a/\b 21=sb c)/\J1 a c=some r;unfold CU at h;exact walk
end
namespace E4
def J1(c:Bool):ABm Bool:=some c
end E4
section
open E4
def E4(b:AG)(a:AD):=(Em b a.dc).bind λd=>if d then
if(a.dg.length:Int)==(b.dg.length:Int)then
if(a.AM.length:Int)==(b.AM.length:Int)then
J1 ((a.df.length:Int)==(b.AB.length:Int))
else
J1 false
else
J1 false
else
J1 false
def T9{b:AG}{a:AD}{r:Bool}(h:E4 b a=some r):Says prog 145 [.agg (A0 b),.agg (Bc a)] (sb r):=by refine kO mix func145 (hn [(2,[13,22,31]),(3,[6,10,19,28])]) ?_;have a1:=@M7;unfold E4 at h;exact walk
end
namespace JK
def J1(c:Bool):ABm Bool:=some c
end JK
section
open JK
def JK(b:AG)(a:AD):=(Em b a.dc).bind λd=>if d then
if(a.dg.length:Int)==(b.dg.length:Int)then
if(a.AM.length:Int)==(b.AM.length:Int)then
J1 ((a.df.length:Int)==(b.AB.length:Int))
else
J1 false
else
J1 false
else
J1 false
def bD{b:AG}{a:AD}{r:Bool}(h:JK b a=some r):Says prog 44 [.agg (A0 b),.agg (Bc a)] (sb r):=by refine kO mix func44 (hn [(2,[13,22,31]),(3,[6,10,19,28])]) ?_;have a1:=@M7;unfold JK at h;exact walk
end
namespace Dr
def J1(i:Bool):ABm Int:=if i then
some 6
else
some 0
end Dr
section
open Dr
def Dr(c:Aa)(e:Int)(d:ABn)(a b:Int):=(GJ c e d).bind λf=>if f==0 then
some 5
else
if f != a then
J1 (f != b)
else
J1 false
def Sv{c:Aa}{e:Int}{d:ABn}{a b r:Int}(h:Dr c e d a b=some r):Says prog 271 [.agg (Cf c),si e,B0 d,si a,si b] (si r):=by refine kO mix func271 hn ?_;have a1:=@Xr;unfold Dr at h;exact walk
end
namespace Hu
def J1(c:Bool):ABm Bool:=some c
end Hu
section
open Hu
def Hu(a b:iT):=(HN a b).bind λd=>if d then(HN b a).bind λe=>J1 e
else
J1 false
def S4{a b:iT}{r:Bool}(h:Hu a b=some r):Says prog 39 [vS 1 eI a,vS 1 eI b] (sb r):=by refine kO mix func39 hn ?_;have a1:=@jS;unfold Hu at h;exact walk
end
end Go.Abs
