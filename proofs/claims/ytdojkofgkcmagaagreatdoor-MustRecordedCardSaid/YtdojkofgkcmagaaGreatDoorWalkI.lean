/- Go functions do what typed programs say. -/
import Derived.Test.YtdojkofgkcmagaaGreatDoorWalkD
import Derived.Test.YtdojkofgkcmagaaGreatDoorWalkE
import Derived.Test.YtdojkofgkcmagaaGreatDoorWalkF
import Derived.Shelf.Slices.SearchI
set_option linter.all false
namespace Go.Abs
open Go.Proofs Tryz
set_option maxRecDepth 1000000
set_option maxHeartbeats 4000000
def Gp(b:BW)(a:AU):ABi BW:=if decide ((a.d8.length:Int)>0)then(gt a.d8 0).bind λp=>(DL BQ b p (b.du.length:Int)).bind λi=>(DL BQ i a.dX (A8 ((b.du.length:Int)+1))).bind λd=>(CB d.w a.dv).bind λe=>(gt d.w.di e).bind λq=>(BU d (Ak.mk 9 e (A8 ((b.du.length:Int)+1)) (b.du.length:Int) q.CM 0)).bind λj=>some j
else(DL BQ b a.dX (b.du.length:Int)).bind λc=>(Cv c.du a.dv).bind λf=>if decide (f>=0)then(BU c (Ak.mk 2 f (b.du.length:Int) 0 0 0)).bind λl=>some l
else(CB c.w a.dv).bind λo=>(BU c (Ak.mk 8 o (b.du.length:Int) 0 0 0)).bind λs=>some s
def S8{b:BW}{a:AU}{r:BW}(h:Gp b a=some r):BM prog 249 [bA 10 (E2 b),.agg [si a.Op,si a.Gd,B4 a.dv,B4 a.eT,vS 4 Bc a.d8,si a.dX.Op,si a.dX.N,B4 a.dX.dv,vS 4 Bc a.dX.L,vS 11 BV a.dz,vS 11 BV a.ed]] (.Bo []) [bA 10 (E2 r),.dead]:=by refine kL mix func249 (hn [(0,[7,8,9,10,16,23,29,30,31,32,36,41,42,43,44,45,47,48,52,57,58,59,60,66,71,72,73,74,75]),(3,[12,17,24,33,53,61,76])]) ?_;have a1:=@KG;have a2:=@QS;have a3:=@Hk;have a4:=@I0;unfold Gp at h;exact walk
namespace CZ
def J2:=some true
def L1(a:ABj)(L1:ja)(b:Int):=if decide (b<(a.size:Int))then(sgt a b).bind λe=>(IU (e.toNat:Int)).bind λi=>if !i then
some false
else
L1 (A8 (b+1))
else
J2
def AR(a:ABj):Nat->Int->ABi Bool
|0,_=>none
|n+1,b=>L1 a (AR a n) b
def J1(a:ABj)(c:Bool):=if c then
some false
else
AR a BQ 0
end CZ
section
open CZ
def CZ(a:ABj):=if decide ((a.size:Int)<1)then
J1 a true
else
if decide ((a.size:Int)>12)then
J1 a true
else(sgt a 0).bind λd=>(Gv (d.toNat:Int)).bind λf=>if !f then
J1 a true
else(Dz a).bind λj=>J1 a j
def JE{a:ABj}{r:Bool}(h:CZ a=some r):Says prog 98 [B4 a] (sb r):=by refine kO mix func98 (hn (Q:=[(2,1)])) ?_;have a1:=@bL;have a2:=@QQ;have a3:=@UM;have l1:=i4 λn c=>∃b,(c 0=B4 a/\c 3=si b)/\AR a n b=some r;have c1:=i5 1 λb=>∃c,(b 0=B4 a/\b 21=sb c)/\J1 a c=some r;unfold CZ at h;exact walk
end
namespace Ij
def J2:ABi (List Int):=some [(-1)]
def J1(b:Ab)(c:Int)(a:AE)(f:Bool):ABi (List Int):=if f then(gt a.AB c).bind λj=>(DD b.df j.dq).bind λe=>if decide ((e.length:Int)>0)then
some e
else
J2
else
J2
end Ij
section
open Ij
def Ij(a:AE)(b:Ab)(d:Int):=(HK a b d).bind λc=>if decide (c>=0)then(gt a.AB c).bind λi=>J1 b c a (i.de==18)
else
J1 b c a false
def cJ{a:AE}{b:Ab}{d:Int}{r:i6}(h:Ij a b d=some r):Says prog 63 [.agg (Av a),.agg (G8 b),si d] (vO 1 eI r):=by refine kO mix func63 (hn [(3,[16,26]),(4,[24]),(8,[33,36])]) ?_;have a1:=@Og;have a2:=@Lm;unfold Ij at h;exact walk
end
namespace FQ
def J1(c:Bool):ABi Bool:=some c
end FQ
section
open FQ
def FQ(b:AG)(a:AD):=(E9 b a.df).bind λd=>if d then
if(a.di.length:Int)==(b.di.length:Int)then
if(a.AL.length:Int)==(b.AL.length:Int)then
J1 ((a.dh.length:Int)==(b.AA.length:Int))
else
J1 false
else
J1 false
else
J1 false
def Ub{b:AG}{a:AD}{r:Bool}(h:FQ b a=some r):Says prog 145 [.agg (A5 b),.agg (Bi a)] (sb r):=by refine kO mix func145 (hn [(2,[13,22,31]),(3,[6,10,19,28])]) ?_;have a1:=@NP;unfold FQ at h;exact walk
end
namespace Jj
def J1(c:Bool):ABi Bool:=some c
end Jj
section
open Jj
def Jj(b:AG)(a:AD):=(E9 b a.df).bind λd=>if d then
if(a.di.length:Int)==(b.di.length:Int)then
if(a.AL.length:Int)==(b.AL.length:Int)then
J1 ((a.dh.length:Int)==(b.AA.length:Int))
else
J1 false
else
J1 false
else
J1 false
def dR{b:AG}{a:AD}{r:Bool}(h:Jj b a=some r):Says prog 44 [.agg (A5 b),.agg (Bi a)] (sb r):=by refine kO mix func44 (hn [(2,[13,22,31]),(3,[6,10,19,28])]) ?_;have a1:=@NP;unfold Jj at h;exact walk
end
namespace D3
def J1(i:Bool):ABi Int:=if i then
some 6
else
some 0
end D3
section
open D3
def D3(c:AY)(e:Int)(d:ABj)(a b:Int):=(FO c e d).bind λf=>if f==0 then
some 5
else
if f != a then
J1 (f != b)
else
J1 false
def TU{c:AY}{e:Int}{d:ABj}{a b r:Int}(h:D3 c e d a b=some r):Says prog 271 [.agg (Ct c),si e,B4 d,si a,si b] (si r):=by refine kO mix func271 hn ?_;have a1:=@Yb;unfold D3 at h;exact walk
end
namespace P3
def J1(c:Bool):ABi Bool:=some c
end P3
section
open P3
def P3(a b:i6):=(PH a b).bind λd=>if d then(PH b a).bind λe=>J1 e
else
J1 false
end
end Go.Abs
