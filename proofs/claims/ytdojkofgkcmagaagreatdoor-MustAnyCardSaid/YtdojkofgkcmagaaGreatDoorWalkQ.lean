/- Go functions do what typed programs say. -/
import Derived.Test.YtdojkofgkcmagaaGreatDoorWalkP
import Derived.Shelf.Slices.SearchI
set_option linter.all false
namespace Go.Abs
open Go.Proofs Tryz
set_option maxRecDepth 1000000
set_option maxHeartbeats 4000000
namespace GA
def J4(j:Bool):ABm Bool:=some j
def J3(b c:Int)(a:AF)(d:Bool):=(EO a b c).bind λi=>if d then(Af a).bind λp=>(gt p b).bind λaa=>(gt aa c).bind λab=>if i==ab then(GY).bind λq=>J4 q
else
J4 false
else
if i==false then(GY).bind λs=>J4 s
else
J4 false
def J2(b c:Int)(a:AF)(f:Bool):=if f then
some false
else
if decide (b>=0)then
if decide (b<(a.AA.length:Int))then
if decide (c>=0)then
J3 b c a (decide (c<(a.AA.length:Int)))
else
J3 b c a false
else
J3 b c a false
else
J3 b c a false
def J1(b c:Int)(a:AF)(e:Bool):=if e then(GY).bind λo=>some o
else(JC a).bind λt=>(Af a).bind λu=>(C6 a.AA u (a.db.AB.length:Int)).bind λv=>(Ec t v).bind λw=>if !w then
J2 b c a true
else(KU a b).bind λx=>(Bm a b).bind λy=>(Io x y).bind λz=>J2 b c a (!z)
end GA
variable{d:AF}{b a:Int}{c:Bool}
section
open GA
def GA(a:AF)(b c:Int):=if decide ((a.AA.length:Int)>16)then
J1 b c a true
else(CD a).bind λl=>J1 b c a (!l)
theorem lM(h:GA d b a=some c):Says prog 14 [.agg (A5 d),si b,si a] (sb c):=by refine kO mix func14 (hn [(3,[8,20,24,25,45,56]),(68,[70,71,73])] [(2,1),(5,2),(7,3)]) ?_;have a1:=@Mt;have a2:=@Mx;have a3:=@S5;have a4:=@My;have a5:=@P4;have a6:=@Oi;have a7:=@Tj;have a8:=@Jg;have a9:=@aE;have a10:=@ND;have c3:=iR 3 λe=>∃r,(e 1=si b/\e 2=si a/\e 3=bA 15 (A5 d)/\e 7=sb r)/\J3 b a d r=some c;have c2:=iR 2 λr=>∃f,(r 1=si b/\r 2=si a/\r 3=bA 15 (A5 d)/\r 40=sb f)/\J2 b a d f=some c;have c1:=iR 1 λr=>∃e,(r 1=si b/\r 2=si a/\r 3=bA 15 (A5 d)/\r 16=sb e)/\J1 b a d e=some c;unfold GA at h;exact walk
end
def QT(a:iT):ABm B5:=(Cx a).bind λb=>(Bo b).bind λc=>some c.1
theorem jB{a:iT}{r:B5}(h:QT a=some r):Says prog 86 [vS 1 lG a] (.agg (KI r)):=by refine kF mix func86 hn ?_;have a1:=@Xi;have a2:=@Wh;unfold QT at h;exact walk
end Go.Abs
