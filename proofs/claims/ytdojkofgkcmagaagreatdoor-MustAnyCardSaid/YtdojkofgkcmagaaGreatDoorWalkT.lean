/- Go functions do what typed programs say. -/
import Derived.Test.YtdojkofgkcmagaaGreatDoorWalkS
import Derived.Shelf.Slices.SearchI
set_option linter.all false
namespace Go.Abs
open Go.Proofs Tryz
set_option maxRecDepth 1000000
set_option maxHeartbeats 4000000
namespace DT
def J5:ABm Bool:=(GY).bind λs=>some s
def J4(L1:i6)(b:Int):=L1 (A9 (b+1))
def J3(L1:i6)(b:Int)(c:je)(l:iT):=(gt c b).bind λu=>(Hu l u).bind λq=>if !q then
some false
else
J4 L1 b
def J2(L2:m8)(d:Int)(j:iT):=L2 j (A9 (d+1))
def J1(L2:m8)(e:iT)(d:Int)(a:AF)(o:Bool):=if o then(gt a.AA d).bind λi=>(gt e i.cT).bind λt=>J2 L2 d (e.set i.cT.toNat (A9 (t+1)))
else
J2 L2 d e
def L2(L1:i6)(b:Int)(a:AF)(c:je)(L2:m8)(e:iT)(d:Int):=if decide (d<(a.AA.length:Int))then
if d==b then
J1 L2 e d a true
else(EO a d b).bind λp=>J1 L2 e d a p
else
J3 L1 b c e
def B9(L1:i6)(b:Int)(a:AF)(c:je):Nat->(List Int)->Int->ABm Bool
|0,_,_=>none
|n+1,e,d=>L2 L1 b a c (B9 L1 b a c n) e d
def L1(a:AF)(c:je)(L1:i6)(b:Int):=if decide (b<(a.AA.length:Int))then
if 0<=(a.db.AB.length:Int)/\(a.db.AB.length:Int)<=(a.db.AB.length:Int)/\Aq a.db.AB.length 8=true then
B9 L1 b a c BQ (List.replicate a.db.AB.length (0:Int)) 0
else none
else
J5
def AU(a:AF)(c:je):Nat->Int->ABm Bool
|0,_=>none
|n+1,b=>L1 a c (AU a c n) b
end DT
variable{b:O1}{a:Bool}
section
open DT
def DT(f:O1):=(HZ f 12).bind λa=>(JC a).bind λc=>if(c.length:Int) != (a.AA.length:Int)then
some false
else
AU a c BQ 0
theorem bW(h:DT b=some a):Says prog 13 [.agg (lF b)] (sb a):=by refine kO mix func13 (hn [(3,[14,18,24,25,29,45]),(4,[12,57,59,60]),(6,[44,51,54,56])]) ?_;have a1:=@Lj;have a2:=@My;have a3:=@Mt;have a4:=@S4;have a5:=@Mx;have l1:=iJ λn d=>∃(r:AF)(c:je)(f:Int),(d 3=bA 15 (A5 r)/\d 4=vO 1 KS c/\d 20=si (r.AA.length:Int)/\d 21=si f)/\AU r c n f=some a;have l2:=iy λb _ _ _ n g=>∃(r:AF)(c:je)(f:Int)(e:iT)(d:Int),(g 3=bA 15 (A5 r)/\g 4=vO 1 KS c/\g 5=si f/\g 6=vO 1 eI e/\g 20=si (r.AA.length:Int)/\g 21=si f/\g 31=si (r.AA.length:Int)/\g 32=si d)/\B9 (AU r c b) f r c n e d=some a;unfold DT at h;exact walk
end
namespace HJ
def J1(c:Bool):ABm Bool:=some c
end HJ
section
open HJ
def HJ(a:O1):=(HZ a 16).bind λb=>(JC b).bind λd=>(Af b).bind λe=>(C6 b.AA e (b.db.AB.length:Int)).bind λf=>(Ec d f).bind λi=>if i then(GY).bind λj=>J1 j
else
J1 false
theorem bV(h:HJ b=some a):Says prog 12 [.agg (lF b)] (sb a):=by refine kO mix func12 (hn [(3,[8,12,13])]) ?_;have a1:=@Lj;have a2:=@My;have a3:=@S5;have a4:=@P4;have a5:=@Oi;have a6:=@Mt;unfold HJ at h;exact walk
end
end Go.Abs
