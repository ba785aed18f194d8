/- Typed programs of Go functions, and that the functions do what these say. -/
import Derived.Test.YthmijagacgnmkaaGreatDoorWalkS
set_option linter.unusedSimpArgs false
set_option linter.unusedVariables false
namespace Go.Abs
open Go.Proofs
set_option maxRecDepth 1000000
set_option maxHeartbeats 4000000
namespace El
def J2 (e:Bool):ABr Bool:=
some e
def J1 (b:WX) (c:KH) (a:Ac) (d:Bool):ABr Bool:=
if d then
(GA).bind λf=>
some f
else
(Gv a).bind λi=>
if i then
(HE c 30 b).bind λj=>
(Gv j).bind λl=>
if l then
(GA).bind λo=>
J2 o
else
J2 false
else
J2 false
end El
section
open El
def El (a:Ac) (c:KH) (b:WX):ABr Bool:=
if decide ((a.AH.length:Int)>60)then
J1 b c a true
else
if decide ((Ay ((Ay ((Ay ((Ay ((a.World.Cells.length:Int)+(a.World.AF.length:Int)))+(a.World.Ah.length:Int)))+(a.World.AK.length:Int)))+(a.World.AA.length:Int)))>60)then
J1 b c a true
else
J1 b c a (decide ((a.World.BF.length:Int)>300))
theorem WH {a:Ac} {c:KH} {b:WX} {r:Bool} (h:El a c b=some r):Says Tryz.prog 8 [.agg (FP a),.agg (SV c),.agg (mC b)] (sb r):=by refine kO mix Tryz.func8 (hn [(3,[7,12,13,16,17,21,22,26,27,31,32,39,40])] [(2,1)]) ?_;have a1:= @Jo;have a2:= @UI;have a3:= @Tn;have c1:=λn1 n2 n3 n4:Nat=>Bo 1 λτ=>∃(d:Bool),(τ 3=bA 7 (FP a)/\τ 4=bA 3 (SV c)/\τ 5=bA 3 (mC b)/\τ 44=sb d)/\J1 b c a d=some r;unfold El at h;exact walk
end
end Go.Abs
