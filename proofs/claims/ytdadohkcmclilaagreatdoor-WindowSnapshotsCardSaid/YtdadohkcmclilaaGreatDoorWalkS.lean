/- Typed programs of Go functions, and that the functions do what these say. -/
import Derived.Test.YtdadohkcmclilaaGreatDoorWalkR
import Derived.Shelf.Slices.SearchI
set_option linter.unusedSimpArgs false
set_option linter.unusedVariables false
namespace Go.Abs
open Go.Proofs
set_option maxRecDepth 1000000
set_option maxHeartbeats 4000000
namespace Bo
def J8 (w:Bool):ABp Bool:=
some w
def J7 (a:Az) (b c:AB×Int):ABp Bool:=
(Cf a (Ap ((a.AF.length:Int)+1))).bind λy=>
if y.2==1 then
(Cb b.1.Count c.1.Count).bind λz=>
if !z then
(Ew).bind λaa=>
J8 aa
else
J8 false
else
J8 false
def J6 (L2:Int->ABp Bool) (i:Int) (v:Bool):ABp Bool:=
if v then
some false
else
L2 (Ap (i+1))
def L2 (a:Az) (b c:AB×Int) (d:AH) (L2:Int->ABp Bool) (i:Int):ABp Bool:=
if decide (i<(b.1.Count.length:Int))then
(gt c.1.Count i).bind λq=>
(gt b.1.Count i).bind λs=>
if q != s then
if i != d.Thread then
J6 L2 i true
else
J6 L2 i (q != (Ap (s+1)))
else
J6 L2 i false
else
J7 a b c
def C2 (a:Az) (b c:AB×Int) (d:AH):Nat->Int->ABp Bool
|0,_=>none
|n+1,i=>L2 a b c d (C2 a b c d n) i
def J5 (a:Az) (b c:AB×Int) (d:AH):ABp Bool:=
C2 a b c d BT 0
def J4 (L1:Int->ABp Bool) (f:Int) (u:Bool):ABp Bool:=
if u then
some false
else
L1 (Ap (f+1))
def J3 (L1:Int->ABp Bool) (f:Int) (b c:AB×Int) (d:AH) (t:Bool):ABp Bool:=
if t then
(gt c.1.Cells f).bind λab=>
if ab != d.Value then
J4 L1 f true
else
J4 L1 f false
else
(gt c.1.Cells f).bind λac=>
(gt b.1.Cells f).bind λad=>
J4 L1 f (ac != ad)
def L1 (a:Az) (b c:AB×Int) (d:AH) (L1:Int->ABp Bool) (f:Int):ABp Bool:=
if decide (f<(b.1.Cells.length:Int))then
if d.Kind==4 then
J3 L1 f b c d (d.Obj==f)
else
J3 L1 f b c d false
else
J5 a b c d
def Aa (a:Az) (b c:AB×Int) (d:AH):Nat->Int->ABp Bool
|0,_=>none
|n+1,f=>L1 a b c d (Aa a b c d n) f
def J2 (e:Int) (a:Az) (b c:AB×Int) (p:Bool):ABp Bool:=
if p then
some false
else
(gt a.AF ((Ap e).tmod (a.AF.length:Int))).bind λd=>
Aa a b c d BT 0
def J1 (e:Int) (j l:List Int) (o:Bool):ABp Bool:=
if o then
some true
else
(IX j l).bind λa=>
if(a.AF.length:Int)==0 then
(Ew).bind λx=>
some x
else
if¬(a.AF.length:Int)=0 then
(Cf a ((Ap e).tmod (a.AF.length:Int))).bind λb=>
(Cf a (Ap (((Ap e).tmod (a.AF.length:Int))+1))).bind λc=>
if b.2 != 0 then
J2 e a b c true
else
if c.2 != 0 then
J2 e a b c true
else
if(b.1.Cells.length:Int) != (c.1.Cells.length:Int)then
J2 e a b c true
else
if(b.1.Count.length:Int) != (c.1.Count.length:Int)then
J2 e a b c true
else
J2 e a b c ((b.1.Cells.length:Int) != (a.World.Cells.length:Int))
else none
end Bo
section
open Bo
def Bo (j l:List Int) (e:Int):ABp Bool:=
if decide ((j.length:Int)>200)then
J1 e j l true
else
J1 e j l (decide ((l.length:Int)>60))
theorem Tl {j l:List Int} {e:Int} {r:Bool} (h:Bo j l e=some r):Says Tryz.prog 8 [vS 1 YL j,vS 1 YL l,.sc (.int .u8 e)] (sb r):=by
 refine kO mix Tryz.func8 (hn [(7,[30,31,37,38,42,48,82,83,84,88,89,91,92,176,177,178]),(9,[61,62,70,71,79,80,94,95,129,130,132,138,139,149,150,152,166,167,169,187,188]),(10,[54]),(11,[64,65,73,74,111,112,114,124,125,127,144,145,147,161,162,164,189,190]),(12,[57]),(13,[100,104,116,157]),(18,[184]),(44,[41,45,46]),(51,[47,52,53]),(181,[175,182,183])] [(2,1),(12,2)] [(10,3)]) ?_
 have a1:= @Lx
 have a2:= @JS
 have a3:= @LD
 have a4:= @Hi
 have l2:=λn1 n2 n3 n4:Nat=>Ax λn τ=>∃(a:Az) (b c:AB×Int) (d:AH) (i:Int),(τ 7=bA 7 (PU a)/\τ 9=bA 7 (CG b.1)/\τ 11=bA 7 (CG c.1)/\τ 13=bA 7 (BG d)/\τ 16=si i)/\C2 a b c d n i=some r
 have l1:=λn1 n2 n3 n4:Nat=>Ax λn τ=>∃(a:Az) (b c:AB×Int) (d:AH) (f:Int),(τ 7=bA 7 (PU a)/\τ 9=bA 7 (CG b.1)/\τ 11=bA 7 (CG c.1)/\τ 13=bA 7 (BG d)/\τ 14=si f)/\Aa a b c d n f=some r
 have c2:=λn1 n2 n3 n4:Nat=>Bh 2 λτ=>∃(a:Az) (b c:AB×Int) (p:Bool),(τ 7=bA 7 (PU a)/\τ 8=si ((Ap e).tmod (a.AF.length:Int))/\τ 9=bA 7 (CG b.1)/\τ 11=bA 7 (CG c.1)/\τ 87=sb p)/\J2 e a b c p=some r
 have c1:=λn1 n2 n3 n4:Nat=>Bh 1 λτ=>∃(o:Bool),(τ 0=vS 1 YL j/\τ 1=vS 1 YL l/\τ 2= .sc (.int .u8 e)/\τ 26=sb o)/\J1 e j l o=some r
 unfold Bo at h
 exact walk
end
end Go.Abs
