/- Typed programs of Go functions, and that the functions do what these say. -/
import Derived.Test.YtdadohkcmclilaaGreatDoorWalkR
import Derived.Shelf.Slices.SearchI
set_option linter.unusedSimpArgs false
set_option linter.unusedVariables false
namespace Go.Abs
open Go.Proofs
set_option maxRecDepth 1000000
set_option maxHeartbeats 4000000
namespace Dd
def J5:ABp Bool:=
(Ew).bind λx=>
some x
def J4 (L1:Int->ABp Bool) (c:Int) (u:Bool):ABp Bool:=
if u then
some false
else
L1 (Ap (c+1))
def J3 (L1:Int->ABp Bool) (c:Int) (a b:(List AO)×Int) (t:List AH):ABp Bool:=
(gt b.1 c).bind λo=>
(Cq o.AF t).bind λv=>
if !v then
J4 L1 c true
else
(gt a.1 (Ap (2*c))).bind λs=>
(C6 o.Init s.Init).bind λw=>
if !w then
J4 L1 c true
else
J4 L1 c (o.Start != s.Start)
def L1 (a b:(List AO)×Int) (L1:Int->ABp Bool) (c:Int):ABp Bool:=
if decide (c<(b.1.length:Int))then
(gt a.1 (Ap (2*c))).bind λl=>
if Al (l.AF.length) 88=true then
if decide ((Ap ((Ap (2*c))+1))<(a.1.length:Int))then
(gt a.1 (Ap ((Ap (2*c))+1))).bind λq=>
if Al (l.AF.length+q.AF.length) 88=true then
J3 L1 c a b (l.AF++q.AF)
else none
else
J3 L1 c a b l.AF
else none
else
J5
def Aa (a b:(List AO)×Int):Nat->Int->ABp Bool
|0,_=>none
|n+1,c=>L1 a b (Aa a b n) c
def J2 (a b:(List AO)×Int) (j:Bool):ABp Bool:=
if j then
some false
else
Aa a b BT 0
def J1 (d e:List Int) (f:Int) (i:Bool):ABp Bool:=
if i then
some true
else
(IX d e).bind λp=>
(Df p (Ap (((Ap f).tmod 8)+1))).bind λa=>
(Df p (Ap (2*(Ap (((Ap f).tmod 8)+1))))).bind λb=>
if a.2 != 0 then
J2 a b true
else
if b.2 != 0 then
J2 a b true
else
J2 a b ((b.1.length:Int) != (Ap ((Ap ((a.1.length:Int)+1)).tdiv 2)))
end Dd
section
open Dd
def Dd (d e:List Int) (f:Int):ABp Bool:=
if decide ((d.length:Int)>200)then
J1 d e f true
else
J1 d e f (decide ((e.length:Int)>60))
theorem XS {d e:List Int} {f:Int} {r:Bool} (h:Dd d e f=some r):Says Tryz.prog 6 [vS 1 YL d,vS 1 YL e,.sc (.int .u8 f)] (sb r):=by
 refine kO mix Tryz.func6 (hn [(7,[31,37]),(14,[78,92])] [(2,1),(9,2)] [(10,3)] [(5,false,7,[(0,6,7)])]) ?_
 have a1:= @Lx
 have a2:= @Ke
 have a3:= @JS
 have a4:= @Ki
 have a5:= @Hc
 have l1:=λn1 n2 n3 n4:Nat=>Ax λn τ=>∃(a b:(List AO)×Int) (c:Int),(τ 9=vS 15 BB a.1/\τ 11=vS 15 BB b.1/\τ 13=si c)/\Aa a b n c=some r
 have c2:=λn1 n2 n3 n4:Nat=>Bh 2 λτ=>∃(a b:(List AO)×Int) (j:Bool),(τ 9=vS 15 BB a.1/\τ 11=vS 15 BB b.1/\τ 57=sb j)/\J2 a b j=some r
 have c1:=λn1 n2 n3 n4:Nat=>Bh 1 λτ=>∃(i:Bool),(τ 0=vS 1 YL d/\τ 1=vS 1 YL e/\τ 2= .sc (.int .u8 f)/\τ 22=sb i)/\J1 d e f i=some r
 unfold Dd at h
 exact walk
end
end Go.Abs
