/- Typed programs of Go functions, and that the functions do what these say. -/
import Derived.Test.YtkpdblcoclbgbaaGreatDoorBaseA
import Derived.Test.YtkpdblcoclbgbaaGreatDoorWalkA
import Derived.Test.YtkpdblcoclbgbaaGreatDoorWalkR
import Derived.Test.YtkpdblcoclbgbaaGreatDoorWalkS
import Derived.Shelf.Slices.SearchI
set_option linter.unusedSimpArgs false
set_option linter.unusedVariables false
namespace Go.Abs
open Go.Proofs
set_option maxRecDepth 100000
set_option maxHeartbeats 4000000
namespace D1
def J5:Option Bool:=
some true
def J4 (L1:Int->Option Bool) (a:Int):Option Bool:=
L1 (BE (a+1))
def J3 (L1:Int->Option Bool) (a:Int) (s:Bool):Option Bool:=
if !s then
some false
else
J4 L1 a
def J2 (L2:Int->Bool->Int->Option Bool) (f o:Int) (q:Bool):Option Bool:=
L2 o q (BE (f+1))
def J1 (L2:Int->Bool->Int->Option Bool) (f i:Int) (p:Bool):Option Bool:=
J2 L2 f (BE (i+1)) p
def L2 (L1:Int->Option Bool) (c a:Int) (d:List AN) (b:List Int) (e:Int) (L2:Int->Bool->Int->Option Bool) (i:Int) (j:Bool) (f:Int):Option Bool:=
if decide (f<c)then
(gt d f).bind λl=>
if l.Thread != e then
J2 L2 f i j
else
if j then
J1 L2 f i true
else
(gt b a).bind λt=>
if i==t then
if l.Kind==3 then
J1 L2 f i true
else
J1 L2 f i (l.Kind==23)
else
J1 L2 f i false
else
J3 L1 a j
def Da (L1:Int->Option Bool) (c a:Int) (d:List AN) (b:List Int) (e:Int):Nat->Int->Bool->Int->Option Bool
|0,_,_,_=>none
|n+1,i,j,f=>L2 L1 c a d b e (Da L1 c a d b e n) i j f
def L1 (c:Int) (d:List AN) (b:List Int) (e:Int) (L1:Int->Option Bool) (a:Int):Option Bool:=
if decide (a<(b.length:Int))then
Da L1 c a d b e Bo 0 false 0
else
J5
def Ac (c:Int) (d:List AN) (b:List Int) (e:Int):Nat->Int->Option Bool
|0,_=>none
|n+1,a=>L1 c d b e (Ac c d b e n) a
end D1
section
open D1
def D1 (d:List AN) (c e:Int) (b:List Int):Option Bool:=
Ac c d b e Bo 0
end
end Go.Abs
