/- Typed programs of Go functions, and that the functions do what these say. -/
import Derived.Test.YtdadohkcmclilaaGreatDoorWalkQ
import Derived.Shelf.Slices.SearchI
set_option linter.unusedSimpArgs false
set_option linter.unusedVariables false
namespace Go.Abs
open Go.Proofs
set_option maxRecDepth 1000000
set_option maxHeartbeats 4000000
namespace Ew
def J1 (c:Bool):ABp Bool:=
some c
end Ew
section
open Ew
def Ew:ABp Bool:=
(IX [] [0,0,0]).bind λd=>
(Df d 2).bind λa=>
if a.2==0 then
if(a.1.length:Int)==2 then
(gt a.1 0).bind λf=>
if(f.AF.length:Int)==2 then
(gt a.1 1).bind λb=>
if b.Start==2 then
(GG b).bind λe=>
J1 e
else
J1 false
else
J1 false
else
J1 false
else
J1 false
theorem JS {r:Bool} (h:Ew=some r):Says Tryz.prog 18 [] (sb r):=by
 refine kO mix Tryz.func18 hn ?_
 have a1:= @Lx
 have a2:= @Ke
 have a3:= @Nl
 unfold Ew at h
 exact walk
end
end Go.Abs
