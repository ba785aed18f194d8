/- Typed programs of Go functions, and that the functions do what these say. -/
import Derived.Test.YtkpdblcoclbgbaaGreatDoorBaseA
import Derived.Test.YtkpdblcoclbgbaaGreatDoorWalkV
import Derived.Test.YtkpdblcoclbgbaaGreatDoorWalkB1
import Derived.Test.YtkpdblcoclbgbaaGreatDoorWalkO
import Derived.Test.YtkpdblcoclbgbaaGreatDoorWalkP
import Derived.Shelf.Slices.SearchI
set_option linter.unusedSimpArgs false
set_option linter.unusedVariables false
namespace Go.Abs
open Go.Proofs
set_option maxRecDepth 100000
set_option maxHeartbeats 4000000
def f20c:IC:=(Ra 2 [.b 1 [7,11,17,25] (.bx 6 (.t 0)),.o (.bx 7 (.c (.agg z1)))]
(Ra 5 [.A 6 1,.c 44 [5] 2,.f 3 1,.Z 8,.o (.mk 1 8 [si 0] (.t 9) (.t 9)),.f 4 1,.Z 12,.o (.mk 1 8 [si 0] (.t 13) (.t 13)),.o (.Dc z1 [(0,4,.t 6),(5,1,.t 10),(6,1,.t 14)]),.b 3 [23,24,33,34] (.bx 7 (.c (.agg z1))),.S 7 3 15]
(Sq (Ra 0 [.K 4 0]
(Bl 0 (Sq (Ra 16 [.C 4,.f 0 1,.Z 18,.O .lss 16 19]
(cX 20 0))
(Sq (Bk 1 (Rc 23 [.m 3 4 3,.f 0 1,.C 4,.I 5 26 27,.U 4 28,.o (.Eg 1 [[si 0]] [(0,.t 30)]),.o (.app 1 8 (.t 24) (.t 31)),.F 4 3,.S 1 33 32]))
(Rc 21 [.C 4,.P .add 21 1,.M 4 22])))))
(Rb 34 [.y 3 (.ld true 7 (.t 3)),.S 7 2 34]))))
def f20g:Gi:=⟨[(7,[1]),(11,[1]),(17,[1]),(23,[3]),(24,[3]),(25,[1]),(33,[3]),(34,[3])]⟩
def f20r:List RV:=[.cell 2 true 7]
namespace O7
def J1 (d:AM):Option AM:=
some d
def L1 (a:AB) (L1:AM->Int->Option AM) (b:AM) (c:Int):Option AM:=
if decide (c<(a.Cells.length:Int))then
(gt a.Cells c).bind λf=>
if Aq (b.Cells.length+1) 8=true then
L1 (AM.mk b.Sync (b.Cells++[f.Init]) b.AH b.Count) (BE (c+1))
else none
else
J1 b
def Ac (a:AB):Nat->AM->Int->Option AM
|0,_,_=>none
|n+1,b,c=>L1 a (Ac a n) b c
end O7
section
open O7
def O7 (a:AB):Option AM:=
(Bj a).bind λe=>
if 0≤(a.AH.length:Int)/\(a.AH.length:Int)≤(a.AH.length:Int)/\Aq a.AH.length 8=true then
if 0≤(a.AA.length:Int)/\(a.AA.length:Int)≤(a.AA.length:Int)/\Aq a.AA.length 8=true then
Ac a Bo (AM.mk e [] (List.replicate a.AH.length 0) (List.replicate a.AA.length 0)) 0
else none
else none
theorem ref16_Start_ok {a:AB} {r:AM} (h:O7 a=some r):Says Tryz.prog 20 [.agg (Ap a)] (.agg (HL r)):=by
 refine wO mix Tryz.func20 (I:=⟨f20c,f20g,f20r⟩) ?_
 simp only[f20c,f20g,f20r]
 have a1:= @O5
 have l1:=λn1 n2 n3 n4:Nat=>BM λn τ=>∃(b:AM) (c:Int),(τ 1=bA 6 (Ap a)/\τ 2=bA 7 z1/\τ 3=bA 7 (HL b)/\τ 4=si c)/\Ac a n b c=some r
 unfold O7 at h
 exact walk
end
def f45c:IC:=(Ra 0 [.b 2 [13,22,31] (.bx 6 (.t 0)),.b 3 [6,10,19,28] (.bx 7 (.t 1)),.B 4 false]
(Rb 5 [.A 6 2,.F 0 3,.A 4 6,.c 79 [5,7] 0,.C 8,.G 9 true,.f 4 3,.Z 11,.f 0 2,.Z 14,.O .eql 12 15,.e,.W 9 16,.C 17,.G 18 true,.f 5 3,.Z 20,.f 3 2,.Z 23,.O .eql 21 24,.e,.W 18 25,.C 26,.G 27 true,.f 6 3,.Z 29,.f 4 2,.Z 32,.O .eql 30 33,.e,.W 27 34,.M 4 35]))
def f45g:Gi:=⟨[(6,[3]),(10,[3]),(13,[2]),(19,[3]),(22,[2]),(28,[3]),(31,[2])]⟩
def f45r:List RV:=[.tmp 4]
namespace T7
def J1 (c:Bool):Option Bool:=
some c
end T7
section
open T7
def T7 (b:AB) (a:AM):Option Bool:=
(Dd b a.Sync).bind λd=>
if d then
if(a.Cells.length:Int)==(b.Cells.length:Int)then
if(a.AH.length:Int)==(b.AH.length:Int)then
J1 ((a.Count.length:Int)==(b.AA.length:Int))
else
J1 false
else
J1 false
else
J1 false
theorem ref16_Fits_ok {b:AB} {a:AM} {r:Bool} (h:T7 b a=some r):Says Tryz.prog 45 [.agg (Ap b),.agg (Cz a)] (sb r):=by
 refine wO mix Tryz.func45 (I:=⟨f45c,f45g,f45r⟩) ?_
 simp only[f45c,f45g,f45r]
 have a1:= @K2
 unfold T7 at h
 exact walk
end
def f46c:IC:=(Ra 0 [.B 4 false]
(Rb 5 [.C 0,.P .geq 5 0,.C 6,.G 7 true,.C 0,.C 1,.O .lss 8 9,.e,.W 7 10,.M 4 11]))
def f46g:Gi:=⟨[]⟩
def f46r:List RV:=[.tmp 4]
namespace Zq
def J1 (c:Bool):Option Bool:=
some c
end Zq
section
open Zq
def Zq (a b:Int):Option Bool:=
if decide (a≥0)then
J1 (decide (a<b))
else
J1 false
theorem ref16_in_ok {a b:Int} {r:Bool} (h:Zq a b=some r):Says Tryz.prog 46 [si a,si b] (sb r):=by
 refine wO mix Tryz.func46 (I:=⟨f46c,f46g,f46r⟩) ?_
 simp only[f46c,f46g,f46r]
 unfold Zq at h
 exact walk
end
end Go.Abs
