/- Typed programs of Go functions, and that the functions do what these say. -/
import Derived.Test.YtkpdblcoclbgbaaGreatDoorBaseA
import Derived.Test.YtkpdblcoclbgbaaGreatDoorWalkV
import Derived.Test.YtkpdblcoclbgbaaGreatDoorWalkB1
import Derived.Test.YtkpdblcoclbgbaaGreatDoorWalkO
import Derived.Test.YtkpdblcoclbgbaaGreatDoorWalkP
import Derived.Shelf.Slices.SearchI
set_option linter.unusedSimpArgs false
set_option linter.unusedVariables false
namespace Go.Abs
open Go.Proofs
set_option maxRecDepth 100000
set_option maxHeartbeats 4000000
def f6c:IC:=(Ra 0 [.B 8 false]
(Sq (Bw 1 (Rc 15 [.C 0,.Z 15,.P .gtr 16 200,.C 17,.G 18 false,.C 1,.Z 19,.P .gtr 20 100,.e,.V 18 21])
(Ci 22 (Rb 0 [.B 8 true])))
(Ra 23 [.C 0,.C 1,.c 8 [23,24] 3,.b 9 [27,28,33,34,36,37,56,57,59,60,65,66,69,70,72] (.bx 7 (.c (.agg uQ))),.S 7 9 25]
(Ra 0 [.b 10 [40,44,48,51,54] (.mv (.c (.own false 1 [])))]
(Sq (Ra 0 [.K 11 0]
(Bl 0 (Sq (Ra 26 [.C 11,.m 9 6 9,.Z 28,.O .lss 26 29]
(cX 30 0))
(Sq (Bk 1 (Ra 33 [.m 9 6 9,.C 11,.J 9 7 34 35,.h 9 1 36,.Q 38 3]
(Ci 39 (Rc 40 [.y 10 (.cp (.t 10)),.C 11,.o (.Eg 1 [[si 0]] [(0,.t 41)]),.o (.app 1 8 (.t 40) (.t 42)),.b 10 [40,44,48,51,54] (.mv (.t 43))]))))
(Rc 31 [.C 11,.P .add 31 1,.M 11 32])))))
(Sq (Ra 44 [.y 10 (.cp (.t 10)),.Z 44,.Q 45 0]
(Ci 46 (Rb 47 [.c 9 [] 0,.M 8 47])))
(Ra 48 [.y 10 (.cp (.t 10)),.C 2,.o (.Xk .i64 (.t 49)),.y 10 (.cp (.t 10)),.Z 51,.O .rem 50 52,.J 10 1 48 53,.L 54,.M 12 55]
(Sq (Ra 56 [.m 9 6 9,.C 12,.J 9 7 57 58,.h 9 3 59,.C 3,.O .eql 61 62]
(Ci 63 (Rb 64 [.c 9 [] 0,.M 8 64])))
(Ra 65 [.m 9 6 9,.C 12,.C 3,.J 9 7 66 67,.H 9 3 69,.S 1 70 68]
(Ra 72 [.y 9 (.ld true 7 (.t 9)),.c 7 [72] 0,.w 71,.C 73,.w 74,.o (.ext (.t 71) 0),.o (.ext (.t 71) 1),.M 13 74,.M 14 75]
(Rb 76 [.C 13,.C 12,.O .eql 76 77,.C 78,.G 79 true,.C 14,.P .eql 80 12,.e,.W 79 81,.M 8 82])))))))))))
def f6g:Gi:=⟨[(27,[9]),(28,[9]),(33,[9]),(34,[9]),(36,[9]),(37,[9]),(40,[10]),(44,[10]),(48,[10]),(51,[10]),(54,[10]),(56,[9]),(57,[9]),(59,[9]),(60,[9]),(65,[9]),(66,[9]),(69,[9]),(70,[9]),(72,[9])]⟩
def f6r:List RV:=[.tmp 8]
namespace FE
def J4 (t:Bool):Option Bool:=
some t
def J3 (a:Int) (c:EJ) (b:Int) (l:List Int):Option Bool:=
if(l.length:Int)==0 then
(E8).bind λu=>
some u
else
if¬(l.length:Int)=0 then
(gt l ((BE b).tmod (l.length:Int))).bind λp=>
(gt c.AX p).bind λj=>
if j.Value==a then
(E8).bind λv=>
some v
else
(BP (EJ.mk c.World (c.AX.set p.toNat (AN.mk j.Thread j.Kind j.Obj a j.Site j.Dy j.Db)))).bind λq=>
if q.1==p then
J4 (q.2==12)
else
J4 false
else none
def J2 (L1:(List Int)->Int->Option Bool) (d:Int) (s:List Int):Option Bool:=
L1 s (BE (d+1))
def L1 (a:Int) (c:EJ) (b:Int) (L1:(List Int)->Int->Option Bool) (i:List Int) (d:Int):Option Bool:=
if decide (d<(c.AX.length:Int))then
(gt c.AX d).bind λw=>
if w.Kind==3 then
if Aq (i.length+1) 8=true then
J2 L1 d (i++[d])
else none
else
J2 L1 d i
else
J3 a c b i
def Ac (a:Int) (c:EJ) (b:Int):Nat->(List Int)->Int->Option Bool
|0,_,_=>none
|n+1,i,d=>L1 a c b (Ac a c b n) i d
def J1 (e f:List Int) (a b:Int) (o:Bool):Option Bool:=
if o then
some true
else
(IL e f).bind λc=>
Ac a c b Bo [] 0
end FE
section
open FE
def FE (e f:List Int) (b a:Int):Option Bool:=
if decide ((e.length:Int)>200)then
J1 e f a b true
else
J1 e f a b (decide ((f.length:Int)>100))
theorem fL {e f:List Int} {b a:Int} {r:Bool} (h:FE e f b a=some r):Says Tryz.prog 6 [vS 1 UN e,vS 1 UN f,.sc (.int .u8 b),si a] (sb r):=by
 refine wO mix Tryz.func6 (I:=⟨f6c,f6g,f6r⟩) ?_
 simp only[f6c,f6g,f6r]
 have a1:= @SF
 have a2:= @Qs
 have a3:= @Hq
 have l1:=λn1 n2 n3 n4:Nat=>BM λn τ=>∃(c:EJ) (i:List Int) (d:Int),(τ 2= .sc (.int .u8 b)/\τ 3=si a/\τ 9=bA 7 (Rn c)/\τ 10=vO 1 eI i/\τ 11=si d)/\Ac a c b n i d=some r
 have c1:=λn1 n2 n3 n4:Nat=>B7 1 λτ=>∃(o:Bool),(τ 0=vS 1 UN e/\τ 1=vS 1 UN f/\τ 2= .sc (.int .u8 b)/\τ 3=si a/\τ 22=sb o)/\J1 e f a b o=some r
 unfold FE at h
 exact walk
end
end Go.Abs
