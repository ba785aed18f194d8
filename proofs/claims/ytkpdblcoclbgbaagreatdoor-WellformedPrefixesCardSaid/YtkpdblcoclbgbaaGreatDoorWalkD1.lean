/- Typed programs of Go functions, and that the functions do what these say. -/
import Derived.Test.YtkpdblcoclbgbaaGreatDoorBaseA
import Derived.Test.YtkpdblcoclbgbaaGreatDoorWalkN
import Derived.Test.YtkpdblcoclbgbaaGreatDoorWalkC1
import Derived.Test.YtkpdblcoclbgbaaGreatDoorWalkV
import Derived.Test.YtkpdblcoclbgbaaGreatDoorWalkB1
import Derived.Shelf.Slices.SearchI
set_option linter.unusedSimpArgs false
set_option linter.unusedVariables false
namespace Go.Abs
open Go.Proofs
set_option maxRecDepth 100000
set_option maxHeartbeats 4000000
def f11c:IC:=(Ra 2 [.b 1 [6,11,15,20,25,32,44,55,67] (.bx 7 (.t 0)),.o (.bx 7 (.c (.agg z3)))]
(Ra 6 [.f 0 1,.o (.Xk .i64 (.t 7)),.P .rem 8 6,.P .sub 9 1,.f 1 1,.o (.Xk .i64 (.t 12)),.P .rem 13 25,.f 2 1,.o (.Xk .i64 (.t 16)),.P .rem 17 7,.P .sub 18 1,.f 3 1,.o (.Xk .i64 (.t 21)),.P .rem 22 26,.P .sub 23 1,.f 4 1,.o (.bin .rem (.t 26) (.c (.sc (.int .u8 6)))),.o (.Xk .i64 (.t 27)),.P .sub 28 1,.o (.Dc z3 [(0,1,.t 10),(1,1,.t 14),(2,1,.t 19),(4,1,.t 24),(3,1,.t 29)]),.b 3 [42,43,53,65,66,76,77] (.bx 7 (.c (.agg z3))),.S 7 3 30]
(Sq (Ra 0 [.K 4 0]
(Bl 0 (Sq (Ra 31 [.C 4,.f 5 1,.Z 33,.O .lss 31 34,.C 35,.G 36 true,.C 4,.P .lss 37 3,.e,.W 36 38]
(cX 39 0))
(Sq (Bk 1 (Rc 42 [.m 3 5 3,.f 5 1,.C 4,.I 1 45 46,.L 47,.o (.Xk .i64 (.t 48)),.P .rem 49 8,.o (.Eg 1 [[si 0]] [(0,.t 50)]),.o (.app 1 8 (.t 43) (.t 51)),.F 5 3,.S 1 53 52]))
(Rc 40 [.C 4,.P .add 40 1,.M 4 41])))))
(Sq (Ra 0 [.K 5 0]
(Bl 2 (Sq (Ra 54 [.C 5,.f 6 1,.Z 56,.O .lss 54 57,.C 58,.G 59 true,.C 5,.P .lss 60 3,.e,.W 59 61]
(cX 62 2))
(Sq (Bk 3 (Rc 65 [.m 3 6 3,.f 6 1,.C 5,.I 1 68 69,.L 70,.o (.Xk .i64 (.t 71)),.P .rem 72 8,.o (.Eg 1 [[si 0]] [(0,.t 73)]),.o (.app 1 8 (.t 66) (.t 74)),.F 6 3,.S 1 76 75]))
(Rc 63 [.C 5,.P .add 63 1,.M 5 64])))))
(Rb 77 [.y 3 (.ld true 7 (.t 3)),.S 7 2 77])))))
def f11g:Gi:=⟨[(6,[1]),(11,[1]),(15,[1]),(20,[1]),(25,[1]),(32,[1]),(42,[3]),(43,[3]),(44,[1]),(53,[3]),(55,[1]),(65,[3]),(66,[3]),(67,[1]),(76,[3]),(77,[3])]⟩
def f11r:List RV:=[.cell 2 true 7]
namespace Gc
def J4 (i:AN):Option AN:=
some i
def J3 (L2:AN->Int->Option AN) (c:AN) (e:Int) (a:aE) (l:Bool):Option AN:=
if l then
(gt a.Db e).bind λp=>
if Aq (c.Db.length+1) 8=true then
L2 (AN.mk c.Thread c.Kind c.Obj c.Value c.Site c.Dy (c.Db++[(BE p).tmod 8])) (BE (e+1))
else none
else
J4 c
def L2 (a:aE) (L2:AN->Int->Option AN) (c:AN) (e:Int):Option AN:=
if decide (e<(a.Db.length:Int))then
J3 L2 c e a (decide (e<3))
else
J3 L2 c e a false
def Da (a:aE):Nat->AN->Int->Option AN
|0,_,_=>none
|n+1,c,e=>L2 a (Da a n) c e
def J2 (a:aE) (f:AN):Option AN:=
Da a Bo f 0
def J1 (L1:AN->Int->Option AN) (b:AN) (d:Int) (a:aE) (j:Bool):Option AN:=
if j then
(gt a.Dy d).bind λo=>
if Aq (b.Dy.length+1) 8=true then
L1 (AN.mk b.Thread b.Kind b.Obj b.Value b.Site (b.Dy++[(BE o).tmod 8]) b.Db) (BE (d+1))
else none
else
J2 a b
def L1 (a:aE) (L1:AN->Int->Option AN) (b:AN) (d:Int):Option AN:=
if decide (d<(a.Dy.length:Int))then
J1 L1 b d a (decide (d<3))
else
J1 L1 b d a false
def Ac (a:aE):Nat->AN->Int->Option AN
|0,_,_=>none
|n+1,b,d=>L1 a (Ac a n) b d
end Gc
section
open Gc
def Gc (a:aE):Option AN:=
Ac a Bo (AN.mk (BE (((BE a.Thread).tmod 6)-1)) ((BE a.Kind).tmod 25) (BE (((BE a.Obj).tmod 7)-1)) (BE ((BE (a.Value.tmod 6))-1)) (BE (((BE a.Site).tmod 26)-1)) [] []) 0
theorem rZ {a:aE} {r:AN} (h:Gc a=some r):Says Tryz.prog 11 [.agg (uT a)] (.agg (Ln r)):=by
 refine wO mix Tryz.func11 (I:=⟨f11c,f11g,f11r⟩) ?_
 simp only[f11c,f11g,f11r]
 have l2:=λn1 n2 n3 n4:Nat=>BM λn τ=>∃(c:AN) (e:Int),(τ 1=bA 7 (uT a)/\τ 2=bA 7 z3/\τ 3=bA 7 (Ln c)/\τ 5=si e)/\Da a n c e=some r
 have l1:=λn1 n2 n3 n4:Nat=>BM λn τ=>∃(b:AN) (d:Int),(τ 1=bA 7 (uT a)/\τ 2=bA 7 z3/\τ 3=bA 7 (Ln b)/\τ 4=si d)/\Ac a n b d=some r
 unfold Gc at h
 exact walk
end
def f5c:IC:=(Ra 7 [.o (.bx 7 (.t 2)),.B 10 false]
(Sq (Bw 1 (Rc 17 [.C 0,.Z 17,.P .gtr 18 200,.C 19,.G 20 false,.C 1,.Z 21,.P .gtr 22 100,.e,.V 20 23])
(Ci 24 (Rb 0 [.B 10 true])))
(Ra 25 [.C 0,.C 1,.c 8 [25,26] 3,.b 11 [28,29,33,34,37,38,43,45,51,52,57,58,59] (.bx 7 (.c (.agg uQ))),.S 7 11 27]
(Sq (Ra 28 [.m 11 6 11,.Z 29,.Q 30 0]
(Ci 31 (Rb 32 [.c 9 [] 0,.M 10 32])))
(Sq (.pg true 11 [(0,6,0)] (Rc 33 [.m 11 6 11,.C 3,.o (.Xk .i64 (.t 35)),.m 11 6 11,.Z 38,.O .rem 36 39,.A 7 7,.c 11 [41] 2,.J 11 7 34 40,.S 7 43 42]))
(Ra 45 [.y 11 (.ld true 7 (.t 11)),.c 7 [45] 0,.w 44,.C 46,.w 47,.o (.ext (.t 44) 0),.o (.ext (.t 44) 1),.M 12 47,.M 13 48]
(Ra 49 [.C 4,.o (.Xk .i64 (.t 49)),.m 11 6 11,.Z 52,.O .rem 50 53,.P .add 54 1,.M 14 55]
(Sq (.gz false 11 [(0,6,0)] (Rc 57 [.F 0 11,.y 11 (.ld true 6 (.t 57)),.f 6 11,.C 14,.o (.UM 7 true (.t 60) none (some (.t 61)) none),.o (.Dc uQ [(0,6,.t 58),(6,1,.t 62)]),.c 7 [63] 0,.w 56,.C 64,.w 65,.o (.ext (.t 56) 0),.o (.ext (.t 56) 1),.M 15 65,.M 16 66]))
(Sq (Ra 67 [.C 13,.Q 67 0,.C 68,.G 69 false,.C 14,.C 12,.O .leq 70 71,.e,.V 69 72]
(Ci 73 (Rb 74 [.C 16,.Q 74 0,.C 75,.G 76 true,.C 15,.P .eql 77 0,.e,.W 76 78,.C 79,.G 80 true,.c 9 [] 0,.e,.W 80 81,.M 10 82])))
(Rb 83 [.C 16,.Q 83 12,.C 84,.G 85 true,.C 15,.C 12,.O .eql 86 87,.e,.W 85 88,.C 89,.G 90 true,.c 9 [] 0,.e,.W 90 91,.M 10 92]))))))))))
def f5g:Gi:=⟨[(28,[11]),(29,[11]),(33,[11]),(34,[11]),(37,[11]),(38,[11]),(43,[11]),(45,[11]),(51,[11]),(52,[11]),(57,[11]),(58,[11]),(59,[11])]⟩
def f5r:List RV:=[.tmp 10]
namespace Et
def J3 (p:Bool):Option Bool:=
some p
def J4 (q:Bool):Option Bool:=
some q
def J2 (j i:Int×Int) (s:Bool):Option Bool:=
if s then
if i.2==0 then
if i.1==0 then
(E8).bind λu=>
J3 u
else
J3 false
else
J3 false
else
if i.2==12 then
if i.1==j.1 then
(E8).bind λv=>
J4 v
else
J4 false
else
J4 false
def J1 (c b:Int) (d e:List Int) (f:aE) (l:Bool):Option Bool:=
if l then
some true
else
(IL d e).bind λa=>
if(a.AX.length:Int)==0 then
(E8).bind λt=>
some t
else
if¬(a.AX.length:Int)=0 then
(Gc f).bind λo=>
(gt a.AX ((BE c).tmod (a.AX.length:Int))).bind λw=>
(BP (EJ.mk a.World (a.AX.set (((BE c).tmod (a.AX.length:Int)).toNat) o))).bind λj=>
if¬(a.AX.length:Int)=0 then
if 0≤(BE (((BE b).tmod (a.AX.length:Int))+1))/\((BE (((BE b).tmod (a.AX.length:Int))+1)).toNat)≤a.AX.length then
(BP (EJ.mk a.World ((a.AX.set (((BE c).tmod (a.AX.length:Int)).toNat) o).take ((BE (((BE b).tmod (a.AX.length:Int))+1)).toNat)))).bind λi=>
if j.2==0 then
J2 j i true
else
J2 j i (decide ((BE (((BE b).tmod (a.AX.length:Int))+1))≤j.1))
else none
else none
else none
end Et
section
open Et
def Et (d e:List Int) (f:aE) (c b:Int):Option Bool:=
if decide ((d.length:Int)>200)then
J1 c b d e f true
else
J1 c b d e f (decide ((e.length:Int)>100))
theorem Z3 {d e:List Int} {f:aE} {c b:Int} {r:Bool} (h:Et d e f c b=some r):Says Tryz.prog 5 [vS 1 UN d,vS 1 UN e,.agg (uT f),.sc (.int .u8 c),.sc (.int .u16 b)] (sb r):=by
 refine wO mix Tryz.func5 (I:=⟨f5c,f5g,f5r⟩) ?_
 simp only[f5c,f5g,f5r]
 have a1:= @SF
 have a2:= @Qs
 have a3:= @rZ
 have a4:= @Hq
 have c1:=λn1 n2 n3 n4:Nat=>B7 1 λτ=>∃(l:Bool),(τ 0=vS 1 UN d/\τ 1=vS 1 UN e/\τ 3= .sc (.int .u8 c)/\τ 4= .sc (.int .u16 b)/\τ 7=bA 7 (uT f)/\τ 24=sb l)/\J1 c b d e f l=some r
 unfold Et at h
 exact walk
end
end Go.Abs
