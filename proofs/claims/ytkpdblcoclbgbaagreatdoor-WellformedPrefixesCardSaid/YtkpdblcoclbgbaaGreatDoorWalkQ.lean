/- Typed programs of Go functions, and that the functions do what these say. -/
import Derived.Test.YtkpdblcoclbgbaaGreatDoorBaseA
import Derived.Test.YtkpdblcoclbgbaaGreatDoorWalkP
import Derived.Shelf.Slices.SearchI
set_option linter.unusedSimpArgs false
set_option linter.unusedVariables false
namespace Go.Abs
open Go.Proofs
set_option maxRecDepth 100000
set_option maxHeartbeats 4000000
def oY:IC:=(Ra 0 [.K 4 0]
(Sq (Ra 6 [.C 1,.P .lss 6 1]
(Ci 7 (Rb 0 [.K 4 0])))
(Ra 8 [.C 0,.C 1,.O .rem 8 9,.M 5 10]
(Sq (Ra 11 [.C 5,.P .lss 11 0]
(Ci 12 (Rc 13 [.C 5,.C 1,.O .add 13 14,.M 5 15])))
(Rb 16 [.C 5,.M 4 16])))))
def oZ:Gi:=⟨[]⟩
def o0:List RV:=[.tmp 4]
namespace EW
def J1 (c:Int):Option Int:=
some c
end EW
section
open EW
def EW (b a:Int):Option Int:=
if decide (a<1)then
some 0
else
if¬a=0 then
if decide ((b.tmod a)<0)then
J1 (BE ((b.tmod a)+a))
else
J1 (b.tmod a)
else none
theorem RD {b a r:Int} (h:EW b a=some r):Says Tryz.prog 153 [si b,si a] (si r):=by
 refine wO mix Tryz.func153 (I:=⟨oY,oZ,o0⟩) ?_
 simp only[oY,oZ,o0]
 unfold EW at h
 exact walk
end
def mR:IC:=(Ra 0 [.b 2 [5,10,14,18,22,28,32,36,47] (.bx 6 (.t 0)),.b 3 [16,30] (.bx 4 (.t 1)),.K 4 0]
(Sq (Ra 5 [.f 0 2]
(Bk 0 (Bw 1 (Ra 8 [.q 6 6 7]
(Cn 7 .skip (Rc 9 [.q 6 27 7])))
(Cn 7 (Rb 10 [.f 2 2,.M 4 11]) (Ra 13 [.q 6 7 12]
(Cn 12 (Rb 14 [.f 2 2,.f 1 3,.f 3 2,.I 1 17 19,.L 20,.f 4 2,.c 153 [21,23] 0,.O .add 15 24,.M 4 25]) (Ra 27 [.q 6 9 26]
(Cn 26 (Rb 28 [.f 1 2,.f 1 3,.f 3 2,.I 1 31 33,.L 34,.f 4 2,.c 153 [35,37] 0,.O .add 29 38,.M 4 39]) (Bw 2 (Ra 41 [.q 6 10 40]
(Cn 40 .skip (Ra 42 [.q 6 17 40]
(Cn 40 .skip (Ra 43 [.q 6 18 40]
(Cn 40 .skip (Ra 44 [.q 6 19 40]
(Cn 40 .skip (Ra 45 [.q 6 20 40]
(Cn 40 .skip (Rc 46 [.q 6 28 40])))))))))))
(Ci 40 (Rb 0 [.K 4 (-1)])))))))))))
(Rb 47 [.f 1 2,.M 4 48])))
def mS:Gi:=⟨[(5,[2]),(10,[2]),(14,[2]),(16,[3]),(18,[2]),(22,[2]),(28,[2]),(30,[3]),(32,[2]),(36,[2]),(47,[2])]⟩
def mT:List RV:=[.tmp 4]
namespace Dt
def J2 (a:AW) (c:Bool):Option Int:=
if c then
some (-1)
else
some a.A
def J1 (a:AW) (b:AE) (d:Bool):Option Int:=
if d then
some a.B
else
if a.Op==7 then
(gt b.CN a.C).bind λi=>
(EW i a.N).bind λe=>
some (BE (a.B+e))
else
if a.Op==9 then
(gt b.CN a.C).bind λj=>
(EW j a.N).bind λf=>
some (BE (a.A+f))
else
if a.Op==10 then
J2 a (a.Op==10)
else
if a.Op==17 then
J2 a (a.Op==17)
else
if a.Op==18 then
J2 a (a.Op==18)
else
if a.Op==19 then
J2 a (a.Op==19)
else
if a.Op==20 then
J2 a (a.Op==20)
else
J2 a (a.Op==28)
end Dt
section
open Dt
def Dt (a:AW) (b:AE):Option Int:=
if a.Op==6 then
J1 a b (a.Op==6)
else
J1 a b (a.Op==27)
theorem Pj {a:AW} {b:AE} {r:Int} (h:Dt a b=some r):Says Tryz.prog 129 [.agg (C7 a),.agg (Dh b)] (si r):=by
 refine wO mix Tryz.func129 (I:=⟨mR,mS,mT⟩) ?_
 simp only[mR,mS,mT]
 have a1:= @RD
 have c2:=λn1 n2 n3 n4:Nat=>B7 2 λτ=>∃(c:Bool),(τ 2=bA 6 (C7 a)/\τ 40=sb c)/\J2 a c=some r
 have c1:=λn1 n2 n3 n4:Nat=>B7 1 λτ=>∃(d:Bool),(τ 2=bA 6 (C7 a)/\τ 3=bA 4 (Dh b)/\τ 6=si a.Op/\τ 7=sb d)/\J1 a b d=some r
 unfold Dt at h
 exact walk
end
def ABy:IC:=(Ra 6 [.b 3 [21,32] (.bx 7 (.t 0)),.b 4 [27,46,47,60,61] (.bx 7 (.t 1)),.o (.bx 7 (.c (.agg z3))),.B 7 false]
(Sq (Bw 1 (Rc 11 [.A 7 3,.A 7 4,.c 127 [11,12] 0,.N 13,.C 14,.G 15 false,.C 2,.P .lss 16 0,.e,.V 15 17,.C 18,.G 19 false,.C 2,.f 6 3,.Z 22,.O .geq 20 23,.e,.V 19 24])
(Ci 25 (Rb 26 [.o (.Dc z3 []),.S 7 6 26,.B 7 false])))
(Ra 27 [.f 6 4,.C 2,.I 4 28 29,.A 4 30,.b 8 [38,90,103,126] (.bx 4 (.c (.agg z6))),.S 4 8 31]
(Ra 32 [.f 6 3,.C 2,.I 2 33 34,.U 1 35,.f 0 8,.I 6 37 39,.A 6 40,.b 9 [43,72,84,92,105,111,115,120,128] (.bx 6 (.c (.agg z9))),.S 6 9 41]
(Ra 42 [.C 2,.f 5 9,.o (.Dc z3 [(0,1,.t 42),(4,1,.t 44)]),.b 10 [67,68,69,78,79,80,88,89,97,101,102,110,124,125,133,134] (.bx 7 (.c (.agg z3))),.S 7 10 45]
(Sq (Ra 46 [.F 0 4,.h 4 3 46,.C 2,.I 3 48 49,.U 0 50]
(Bk 0 (Ra 55 [.q 52 1 54]
(Cn 54 (Rb 56 [.C 2,.o (.Dc z3 [(0,1,.t 56),(1,1,.c (si 1)),(2,1,.c (si (-1))),(4,1,.c (si (-1)))]),.S 7 6 57,.B 7 true]) (Ra 59 [.q 52 4 58]
(Cn 58 (Ra 60 [.F 0 4,.h 4 3 60,.C 2,.I 3 62 63,.U 1 64,.F 1 10,.x ⟨none,.P1 (.t 67) (.c (si 17)),none⟩,.F 2 10,.x ⟨none,.P1 (.t 68) (.t 66),none⟩]
(Rb 69 [.y 10 (.ld true 7 (.t 10)),.S 7 6 69,.B 7 true])) (Ra 71 [.q 52 2 70]
(Cn 70 .skip (Rb 53 [.o (.Dc z3 []),.S 7 6 53,.B 7 false])))))))))
(Ra 72 [.f 0 9,.c 128 [73] 0,.A 6 9,.A 4 8,.c 129 [75,76] 0,.F 1 10,.x ⟨none,.P1 (.t 78) (.t 74),none⟩,.F 2 10,.x ⟨none,.P1 (.t 79) (.t 77),none⟩]
(Sq (Ra 80 [.f 1 10,.Q 81 0]
(Ci 82 (Rb 83 [.o (.Dc z3 []),.S 7 6 83,.B 7 false])))
(Bw 3 (Ra 84 [.f 0 9]
(Bk 1 (Ra 87 [.q 85 10 86]
(Cn 86 (Rc 88 [.m 10 5 10,.f 2 8,.f 1 9,.I 1 91 93,.L 94,.o (.app 1 8 (.t 89) (.t 95)),.F 5 10,.S 1 97 96]) (Sq (Ra 99 [.q 85 7 98]
(Cn 98 .skip (Rc 100 [.q 85 9 98])))
(Ci 98 (Rc 101 [.m 10 5 10,.f 2 8,.f 3 9,.I 1 104 106,.L 107,.o (.app 1 8 (.t 102) (.t 108)),.F 5 10,.S 1 110 109])))))))
(Sq (Ra 111 [.f 0 9,.Q 112 8,.C 113,.G 114 false,.f 0 9,.P .eql 116 9,.e,.V 114 117,.C 118,.G 119 false,.f 0 9,.P .eql 121 26,.e,.V 119 122]
(Ci 123 (Rc 124 [.m 10 6 10,.f 2 8,.f 2 9,.I 1 127 129,.L 130,.o (.app 1 8 (.t 125) (.t 131)),.F 6 10,.S 1 133 132])))
(Rb 134 [.y 10 (.ld true 7 (.t 10)),.S 7 6 134,.B 7 true])))))))))))
def ABz:Gi:=⟨[(21,[3]),(27,[4]),(32,[3]),(38,[8]),(43,[9]),(46,[4]),(47,[4]),(60,[4]),(61,[4]),(67,[10]),(68,[10]),(69,[10]),(72,[9]),(78,[10]),(79,[10]),(80,[10]),(84,[9]),(88,[10]),(89,[10]),(90,[8]),(92,[9]),(97,[10]),(101,[10]),(102,[10]),(103,[8]),(105,[9]),(110,[10]),(111,[9]),(115,[9]),(120,[9]),(124,[10]),(125,[10]),(126,[8]),(128,[9]),(133,[10]),(134,[10])]⟩
def AB0:List RV:=[.cell 6 true 7,.tmp 7]
namespace Br
def J5 (t:AN):Option (AN×Bool):=
some (t,true)
def J4 (d:AN) (c:AE) (a:AW) (u:Bool):Option (AN×Bool):=
if u then
(gt c.Bt a.B).bind λs=>
if Aq (d.Db.length+s.length) 8=true then
J5 (AN.mk d.Thread d.Kind d.Obj d.Value d.Site d.Dy (d.Db++s))
else none
else
J5 d
def J3 (c:AE) (a:AW) (d:AN):Option (AN×Bool):=
if a.Op==8 then
J4 d c a true
else
if a.Op==9 then
J4 d c a true
else
J4 d c a (a.Op==26)
def J2 (b i j:Int) (c:AE) (a:AW) (v:Bool):Option (AN×Bool):=
if v then
(gt c.Bt a.C).bind λq=>
if Aq (q.length) 8=true then
J3 c a (AN.mk b i j 0 a.Site q [])
else none
else
J3 c a (AN.mk b i j 0 a.Site [] [])
def J1 (e:BB) (f:AZ) (b:Int) (l:Bool):Option (AN×Bool):=
if l then
some ((AN.mk 0 0 0 0 0 [] []),false)
else
(gt f.AA b).bind λc=>
(gt e.AA b).bind λx=>
(gt x.B3 c.PC).bind λa=>
(gt f.Sync.AA b).bind λo=>
if o.Status==1 then
some ((AN.mk b 1 (-1) 0 (-1) [] []),true)
else
if o.Status==4 then
some ((AN.mk b 17 o.Ef 0 a.Site [] []),true)
else
if o.Status==2 then
(FN a.Op).bind λi=>
(Dt a c).bind λj=>
if i==0 then
some ((AN.mk 0 0 0 0 0 [] []),false)
else
if a.Op==10 then
(gt c.Bt a.A).bind λp=>
if Aq (p.length) 8=true then
J3 c a (AN.mk b i j 0 a.Site p [])
else none
else
if a.Op==7 then
J2 b i j c a (a.Op==7)
else
J2 b i j c a (a.Op==9)
else
some ((AN.mk 0 0 0 0 0 [] []),false)
end Br
section
open Br
def Br (e:BB) (f:AZ) (b:Int):Option (AN×Bool):=
(DW e f).bind λw=>
if !w then
J1 e f b true
else
if decide (b<0)then
J1 e f b true
else
J1 e f b (decide (b≥(e.AA.length:Int)))
theorem Oh {e:BB} {f:AZ} {b:Int} {r:AN×Bool} (h:Br e f b=some r):Says Tryz.prog 98 [.agg (Gp e),.agg (HM f),si b] (.A9 [.agg (Ln r.1),sb r.2]):=by
 refine wO mix Tryz.func98 (I:=⟨ABy,ABz,AB0⟩) ?_
 simp only[ABy,ABz,AB0]
 have a1:= @SS
 have a2:= @Pj
 have a3:= @SP
 have c3:=λn1 n2 n3 n4:Nat=>B7 3 λτ=>∃(c:AE) (a:AW) (d:AN),(τ 6=bA 7 z3/\τ 8=bA 4 (Dh c)/\τ 9=bA 6 (C7 a)/\τ 10=bA 7 (Ln d))/\J3 c a d=some r
 have c1:=λn1 n2 n3 n4:Nat=>B7 1 λτ=>∃(l:Bool),(τ 2=si b/\τ 3=bA 7 (Gp e)/\τ 4=bA 7 (HM f)/\τ 6=bA 7 z3/\τ 25=sb l)/\J1 e f b l=some r
 unfold Br at h
 exact walk
end
def ABF:IC:=(Ra 0 [.B 4 false]
(Rb 5 [.C 0,.P .geq 5 0,.C 6,.G 7 true,.C 0,.C 1,.O .lss 8 9,.e,.W 7 10,.M 4 11]))
def ABG:Gi:=⟨[]⟩
def ABH:List RV:=[.tmp 4]
namespace E4
def J1 (c:Bool):Option Bool:=
some c
end E4
section
open E4
def E4 (a b:Int):Option Bool:=
if decide (a≥0)then
J1 (decide (a<b))
else
J1 false
theorem O6 {a b:Int} {r:Bool} (h:E4 a b=some r):Says Tryz.prog 80 [si a,si b] (sb r):=by
 refine wO mix Tryz.func80 (I:=⟨ABF,ABG,ABH⟩) ?_
 simp only[ABF,ABG,ABH]
 unfold E4 at h
 exact walk
end
end Go.Abs
