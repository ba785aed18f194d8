/- Typed programs of Go functions, and that the functions do what these say. -/
import Derived.Test.YtkpdblcoclbgbaaGreatDoorBaseA
import Derived.Test.YtkpdblcoclbgbaaGreatDoorWalkF
import Derived.Test.YtkpdblcoclbgbaaGreatDoorWalkC
import Derived.Shelf.Slices.SearchI
set_option linter.unusedSimpArgs false
set_option linter.unusedVariables false
namespace Go.Abs
open Go.Proofs
set_option maxRecDepth 100000
set_option maxHeartbeats 4000000
def lD:IC:=(Ra 0 [.b 1 [11,17,22,29,41,47,70,76] (.bx 2 (.t 0)),.K 2 0,.K 3 0]
(Sq (Ra 0 [.K 4 0]
(Bl 0 (Sq (Ra 10 [.C 4,.f 1 1,.Z 12,.O .lss 10 13]
(cX 14 0))
(Sq (Bk 1 (Ra 17 [.f 1 1,.C 4,.I 4 18 19,.A 4 20,.b 5 [24,33,38] (.bx 4 (.c (.agg kM))),.S 4 5 21]
(Ra 22 [.f 0 1,.f 0 5,.c 134 [23,25] 0,.P .geq 26 0,.C 27,.G 28 false,.f 1 1,.C 4,.o (.UM 4 true (.t 30) none (some (.t 31)) none),.f 0 5,.c 135 [32,34] 0,.P .geq 35 0,.e,.V 28 36]
(Ci 37 (Rb 38 [.f 1 5,.K 2 4,.M 3 39])))))
(Rc 15 [.C 4,.P .add 15 1,.M 4 16])))))
(Sq (Ra 0 [.K 6 0]
(Bl 2 (Sq (Ra 40 [.C 6,.f 1 1,.Z 42,.O .lss 40 43]
(cX 44 2))
(Sq (Bk 3 (Ra 47 [.f 1 1,.C 6,.I 4 48 49,.A 4 50,.b 7 [52,56,59,65,83,91] (.bx 4 (.c (.agg kM))),.S 4 7 51]
(Sq (Ra 52 [.f 2 7,.Z 53,.P .gtr 54 4]
(Ci 55 (Rb 56 [.f 1 7,.K 2 2,.M 3 57])))
(Ra 0 [.K 8 0]
(Bl 4 (Sq (Ra 58 [.C 8,.f 2 7,.Z 60,.O .lss 58 61]
(cX 62 4))
(Sq (Bk 5 (Ra 65 [.f 2 7,.C 8,.I 1 66 67,.L 68,.M 9 69]
(Ra 70 [.f 0 1,.C 9,.c 134 [71,72] 0,.P .geq 73 0,.C 74,.G 75 false,.f 1 1,.C 9,.c 135 [77,78] 0,.P .geq 79 0,.e,.V 75 80,.C 81,.G 82 false,.f 2 7,.C 8,.o (.UM 1 true (.t 84) none (some (.t 85)) none),.C 9,.c 43 [86,87] 0,.P .geq 88 0,.e,.V 82 89]
(Ci 90 (Rb 91 [.f 1 7,.K 2 4,.M 3 92])))))
(Rc 63 [.C 8,.P .add 63 1,.M 8 64]))))))))
(Rc 45 [.C 6,.P .add 45 1,.M 6 46])))))
(Rb 0 [.K 2 0,.K 3 0]))))
def lE:Gi:=⟨[(11,[1]),(17,[1]),(22,[1]),(24,[5]),(29,[1]),(33,[5]),(38,[5]),(41,[1]),(47,[1]),(52,[7]),(56,[7]),(59,[7]),(65,[7]),(70,[1]),(76,[1]),(83,[7]),(91,[7])]⟩
def lF:List RV:=[.tmp 2,.tmp 3]
namespace BU
def J5:Option (Int×Int):=
some (0,0)
def J4 (L2:Int->Option (Int×Int)) (c:Int):Option (Int×Int):=
L2 (BE (c+1))
def J3 (L3:Int->Option (Int×Int)) (d:Int) (b:CA) (l:Bool):Option (Int×Int):=
if l then
some (4,b.D4)
else
L3 (BE (d+1))
def L3 (L2:Int->Option (Int×Int)) (c:Int) (a:AL) (b:CA) (L3:Int->Option (Int×Int)) (d:Int):Option (Int×Int):=
if decide (d<(b.EY.length:Int))then
(gt b.EY d).bind λi=>
(Bz a.Decls i).bind λq=>
if decide (q≥0)then
J3 L3 d b true
else
(Bv a.AA i).bind λs=>
if decide (s≥0)then
J3 L3 d b true
else
if 0≤d/\d.toNat≤b.EY.length then
(CF (b.EY.take d.toNat) i).bind λt=>
J3 L3 d b (decide (t≥0))
else none
else
J4 L2 c
def Gx (L2:Int->Option (Int×Int)) (c:Int) (a:AL) (b:CA):Nat->Int->Option (Int×Int)
|0,_=>none
|n+1,d=>L3 L2 c a b (Gx L2 c a b n) d
def L2 (a:AL) (L2:Int->Option (Int×Int)) (c:Int):Option (Int×Int):=
if decide (c<(a.AA.length:Int))then
(gt a.AA c).bind λb=>
if decide ((b.EY.length:Int)>4)then
some (2,b.D4)
else
Gx L2 c a b Bo 0
else
J5
def Da (a:AL):Nat->Int->Option (Int×Int)
|0,_=>none
|n+1,c=>L2 a (Da a n) c
def J2 (a:AL):Option (Int×Int):=
Da a Bo 0
def J1 (L1:Int->Option (Int×Int)) (e:Int) (f:CA) (j:Bool):Option (Int×Int):=
if j then
some (4,f.D4)
else
L1 (BE (e+1))
def L1 (a:AL) (L1:Int->Option (Int×Int)) (e:Int):Option (Int×Int):=
if decide (e<(a.AA.length:Int))then
(gt a.AA e).bind λf=>
(Bz a.Decls f.Name).bind λo=>
if decide (o≥0)then
J1 L1 e f true
else
if 0≤e/\e.toNat≤a.AA.length then
(Bv (a.AA.take e.toNat) f.Name).bind λp=>
J1 L1 e f (decide (p≥0))
else none
else
J2 a
def Ac (a:AL):Nat->Int->Option (Int×Int)
|0,_=>none
|n+1,e=>L1 a (Ac a n) e
end BU
section
open BU
def BU (a:AL):Option (Int×Int):=
Ac a Bo 0
theorem Od {a:AL} {r:Int×Int} (h:BU a=some r):Says Tryz.prog 103 [.agg (Bb a)] (.A9 [si r.1,si r.2]):=by
 refine wO mix Tryz.func103 (I:=⟨lD,lE,lF⟩) ?_
 simp only[lD,lE,lF]
 have a1:= @Gd
 have a2:= @G9
 have a3:= @FB
 have l2:=λn1 n2 n3 n4:Nat=>BM λn τ=>∃(c:Int),(τ 1=bA 2 (Bb a)/\τ 6=si c)/\Da a n c=some r
 have l3:=λn1 n2 n3 n4:Nat=>BM λn τ=>∃(c:Int) (b:CA) (d:Int),(τ 1=bA 2 (Bb a)/\τ 6=si c/\τ 7=bA 4 (GD b)/\τ 8=si d)/\Gx (Da a n2) c a b n d=some r
 have l1:=λn1 n2 n3 n4:Nat=>BM λn τ=>∃(e:Int),(τ 1=bA 2 (Bb a)/\τ 4=si e)/\Ac a n e=some r
 unfold BU at h
 exact walk
end
def lG:IC:=(Ra 0 [.K 2 0]
(Ra 5 [.C 0,.Z 5,.M 3 6]
(Sq (Ra 0 [.K 4 0]
(Bl 0 (Sq (Ra 7 [.C 4,.C 0,.Z 8,.O .lss 7 9]
(cX 10 0))
(Sq (Bk 1 (Rc 13 [.C 3,.C 0,.C 4,.I 11 14 15,.U 9 16,.c 104 [18] 0,.O .add 13 19,.C 0,.C 4,.I 11 21 22,.U 10 23,.c 104 [25] 0,.O .add 20 26,.M 3 27]))
(Rc 11 [.C 4,.P .add 11 1,.M 4 12])))))
(Rb 28 [.C 3,.M 2 28]))))
def lH:Gi:=⟨[]⟩
def lI:List RV:=[.tmp 2]
namespace C1
def J1 (e:Int):Option Int:=
some e
def L1 (R104:(List AK)->Option Int) (a:List AK) (L1:Int->Int->Option Int) (c b:Int):Option Int:=
if decide (b<(a.length:Int))then
(gt a b).bind λd=>
(R104 d.Body).bind λf=>
(R104 d.Else).bind λi=>
L1 (BE ((BE (c+f))+i)) (BE (b+1))
else
J1 c
def Ac (R104:(List AK)->Option Int) (a:List AK):Nat->Int->Int->Option Int
|0,_,_=>none
|n+1,c,b=>L1 R104 a (Ac R104 a n) c b
end C1
section
open C1
def C1 (R104:(List AK)->Option Int) (a:List AK):Option Int:=
Ac R104 a Bo (a.length:Int) 0
theorem Q8 {R104:(List AK)->Option Int} (H104:∀{x0 r},R104 x0=some r->Says Tryz.prog 104 [vS 11 An x0] (si r)) {a:List AK} {r:Int} (h:C1 R104 a=some r):Says Tryz.prog 104 [vS 11 An a] (si r):=by
 refine wO mix Tryz.func104 (I:=⟨lG,lH,lI⟩) ?_
 simp only[lG,lH,lI]
 have a1:= @H104
 have l1:=λn1 n2 n3 n4:Nat=>BM λn τ=>∃(c b:Int),(τ 0=vS 11 An a/\τ 3=si c/\τ 4=si b)/\Ac R104 a n c b=some r
 unfold C1 at h
 exact walk
end
def Np:Nat->((List AK)->Option Int)
|0=>(λ_=>none)
|n+1=>C1 ((Np n))
def FW (n:Nat):(List AK)->Option Int:=(Np n)
theorem PX (n:Nat):(∀{x0 r},(FW n) x0=some r->Says Tryz.prog 104 [.sl false 11 (x0.map An)] (si r)):=by
  induction n with
  |zero=>exactλh=>B9 h
  |succ n ih=>exactλh=>Q8 ih h
theorem PY {n:Nat}:∀{x0 r},(FW n) x0=some r->Says Tryz.prog 104 [.sl false 11 (x0.map An)] (si r):=(PX n)
def pO:IC:=(Ra 0 [.B 8 false]
(Sq (Ra 0 [.K 9 0]
(Bl 0 (Sq (Ra 11 [.C 9,.r 0 3,.Z 15,.O .lss 11 16]
(cX 17 0))
(Sq (Bk 1 (Ra 20 [.r 0 3,.C 9,.J 0 11 23 24,.y 0 (.ld true 11 (.t 25)),.b 10 [27,32,41] (.bx 11 (.c (.agg z0))),.S 11 10 26]
(Ra 27 [.f 0 10,.C 1,.O .eql 28 29,.C 30,.G 31 false,.f 0 10,.C 2,.O .eql 33 34,.e,.V 31 35,.C 36,.G 37 true,.C 3,.o (.bin .eql (.t 38) (.c (Ao ⟨#[]⟩))),.C 39,.G 40 false,.f 2 10,.C 3,.O .eql 42 43,.G 37 true,.o (.pick (.t 40) (.c (sb true)) (.t 44)),.e,.W 37 45]
(Ci 46 (Rb 0 [.B 8 true])))))
(Rc 18 [.C 9,.P .add 18 1,.M 9 19])))))
(Rb 0 [.B 8 false])))
def pP:Gi:=⟨[(12,[0]),(13,[0]),(14,[0]),(15,[0]),(20,[0]),(21,[0]),(22,[0]),(23,[0]),(25,[0]),(26,[0]),(27,[10]),(32,[10]),(41,[10])]⟩
def pQ:List RV:=[.tmp 8]
namespace BD
def J2 (a:A1):Option (Bool×A1):=
some (false,a)
def J1 (L1:Int->Option (Bool×A1)) (b:Int) (a:A1) (i:Bool):Option (Bool×A1):=
if i then
some (true,a)
else
L1 (BE (b+1))
def L1 (d e:Int) (c:ByteArray) (a:A1) (L1:Int->Option (Bool×A1)) (b:Int):Option (Bool×A1):=
if decide (b<(a.EN.length:Int))then
(gt a.EN b).bind λf=>
if f.Op==d then
if c.toList==(⟨#[]⟩:ByteArray).toList then
J1 L1 b a true
else
J1 L1 b a (f.Name.toList==c.toList)
else
if f.Op==e then
if c.toList==(⟨#[]⟩:ByteArray).toList then
J1 L1 b a true
else
J1 L1 b a (f.Name.toList==c.toList)
else
J1 L1 b a false
else
J2 a
def Ac (d e:Int) (c:ByteArray) (a:A1):Nat->Int->Option (Bool×A1)
|0,_=>none
|n+1,b=>L1 d e c a (Ac d e c a n) b
end BD
section
open BD
def BD (a:A1) (d e:Int) (c:ByteArray):Option (Bool×A1):=
Ac d e c a Bo 0
theorem Kj {a:A1} {d e:Int} {c:ByteArray} {r:Bool×A1} (h:BD a d e c=some r):A5 Tryz.prog 158 [bA 6 (Es a),si d,si e,Ao c] (sb r.1) [bA 6 (Es r.2),.dead,.dead,.dead]:=by
 refine wL mix Tryz.func158 (I:=⟨pO,pP,pQ⟩) ?_
 simp only[pO,pP,pQ]
 have l1:=λn1 n2 n3 n4:Nat=>BM λn τ=>∃(b:Int),(τ 0=bA 6 (Es a)/\τ 1=si d/\τ 2=si e/\τ 3=Ao c/\τ 9=si b)/\Ac d e c a n b=some r
 unfold BD at h
 exact walk
end
def qM:IC:=(Ra 0 [.b 3 [12,18,28,34,39,47,61] (.bx 2 (.t 0)),.K 6 0]
(Sq (Bw 1 (Rc 8 [.C 1,.P .geq 8 0,.C 9,.G 10 true,.C 1,.f 1 3,.Z 13,.O .lss 11 14,.e,.W 10 15,.C 16,.G 17 true,.f 1 3,.C 1,.I 4 19 20,.U 2 21,.C 2,.c 43 [23,24] 0,.P .geq 25 0,.e,.W 17 26])
(Ci 27 (Rb 0 [.K 6 8])))
(Ra 28 [.f 0 3,.C 2,.c 134 [29,30] 0,.M 7 31]
(Sq (Ra 32 [.C 7,.P .lss 32 0]
(Ci 33 (Sq (Ra 34 [.f 1 3,.C 2,.c 135 [35,36] 0,.P .geq 37 0]
(Ci 38 (Rb 0 [.K 6 7])))
(Rb 0 [.K 6 0]))))
(Sq (Ra 39 [.f 0 3,.C 7,.I 6 40 41,.U 0 42]
(Bk 0 (Ra 46 [.q 44 1 45]
(Cn 45 (Sq (Ra 47 [.f 0 3,.C 7,.I 6 48 49,.U 3 50,.P .neq 52 0]
(Ci 53 (Rb 0 [.K 6 2])))
(Rb 0 [.K 6 1])) (Ra 55 [.q 44 2 54]
(Cn 54 (Rb 0 [.K 6 1]) (Sq (Ra 57 [.q 44 3 56]
(Cn 56 .skip (Ra 58 [.q 44 4 56]
(Cn 56 .skip (Ra 59 [.q 44 5 56]
(Cn 56 .skip (Rc 60 [.q 44 6 56])))))))
(Ci 56 (Rb 61 [.f 0 3,.C 7,.I 6 62 63,.U 0 64,.M 6 66])))))))))
(Rb 0 [.K 6 9]))))))
def qN:Gi:=⟨[(12,[3]),(18,[3]),(28,[3]),(34,[3]),(39,[3]),(47,[3]),(61,[3])]⟩
def qO:List RV:=[.tmp 6]
namespace DQ
def J2 (a:AL) (d:Int) (i:Bool):Option Int:=
if i then
(gt a.Decls d).bind λp=>
some p.Kind
else
some 9
def J1 (a:AL) (b:ByteArray) (f:Bool):Option Int:=
if f then
some 8
else
(Bz a.Decls b).bind λd=>
if decide (d<0)then
(Bv a.AA b).bind λl=>
if decide (l≥0)then
some 7
else
some 0
else
(gt a.Decls d).bind λc=>
if c.Kind==1 then
if c.Bn != 0 then
some 2
else
some 1
else
if c.Kind==2 then
some 1
else
if c.Kind==3 then
J2 a d (c.Kind==3)
else
if c.Kind==4 then
J2 a d (c.Kind==4)
else
if c.Kind==5 then
J2 a d (c.Kind==5)
else
J2 a d (c.Kind==6)
end DQ
section
open DQ
def DQ (a:AL) (e:Int) (b:ByteArray):Option Int:=
if decide (e≥0)then
if decide (e<(a.AA.length:Int))then
(gt a.AA e).bind λo=>
(CF o.EY b).bind λj=>
J1 a b (decide (j≥0))
else
J1 a b false
else
J1 a b false
theorem PZ {a:AL} {e:Int} {b:ByteArray} {r:Int} (h:DQ a e b=some r):Says Tryz.prog 168 [.agg (Bb a),si e,Ao b] (si r):=by
 refine wO mix Tryz.func168 (I:=⟨qM,qN,qO⟩) ?_
 simp only[qM,qN,qO]
 have a1:= @Gd
 have a2:= @G9
 have a3:= @FB
 have c1:=λn1 n2 n3 n4:Nat=>B7 1 λτ=>∃(f:Bool),(τ 2=Ao b/\τ 3=bA 2 (Bb a)/\τ 27=sb f)/\J1 a b f=some r
 unfold DQ at h
 exact walk
end
end Go.Abs
