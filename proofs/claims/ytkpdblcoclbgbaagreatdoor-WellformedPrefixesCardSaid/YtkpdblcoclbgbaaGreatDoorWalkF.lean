/- Typed programs of Go functions, and that the functions do what these say. -/
import Derived.Test.YtkpdblcoclbgbaaGreatDoorBaseA
import Derived.Test.YtkpdblcoclbgbaaGreatDoorWalkC
import Derived.Test.YtkpdblcoclbgbaaGreatDoorWalkD
import Derived.Shelf.Slices.SearchI
set_option linter.unusedSimpArgs false
set_option linter.unusedVariables false
namespace Go.Abs
open Go.Proofs
set_option maxRecDepth 100000
set_option maxHeartbeats 4000000
def kX:IC:=(Ra 0 [.b 1 [8,14,22,28,57] (.bx 2 (.t 0)),.B 2 false]
(Sq (Ra 0 [.K 3 0]
(Bl 0 (Sq (Ra 7 [.C 3,.f 0 1,.Z 9,.O .lss 7 10]
(cX 11 0))
(Sq (Bk 1 (Ra 14 [.f 0 1,.C 3,.I 6 15 16,.A 6 17,.c 132 [18] 0,.N 19]
(Ci 20 (Rb 0 [.B 2 false]))))
(Rc 12 [.C 3,.P .add 12 1,.M 3 13])))))
(Sq (Ra 0 [.K 4 0]
(Bl 2 (Sq (Ra 21 [.C 4,.f 1 1,.Z 23,.O .lss 21 24]
(cX 25 2))
(Sq (Bk 3 (Ra 28 [.f 1 1,.C 4,.I 4 29 30,.A 4 31,.b 5 [34,40,47,52] (.bx 4 (.c (.agg kM))),.S 4 5 32]
(Sq (Ra 0 [.K 6 0]
(Bl 4 (Sq (Ra 33 [.C 6,.f 2 5,.Z 35,.O .lss 33 36]
(cX 37 4))
(Sq (Bk 5 (Ra 40 [.f 2 5,.C 6,.I 1 41 42,.L 43,.c 42 [44] 0,.N 45]
(Ci 46 (Rb 0 [.B 2 false]))))
(Rc 38 [.C 6,.P .add 38 1,.M 6 39])))))
(Ra 47 [.f 0 5,.c 42 [48] 0,.N 49,.C 50,.G 51 false,.f 3 5,.c 133 [53] 0,.N 54,.e,.V 51 55]
(Ci 56 (Rb 0 [.B 2 false]))))))
(Rc 26 [.C 4,.P .add 26 1,.M 4 27])))))
(Rb 57 [.f 1 1,.Z 58,.P .gtr 59 0,.M 2 60]))))
def kY:Gi:=⟨[(8,[1]),(14,[1]),(22,[1]),(28,[1]),(34,[5]),(40,[5]),(47,[5]),(52,[5]),(57,[1])]⟩
def kZ:List RV:=[.tmp 2]
namespace Bh
def J5 (a:AL):Option Bool:=
some (decide ((a.AA.length:Int)>0))
def J4 (L2:Int->Option Bool) (b:Int):Option Bool:=
L2 (BE (b+1))
def J3 (L2:Int->Option Bool) (b:Int) (f:Bool):Option Bool:=
if f then
some false
else
J4 L2 b
def J2 (L2:Int->Option Bool) (b:Int) (c:CA):Option Bool:=
(BV c.Name).bind λl=>
if !l then
J3 L2 b true
else
(Ed Bo c.Body).bind λo=>
J3 L2 b (!o)
def L3 (L2:Int->Option Bool) (b:Int) (c:CA) (L3:Int->Option Bool) (e:Int):Option Bool:=
if decide (e<(c.EY.length:Int))then
(gt c.EY e).bind λq=>
(BV q).bind λj=>
if !j then
some false
else
L3 (BE (e+1))
else
J2 L2 b c
def Gx (L2:Int->Option Bool) (b:Int) (c:CA):Nat->Int->Option Bool
|0,_=>none
|n+1,e=>L3 L2 b c (Gx L2 b c n) e
def L2 (a:AL) (L2:Int->Option Bool) (b:Int):Option Bool:=
if decide (b<(a.AA.length:Int))then
(gt a.AA b).bind λc=>
Gx L2 b c Bo 0
else
J5 a
def Da (a:AL):Nat->Int->Option Bool
|0,_=>none
|n+1,b=>L2 a (Da a n) b
def J1 (a:AL):Option Bool:=
Da a Bo 0
def L1 (a:AL) (L1:Int->Option Bool) (d:Int):Option Bool:=
if decide (d<(a.Decls.length:Int))then
(gt a.Decls d).bind λp=>
(Bs p).bind λi=>
if !i then
some false
else
L1 (BE (d+1))
else
J1 a
def Ac (a:AL):Nat->Int->Option Bool
|0,_=>none
|n+1,d=>L1 a (Ac a n) d
end Bh
section
open Bh
def Bh (a:AL):Option Bool:=
Ac a Bo 0
theorem PW {a:AL} {r:Bool} (h:Bh a=some r):Says Tryz.prog 101 [.agg (Bb a)] (sb r):=by
 refine wO mix Tryz.func101 (I:=⟨kX,kY,kZ⟩) ?_
 simp only[kX,kY,kZ]
 have a1:= @FV
 have a2:= @Jy
 have a3:= @Lb
 have l2:=λn1 n2 n3 n4:Nat=>BM λn τ=>∃(b:Int),(τ 1=bA 2 (Bb a)/\τ 4=si b)/\Da a n b=some r
 have l3:=λn1 n2 n3 n4:Nat=>BM λn τ=>∃(b:Int) (c:CA) (e:Int),(τ 1=bA 2 (Bb a)/\τ 4=si b/\τ 5=bA 4 (GD c)/\τ 6=si e)/\Gx (Da a n2) b c n e=some r
 have l1:=λn1 n2 n3 n4:Nat=>BM λn τ=>∃(d:Int),(τ 1=bA 2 (Bb a)/\τ 3=si d)/\Ac a n d=some r
 unfold Bh at h
 exact walk
end
def nJ:IC:=(Ra 0 [.K 4 0]
(Sq (Ra 0 [.K 5 0]
(Bl 0 (Sq (Ra 6 [.C 5,.C 0,.Z 7,.O .lss 6 8]
(cX 9 0))
(Sq (Bk 1 (Ra 12 [.C 0,.C 5,.I 6 12 13,.U 2 14,.C 1,.O .eql 16 17]
(Ci 18 (Rb 19 [.C 5,.M 4 19]))))
(Rc 10 [.C 5,.P .add 10 1,.M 5 11])))))
(Rb 0 [.K 4 (-1)])))
def nK:Gi:=⟨[]⟩
def nL:List RV:=[.tmp 4]
namespace Bz
def J1:Option Int:=
some (-1)
def L1 (a:List DK) (b:ByteArray) (L1:Int->Option Int) (c:Int):Option Int:=
if decide (c<(a.length:Int))then
(gt a c).bind λd=>
if d.Name.toList==b.toList then
some c
else
L1 (BE (c+1))
else
J1
def Ac (a:List DK) (b:ByteArray):Nat->Int->Option Int
|0,_=>none
|n+1,c=>L1 a b (Ac a b n) c
end Bz
section
open Bz
def Bz (a:List DK) (b:ByteArray):Option Int:=
Ac a b Bo 0
theorem Gd {a:List DK} {b:ByteArray} {r:Int} (h:Bz a b=some r):Says Tryz.prog 134 [vS 6 G2 a,Ao b] (si r):=by
 refine wO mix Tryz.func134 (I:=⟨nJ,nK,nL⟩) ?_
 simp only[nJ,nK,nL]
 have l1:=λn1 n2 n3 n4:Nat=>BM λn τ=>∃(c:Int),(τ 0=vS 6 G2 a/\τ 1=Ao b/\τ 5=si c)/\Ac a b n c=some r
 unfold Bz at h
 exact walk
end
def lA:IC:=(Ra 0 [.K 2 0,.K 3 0]
(Ra 0 [.K 4 0,.K 5 0,.K 6 0,.K 7 0]
(Sq (Ra 0 [.K 8 0]
(Bl 0 (Sq (Ra 11 [.C 8,.C 0,.Z 12,.O .lss 11 13]
(cX 14 0))
(Sq (Bk 1 (Ra 17 [.C 0,.C 8,.I 6 17 18,.A 6 19,.b 9 [24,28,30,33,35,43,70,72,78,83,91] (.bx 6 (.c (.agg z5))),.S 6 9 20]
(Sq (Ra 21 [.C 0,.C 8,.o (.UM 6 true (.t 21) none (some (.t 22)) none),.f 2 9,.c 134 [23,25] 0,.P .geq 26 0]
(Ci 27 (Rb 28 [.f 1 9,.K 2 4,.M 3 29])))
(Sq (Ra 30 [.f 3 9,.P .gtr 31 4]
(Ci 32 (Rb 33 [.f 1 9,.K 2 2,.M 3 34])))
(Bw 3 (Ra 35 [.f 0 9]
(Bk 2 (Sq (Ra 40 [.q 36 1 39]
(Cn 39 .skip (Rc 41 [.q 36 2 39])))
(Cn 39 (Rc 42 [.C 4,.f 3 9,.o (.mm true (.t 44) (.c (si 1))),.O .add 42 45,.M 4 46]) (Sq (Ra 48 [.q 36 3 47]
(Cn 47 .skip (Rc 49 [.q 36 4 47])))
(Cn 47 (Rc 50 [.C 5,.P .add 50 1,.M 5 51]) (Ra 53 [.q 36 5 52]
(Cn 52 (Rc 54 [.C 6,.P .add 54 1,.M 6 55]) (Rc 37 [.C 7,.P .add 37 1,.M 7 38])))))))))
(Sq (Bw 4 (Rc 56 [.C 4,.P .gtr 56 12,.C 57,.G 58 false,.C 5,.P .gtr 59 4,.e,.V 58 60,.C 61,.G 62 false,.C 6,.P .gtr 63 2,.e,.V 62 64,.C 65,.G 66 false,.C 7,.P .gtr 67 2,.e,.V 66 68])
(Ci 69 (Rb 70 [.f 1 9,.K 2 2,.M 3 71])))
(Ra 72 [.f 0 9,.Q 73 5]
(Ci 74 (Ra 75 [.C 0,.C 8,.o (.UM 6 true (.t 75) none (some (.t 76)) none),.f 5 9,.c 134 [77,79] 0,.M 10 80]
(Sq (Ra 81 [.C 10,.P .lss 81 0]
(Ci 82 (Rb 83 [.f 1 9,.K 2 5,.M 3 84])))
(Ra 85 [.C 0,.C 10,.I 6 85 86,.U 0 87,.P .neq 89 3]
(Ci 90 (Rb 91 [.f 1 9,.K 2 6,.M 3 92])))))))))))))
(Rc 15 [.C 8,.P .add 15 1,.M 8 16])))))
(Rb 0 [.K 2 0,.K 3 0]))))
def lB:Gi:=⟨[(24,[9]),(28,[9]),(30,[9]),(33,[9]),(35,[9]),(43,[9]),(70,[9]),(72,[9]),(78,[9]),(83,[9]),(91,[9])]⟩
def lC:List RV:=[.tmp 2,.tmp 3]
namespace FC
def J6:Option (Int×Int):=
some (0,0)
def J5 (L1:Int->Int->Int->Int->Int->Option (Int×Int)) (b t:Int) (w u v:Int):Option (Int×Int):=
L1 t w u v (BE (b+1))
def J4 (L1:Int->Int->Int->Int->Int->Option (Int×Int)) (j l:Int) (o b:Int) (c:List DK) (p:Int) (a:DK) (q:Bool):Option (Int×Int):=
if q then
some (2,a.D4)
else
if a.Kind==5 then
if 0≤b/\b.toNat≤c.length then
(Bz (c.take b.toNat) a.On).bind λs=>
if decide (s<0)then
some (5,a.D4)
else
(gt c s).bind λaa=>
if aa.Kind != 3 then
some (6,a.D4)
else
J5 L1 b j p l o
else none
else
J5 L1 b j p l o
def J3 (L1:Int->Int->Int->Int->Int->Option (Int×Int)) (b:Int) (c:List DK) (a:DK) (j p:Int) (l o:Int):Option (Int×Int):=
if decide (j>12)then
J4 L1 j l o b c p a true
else
if decide (p>4)then
J4 L1 j l o b c p a true
else
if decide (l>2)then
J4 L1 j l o b c p a true
else
J4 L1 j l o b c p a (decide (o>2))
def J2 (L1:Int->Int->Int->Int->Int->Option (Int×Int)) (d e:Int) (f b:Int) (c:List DK) (i:Int) (a:DK) (y:Bool):Option (Int×Int):=
if y then
J3 L1 b c a d (BE (i+1)) e f
else
if a.Kind==5 then
J3 L1 b c a d i (BE (e+1)) f
else
J3 L1 b c a d i e (BE (f+1))
def J1 (L1:Int->Int->Int->Int->Int->Option (Int×Int)) (d e:Int) (f b:Int) (c:List DK) (i:Int) (a:DK) (x:Bool):Option (Int×Int):=
if x then
J3 L1 b c a (BE (d+(if 1>a.Bn then 1 else a.Bn))) i e f
else
if a.Kind==3 then
J2 L1 d e f b c i a (a.Kind==3)
else
J2 L1 d e f b c i a (a.Kind==4)
def L1 (c:List DK) (L1:Int->Int->Int->Int->Int->Option (Int×Int)) (d i:Int) (e f b:Int):Option (Int×Int):=
if decide (b<(c.length:Int))then
(gt c b).bind λa=>
if 0≤b/\b.toNat≤c.length then
(Bz (c.take b.toNat) a.Name).bind λz=>
if decide (z≥0)then
some (4,a.D4)
else
if decide (a.Bn>4)then
some (2,a.D4)
else
if a.Kind==1 then
J1 L1 d e f b c i a (a.Kind==1)
else
J1 L1 d e f b c i a (a.Kind==2)
else none
else
J6
def Ac (c:List DK):Nat->Int->Int->Int->Int->Int->Option (Int×Int)
|0,_,_,_,_,_=>none
|n+1,d,i,e,f,b=>L1 c (Ac c n) d i e f b
end FC
section
open FC
def FC (c:List DK):Option (Int×Int):=
Ac c Bo 0 0 0 0 0
theorem RA {c:List DK} {r:Int×Int} (h:FC c=some r):Says Tryz.prog 102 [vS 6 G2 c] (.A9 [si r.1,si r.2]):=by
 refine wO mix Tryz.func102 (I:=⟨lA,lB,lC⟩) ?_
 simp only[lA,lB,lC]
 have a1:= @Gd
 have l1:=λn1 n2 n3 n4:Nat=>BM λn τ=>∃(d i e f b:Int),(τ 0=vS 6 G2 c/\τ 4=si d/\τ 5=si i/\τ 6=si e/\τ 7=si f/\τ 8=si b)/\Ac c n d i e f b=some r
 have c4:=λn1 n2 n3 n4:Nat=>B7 4 λτ=>∃(j l o b p:Int) (a:DK) (q:Bool),(τ 0=vS 6 G2 c/\τ 4=si j/\τ 5=si p/\τ 6=si l/\τ 7=si o/\τ 8=si b/\τ 9=bA 6 (G2 a)/\τ 69=sb q)/\J4 (Ac c n1) j l o b c p a q=some r
 have c3:=λn1 n2 n3 n4:Nat=>B7 3 λτ=>∃(b:Int) (a:DK) (j p l o:Int),(τ 0=vS 6 G2 c/\τ 4=si j/\τ 5=si p/\τ 6=si l/\τ 7=si o/\τ 8=si b/\τ 9=bA 6 (G2 a))/\J3 (Ac c n1) b c a j p l o=some r
 unfold FC at h
 exact walk
end
def nM:IC:=(Ra 0 [.K 4 0]
(Sq (Ra 0 [.K 5 0]
(Bl 0 (Sq (Ra 6 [.C 5,.C 0,.Z 7,.O .lss 6 8]
(cX 9 0))
(Sq (Bk 1 (Ra 12 [.C 0,.C 5,.I 4 12 13,.U 0 14,.C 1,.O .eql 16 17]
(Ci 18 (Rb 19 [.C 5,.M 4 19]))))
(Rc 10 [.C 5,.P .add 10 1,.M 5 11])))))
(Rb 0 [.K 4 (-1)])))
def nN:Gi:=⟨[]⟩
def nO:List RV:=[.tmp 4]
namespace Bv
def J1:Option Int:=
some (-1)
def L1 (a:List CA) (b:ByteArray) (L1:Int->Option Int) (c:Int):Option Int:=
if decide (c<(a.length:Int))then
(gt a c).bind λd=>
if d.Name.toList==b.toList then
some c
else
L1 (BE (c+1))
else
J1
def Ac (a:List CA) (b:ByteArray):Nat->Int->Option Int
|0,_=>none
|n+1,c=>L1 a b (Ac a b n) c
end Bv
section
open Bv
def Bv (a:List CA) (b:ByteArray):Option Int:=
Ac a b Bo 0
theorem G9 {a:List CA} {b:ByteArray} {r:Int} (h:Bv a b=some r):Says Tryz.prog 135 [vS 4 GD a,Ao b] (si r):=by
 refine wO mix Tryz.func135 (I:=⟨nM,nN,nO⟩) ?_
 simp only[nM,nN,nO]
 have l1:=λn1 n2 n3 n4:Nat=>BM λn τ=>∃(c:Int),(τ 0=vS 4 GD a/\τ 1=Ao b/\τ 5=si c)/\Ac a b n c=some r
 unfold Bv at h
 exact walk
end
end Go.Abs
