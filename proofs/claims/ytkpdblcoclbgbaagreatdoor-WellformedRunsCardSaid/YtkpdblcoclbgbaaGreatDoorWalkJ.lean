/- Typed programs of Go functions, and that the functions do what these say. -/
import Derived.Test.YtkpdblcoclbgbaaGreatDoorBaseA
import Derived.Test.YtkpdblcoclbgbaaGreatDoorWalkI
import Derived.Test.YtkpdblcoclbgbaaGreatDoorWalkH
import Derived.Test.YtkpdblcoclbgbaaGreatDoorWalkA
import Derived.Test.YtkpdblcoclbgbaaGreatDoorWalkG
import Derived.Shelf.Slices.SearchI
set_option linter.unusedSimpArgs false
set_option linter.unusedVariables false
namespace Go.Abs
open Go.Proofs
set_option maxRecDepth 100000
set_option maxHeartbeats 4000000
def wK:IC:=(Ra 0 [.b 3 [9,11] (.bx 7 (.t 1)),.B 4 false]
(Hl (Ra 9 [.f 5 3,.f 6 3,.o (.Dc [.own false 1 [],.own false 1 []] [(0,1,.t 10),(1,1,.t 12)]),.Y 0]
(Bl 0 (Ra 15 [.P .lss 14 2]
(Sq (cX 15 0)
(Hl (Bk 1 (Hl (Rc 16 [.o (.idx false 2 1 (.t 13) (.t 14)),.M 6 16])
(Ra 17 [.C 6,.Z 17,.Y 0]
(Bl 2 (Ra 20 [.O .lss 19 18]
(Sq (cX 20 2)
(Sq (Bk 3 (Ra 21 [.I 1 17 19,.L 21,.M 8 22]
(Hl (Rc 23 [.C 8,.P .lss 23 0,.C 24,.G 25 false,.C 8,.C 0,.Z 27,.O .geq 26 28,.e,.V 25 29,.C 30,.G 31 false,.C 0,.C 8,.I 1 32 33,.L 34,.N 35,.e,.V 31 36])
(Ci 37 (Rb 0 [.B 4 false])))))
(Rc 38 [.P .add 19 1,.w 19,.C 38]))))))))
(Rc 39 [.P .add 14 1,.w 14,.C 39]))))))
(Rb 0 [.B 4 true])))
def wM:Gi:=⟨[(9,[3]),(11,[3])]⟩
def wN:List RV:=[.tmp 4]
def f15:FI:=⟨wK,wM,wN⟩
theorem vE:I2 Tryz.prog Tryz.f15 f15=true:=by kernel_rfl
namespace Ae
def J4:Option Bool:=
some true
def J3 (L1:Int->Option Bool) (t14v:Int):Option Bool:=
L1 (BE (t14v+1))
def J2 (L2:Int->Option Bool) (t19v:Int) (t37v:Bool):Option Bool:=
if t37v then
some false
else
L2 (BE (t19v+1))
def L2 (L1:Int->Option Bool) (l:List Int) (reads:List Bool) (t14v:Int) (L2:Int->Option Bool) (t19v:Int):Option Bool:=
if decide (t19v<(l.length:Int))then
(gt l t19v).bind λx=>
if decide (x<0)then
J2 L2 t19v true
else
if decide (x≥(reads.length:Int))then
J2 L2 t19v true
else
(gt reads x).bind λx_1=>
J2 L2 t19v (!x_1)
else
J3 L1 t14v
def Da (L1:Int->Option Bool) (l:List Int) (reads:List Bool) (t14v:Int):Nat->Int->Option Bool
|0,_=>none
|n+1,t19v=>L2 L1 l reads t14v (Da L1 l reads t14v n) t19v
def J1 (L1:Int->Option Bool) (reads:List Bool) (t14v:Int) (l:List Int):Option Bool:=
Da L1 l reads t14v Bo 0
def L1 (ev:AN) (reads:List Bool) (L1:Int->Option Bool) (t14v:Int):Option Bool:=
if decide (t14v<2)then
if t14v==0 then
J1 L1 reads t14v ev.Dy
else
if t14v==1 then
J1 L1 reads t14v ev.Db
else
none
else
J4
def Ac (ev:AN) (reads:List Bool):Nat->Int->Option Bool
|0,_=>none
|n+1,t14v=>L1 ev reads (Ac ev reads n) t14v
end Ae
section
open Ae
def Ae (reads:List Bool) (ev:AN):Option Bool:=
Ac ev reads Bo 0
theorem JY {reads:List Bool} {ev:AN} {r:Bool} (h:Ae reads ev=some r):Says Tryz.prog 15 [vS 1 eB reads,.agg (C4 ev)] (sb r):=by
 refine Ij mix Tryz.func15 vE (of_decide_eq_true (by kernel_rfl)) rfl ?_
 simp only[f15,wK,wM,wN]
 try simp +decide only[go_sem, *]
 refine II (λτ=>(True)/\J4=some r) λM4 hM4=>⟨?_,?_⟩
 . try simp +decide only[go_sem, *]
   refine Jc (λn τ=>∃t14v:Int,(τ 0=vS 1 eB reads/\τ 13= .agg [vS 1 eI ev.Dy,vS 1 eI ev.Db]/\τ 14=si t14v)/\Ac ev reads n t14v=some r) ⟨_,?_,h⟩ λn1 τ1 N1=> ?_
   . simp +decide only[go_sem, *]
   rintro⟨t14v,s1,h⟩ hN1
   cases n1 with
   |zero=>exact B9 h
   |succ n1=>
    rw[Ac]at h;generalize hL1:Ac ev reads n1=L1 at h
    try simp +decide only[go_sem, *]
    refine cI h (λ_ h=> ?_) λ_ h=> ?_
    . try simp +decide only[go_sem, *]
      refine II (λτ=>(τ 0=vS 1 eB reads/\τ 13= .agg [vS 1 eI ev.Dy,vS 1 eI ev.Db]/\τ 14=si t14v)/\J3 L1 t14v=some r) λM3 hM3=>⟨?_,?_⟩
      . try simp +decide only[go_sem, *]
        refine II (λτ=>∃l:List Int,(τ 0=vS 1 eB reads/\τ 6=vS 1 eI l/\τ 13= .agg [vS 1 eI ev.Dy,vS 1 eI ev.Db]/\τ 14=si t14v)/\J1 L1 reads t14v l=some r) λM1 hM1=>⟨?_,?_⟩
        . rcases V8 h with⟨e2,h⟩|⟨e2,h⟩
          . obtain rfl:=e2
            try simp +decide only[go_sem, *]
            refine hM1 _ ⟨_,?_,h⟩
            simp +decide only[go_sem, *]
          . obtain rfl:=e2
            try simp +decide only[go_sem, *]
            refine hM1 _ ⟨_,?_,h⟩
            simp +decide only[go_sem, *]
        rintro τ1 ⟨l,s1,h⟩
        try simp +decide only[go_sem, *]
        refine Jc (λn τ=>∃t19v:Int,(τ 0=vS 1 eB reads/\τ 13= .agg [vS 1 eI ev.Dy,vS 1 eI ev.Db]/\τ 14=si t14v/\τ 17=vS 1 eI l/\τ 18=si (l.length:Int)/\τ 19=si t19v)/\Da L1 l reads t14v n t19v=some r) ⟨_,?_,h⟩ λn2 τ2 N2=> ?_
        . simp +decide only[go_sem, *]
        rintro⟨t19v,s2,h⟩ hN2
        cases n2 with
        |zero=>exact B9 h
        |succ n2=>
         rw[Da]at h;generalize hL2:Da L1 l reads t14v n2=L2 at h
         try simp +decide only[go_sem, *]
         refine cI h (λ_ h=> ?_) λ_ h=> ?_
         . obtain⟨x,_,h⟩:=gB h
           try simp +decide only[go_sem, *]
           refine II (λτ=>∃t37v:Bool,(τ 0=vS 1 eB reads/\τ 13= .agg [vS 1 eI ev.Dy,vS 1 eI ev.Db]/\τ 14=si t14v/\τ 17=vS 1 eI l/\τ 18=si (l.length:Int)/\τ 19=si t19v/\τ 37=sb t37v)/\J2 L2 t19v t37v=some r) λM2 hM2=>⟨?_,?_⟩
           . try simp +decide only[go_sem, *]
             refine gI h (λ_ h=> ?_) λ_ h=> ?_
             . try simp +decide only[go_sem, *]
               refine hM2 _ ⟨_,?_,h⟩
               simp +decide only[go_sem, *]
             try simp +decide only[go_sem, *]
             refine gI h (λ_ h=> ?_) λ_ h=> ?_
             . try simp +decide only[go_sem, *]
               refine hM2 _ ⟨_,?_,h⟩
               simp +decide only[go_sem, *]
             obtain⟨x_1,_,h⟩:=gB h
             try simp +decide only[go_sem, *]
             refine hM2 _ ⟨_,?_,h⟩
             simp +decide only[go_sem, *]
           rintro τ2 ⟨t37v,s2,h⟩
           try simp +decide only[go_sem, *]
           refine cI h (λ_ h=> ?_) λ_ h=> ?_
           . obtain rfl:=Option.some.inj h
             simp +decide only[go_sem, *]
           try simp +decide only[go_sem, *]
           refine hN2 n2 (Nat.lt_succ_self _) _ ⟨_,?_,hL2.symm▸h⟩
           simp +decide only[go_sem, *]
         try simp +decide only[go_sem, *]
         refine hM3 _ ⟨?_,h⟩
         simp +decide only[go_sem, *]
      rintro τ3 ⟨s3,h⟩
      try simp +decide only[go_sem, *]
      refine hN1 n1 (Nat.lt_succ_self _) _ ⟨_,?_,hL1.symm▸h⟩
      simp +decide only[go_sem, *]
    try simp +decide only[go_sem, *]
    refine hM4 _ ⟨?_,h⟩
    simp +decide only[go_sem, *]
 rintro τ4 ⟨_,h⟩
 obtain rfl:=Option.some.inj h
 simp +decide only[go_sem, *]
end
def f7c:IC:=(Ra 0 [.b 1 [10,14,18,21,22,26,35] (.bx 7 (.t 0)),.K 2 0,.K 3 0]
(Sq (Ra 10 [.f 6 1,.Z 11,.P .gtr 12 400]
(Ci 13 (Rb 0 [.K 2 0,.K 3 2])))
(Sq (Ra 14 [.F 0 1,.A 6 14,.c 12 [15] 0,.N 16]
(Ci 17 (Rb 0 [.K 2 0,.K 3 1])))
(Ra 18 [.F 0 1,.A 6 18,.c 13 [19] 2,.b 4 [37] (.bx 7 (.c (.agg z1))),.S 7 4 20]
(Ra 21 [.F 0 1,.h 1 4 21,.Z 23,.o (.mk 1 24 [.own false 1 []] (.t 24) (.t 24)),.b 5 [45,48,49,58,61,62,73] (.mv (.t 25))]
(Sq (Ra 26 [.f 6 1,.Z 27,.Y 0]
(Bl 0 (Ra 30 [.O .lss 29 28]
(Sq (cX 30 0)
(Sq (Bk 1 (Ra 31 [.C 29,.I 7 27 29,.A 7 32,.b 7 [46,56,59,63,67] (.bx 7 (.c (.agg z3))),.M 6 31,.S 7 7 33]
(Ra 35 [.F 0 1,.A 6 35,.y 4 (.ld true 7 (.t 4)),.A 7 7,.b 39 [34,40,41] (.call 14 [.t 36,.t 37,.t 38] 2),.w 34,.y 39 (.cp (.t 39)),.w 40,.y 39 (.ext (.t 34) 0),.y 39 (.ext (.t 34) 1),.b 8 [74] (.bx 7 (.c (.agg z1))),.S 7 8 40,.b 9 [42] (.mv (.t 41))]
(Sq (Ra 42 [.y 9 (.cp (.t 9)),.N 42,.C 43,.G 44 false,.y 5 (.cp (.t 5)),.f 0 7,.y 5 (.Lr 1 (.t 45) (.t 47)),.l 5 48,.o (.ld true 7 (.t 7)),.c 15 [49,50] 0,.N 51,.e,.V 44 52]
(Ci 53 (Rb 54 [.C 6,.M 2 54,.K 3 12])))
(Sq (.Vt [(5,0,18,55)] [i0 55 .fl,LQ 56 7 0 7,iL 57 56,i1 58 5 (.cp (.t 5)),LQ 59 7 0 7,iL 60 59,rV 61 5 1 58 60,VD 62 5 61,LQ 63 7 1 7,iL 64 63,iQ 65 64 3,iC 66 65,jFr 67 7 1 7 66 false,jL 68 67 66 false,jP 69 .eql 68 23 66 false,iOr 70 66 69,i0 71 (.Eg 1 [[sb false]] [(0,.t 70)]),i0 72 (.app 1 1 (.t 62) (.t 71)),rV 73 5 1 5 57,iS 1 73 72])
(Rc 74 [.y 8 (.ld true 7 (.t 8)),.S 7 4 74]))))))
(Rc 75 [.P .add 29 1,.w 29,.C 75]))))))
(Rb 0 [.K 2 0,.K 3 0])))))))
def f7g:Gi:=⟨[(10,[1]),(14,[1]),(18,[1]),(21,[1]),(22,[1]),(26,[1]),(34,[39]),(35,[1]),(37,[4]),(40,[39]),(41,[39]),(42,[9]),(45,[5]),(46,[7]),(48,[5]),(49,[5]),(56,[7]),(58,[5]),(59,[7]),(61,[5]),(62,[5]),(63,[7]),(67,[7]),(73,[5]),(74,[8])]⟩
def f7r:List RV:=[.tmp 2,.tmp 3]
namespace BP
def J3:Option (Int×Int):=
some (0,0)
def J2 (L1:AM->(List (List Bool))->Int->Option (Int×Int)) (b:Int) (e:AM×Bool) (j:List (List Bool)):Option (Int×Int):=
L1 e.1 j (BE (b+1))
def J1 (L1:AM->(List (List Bool))->Int->Option (Int×Int)) (c:List (List Bool)) (b:Int) (e:AM×Bool) (d:AN) (l:Bool):Option (Int×Int):=
if l then
some (b,12)
else
(gt c d.Thread).bind λi=>
if d.Kind==3 then
if Aq (i.length+1) 1=true then
J2 L1 b e (c.set d.Thread.toNat (i++[true]))
else none
else
if Aq (i.length+1) 1=true then
J2 L1 b e (c.set d.Thread.toNat (i++[d.Kind==23]))
else none
def L1 (a:EJ) (L1:AM->(List (List Bool))->Int->Option (Int×Int)) (f:AM) (c:List (List Bool)) (b:Int):Option (Int×Int):=
if decide (b<(a.AX.length:Int))then
(gt a.AX b).bind λd=>
(BZ a.World f d).bind λe=>
if !e.2 then
J1 L1 c b e d true
else
(gt c d.Thread).bind λs=>
(Ae s d).bind λq=>
J1 L1 c b e d (!q)
else
J3
def Ac (a:EJ):Nat->AM->(List (List Bool))->Int->Option (Int×Int)
|0,_,_,_=>none
|n+1,f,c,b=>L1 a (Ac a n) f c b
end BP
section
open BP
def BP (a:EJ):Option (Int×Int):=
if decide ((a.AX.length:Int)>400)then
some (0,2)
else
(BJ a.World).bind λo=>
if !o then
some (0,1)
else
(CT a.World).bind λp=>
if 0≤(a.World.AA.length:Int)/\(a.World.AA.length:Int)≤(a.World.AA.length:Int)/\Aq a.World.AA.length 24=true then
Ac a Bo p (List.replicate a.World.AA.length []) 0
else none
theorem Hq {a:EJ} {r:Int×Int} (h:BP a=some r):Says Tryz.prog 7 [.agg (U7 a)] (.A9 [si r.1,si r.2]):=by
 refine wO mix Tryz.func7 (I:=⟨f7c,f7g,f7r⟩) ?_
 simp only[f7c,f7g,f7r]
 have a1:= @Js
 have a2:= @Ll
 have a3:= @Mo
 have a4:= @JY
 have l1:=λn1 n2 n3 n4:Nat=>BM λn τ=>∃(f:AM) (c:List (List Bool)) (b:Int),(τ 1=bA 7 (U7 a)/\τ 4=bA 7 (HL f)/\τ 5=vO 1 Wj c/\τ 27=vS 7 C4 a.AX/\τ 28=si (a.AX.length:Int)/\τ 29=si b)/\Ac a n f c b=some r
 unfold BP at h
 exact walk
end
def f9c:IC:=(Ra 0 [.B 0 false]
(Ra 6 [.o (.Eg 1 [[Ao ⟨#[]⟩]] [(0,.c (Ao ⟨#[116]⟩))]),.o (.Dc kL [(4,1,.t 6)]),.b 1 [9,17] (.bx 6 (.c (.agg kL))),.S 6 1 7]
(Sq (.gz false 1 [(0,5,6)] (.gz false 1 [(0,4,6)] (.gz false 1 [(0,3,6)] (.gz false 1 [(0,2,6)] (.gz false 1 [(0,1,6)] (.gz false 1 [(0,0,6)] (Rc 9 [.y 1 (.ld true 6 (.t 1)),.o (.Dc z3 [(1,1,.c (si 2)),(2,1,.c (si (-1))),(4,1,.c (si (-1)))]),.o (.Eg 7 [z3] [(0,.t 10)]),.o (.Dc uQ [(0,6,.t 9),(6,1,.t 11)]),.c 7 [12] 0,.w 8,.C 13,.w 14,.o (.ext (.t 8) 0),.o (.ext (.t 8) 1),.M 2 14,.M 3 15])))))))
(Ra 17 [.y 1 (.ld true 6 (.t 1)),.o (.Dc z3 [(1,1,.c (si 1)),(2,1,.c (si (-1))),(4,1,.c (si (-1)))]),.o (.Eg 7 [z3] [(0,.t 18)]),.o (.Dc uQ [(0,6,.t 17),(6,1,.t 19)]),.c 7 [20] 0,.w 16,.C 21,.w 22,.o (.ext (.t 16) 0),.o (.ext (.t 16) 1),.M 4 22,.M 5 23]
(Rb 24 [.C 3,.Q 24 12,.C 25,.G 26 true,.C 5,.P .eql 27 0,.e,.W 26 28,.M 0 29])))))
def f9g:Gi:=⟨[(9,[1]),(17,[1])]⟩
def f9r:List RV:=[.tmp 0]
namespace E8
def J1 (a:Bool):Option Bool:=
some a
end E8
section
open E8
def E8:Option Bool:=
(BP (EJ.mk (AB.mk [] [] [] [] [(⟨#[116]⟩:ByteArray)] []) [(AN.mk 0 2 (-1) 0 (-1) [] [])])).bind λb=>
(BP (EJ.mk (AB.mk [] [] [] [] [(⟨#[116]⟩:ByteArray)] []) [(AN.mk 0 1 (-1) 0 (-1) [] [])])).bind λc=>
if b.2==12 then
J1 (c.2==0)
else
J1 false
theorem Qs {r:Bool} (h:E8=some r):Says Tryz.prog 9 [] (sb r):=by
 refine wO mix Tryz.func9 (I:=⟨f9c,f9g,f9r⟩) ?_
 simp only[f9c,f9g,f9r]
 have a1:= @Hq
 unfold E8 at h
 exact walk
end
def f3c:IC:=(Ra 0 [.B 4 false]
(Sq (Ra 7 [.C 0,.Z 7,.P .gtr 8 200,.C 9,.G 10 false,.C 1,.Z 11,.P .gtr 12 200,.e,.V 10 13]
(Ci 14 (Rb 0 [.B 4 true])))
(Ra 16 [.C 0,.C 1,.c 8 [16,17] 3,.c 7 [18] 0,.w 15,.C 19,.w 20,.o (.ext (.t 15) 0),.o (.ext (.t 15) 1),.M 5 20,.M 6 21]
(Rb 22 [.C 5,.Q 22 0,.C 23,.G 24 true,.C 6,.P .eql 25 0,.e,.W 24 26,.C 27,.G 28 true,.c 9 [] 0,.e,.W 28 29,.M 4 30]))))
def f3g:Gi:=⟨[]⟩
def f3r:List RV:=[.tmp 4]
namespace Hc
def J2 (e:Bool):Option Bool:=
some e
def J1 (a b:List Int) (d:Bool):Option Bool:=
if d then
some true
else
(IL a b).bind λf=>
(BP f).bind λc=>
if c.1==0 then
if c.2==0 then
(E8).bind λi=>
J2 i
else
J2 false
else
J2 false
end Hc
section
open Hc
def Hc (a b:List Int):Option Bool:=
if decide ((a.length:Int)>200)then
J1 a b true
else
J1 a b (decide ((b.length:Int)>200))
theorem fP {a b:List Int} {r:Bool} (h:Hc a b=some r):Says Tryz.prog 3 [vS 1 UN a,vS 1 UN b] (sb r):=by
 refine wO mix Tryz.func3 (I:=⟨f3c,f3g,f3r⟩) ?_
 simp only[f3c,f3g,f3r]
 have a1:= @SF
 have a2:= @Hq
 have a3:= @Qs
 unfold Hc at h
 exact walk
end
namespace D1
def J5:Option Bool:=
some true
def J4 (L1:Int->Option Bool) (a:Int):Option Bool:=
L1 (BE (a+1))
def J3 (L1:Int->Option Bool) (a:Int) (s:Bool):Option Bool:=
if !s then
some false
else
J4 L1 a
def J2 (L2:Int->Bool->Int->Option Bool) (f o:Int) (q:Bool):Option Bool:=
L2 o q (BE (f+1))
def J1 (L2:Int->Bool->Int->Option Bool) (f i:Int) (p:Bool):Option Bool:=
J2 L2 f (BE (i+1)) p
def L2 (L1:Int->Option Bool) (c a:Int) (d:List AN) (b:List Int) (e:Int) (L2:Int->Bool->Int->Option Bool) (i:Int) (j:Bool) (f:Int):Option Bool:=
if decide (f<c)then
(gt d f).bind λl=>
if l.Thread != e then
J2 L2 f i j
else
if j then
J1 L2 f i true
else
(gt b a).bind λt=>
if i==t then
if l.Kind==3 then
J1 L2 f i true
else
J1 L2 f i (l.Kind==23)
else
J1 L2 f i false
else
J3 L1 a j
def Da (L1:Int->Option Bool) (c a:Int) (d:List AN) (b:List Int) (e:Int):Nat->Int->Bool->Int->Option Bool
|0,_,_,_=>none
|n+1,i,j,f=>L2 L1 c a d b e (Da L1 c a d b e n) i j f
def L1 (c:Int) (d:List AN) (b:List Int) (e:Int) (L1:Int->Option Bool) (a:Int):Option Bool:=
if decide (a<(b.length:Int))then
Da L1 c a d b e Bo 0 false 0
else
J5
def Ac (c:Int) (d:List AN) (b:List Int) (e:Int):Nat->Int->Option Bool
|0,_=>none
|n+1,a=>L1 c d b e (Ac c d b e n) a
end D1
section
open D1
def D1 (d:List AN) (c e:Int) (b:List Int):Option Bool:=
Ac c d b e Bo 0
end
end Go.Abs
