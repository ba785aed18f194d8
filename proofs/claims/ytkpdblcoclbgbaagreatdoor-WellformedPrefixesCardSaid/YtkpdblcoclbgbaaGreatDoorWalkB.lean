/- Typed programs of Go functions, and that the functions do what these say. -/
import Derived.Test.YtkpdblcoclbgbaaGreatDoorBaseA
import Derived.Shelf.Slices.SearchI
set_option linter.unusedSimpArgs false
set_option linter.unusedVariables false
namespace Go.Abs
open Go.Proofs
set_option maxRecDepth 100000
set_option maxHeartbeats 4000000
def xZ:IC:=(Ra 0 [.b 3 [23] (.bx 6 (.t 0)),.b 4 [76] (.bx 7 (.t 1)),.b 5 [14,18,25,32,38,42,47,49,78] (.bx 7 (.t 2)),.B 6 false]
(Hl (Rc 14 [.f 1 5,.Q 15 3,.C 16,.G 17 false,.f 1 5,.P .eql 19 4,.e,.V 17 20,.C 21,.G 22 true,.f 0 3,.f 2 5,.I 5 24 26,.U 2 27,.P .neq 29 0,.e,.W 22 30,.M 7 31])
(Hl (Rc 32 [.f 1 5,.Q 33 5,.C 34,.G 35 false,.C 7,.e,.V 35 36,.f 1 5,.Q 39 4,.C 40,.G 41 false,.f 1 5,.P .eql 43 22,.e,.V 41 44,.o (.Dc [sb false,sb false] [(0,1,.t 37),(1,1,.t 45)]),.b 8 [61] (.bx 2 (.c (.agg [sb false,sb false]))),.S 2 8 46])
(Hl (Ra 47 [.f 5 5,.f 6 5,.o (.Dc [.own false 1 [],.own false 1 []] [(0,1,.t 48),(1,1,.t 50)]),.Y 0]
(Bl 0 (Ra 53 [.P .lss 52 2]
(Sq (cX 53 0)
(Hl (Bk 1 (Hl (Rc 54 [.C 52,.o (.idx false 2 1 (.t 51) (.t 52)),.M 9 54,.M 10 55])
(Sq (Hl (Rc 56 [.C 10,.Z 56,.P .gtr 57 0,.C 58,.G 59 true,.C 9,.y 8 (.kP 2 1 (.t 8) (.t 60)),.L 61,.N 62,.e,.W 59 63])
(Ci 64 (Rb 0 [.B 6 false])))
(Ra 0 [.K 11 0]
(Ra 65 [.C 10,.Z 65,.Y 0]
(Bl 2 (Ra 68 [.O .lss 67 66]
(Sq (cX 68 2)
(Sq (Bk 3 (Ra 69 [.I 1 65 67,.L 69,.M 13 70]
(Sq (Hl (Rc 71 [.C 13,.C 11,.O .leq 71 72,.C 73,.G 74 false,.C 13,.f 6 4,.f 0 5,.I 1 77 79,.L 80,.O .geq 75 81,.e,.V 74 82])
(Ci 83 (Rb 0 [.B 6 false])))
(Rc 84 [.C 13,.M 11 84]))))
(Rc 85 [.P .add 67 1,.w 67,.C 85]))))))))))
(Rc 86 [.P .add 52 1,.w 52,.C 86]))))))
(Rb 0 [.B 6 true])))))
def x7:Gi:=⟨[(14,[5]),(18,[5]),(23,[3]),(25,[5]),(32,[5]),(38,[5]),(42,[5]),(47,[5]),(49,[5]),(61,[8]),(76,[4]),(78,[5])]⟩
def x8:List RV:=[.tmp 6]
def f31:FI:=⟨xZ,x7,x8⟩
theorem vH:I2 Tryz.prog Tryz.f31 f31=true:=by kernel_rfl
namespace AR
def J7:Option Bool:=
some true
def J6 (L1:Int->Option Bool) (t52v:Int):Option Bool:=
L1 (BE (t52v+1))
def J5 (L2:Int->Int->Option Bool) (t67v x_2:Int) (t83v:Bool):Option Bool:=
if t83v then
some false
else
L2 x_2 (BE (t67v+1))
def L2 (L1:Int->Option Bool) (ev:AN) (l:List Int) (s:AM) (t52v:Int) (L2:Int->Int->Option Bool) (last t67v:Int):Option Bool:=
if decide (t67v<(l.length:Int))then
(gt l t67v).bind λx_2=>
if decide (x_2≤last)then
J5 L2 t67v x_2 true
else
(gt s.Count ev.Thread).bind λx_3=>
J5 L2 t67v x_2 (decide (x_2≥x_3))
else
J6 L1 t52v
def Da (L1:Int->Option Bool) (ev:AN) (l:List Int) (s:AM) (t52v:Int):Nat->Int->Int->Option Bool
|0,_,_=>none
|n+1,last,t67v=>L2 L1 ev l s t52v (Da L1 ev l s t52v n) last t67v
def J4 (L1:Int->Option Bool) (ev:AN) (l:List Int) (s:AM) (t52v:Int) (t64v:Bool):Option Bool:=
if t64v then
some false
else
Da L1 ev l s t52v Bo 0 0
def J3 (L1:Int->Option Bool) (allowed allowed_1:Bool) (ev:AN) (s:AM) (t52v:Int) (l:List Int):Option Bool:=
if decide ((l.length:Int)>0)then
if t52v==0 then
J4 L1 ev l s t52v (!allowed)
else
if t52v==1 then
J4 L1 ev l s t52v (!allowed_1)
else
none
else
J4 L1 ev l s t52v false
def L1 (allowed allowed_1:Bool) (ev:AN) (s:AM) (L1:Int->Option Bool) (t52v:Int):Option Bool:=
if decide (t52v<2)then
if t52v==0 then
J3 L1 allowed allowed_1 ev s t52v ev.Dy
else
if t52v==1 then
J3 L1 allowed allowed_1 ev s t52v ev.Db
else
none
else
J7
def Ac (allowed allowed_1:Bool) (ev:AN) (s:AM):Nat->Int->Option Bool
|0,_=>none
|n+1,t52v=>L1 allowed allowed_1 ev s (Ac allowed allowed_1 ev s n) t52v
def J2 (ev:AN) (s:AM) (allowed allowed_1:Bool):Option Bool:=
Ac allowed allowed_1 ev s Bo 0
def J1 (ev:AN) (s:AM) (element:Bool):Option Bool:=
if ev.Kind==5 then
if ev.Kind==4 then
J2 ev s true true
else
J2 ev s true (ev.Kind==22)
else
if ev.Kind==4 then
J2 ev s element true
else
J2 ev s element (ev.Kind==22)
end AR
section
open AR
def AR (wv:AB) (s:AM) (ev:AN):Option Bool:=
if ev.Kind==3 then
(gt wv.Cells ev.Obj).bind λx=>
J1 ev s (x.Bn != 0)
else
if ev.Kind==4 then
(gt wv.Cells ev.Obj).bind λx_1=>
J1 ev s (x_1.Bn != 0)
else
J1 ev s false
theorem Iv {wv:AB} {s:AM} {ev:AN} {r:Bool} (h:AR wv s ev=some r):Says Tryz.prog 31 [.agg (Ap wv),.agg (Cz s),.agg (C4 ev)] (sb r):=by
 refine Ij mix Tryz.func31 vH (of_decide_eq_true (by kernel_rfl)) rfl ?_
 simp only[f31,xZ,x7,x8]
 try simp +decide only[go_sem, *]
 refine II (λτ=>∃element:Bool,(τ 4=bA 7 (Cz s)/\τ 5=bA 7 (C4 ev)/\τ 7=sb element)/\J1 ev s element=some r) λM1 hM1=>⟨?_,?_⟩
 . try simp +decide only[go_sem, *]
   refine gI h (λ_ h=> ?_) λ_ h=> ?_
   . obtain⟨x,_,h⟩:=gB h
     try simp +decide only[go_sem, *]
     refine hM1 _ ⟨_,?_,h⟩
     simp +decide only[go_sem, *]
   try simp +decide only[go_sem, *]
   refine gI h (λ_ h=> ?_) λ_ h=> ?_
   . obtain⟨x_1,_,h⟩:=gB h
     try simp +decide only[go_sem, *]
     refine hM1 _ ⟨_,?_,h⟩
     simp +decide only[go_sem, *]
   try simp +decide only[go_sem, *]
   refine hM1 _ ⟨_,?_,h⟩
   simp +decide only[go_sem, *]
 rintro τ1 ⟨element,s1,h⟩
 try simp +decide only[go_sem, *]
 refine II (λτ=>∃allowed:Bool,∃allowed_1:Bool,(τ 4=bA 7 (Cz s)/\τ 5=bA 7 (C4 ev)/\τ 8=bA 2 [sb allowed,sb allowed_1])/\J2 ev s allowed allowed_1=some r) λM2 hM2=>⟨?_,?_⟩
 . try simp +decide only[go_sem, *]
   refine gI h (λ_ h=> ?_) λ_ h=> ?_
   . try simp +decide only[go_sem, *]
     refine gI h (λ_ h=> ?_) λ_ h=> ?_
     . try simp +decide only[go_sem, *]
       refine hM2 _ ⟨_,_,?_,h⟩
       simp +decide only[go_sem, *]
     try simp +decide only[go_sem, *]
     refine hM2 _ ⟨_,_,?_,h⟩
     simp +decide only[go_sem, *]
   try simp +decide only[go_sem, *]
   refine gI h (λ_ h=> ?_) λ_ h=> ?_
   . try simp +decide only[go_sem, *]
     refine hM2 _ ⟨_,_,?_,h⟩
     simp +decide only[go_sem, *]
   try simp +decide only[go_sem, *]
   refine hM2 _ ⟨_,_,?_,h⟩
   simp +decide only[go_sem, *]
 rintro τ2 ⟨allowed,allowed_1,s2,h⟩
 try simp +decide only[go_sem, *]
 refine II (λτ=>(True)/\J7=some r) λM7 hM7=>⟨?_,?_⟩
 . try simp +decide only[go_sem, *]
   refine Jc (λn τ=>∃t52v:Int,(τ 4=bA 7 (Cz s)/\τ 5=bA 7 (C4 ev)/\τ 8=bA 2 [sb allowed,sb allowed_1]/\τ 51= .agg [vS 1 eI ev.Dy,vS 1 eI ev.Db]/\τ 52=si t52v)/\Ac allowed allowed_1 ev s n t52v=some r) ⟨_,?_,h⟩ λn1 τ1 N1=> ?_
   . simp +decide only[go_sem, *]
   rintro⟨t52v,s1,h⟩ hN1
   cases n1 with
   |zero=>exact B9 h
   |succ n1=>
    rw[Ac]at h;generalize hL1:Ac allowed allowed_1 ev s n1=L1 at h
    try simp +decide only[go_sem, *]
    refine cI h (λ_ h=> ?_) λ_ h=> ?_
    . try simp +decide only[go_sem, *]
      refine II (λτ=>(τ 4=bA 7 (Cz s)/\τ 5=bA 7 (C4 ev)/\τ 8=bA 2 [sb allowed,sb allowed_1]/\τ 51= .agg [vS 1 eI ev.Dy,vS 1 eI ev.Db]/\τ 52=si t52v)/\J6 L1 t52v=some r) λM6 hM6=>⟨?_,?_⟩
      . try simp +decide only[go_sem, *]
        refine II (λτ=>∃l:List Int,(τ 4=bA 7 (Cz s)/\τ 5=bA 7 (C4 ev)/\τ 8=bA 2 [sb allowed,sb allowed_1]/\τ 9=si t52v/\τ 10=vS 1 eI l/\τ 51= .agg [vS 1 eI ev.Dy,vS 1 eI ev.Db]/\τ 52=si t52v)/\J3 L1 allowed allowed_1 ev s t52v l=some r) λM3 hM3=>⟨?_,?_⟩
        . rcases V8 h with⟨e7,h⟩|⟨e7,h⟩
          . obtain rfl:=e7
            try simp +decide only[go_sem, *]
            refine hM3 _ ⟨_,?_,h⟩
            simp +decide only[go_sem, *]
          . obtain rfl:=e7
            try simp +decide only[go_sem, *]
            refine hM3 _ ⟨_,?_,h⟩
            simp +decide only[go_sem, *]
        rintro τ3 ⟨l,s3,h⟩
        try simp +decide only[go_sem, *]
        refine II (λτ=>∃t64v:Bool,(τ 4=bA 7 (Cz s)/\τ 5=bA 7 (C4 ev)/\τ 8=bA 2 [sb allowed,sb allowed_1]/\τ 10=vS 1 eI l/\τ 51= .agg [vS 1 eI ev.Dy,vS 1 eI ev.Db]/\τ 52=si t52v/\τ 64=sb t64v)/\J4 L1 ev l s t52v t64v=some r) λM4 hM4=>⟨?_,?_⟩
        . try simp +decide only[go_sem, *]
          refine gI h (λ_ h=> ?_) λ_ h=> ?_
          . rcases V8 h with⟨e9,h⟩|⟨e9,h⟩
            . obtain rfl:=e9
              try simp +decide only[go_sem, *]
              refine hM4 _ ⟨_,?_,h⟩
              simp +decide only[go_sem, *]
            . obtain rfl:=e9
              try simp +decide only[go_sem, *]
              refine hM4 _ ⟨_,?_,h⟩
              simp +decide only[go_sem, *]
          try simp +decide only[go_sem, *]
          refine hM4 _ ⟨_,?_,h⟩
          simp +decide only[go_sem, *]
        rintro τ4 ⟨t64v,s4,h⟩
        try simp +decide only[go_sem, *]
        refine cI h (λ_ h=> ?_) λ_ h=> ?_
        . obtain rfl:=Option.some.inj h
          simp +decide only[go_sem, *]
        try simp +decide only[go_sem, *]
        refine Jc (λn τ=>∃last:Int,∃t67v:Int,(τ 4=bA 7 (Cz s)/\τ 5=bA 7 (C4 ev)/\τ 8=bA 2 [sb allowed,sb allowed_1]/\τ 11=si last/\τ 51= .agg [vS 1 eI ev.Dy,vS 1 eI ev.Db]/\τ 52=si t52v/\τ 65=vS 1 eI l/\τ 66=si (l.length:Int)/\τ 67=si t67v)/\Da L1 ev l s t52v n last t67v=some r) ⟨_,_,?_,h⟩ λn2 τ2 N2=> ?_
        . simp +decide only[go_sem, *]
        rintro⟨last,t67v,s2,h⟩ hN2
        cases n2 with
        |zero=>exact B9 h
        |succ n2=>
         rw[Da]at h;generalize hL2:Da L1 ev l s t52v n2=L2 at h
         try simp +decide only[go_sem, *]
         refine cI h (λ_ h=> ?_) λ_ h=> ?_
         . obtain⟨x_2,_,h⟩:=gB h
           try simp +decide only[go_sem, *]
           refine II (λτ=>∃t83v:Bool,(τ 4=bA 7 (Cz s)/\τ 5=bA 7 (C4 ev)/\τ 8=bA 2 [sb allowed,sb allowed_1]/\τ 13=si x_2/\τ 51= .agg [vS 1 eI ev.Dy,vS 1 eI ev.Db]/\τ 52=si t52v/\τ 65=vS 1 eI l/\τ 66=si (l.length:Int)/\τ 67=si t67v/\τ 83=sb t83v)/\J5 L2 t67v x_2 t83v=some r) λM5 hM5=>⟨?_,?_⟩
           . try simp +decide only[go_sem, *]
             refine gI h (λ_ h=> ?_) λ_ h=> ?_
             . try simp +decide only[go_sem, *]
               refine hM5 _ ⟨_,?_,h⟩
               simp +decide only[go_sem, *]
             obtain⟨x_3,_,h⟩:=gB h
             try simp +decide only[go_sem, *]
             refine hM5 _ ⟨_,?_,h⟩
             simp +decide only[go_sem, *]
           rintro τ5 ⟨t83v,s5,h⟩
           try simp +decide only[go_sem, *]
           refine cI h (λ_ h=> ?_) λ_ h=> ?_
           . obtain rfl:=Option.some.inj h
             simp +decide only[go_sem, *]
           try simp +decide only[go_sem, *]
           refine hN2 n2 (Nat.lt_succ_self _) _ ⟨_,_,?_,hL2.symm▸h⟩
           simp +decide only[go_sem, *]
         try simp +decide only[go_sem, *]
         refine hM6 _ ⟨?_,h⟩
         simp +decide only[go_sem, *]
      rintro τ6 ⟨s6,h⟩
      try simp +decide only[go_sem, *]
      refine hN1 n1 (Nat.lt_succ_self _) _ ⟨_,?_,hL1.symm▸h⟩
      simp +decide only[go_sem, *]
    try simp +decide only[go_sem, *]
    refine hM7 _ ⟨?_,h⟩
    simp +decide only[go_sem, *]
 rintro τ7 ⟨_,h⟩
 obtain rfl:=Option.some.inj h
 simp +decide only[go_sem, *]
end
def x9:IC:=(Ra 0 [.b 2 [18,29,51,52,92,93] (.bx 7 (.t 0)),.b 3 [12,16,20,27,31,38,42,66,74,85,106,113,117] (.bx 7 (.t 1)),.B 4 false]
(Sq (Ra 12 [.f 1 3]
(Bk 0 (Ra 15 [.q 13 3 14]
(Cn 14 (Rb 16 [.f 3 3,.f 4 2,.f 2 3,.I 1 19 21,.L 22,.O .eql 17 23,.M 4 24]) (Ra 26 [.q 13 23 25]
(Cn 25 (Rb 27 [.f 3 3,.f 5 2,.f 2 3,.I 1 30 32,.L 33,.O .eql 28 34,.M 4 35]) (Ra 37 [.q 13 5 36]
(Cn 36 (Rb 38 [.f 3 3,.Q 39 0,.C 40,.G 41 false,.f 3 3,.P .eql 43 1,.e,.V 41 44,.M 4 45]) (Bw 2 (Ra 47 [.q 13 4 46]
(Cn 46 .skip (Rc 48 [.q 13 22 46])))
(Cn 46 (Rb 0 [.B 4 true]) (Ra 50 [.q 13 18 49]
(Cn 49 (Ra 0 [.K 5 0,.B 6 false]
(Sq (Ra 51 [.F 0 2,.h 2 3 51,.Z 53,.Y 0]
(Bl 1 (Ra 56 [.O .lss 55 54]
(Sq (cX 56 1)
(Sq (Bk 2 (Ra 57 [.C 55,.I 3 53 55,.A 3 58,.b 8 [60,64] (.bx 3 (.c (.agg fD))),.M 7 57,.S 3 8 59]
(Ra 60 [.f 0 8,.Q 61 3,.C 62,.G 63 true,.f 1 8,.f 2 3,.O .eql 65 67,.e,.W 63 68]
(Ci 69 (Ra 70 [.C 5,.P .add 70 1,.M 5 71]
(Rc 72 [.C 6,.C 72,.G 73 false,.f 3 3,.C 7,.O .eql 75 76,.e,.V 73 77,.M 6 78]))))))
(Rc 79 [.P .add 55 1,.w 55,.C 79]))))))
(Rb 80 [.C 6,.C 80,.G 81 false,.C 5,.P .eql 82 0,.C 83,.G 84 true,.f 3 3,.P .eql 86 (-1),.G 81 false,.o (.pick (.t 84) (.t 87) (.c (sb false))),.e,.V 81 88,.M 4 89]))) (Ra 91 [.q 13 19 90]
(Ci 90 (Ra 0 [.K 9 0]
(Sq (Ra 92 [.F 0 2,.h 2 3 92,.Z 94,.Y 0]
(Bl 3 (Ra 97 [.O .lss 96 95]
(Sq (cX 97 3)
(Sq (Bk 4 (Ra 98 [.I 3 94 96,.A 3 98,.b 11 [100,104] (.bx 3 (.c (.agg fD))),.S 3 11 99]
(Ra 100 [.f 0 11,.Q 101 3,.C 102,.G 103 true,.f 1 11,.f 2 3,.O .eql 105 107,.e,.W 103 108]
(Ci 109 (Rc 110 [.C 9,.P .add 110 1,.M 9 111])))))
(Rc 112 [.P .add 96 1,.w 96,.C 112]))))))
(Rb 113 [.f 3 3,.C 9,.O .eql 114 115,.M 4 116])))))))))))))))))
(Rb 117 [.f 3 3,.q 118 0 4])))
def yA:Gi:=⟨[(12,[3]),(16,[3]),(18,[2]),(20,[3]),(27,[3]),(29,[2]),(31,[3]),(38,[3]),(42,[3]),(51,[2]),(52,[2]),(60,[8]),(64,[8]),(66,[3]),(74,[3]),(85,[3]),(92,[2]),(93,[2]),(100,[11]),(104,[11]),(106,[3]),(113,[3]),(117,[3])]⟩
def yB:List RV:=[.tmp 4]
namespace Am
def Oj (a:AN):Option Bool:=
some (a.Value==0)
def J1 (q:Bool):Option Bool:=
some q
def J6 (s:Bool):Option Bool:=
some s
def J5 (a:AN) (v:Int) (z:Bool):Option Bool:=
if z then
J6 true
else
if v==0 then
J6 (a.Value==(-1))
else
J6 false
def J4 (L1:Int->Bool->Int->Option Bool) (c u:Int) (y:Bool):Option Bool:=
L1 u y (BE (c+1))
def J3 (L1:Int->Bool->Int->Option Bool) (a:AN) (c e:Int) (i t:Bool):Option Bool:=
if t then
if i then
J4 L1 c (BE (e+1)) true
else
J4 L1 c (BE (e+1)) (a.Value==c)
else
J4 L1 c e i
def L1 (a:AN) (b:AM) (L1:Int->Bool->Int->Option Bool) (e:Int) (i:Bool) (c:Int):Option Bool:=
if decide (c<(b.Sync.AA.length:Int))then
(gt b.Sync.AA c).bind λl=>
if l.Status==3 then
J3 L1 a c e i (l.Ef==a.Obj)
else
J3 L1 a c e i false
else
J5 a e i
def Ac (a:AN) (b:AM):Nat->Int->Bool->Int->Option Bool
|0,_,_,_=>none
|n+1,e,i,c=>L1 a b (Ac a b n) e i c
def J9 (a:AN) (x:Int):Option Bool:=
some (a.Value==x)
def J8 (L2:Int->Int->Option Bool) (d w:Int):Option Bool:=
L2 w (BE (d+1))
def J7 (L2:Int->Int->Option Bool) (d f:Int) (p:Bool):Option Bool:=
if p then
J8 L2 d (BE (f+1))
else
J8 L2 d f
def L2 (a:AN) (b:AM) (L2:Int->Int->Option Bool) (f d:Int):Option Bool:=
if decide (d<(b.Sync.AA.length:Int))then
(gt b.Sync.AA d).bind λo=>
if o.Status==3 then
J7 L2 d f (o.Ef==a.Obj)
else
J7 L2 d f false
else
J9 a f
def Da (a:AN) (b:AM):Nat->Int->Int->Option Bool
|0,_,_=>none
|n+1,f,d=>L2 a b (Da a b n) f d
def J2 (a:AN) (b:AM) (j:Bool):Option Bool:=
if j then
some true
else
if a.Kind==18 then
Ac a b Bo 0 false 0
else
if a.Kind==19 then
Da a b Bo 0 0
else
Oj a
end Am
section
open Am
def Am (b:AM) (a:AN):Option Bool:=
if a.Kind==3 then
(gt b.Cells a.Obj).bind λaa=>
some (a.Value==aa)
else
if a.Kind==23 then
(gt b.AH a.Obj).bind λab=>
some (a.Value==ab)
else
if a.Kind==5 then
if a.Value==0 then
J1 true
else
J1 (a.Value==1)
else
if a.Kind==4 then
J2 a b (a.Kind==4)
else
J2 a b (a.Kind==22)
theorem Ky {b:AM} {a:AN} {r:Bool} (h:Am b a=some r):Says Tryz.prog 32 [.agg (Cz b),.agg (C4 a)] (sb r):=by
 refine wO mix Tryz.func32 (I:=⟨x9,yA,yB⟩) ?_
 simp only[x9,yA,yB]
 have l1:=λn1 n2 n3 n4:Nat=>BM λn τ=>∃(e:Int) (i:Bool) (c:Int),(τ 3=bA 7 (C4 a)/\τ 5=si e/\τ 6=sb i/\τ 53=vS 3 A2 b.Sync.AA/\τ 54=si (b.Sync.AA.length:Int)/\τ 55=si c)/\Ac a b n e i c=some r
 have l2:=λn1 n2 n3 n4:Nat=>BM λn τ=>∃(f d:Int),(τ 3=bA 7 (C4 a)/\τ 9=si f/\τ 94=vS 3 A2 b.Sync.AA/\τ 95=si (b.Sync.AA.length:Int)/\τ 96=si d)/\Da a b n f d=some r
 have c2:=λn1 n2 n3 n4:Nat=>B7 2 λτ=>∃(j:Bool),(τ 2=bA 7 (Cz b)/\τ 3=bA 7 (C4 a)/\τ 13=si a.Kind/\τ 46=sb j)/\J2 a b j=some r
 unfold Am at h
 exact walk
end
def yI:IC:=(.seq (.TO [⟨some ⟨2,[],[]⟩,.mv (.c (.own false 1 [])),none⟩])
(.seq (.seq (.Z1 [.o ⟨some ⟨3,[],[]⟩,.cp (.t 0),none⟩,
.Ty ⟨4,[],[]⟩ false (.t 3)])
(.cond (.t 4) (.seq (.TO [⟨some ⟨2,[],[]⟩,.mv (.c (.own false 1 [])),none⟩])
.ret) .skip))
(.seq (.TO [⟨some ⟨5,[],[]⟩,.Eg 1 [] [],none⟩,
⟨some ⟨6,[],[]⟩,.cp (.t 0),none⟩,
⟨some ⟨7,[],[]⟩,.app 1 8 (.t 5) (.t 6),none⟩,
⟨some ⟨2,[],[]⟩,.mv (.t 7),none⟩])
.ret)))
def yJ:Gi:=⟨[]⟩
def yK:List RV:=[.tmp 2]
def f35:FI:=⟨yI,yJ,yK⟩
theorem vJ:I2 Tryz.prog Tryz.f35 f35=true:=by kernel_rfl
def slices_Clone_int (l:List Int):Option (List Int):=if Aq l.length 8=true then some l else none
theorem Hp {l:List Int} {r:List Int} (h:slices_Clone_int l=some r):Says Tryz.prog 35 [vS 1 eI l] (vO 1 eI r):=by
  obtain⟨g,h⟩:=HZ h
  obtain rfl:=Option.some.inj h
  refine Ij mix Tryz.func35 vJ (of_decide_eq_true (by kernel_rfl)) rfl ?_
  simp only[f35,yI,yJ,yK]
  simp +decide only[go_sem,g]
  intro b hb
  cases b with
  |true=>
    have hl:l=[]:=by simpa using hb rfl
    subst hl
    simp +decide only[go_sem,g]
  |false=>simp +decide only[go_sem,g]
def ABg:IC:=(.seq (.TO [⟨some ⟨2,[],[]⟩,.mv (.c (.own false 1 [])),none⟩])
(.seq (.seq (.Z1 [.o ⟨some ⟨3,[],[]⟩,.cp (.t 0),none⟩,
.Ty ⟨4,[],[]⟩ false (.t 3)])
(.cond (.t 4) (.seq (.TO [⟨some ⟨2,[],[]⟩,.mv (.c (.own false 1 [])),none⟩])
.ret) .skip))
(.seq (.TO [⟨some ⟨5,[],[]⟩,.Eg 1 [] [],none⟩,
⟨some ⟨6,[],[]⟩,.cp (.t 0),none⟩,
⟨some ⟨7,[],[]⟩,.app 1 1 (.t 5) (.t 6),none⟩,
⟨some ⟨2,[],[]⟩,.mv (.t 7),none⟩])
.ret)))
def ABh:Gi:=⟨[]⟩
def ABi:List RV:=[.tmp 2]
def f89:FI:=⟨ABg,ABh,ABi⟩
theorem vR:I2 Tryz.prog Tryz.f89 f89=true:=by kernel_rfl
def HD (l:List Bool):Option (List Bool):=if Aq l.length 1=true then some l else none
theorem Ks {l:List Bool} {r:List Bool} (h:HD l=some r):Says Tryz.prog 89 [vS 1 eB l] (vO 1 eB r):=by
  obtain⟨g,h⟩:=HZ h
  obtain rfl:=Option.some.inj h
  refine Ij mix Tryz.func89 vR (of_decide_eq_true (by kernel_rfl)) rfl ?_
  simp only[f89,ABg,ABh,ABi]
  simp +decide only[go_sem,g]
  intro b hb
  cases b with
  |true=>
    have hl:l=[]:=by simpa using hb rfl
    subst hl
    simp +decide only[go_sem,g]
  |false=>simp +decide only[go_sem,g]
end Go.Abs
