/- Typed programs of Go functions, and that the functions do what these say. -/
import Derived.Test.YtkpdblcoclbgbaaGreatDoorBaseA
import Derived.Test.YtkpdblcoclbgbaaGreatDoorWalkN
import Derived.Test.YtkpdblcoclbgbaaGreatDoorWalkU
import Derived.Shelf.Slices.SearchI
set_option linter.unusedSimpArgs false
set_option linter.unusedVariables false
namespace Go.Abs
open Go.Proofs
set_option maxRecDepth 100000
set_option maxHeartbeats 4000000
def f8c:IC:=(Ra 4 [.o (.bx 7 (.c (.agg uQ)))]
(Ra 8 [.C 0,.c 17 [8] 1,.C 1,.c 18 [10] 1,.b 12 [7,13,14] (.call 16 [.t 9,.t 11] 3),.w 7,.y 12 (.cp (.t 12)),.w 13,.y 12 (.ext (.t 7) 0),.y 12 (.ext (.t 7) 1),.b 5 [15] (.bx 7 (.c (.agg uQ))),.w 6,.o (.bx 7 (.c (.agg z2))),.S 7 5 13,.S 7 6 14]
(Rb 15 [.y 5 (.ld true 7 (.t 5)),.S 7 4 15])))
def f8g:Gi:=⟨[(7,[12]),(13,[12]),(14,[12]),(15,[5])]⟩
def f8r:List RV:=[.cell 4 true 7]
def IL (a b:List Int):Option EJ:=
(I4 a).bind λc=>
(DP b).bind λd=>
(Ix c d).bind λe=>
some e.1
theorem SF {a b:List Int} {r:EJ} (h:IL a b=some r):Says Tryz.prog 8 [vS 1 UN a,vS 1 UN b] (.agg (Rn r)):=by
 refine wO mix Tryz.func8 (I:=⟨f8c,f8g,f8r⟩) ?_
 simp only[f8c,f8g,f8r]
 have a1:= @Tw
 have a2:= @PM
 have a3:= @T6
 unfold IL at h
 exact walk
def xB:IC:=(Ra 2 [.o (.mv (.c (.own false 1 []))),.B 3 false]
(Ra 0 [.b 4 [16,70] (.mv (.c (.own false 1 [])))]
(Sq (Ra 0 [.K 5 0]
(Bl 0 (Sq (Ra 8 [.C 5,.C 0,.Z 9,.O .lss 8 10]
(cX 11 0))
(Bk 1 (Ra 12 [.C 0,.C 5,.I 5 12 13,.A 5 14,.b 6 [17,21,24,29,33,38,42,50,56,67] (.bx 5 (.c (.agg sX))),.S 5 6 15]
(Ra 16 [.y 4 (.cp (.t 4)),.f 0 6,.o (.Eg 1 [[Ao ⟨#[]⟩]] [(0,.t 18)]),.o (.app 1 16 (.t 16) (.t 19)),.b 4 [16,70] (.mv (.t 20))]
(Sq (Ra 21 [.f 2 6,.Q 22 0]
(Ci 23 (Sq (Ra 24 [.f 1 6,.P .neq 25 0]
(Ci 26 (Rb 2 [.o (.mv (.c (.own false 1 []))),.B 3 false])))
(Ra 27 [.C 5,.P .add 27 1,.M 5 28]
(.exit 1)))))
(Sq (Bw 1 (Rc 29 [.f 2 6,.P .lss 30 1,.C 31,.G 32 false,.f 2 6,.P .gtr 34 4,.e,.V 32 35,.C 36,.G 37 false,.f 3 6,.e,.V 37 39,.C 40,.G 41 false,.f 2 6,.C 0,.Z 44,.C 5,.O .sub 45 46,.O .gtr 43 47,.e,.V 41 48])
(Ci 49 (Rb 2 [.o (.mv (.c (.own false 1 []))),.B 3 false])))
(Sq (Ra 50 [.f 2 6,.Y 0]
(Bl 2 (Ra 53 [.O .lss 52 51]
(Sq (cX 53 2)
(Sq (Bk 3 (Ra 54 [.C 52,.M 7 54]
(Ra 55 [.C 7,.F 1 6,.S 1 56 55]
(Ra 57 [.C 0,.C 5,.C 7,.O .add 58 59,.I 5 57 60,.A 5 61,.A 5 6,.o (.Vm true [2,1,1,0,1] (.t 62) (.t 63))]
(Ci 64 (Rb 2 [.o (.mv (.c (.own false 1 []))),.B 3 false]))))))
(Rc 65 [.P .add 52 1,.w 52,.C 65]))))))
(Rc 66 [.C 5,.f 2 6,.O .add 66 68,.M 5 69]))))))))))
(Rb 70 [.y 4 (.cp (.t 4)),.M 2 70,.B 3 true]))))
def xC:Gi:=⟨[(16,[4]),(17,[6]),(21,[6]),(24,[6]),(29,[6]),(33,[6]),(38,[6]),(42,[6]),(50,[6]),(56,[6]),(67,[6]),(70,[4])]⟩
def xD:List RV:=[.tmp 2,.tmp 3]
namespace AP
def J3 (l:List ByteArray):Option ((List ByteArray)×Bool):=
some (l,true)
def J2 (L1:(List ByteArray)->Int->Option ((List ByteArray)×Bool)) (c:Int) (d:List ByteArray) (b o:DJ):Option ((List ByteArray)×Bool):=
L1 (d++[b.Name]) (BE (c+o.Bn))
def L2 (L1:(List ByteArray)->Int->Option ((List ByteArray)×Bool)) (c:Int) (a:List DJ) (d:List ByteArray) (b:DJ) (L2:DJ->Int->Option ((List ByteArray)×Bool)) (e:DJ) (f:Int):Option ((List ByteArray)×Bool):=
if decide (f<b.Bn)then
(gt a (BE (c+f))).bind λi=>
if !(i.Name.toList==e.Name.toList&&(i.Index==f&&(i.Bn==e.Bn&&(i.E0==e.E0&&(i.Init==e.Init)))))then
some ([],false)
else
L2 (DJ.mk e.Name f e.Bn e.E0 e.Init) (BE (f+1))
else
J2 L1 c d b e
def Da (L1:(List ByteArray)->Int->Option ((List ByteArray)×Bool)) (c:Int) (a:List DJ) (d:List ByteArray) (b:DJ):Nat->DJ->Int->Option ((List ByteArray)×Bool)
|0,_,_=>none
|n+1,e,f=>L2 L1 c a d b (Da L1 c a d b n) e f
def J1 (L1:(List ByteArray)->Int->Option ((List ByteArray)×Bool)) (c:Int) (a:List DJ) (d:List ByteArray) (b:DJ) (j:Bool):Option ((List ByteArray)×Bool):=
if j then
some ([],false)
else
Da L1 c a d b Bo b 0
def L1 (a:List DJ) (L1:(List ByteArray)->Int->Option ((List ByteArray)×Bool)) (d:List ByteArray) (c:Int):Option ((List ByteArray)×Bool):=
if decide (c<(a.length:Int))then
(gt a c).bind λb=>
if Aq (d.length+1) 16=true then
if b.Bn==0 then
if b.Index != 0 then
some ([],false)
else
L1 (d++[b.Name]) (BE (c+1))
else
if decide (b.Bn<1)then
J1 L1 c a d b true
else
if decide (b.Bn>4)then
J1 L1 c a d b true
else
if b.E0 then
J1 L1 c a d b true
else
J1 L1 c a d b (decide (b.Bn>(BE ((a.length:Int)-c))))
else none
else
J3 d
def Ac (a:List DJ):Nat->(List ByteArray)->Int->Option ((List ByteArray)×Bool)
|0,_,_=>none
|n+1,d,c=>L1 a (Ac a n) d c
end AP
section
open AP
def AP (a:List DJ):Option ((List ByteArray)×Bool):=
Ac a Bo [] 0
theorem Jt {a:List DJ} {r:(List ByteArray)×Bool} (h:AP a=some r):Says Tryz.prog 23 [vS 5 Fg a] (.A9 [vO 1 eS r.1,sb r.2]):=by
 refine wO mix Tryz.func23 (I:=⟨xB,xC,xD⟩) ?_
 simp only[xB,xC,xD]
 have l1:=λn1 n2 n3 n4:Nat=>BM λn τ=>∃(d:List ByteArray) (c:Int),(τ 0=vS 5 Fg a/\τ 4=vO 1 eS d/\τ 5=si c)/\Ac a n d c=some r
 have l2:=λn1 n2 n3 n4:Nat=>BM λn τ=>∃(c:Int) (d:List ByteArray) (b e:DJ) (f:Int),(τ 0=vS 5 Fg a/\τ 4= .own false 1 ((d++[b.Name]).map eS)/\τ 5=si c/\τ 6=bA 5 (Fg e)/\τ 51=si b.Bn/\τ 52=si f)/\Da (Ac a n1) c a d b n e f=some r
 have c1:=λn1 n2 n3 n4:Nat=>B7 1 λτ=>∃(c:Int) (d:List ByteArray) (b:DJ) (j:Bool),(τ 0=vS 5 Fg a/\τ 4= .own false 1 ((d++[b.Name]).map eS)/\τ 5=si c/\τ 6=bA 5 (Fg b)/\τ 49=sb j)/\J1 (Ac a n1) c a d b j=some r
 unfold AP at h
 exact walk
end
def ABa:IC:=(Ra 0 [.B 2 false]
(Sq (Sq (.Z1 [.uA ⟨5,[],[]⟩ 0 22,.o (iU 6 0)])
(Bl 0 (Ra 7 [.P .lss 6 22]
(Sq (cX 7 0)
(Sq (Bk 1 (Ra 8 [.o (.idx false 22 1 (.t 5) (.t 6)),.M 4 8]
(Ra 9 [.C 0,.C 4,.O .eql 9 10]
(Ci 11 (Rb 0 [.B 2 true])))))
(Rc 12 [.P .add 6 1,.w 6,.C 12]))))))
(Rb 0 [.B 2 false])))
def ABb:Gi:=⟨[]⟩
def ABc:List RV:=[.tmp 2]
namespace Ch
def J1:Option Bool:=
some false
def L1 (a:ByteArray) (L1:Int->Option Bool) (b:Int):Option Bool:=
if decide (b<22)then
if b<22 then
(gt Ho b).bind λc=>
if a.toList==c.toList then
some true
else
L1 (BE (b+1))
else none
else
J1
def Ac (a:ByteArray):Nat->Int->Option Bool
|0,_=>none
|n+1,b=>L1 a (Ac a n) b
end Ch
section
open Ch
def Ch (a:ByteArray):Option Bool:=
Ac a Bo 0
theorem Mn {a:ByteArray} {r:Bool} (h:Ch a=some r):Says Tryz.prog 87 [Ao a] (sb r):=by
 refine wO mix Tryz.func87 (I:=⟨ABa,ABb,ABc⟩) ?_
 simp only[ABa,ABb,ABc]
 have l1:=λn1 n2 n3 n4:Nat=>BM λn τ=>∃(b:Int),(τ 0=Ao a/\τ 5= .agg (Ho.map Ao)/\τ 6=si b)/\Ac a n b=some r
 unfold Ch at h
 exact walk
end
def zS:Rp:=(.seq (.ic (Rc 0 [.B 2 false]))
(.seq (.ic (Hl (Rc 5 [.C 0,.o (.Pk (.t 5)),.P .lss 6 1,.C 7,.G 8 false,.C 0,.o (.Pk (.t 9)),.P .gtr 10 12,.e,.V 8 11,.C 12,.G 13 false,.C 0,.c 87 [14] 0,.e,.V 13 15])
(Ci 16 (Rb 0 [.B 2 false]))))
(U3 (.seq (.SH [.x (.o ⟨some ⟨17,[],[]⟩,.cp (.t 0),none⟩),.uO ⟨18,[],[]⟩ (.t 17)])
(.block 0 (.loop (.seq (.SH [.uJ ⟨19,[],[]⟩ (.t 18),.x (.o ⟨some ⟨20,[],[]⟩,.ext (.t 19) 0,none⟩)])
(.ic (Sq (cX 20 0)
(Bk 1 (Ra 21 [.o (.ext (.t 19) 1),.o (.ext (.t 19) 2),.M 3 21,.M 4 22]
(Bk 2 (Hl (Rc 24 [.C 4,.o (.bin .leq (.c (.sc (.int .i32 97))) (.t 24)),.C 25,.G 26 true,.C 4,.o (.bin .leq (.t 27) (.c (.sc (.int .i32 122)))),.e,.W 26 28,.C 29,.G 30 false,.C 4,.o (.bin .leq (.c (.sc (.int .i32 65))) (.t 31)),.C 32,.G 33 true,.C 4,.o (.bin .leq (.t 34) (.c (.sc (.int .i32 90)))),.G 30 false,.o (.pick (.t 33) (.t 35) (.c (sb false))),.e,.V 30 36,.M 23 37])
(Cn 23 .skip (Hl (Rc 39 [.C 3,.P .gtr 39 0,.C 40,.G 41 true,.C 4,.o (.bin .eql (.t 42) (.c (.sc (.int .i32 95)))),.C 43,.G 44 false,.C 4,.o (.bin .leq (.c (.sc (.int .i32 48))) (.t 45)),.C 46,.G 47 true,.C 4,.o (.bin .leq (.t 48) (.c (.sc (.int .i32 57)))),.G 44 false,.o (.pick (.t 47) (.t 49) (.c (sb false))),.G 41 true,.o (.pick (.t 44) (.c (sb true)) (.t 50)),.e,.W 41 51,.M 38 52])
(Cn 38 .skip (Rb 0 [.B 2 false]))))))))))))))
(.ic (Rb 0 [.B 2 true])))))
def zT:Gi:=⟨[]⟩
def zU:List RV:=[.tmp 2]
def f51:FIM:=⟨zS,zT,zU⟩
theorem vM:Xf Tryz.prog Tryz.f51 f51=true:=by kernel_rfl
namespace B0
def J4:Option Bool:=
some true
def J3 (L1:Nat->Option Bool) (pos:Nat) (s:ByteArray) (t38v:Bool):Option Bool:=
if t38v then
L1 (pos+(Utf8.decode s pos).2)
else
some false
def J2 (L1:Nat->Option Bool) (pos:Nat) (s:ByteArray) (t23v:Bool):Option Bool:=
if t23v then
L1 (pos+(Utf8.decode s pos).2)
else
if decide ((pos:Int)>0)then
if((Utf8.decode s pos).1:Int)==95 then
J3 L1 pos s true
else
if decide (48≤((Utf8.decode s pos).1:Int))then
J3 L1 pos s (decide (((Utf8.decode s pos).1:Int)≤57))
else
J3 L1 pos s false
else
J3 L1 pos s false
def L1 (s:ByteArray) (L1:Nat->Option Bool) (pos:Nat):Option Bool:=
if decide (pos<s.size)then
if decide (97≤((Utf8.decode s pos).1:Int))then
if decide (((Utf8.decode s pos).1:Int)≤122)then
J2 L1 pos s true
else
if decide (65≤((Utf8.decode s pos).1:Int))then
J2 L1 pos s (decide (((Utf8.decode s pos).1:Int)≤90))
else
J2 L1 pos s false
else
if decide (65≤((Utf8.decode s pos).1:Int))then
J2 L1 pos s (decide (((Utf8.decode s pos).1:Int)≤90))
else
J2 L1 pos s false
else
J4
def Ac (s:ByteArray):Nat->Nat->Option Bool
|0,_=>none
|n+1,pos=>L1 s (Ac s n) pos
def J1 (s:ByteArray) (t16v:Bool):Option Bool:=
if t16v then
some false
else
Ac s Bo 0
end B0
section
open B0
def B0 (s:ByteArray):Option Bool:=
if decide ((s.size:Int)<1)then
J1 s true
else
if decide ((s.size:Int)>12)then
J1 s true
else
(Ch s).bind λv=>
J1 s v
theorem Pp {s:ByteArray} {r:Bool} (h:B0 s=some r):Says Tryz.prog 51 [Ao s] (sb r):=by
 refine Vj mix Tryz.func51 vM (of_decide_eq_true (by kernel_rfl)) rfl ?_
 simp only[f51,zS,zT,zU]
 try simp +decide only[go_sem, *]
 refine II (λτ=>∃t16v:Bool,(τ 0=Ao s/\τ 16=sb t16v)/\J1 s t16v=some r) λM1 hM1=>⟨?_,?_⟩
 . try simp +decide only[go_sem, *]
   refine gI h (λ_ h=> ?_) λ_ h=> ?_
   . try simp +decide only[go_sem, *]
     refine hM1 _ ⟨_,?_,h⟩
     simp +decide only[go_sem, *]
   try simp +decide only[go_sem, *]
   refine gI h (λ_ h=> ?_) λ_ h=> ?_
   . try simp +decide only[go_sem, *]
     refine hM1 _ ⟨_,?_,h⟩
     simp +decide only[go_sem, *]
   obtain⟨v,g1,h⟩:=bS h
   try simp +decide only[go_sem, *]
   refine⟨_,Mn g1,?_⟩
   try simp +decide only[go_sem, *]
   refine hM1 _ ⟨_,?_,h⟩
   simp +decide only[go_sem, *]
 rintro τ1 ⟨t16v,s1,h⟩
 try simp +decide only[go_sem, *]
 refine cI h (λ_ h=> ?_) λ_ h=> ?_
 . obtain rfl:=Option.some.inj h
   simp +decide only[go_sem, *]
 try simp +decide only[go_sem, *]
 refine U4 (λτ ν=>(True)/\J4=some r) λM4 hM4=>⟨?_,?_⟩
 . try simp +decide only[go_sem, *]
   intro b1 hb1
   try simp +decide only[go_sem, *]
   refine dN (λn τ ν=>∃pos:Nat,(τ 18= .sc (.pointer (some ⟨b1,0,none⟩))/\ν b1=some (.it s pos))/\Ac s n pos=some r) ⟨_,?_,h⟩ λn1 τ1 ν1 N1=> ?_
   . simp +decide only[go_sem, *]
   rintro⟨pos,s1,h⟩ hN1
   cases n1 with
   |zero=>exact B9 h
   |succ n1=>
    rw[Ac]at h;generalize hL1:Ac s n1=L1 at h
    try simp +decide only[go_sem, *]
    rcases iO (decide (pos<s.size))with e4|e4
    . replace h:=ifT e4 h
      try simp +decide only[go_sem,(of_decide_eq_true e4),Ep,EH, *]
      refine II (λτ=>∃t23v:Bool,(τ 3=si (pos:Int)/\τ 4= .sc (.int .i32 ((Utf8.decode s pos).1:Int))/\τ 18= .sc (.pointer (some ⟨b1,0,none⟩))/\τ 23=sb t23v)/\J2 L1 pos s t23v=some r) λM2 hM2=>⟨?_,?_⟩
      . try simp +decide only[go_sem,(of_decide_eq_true e4),Ep,EH, *]
        refine gI h (λ_ h=> ?_) λ_ h=> ?_
        . try simp +decide only[go_sem,(of_decide_eq_true e4),Ep,EH, *]
          refine gI h (λ_ h=> ?_) λ_ h=> ?_
          . try simp +decide only[go_sem,(of_decide_eq_true e4),Ep,EH, *]
            refine hM2 _ ⟨_,?_,h⟩
            simp +decide only[go_sem,(of_decide_eq_true e4),Ep,EH, *]
          try simp +decide only[go_sem,(of_decide_eq_true e4),Ep,EH, *]
          refine gI h (λ_ h=> ?_) λ_ h=> ?_
          . try simp +decide only[go_sem,(of_decide_eq_true e4),Ep,EH, *]
            refine hM2 _ ⟨_,?_,h⟩
            simp +decide only[go_sem,(of_decide_eq_true e4),Ep,EH, *]
          try simp +decide only[go_sem,(of_decide_eq_true e4),Ep,EH, *]
          refine hM2 _ ⟨_,?_,h⟩
          simp +decide only[go_sem,(of_decide_eq_true e4),Ep,EH, *]
        try simp +decide only[go_sem,(of_decide_eq_true e4),Ep,EH, *]
        refine gI h (λ_ h=> ?_) λ_ h=> ?_
        . try simp +decide only[go_sem,(of_decide_eq_true e4),Ep,EH, *]
          refine hM2 _ ⟨_,?_,h⟩
          simp +decide only[go_sem,(of_decide_eq_true e4),Ep,EH, *]
        try simp +decide only[go_sem,(of_decide_eq_true e4),Ep,EH, *]
        refine hM2 _ ⟨_,?_,h⟩
        simp +decide only[go_sem,(of_decide_eq_true e4),Ep,EH, *]
      rintro τ2 ⟨t23v,s2,h⟩
      try simp +decide only[go_sem, *]
      refine cI h (λ_ h=> ?_) λ_ h=> ?_
      . try simp +decide only[go_sem, *]
        refine hN1 n1 (Nat.lt_succ_self _) _ _ ⟨_,?_,hL1.symm▸h⟩
        simp +decide only[go_sem, *]
      try simp +decide only[go_sem, *]
      refine II (λτ=>∃t38v:Bool,(τ 18= .sc (.pointer (some ⟨b1,0,none⟩))/\τ 38=sb t38v)/\J3 L1 pos s t38v=some r) λM3 hM3=>⟨?_,?_⟩
      . try simp +decide only[go_sem, *]
        refine gI h (λ_ h=> ?_) λ_ h=> ?_
        . try simp +decide only[go_sem, *]
          refine gI h (λ_ h=> ?_) λ_ h=> ?_
          . try simp +decide only[go_sem, *]
            refine hM3 _ ⟨_,?_,h⟩
            simp +decide only[go_sem, *]
          try simp +decide only[go_sem, *]
          refine gI h (λ_ h=> ?_) λ_ h=> ?_
          . try simp +decide only[go_sem, *]
            refine hM3 _ ⟨_,?_,h⟩
            simp +decide only[go_sem, *]
          try simp +decide only[go_sem, *]
          refine hM3 _ ⟨_,?_,h⟩
          simp +decide only[go_sem, *]
        try simp +decide only[go_sem, *]
        refine hM3 _ ⟨_,?_,h⟩
        simp +decide only[go_sem, *]
      rintro τ3 ⟨t38v,s3,h⟩
      try simp +decide only[go_sem, *]
      refine cI h (λ_ h=> ?_) λ_ h=> ?_
      . try simp +decide only[go_sem, *]
        refine hN1 n1 (Nat.lt_succ_self _) _ _ ⟨_,?_,hL1.symm▸h⟩
        simp +decide only[go_sem, *]
      obtain rfl:=Option.some.inj h
      simp +decide only[go_sem, *]
    . replace h:=ifF e4 h
      try simp +decide only[go_sem,(of_decide_eq_false e4),Ep,EH, *]
      refine hM4 _ _ ⟨?_,h⟩
      simp +decide only[go_sem,(of_decide_eq_false e4),Ep,EH, *]
 rintro τ4 ν4 ⟨_,h⟩
 obtain rfl:=Option.some.inj h
 simp +decide only[go_sem, *]
end
end Go.Abs
