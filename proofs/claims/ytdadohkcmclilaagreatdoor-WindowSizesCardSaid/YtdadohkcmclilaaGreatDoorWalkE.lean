/- Typed programs of Go functions, and that the functions do what these say. -/
import Derived.Test.YtdadohkcmclilaaGreatDoorWalkA
import Derived.Test.YtdadohkcmclilaaGreatDoorWalkB
import Derived.Test.YtdadohkcmclilaaGreatDoorWalkC
import Derived.Shelf.Slices.SearchI
set_option linter.unusedSimpArgs false
set_option linter.unusedVariables false
namespace Go.Abs
open Go.Proofs
set_option maxRecDepth 1000000
set_option maxHeartbeats 4000000
namespace Bv
def J4 (l:Bool):ABp Bool:=
some l
def J6 (o:Bool):ABp Bool:=
some o
def J9 (b:Int) (c:AD) (q:Bool):ABp Bool:=
if q then
(Co b (c.AK.length:Int)).bind λx=>
some x
else
some false
def J8 (a b:Int) (c:AD) (p:Bool):ABp Bool:=
if p then
(Co b (c.AA.length:Int)).bind λw=>
some w
else
if a==22 then
J9 b c (a==22)
else
J9 b c (a==23)
def J7 (a b:Int) (c:AD) (i:Bool):ABp Bool:=
if i then
(Co b (c.Af.length:Int)).bind λv=>
some v
else
if a==20 then
J8 a b c (a==20)
else
J8 a b c (a==21)
def J5 (a b:Int) (c:AD) (f:Bool):ABp Bool:=
if f then
(Co b (c.AG.length:Int)).bind λu=>
if u then
(gt c.AG b).bind λz=>
J6 z.RW
else
J6 false
else
if a==16 then
J7 a b c (a==16)
else
if a==17 then
J7 a b c (a==17)
else
if a==18 then
J7 a b c (a==18)
else
J7 a b c (a==19)
def J3 (a b:Int) (c:AD) (e:Bool):ABp Bool:=
if e then
(Co b (c.AG.length:Int)).bind λt=>
if t then
(gt c.AG b).bind λy=>
J4 (!y.RW)
else
J4 false
else
if a==8 then
J5 a b c (a==8)
else
if a==9 then
J5 a b c (a==9)
else
if a==10 then
J5 a b c (a==10)
else
J5 a b c (a==11)
def J2 (a b:Int) (c:AD) (d:Bool):ABp Bool:=
if d then
(Co b (c.Cells.length:Int)).bind λs=>
some s
else
if a==6 then
J3 a b c (a==6)
else
J3 a b c (a==7)
def J1 (a b:Int) (c:AD) (j:Bool):ABp Bool:=
if j then
some (b==(-1))
else
if a==3 then
J2 a b c (a==3)
else
J2 a b c (a==4)
end Bv
section
open Bv
def Bv (c:AD) (a b:Int):ABp Bool:=
if a==1 then
J1 a b c (a==1)
else
if a==2 then
J1 a b c (a==2)
else
if a==5 then
J1 a b c (a==5)
else
if a==12 then
J1 a b c (a==12)
else
if a==13 then
J1 a b c (a==13)
else
if a==14 then
J1 a b c (a==14)
else
J1 a b c (a==15)
theorem Rz {c:AD} {a b:Int} {r:Bool} (h:Bv c a b=some r):Says Tryz.prog 117 [.agg (Ai c),si a,si b] (sb r):=by
 refine kO mix Tryz.func117 (hn [(3,[22,30,35,49,54,67,75,83])] [(3,1),(11,2),(14,3),(17,5),(22,7)]) ?_
 have a1:= @Jx
 have c7:=λn1 n2 n3 n4:Nat=>Bh 7 λτ=>∃(i:Bool),(τ 2=si b/\τ 3=bA 6 (Ai c)/\τ 7=si a/\τ 61=sb i)/\J7 a b c i=some r
 have c5:=λn1 n2 n3 n4:Nat=>Bh 5 λτ=>∃(f:Bool),(τ 2=si b/\τ 3=bA 6 (Ai c)/\τ 7=si a/\τ 43=sb f)/\J5 a b c f=some r
 have c3:=λn1 n2 n3 n4:Nat=>Bh 3 λτ=>∃(e:Bool),(τ 2=si b/\τ 3=bA 6 (Ai c)/\τ 7=si a/\τ 26=sb e)/\J3 a b c e=some r
 have c2:=λn1 n2 n3 n4:Nat=>Bh 2 λτ=>∃(d:Bool),(τ 2=si b/\τ 3=bA 6 (Ai c)/\τ 7=si a/\τ 18=sb d)/\J2 a b c d=some r
 have c1:=λn1 n2 n3 n4:Nat=>Bh 1 λτ=>∃(j:Bool),(τ 2=si b/\τ 3=bA 6 (Ai c)/\τ 7=si a/\τ 8=sb j)/\J1 a b c j=some r
 unfold Bv at h
 exact walk
end
def GZ (a:List Int) (b:Int):ABp Bool:=
(FF a b).bind λc=>
some (decide (c≥0))
theorem Q4 {a:List Int} {b:Int} {r:Bool} (h:GZ a b=some r):Says Tryz.prog 159 [vS 1 eI a,si b] (sb r):=by
 refine kO mix Tryz.func159 hn ?_
 have a1:= @Uq
 unfold GZ at h
 exact walk
namespace Dz
def J1 (a:AN) (e:List AW):ABp AN:=
(HA a.Bq).bind λi=>
(EB a.AA).bind λj=>
some (AN.mk e a.Tx i j)
def L1 (a:AN) (L1:(List AW)->Int->ABp AN) (c:List AW) (b:Int):ABp AN:=
if decide (b<(a.AG.length:Int))then
(gt a.AG b).bind λd=>
(slices_Clone_int d.As).bind λf=>
(gt c b).bind λl=>
L1 (c.set b.toNat (AW.mk d.CW f)) (Ap (b+1))
else
J1 a c
def Aa (a:AN):Nat->(List AW)->Int->ABp AN
|0,_,_=>none
|n+1,c,b=>L1 a (Aa a n) c b
end Dz
section
open Dz
def Dz (a:AN):ABp AN:=
if 0≤(a.AG.length:Int)/\(a.AG.length:Int)≤(a.AG.length:Int)/\Al a.AG.length 32=true then
Aa a BT (List.replicate a.AG.length (AW.mk 0 [])) 0
else none
theorem UY {a r:AN} (h:Dz a=some r):Says Tryz.prog 119 [.agg (E1 a)] (.agg (HM r)):=by
 refine kO mix Tryz.func119 (hn [(1,[6,7,10,11,16,17,29,30,31,33,34,35,37,38]),(3,[18,26,28]),(5,[20,22,23])]) ?_
 have a1:= @KV
 have a2:= @G5
 have a3:= @Gv
 have l1:=λn1 n2 n3 n4:Nat=>Ax λn τ=>∃(c:List AW) (b:Int),(τ 1=bA 4 (E1 a)/\τ 2=bA 4 z3/\τ 3=vO 2 B5 c/\τ 11=vS 2 C4 a.AG/\τ 12=si (a.AG.length:Int)/\τ 13=si b)/\Aa a n c b=some r
 unfold Dz at h
 exact walk
end
def f124c:IC:=(Sq (.X2 [.bxv ⟨3,[],[0]⟩ 4 0,.o (iK 6 0)])
(Ra 0 [.K 7 (-1)]
(Ip (Ra 10 [.m 0 3 3,.Z 11,.Y 0]
(Bl 0 (Ra 14 [.O .lss 13 12]
(Sq (cX 14 0)
(Ip (Bk 1 (Ra 15 [.C 13,.J 0 3 11 13,.A 3 16,.w 9,.o (.bx 3 (.c (.agg [si 0,si 0,sb false]))),.M 8 15,.S 3 9 17]
(Ip (Rc 18 [.A 3 9,.C 1,.c 163 [18,19] 0,.C 20,.G 21 true,.C 7,.P .lss 22 0,.C 23,.G 24 false,.C 8,.C 2,.O .eql 25 26,.G 21 true,.o (.pick (.t 24) (.c (sb true)) (.t 27)),.e,.W 21 28])
(Ci 29 (Rc 30 [.C 8,.M 7 30])))))
(Rc 31 [.P .add 13 1,.w 13,.C 31]))))))
(Ip (Ra 32 [.C 7,.P .geq 32 0]
(Ci 33 (Rc 34 [.m 0 3 3,.C 7,.J 0 3 35 36,.H 0 0 37,.T 38 4])))
(Rb 39 [.C 7,.M 6 39])))))
def f124g:Gi:=⟨[(3,[0]),(10,[0]),(11,[0]),(16,[0]),(34,[0]),(35,[0]),(37,[0]),(38,[0])]⟩
def f124r:List RV:=[.tmp 6]
def f124:FI:=⟨f124c,f124g,f124r⟩
theorem chk124:JP Tryz.prog Tryz.f124 f124=true:=by kernel_rfl
namespace Cm
def J4 (Gy:Int) (s:List AE):ABp (Int×(List AE)):=
some (Gy,s)
def J3 (threads:List AE) (Gy:Int):ABp (Int×(List AE)):=
if decide (Gy≥0)then
(gt threads Gy).bind λUx=>
J4 Gy (threads.set Gy.toNat (AE.mk 4 Ux.D8 Ux.Atomic))
else
J4 Gy threads
def J2 (L1:Int->Int->ABp (Int×(List AE))) (LC ON:Int):ABp (Int×(List AE)):=
L1 ON (Ap (LC+1))
def J1 (L1:Int->Int->ABp (Int×(List AE))) (Iy LC:Int) (AAC:Bool):ABp (Int×(List AE)):=
if AAC then
J2 L1 LC LC
else
J2 L1 LC Iy
def L1 (cond:Int) (threads:List AE) (wake:Int) (L1:Int->Int->ABp (Int×(List AE))) (Iy LC:Int):ABp (Int×(List AE)):=
if decide (LC<(threads.length:Int))then
(gt threads LC).bind λx=>
(FB x cond).bind λv=>
if v then
if decide (Iy<0)then
J1 L1 Iy LC true
else
J1 L1 Iy LC (LC==wake)
else
J1 L1 Iy LC false
else
J3 threads Iy
def Aa (cond:Int) (threads:List AE) (wake:Int):Nat->Int->Int->ABp (Int×(List AE))
|0,_,_=>none
|n+1,Iy,LC=>L1 cond threads wake (Aa cond threads wake n) Iy LC
end Cm
section
open Cm
def Cm (tx:Int) (threads:List AE) (cond wake:Int):ABp (Int×(List AE)):=
Aa cond threads wake BT (-1) 0
theorem TQ {tx:Int} {threads:List AE} {cond wake:Int} {r:Int×(List AE)} (h:Cm tx threads cond wake=some r):BD Tryz.prog 124 [.agg [.dead,si tx,.dead,vO 3 Ae threads],si cond,si wake] (si r.1) [.agg [.dead,si tx,.dead,vO 3 Ae r.2],.dead,.dead]:=by
 refine Sp mix Tryz.func124 chk124 (by kernel_rfl) (AAa (by kernel_rfl)) rfl rfl ?_
 simp only[f124,f124c,f124g,f124r]
 try simp +decide only[go_sem, *]
 intro us1 _
 try simp +decide only[go_sem, *]
 refine JH (λτ=>∃Gy:Int,(τ 0= .agg [.dead,si tx,.dead,vO 3 Ae threads]/\τ 3= .vb 0 0 us1/\τ 7=si Gy)/\J3 threads Gy=some r) λM3 dQ=>⟨?_,?_⟩
 . try simp +decide only[go_sem, *]
   refine Ir (λn τ=>∃Iy:Int,∃LC:Int,(τ 0= .agg [.dead,si tx,.dead,vO 3 Ae threads]/\τ 1=si cond/\τ 2=si wake/\τ 3= .vb 0 0 us1/\τ 7=si Iy/\τ 11= .al 0 [(0,3,0)]/\τ 12=si (threads.length:Int)/\τ 13=si LC)/\Aa cond threads wake n Iy LC=some r) ⟨_,_,?_,h⟩ λn1 τ1 N1=> ?_
   . simp +decide only[go_sem, *]
   rintro⟨Iy,LC,s1,h⟩ dR
   cases n1 with
   |zero=>exact Bi h
   |succ n1=>
    rw[Aa]at h;generalize dP:Aa cond threads wake n1=L1 at h
    try simp +decide only[go_sem, *]
    refine cI h (λ_ h=> ?_) λ_ h=> ?_
    . try simp +decide only[go_sem, *]
      refine JH (λτ=>∃ON:Int,(τ 0= .agg [.dead,si tx,.dead,vO 3 Ae threads]/\τ 1=si cond/\τ 2=si wake/\τ 3= .vb 0 0 us1/\τ 7=si ON/\τ 11= .al 0 [(0,3,0)]/\τ 12=si (threads.length:Int)/\τ 13=si LC)/\J2 L1 LC ON=some r) λM2 TJ=>⟨?_,?_⟩
      . obtain⟨x,_,h⟩:=gB h
        try simp +decide only[go_sem, *]
        refine JH (λτ=>∃AAC:Bool,(τ 0= .agg [.dead,si tx,.dead,vO 3 Ae threads]/\τ 1=si cond/\τ 2=si wake/\τ 3= .vb 0 0 us1/\τ 7=si Iy/\τ 8=si LC/\τ 11= .al 0 [(0,3,0)]/\τ 12=si (threads.length:Int)/\τ 13=si LC/\τ 29=sb AAC)/\J1 L1 Iy LC AAC=some r) λM1 TG=>⟨?_,?_⟩
        . obtain⟨v,g2,h⟩:=bS h
          try simp +decide only[go_sem, *]
          refine⟨_,Nb g2,?_⟩
          try simp +decide only[go_sem, *]
          refine gI h (λ_ h=> ?_) λ_ h=> ?_
          . try simp +decide only[go_sem, *]
            refine gI h (λ_ h=> ?_) λ_ h=> ?_
            . try simp +decide only[go_sem, *]
              refine TG _ ⟨_,?_,h⟩
              simp +decide only[go_sem, *]
            try simp +decide only[go_sem, *]
            refine TG _ ⟨_,?_,h⟩
            simp +decide only[go_sem, *]
          try simp +decide only[go_sem, *]
          refine TG _ ⟨_,?_,h⟩
          simp +decide only[go_sem, *]
        rintro τ1 ⟨AAC,s1,h⟩
        try simp +decide only[go_sem, *]
        refine cI h (λ_ h=> ?_) λ_ h=> ?_
        . try simp +decide only[go_sem, *]
          refine TJ _ ⟨_,?_,h⟩
          simp +decide only[go_sem, *]
        try simp +decide only[go_sem, *]
        refine TJ _ ⟨_,?_,h⟩
        simp +decide only[go_sem, *]
      rintro τ2 ⟨ON,s2,h⟩
      try simp +decide only[go_sem, *]
      refine dR n1 (AA8 _) _ ⟨_,_,?_,dP.symm▸h⟩
      simp +decide only[go_sem, *]
    try simp +decide only[go_sem, *]
    refine dQ _ ⟨_,?_,h⟩
    simp +decide only[go_sem, *]
 rintro τ3 ⟨Gy,s3,h⟩
 try simp +decide only[go_sem, *]
 refine JH (λτ=>∃s:List AE,(τ 0= .agg [.dead,si tx,.dead,vO 3 Ae s]/\τ 7=si Gy)/\J4 Gy s=some r) λM4 kQ=>⟨?_,?_⟩
 . try simp +decide only[go_sem, *]
   refine cI h (λ_ h=> ?_) λ_ h=> ?_
   . obtain⟨Ux,_,h⟩:=gB h
     try simp +decide only[go_sem, *]
     refine kQ _ ⟨_,?_,h⟩
     simp +decide only[go_sem, *]
   try simp +decide only[go_sem, *]
   refine kQ _ ⟨_,?_,h⟩
   simp +decide only[go_sem, *]
 rintro τ4 ⟨s,s4,h⟩
 obtain rfl:=AAR h
 simp +decide only[go_sem, *]
end
def f125c:IC:=(Sq (.X2 [.bxv ⟨2,[],[0]⟩ 4 0,.o (iK 4 0)])
(Ra 0 [.K 5 0]
(Ip (Ra 8 [.m 0 3 2,.Z 9,.Y 0]
(Bl 0 (Ra 12 [.O .lss 11 10]
(Sq (cX 12 0)
(Ip (Bk 1 (Ra 13 [.C 11,.J 0 3 9 11,.A 3 14,.w 7,.o (.bx 3 (.c (.agg [si 0,si 0,sb false]))),.M 6 13,.S 3 7 15]
(Ra 16 [.A 3 7,.C 1,.c 163 [16,17] 0]
(Ci 18 (Ra 19 [.m 0 3 2,.C 6,.J 0 3 20 21,.H 0 0 22,.T 23 4]
(Rc 24 [.C 5,.P .add 24 1,.M 5 25]))))))
(Rc 26 [.P .add 11 1,.w 11,.C 26]))))))
(Rb 27 [.C 5,.M 4 27]))))
def f125g:Gi:=⟨[(2,[0]),(8,[0]),(9,[0]),(14,[0]),(19,[0]),(20,[0]),(22,[0]),(23,[0])]⟩
def f125r:List RV:=[.tmp 4]
def f125:FI:=⟨f125c,f125g,f125r⟩
theorem chk125:JP Tryz.prog Tryz.f125 f125=true:=by kernel_rfl
namespace Cg
def J2 (s_2:List AE) (yP:Int):ABp (Int×(List AE)):=
some (yP,s_2)
def J1 (L1:(List AE)->Int->Int->ABp (Int×(List AE))) (Q5:Int) (zJ:List AE) (yO:Int):ABp (Int×(List AE)):=
L1 zJ yO (Ap (Q5+1))
def L1 (cond:Int) (threads:List AE) (L1:(List AE)->Int->Int->ABp (Int×(List AE))) (s:List AE) (nv Q5:Int):ABp (Int×(List AE)):=
if decide (Q5<(threads.length:Int))then
(gt s Q5).bind λx=>
(FB x cond).bind λv=>
if v then
J1 L1 Q5 (s.set Q5.toNat (AE.mk 4 x.D8 x.Atomic)) (Ap (nv+1))
else
J1 L1 Q5 s nv
else
J2 s nv
def Aa (cond:Int) (threads:List AE):Nat->(List AE)->Int->Int->ABp (Int×(List AE))
|0,_,_,_=>none
|n+1,s,nv,Q5=>L1 cond threads (Aa cond threads n) s nv Q5
end Cg
section
open Cg
def Cg (tx:Int) (threads:List AE) (cond:Int):ABp (Int×(List AE)):=
Aa cond threads BT threads 0 0
theorem Pu {tx:Int} {threads:List AE} {cond:Int} {r:Int×(List AE)} (h:Cg tx threads cond=some r):BD Tryz.prog 125 [.agg [.dead,si tx,.dead,vO 3 Ae threads],si cond] (si r.1) [.agg [.dead,si tx,.dead,vO 3 Ae r.2],.dead]:=by
 refine Sp mix Tryz.func125 chk125 (by kernel_rfl) (AAa (by kernel_rfl)) rfl rfl ?_
 simp only[f125,f125c,f125g,f125r]
 try simp +decide only[go_sem, *]
 intro us1 _
 try simp +decide only[go_sem, *]
 refine JH (λτ=>∃s_2:List AE,∃yP:Int,(τ 0= .agg [.dead,si tx,.dead,vO 3 Ae s_2]/\τ 5=si yP)/\J2 s_2 yP=some r) λM2 TJ=>⟨?_,?_⟩
 . try simp +decide only[go_sem, *]
   refine Ir (λn τ=>∃s:List AE,∃nv:Int,∃Q5:Int,(τ 0= .agg [.dead,si tx,.dead,vO 3 Ae s]/\τ 1=si cond/\τ 2= .vb 0 0 us1/\τ 5=si nv/\τ 9= .al 0 [(0,3,0)]/\τ 10=si (threads.length:Int)/\τ 11=si Q5)/\Aa cond threads n s nv Q5=some r) ⟨_,_,_,?_,h⟩ λn1 τ1 N1=> ?_
   . simp +decide only[go_sem, *]
   rintro⟨s,nv,Q5,s1,h⟩ dR
   cases n1 with
   |zero=>exact Bi h
   |succ n1=>
    rw[Aa]at h;generalize dP:Aa cond threads n1=L1 at h
    try simp +decide only[go_sem, *]
    refine cI h (λ_ h=> ?_) λ_ h=> ?_
    . try simp +decide only[go_sem, *]
      refine JH (λτ=>∃zJ:List AE,∃yO:Int,(τ 0= .agg [.dead,si tx,.dead,vO 3 Ae zJ]/\τ 1=si cond/\τ 2= .vb 0 0 us1/\τ 5=si yO/\τ 9= .al 0 [(0,3,0)]/\τ 10=si (threads.length:Int)/\τ 11=si Q5)/\J1 L1 Q5 zJ yO=some r) λM1 TG=>⟨?_,?_⟩
      . obtain⟨x,_,h⟩:=gB h
        obtain⟨v,g2,h⟩:=bS h
        try simp +decide only[go_sem, *]
        refine⟨_,Nb g2,?_⟩
        try simp +decide only[go_sem, *]
        refine cI h (λ_ h=> ?_) λ_ h=> ?_
        . try simp +decide only[go_sem, *]
          refine TG _ ⟨_,_,?_,h⟩
          simp +decide only[go_sem, *]
        try simp +decide only[go_sem, *]
        refine TG _ ⟨_,_,?_,h⟩
        simp +decide only[go_sem, *]
      rintro τ1 ⟨zJ,yO,s1,h⟩
      try simp +decide only[go_sem, *]
      refine dR n1 (AA8 _) _ ⟨_,_,_,?_,dP.symm▸h⟩
      simp +decide only[go_sem, *]
    try simp +decide only[go_sem, *]
    refine TJ _ ⟨_,_,?_,h⟩
    simp +decide only[go_sem, *]
 rintro τ2 ⟨s_2,yP,s2,h⟩
 obtain rfl:=AAR h
 simp +decide only[go_sem, *]
end
def IJ (a:AD):ABp AD:=
(Ig a.Cells).bind λb=>
(Ii a.AG).bind λc=>
(Ih a.Af).bind λd=>
(slices_Clone_string a.AK).bind λe=>
(slices_Clone_string a.AA).bind λf=>
(Ij a.A7).bind λi=>
some (AD.mk b c d e f i)
theorem P5 {a r:AD} (h:IJ a=some r):Says Tryz.prog 32 [.agg (Ai a)] (.agg (Mx r)):=by
 refine kO mix Tryz.func32 (hn [(1,[3,6,9,12,15,18])]) ?_
 have a1:= @MC
 have a2:= @ME
 have a3:= @MD
 have a4:= @NM
 have a5:= @MF
 unfold IJ at h
 exact walk
namespace Cy
def J1 (e:AB):ABp AB:=
some e
def L1 (a:AB) (L1:AB->Int->ABp AB) (b:AB) (c:Int):ABp AB:=
if decide (c<(a.Sync.AG.length:Int))then
(gt a.Sync.AG c).bind λd=>
(slices_Clone_int d.As).bind λp=>
if Al (b.Sync.AG.length+1) 32=true then
L1 (AB.mk (AN.mk (b.Sync.AG++[(AW.mk d.CW p)]) b.Sync.Tx b.Sync.Bq b.Sync.AA) b.Cells b.AK b.Count) (Ap (c+1))
else none
else
J1 b
def Aa (a:AB):Nat->AB->Int->ABp AB
|0,_,_=>none
|n+1,b,c=>L1 a (Aa a n) b c
end Cy
section
open Cy
def Cy (a:AB):ABp AB:=
(Eo a.Cells).bind λf=>
(Eo a.AK).bind λi=>
(slices_Clone_int a.Count).bind λj=>
(HA a.Sync.Bq).bind λl=>
(EB a.Sync.AA).bind λo=>
Aa a BT (AB.mk (AN.mk [] a.Sync.Tx l o) f i j) 0
theorem NQ {a r:AB} (h:Cy a=some r):Says Tryz.prog 33 [.agg (Aw a)] (.agg (CG r)):=by
 refine kO mix Tryz.func33 (hn [(1,[6,9,12,16,17,19,20,23,24,29,30]),(3,[28,37,38,39,48,49,51]),(5,[40,42])]) ?_
 have a1:= @Jn
 have a2:= @Gv
 have a3:= @KV
 have a4:= @G5
 have l1:=λn1 n2 n3 n4:Nat=>Ax λn τ=>∃(b:AB) (c:Int),(τ 2=bA 7 z0/\τ 3=bA 7 (CG b)/\τ 31=vS 2 C4 a.Sync.AG/\τ 32=si (a.Sync.AG.length:Int)/\τ 33=si c)/\Aa a n b c=some r
 unfold Cy at h
 exact walk
end
namespace Dn
def J1 (e:List AH):ABp (List AH):=
some e
def L1 (a:List AH) (L1:(List AH)->Int->ABp (List AH)) (b:List AH) (c:Int):ABp (List AH):=
if decide (c<(a.length:Int))then
(gt a c).bind λd=>
(slices_Clone_int d.D9).bind λf=>
(slices_Clone_int d.Db).bind λi=>
if Al (b.length+1) 88=true then
L1 (b++[(AH.mk d.Thread d.Kind d.Obj d.Value d.Site f i)]) (Ap (c+1))
else none
else
J1 b
def Aa (a:List AH):Nat->(List AH)->Int->ABp (List AH)
|0,_,_=>none
|n+1,b,c=>L1 a (Aa a n) b c
end Dn
section
open Dn
def Dn (a:List AH):ABp (List AH):=
if 0≤0/\0≤(a.length:Int)/\Al a.length 88=true then
Aa a BT [] 0
else none
theorem PH {a r:List AH} (h:Dn a=some r):Says Tryz.prog 34 [vS 7 BG a] (vO 7 Iv r):=by
 refine kO mix Tryz.func34 (hn [(3,[23,28]),(5,[15,16,18,19,21,22,24])]) ?_
 have a1:= @Gv
 have l1:=λn1 n2 n3 n4:Nat=>Ax λn τ=>∃(b:List AH) (c:Int),(τ 3=vO 7 Iv b/\τ 9=vS 7 BG a/\τ 10=si (a.length:Int)/\τ 11=si c)/\Aa a n b c=some r
 unfold Dn at h
 exact walk
end
namespace BZ
def J8:ABp Bool:=
some true
def J7 (L3:Int->ABp Bool) (d:Int) (p:Bool):ABp Bool:=
if p then
some false
else
L3 (Ap (d+1))
def L3 (a:AO) (L3:Int->ABp Bool) (d:Int):ABp Bool:=
if decide (d<(a.Init.Sync.AA.length:Int))then
(gt a.Init.Sync.AA d).bind λx=>
if x.Atomic then
(B6 d a).bind λv=>
J7 L3 d (!v)
else
J7 L3 d false
else
J8
def Gm (a:AO):Nat->Int->ABp Bool
|0,_=>none
|n+1,d=>L3 a (Gm a n) d
def J6 (a:AO) (o:Bool):ABp Bool:=
if o then
some false
else
Gm a BT 0
def J5 (a:AO):ABp Bool:=
if a.Init.Sync.Tx != (-1)then
(B6 a.Init.Sync.Tx a).bind λu=>
J6 a (!u)
else
J6 a false
def J4 (L1:Int->ABp Bool) (b:Int):ABp Bool:=
L1 (Ap (b+1))
def J3 (L2:Int->Int->ABp Bool) (e i:Int) (q:Bool):ABp Bool:=
if q then
some false
else
L2 i (Ap (e+1))
def L2 (L1:Int->ABp Bool) (b:Int) (a:AO) (c:AW) (L2:Int->Int->ABp Bool) (f e:Int):ABp Bool:=
if decide (e<(c.As.length:Int))then
(gt c.As e).bind λi=>
if decide (i≤f)then
J3 L2 e i true
else
(B6 i a).bind λt=>
J3 L2 e i (!t)
else
J4 L1 b
def C2 (L1:Int->ABp Bool) (b:Int) (a:AO) (c:AW):Nat->Int->Int->ABp Bool
|0,_,_=>none
|n+1,f,e=>L2 L1 b a c (C2 L1 b a c n) f e
def J2 (L1:Int->ABp Bool) (b:Int) (a:AO) (c:AW) (l:Bool):ABp Bool:=
if l then
some false
else
C2 L1 b a c BT (-1) 0
def J1 (L1:Int->ABp Bool) (b:Int) (a:AO) (c:AW) (j:Bool):ABp Bool:=
if j then
some false
else
if decide ((c.As.length:Int)>0)then
(gt a.World.AG b).bind λw=>
if !w.RW then
J2 L1 b a c true
else
J2 L1 b a c (c.CW != (-1))
else
J2 L1 b a c false
def L1 (a:AO) (L1:Int->ABp Bool) (b:Int):ABp Bool:=
if decide (b<(a.Init.Sync.AG.length:Int))then
(gt a.Init.Sync.AG b).bind λc=>
if c.CW != (-1)then
(B6 c.CW a).bind λs=>
J1 L1 b a c (!s)
else
J1 L1 b a c false
else
J5 a
def Aa (a:AO):Nat->Int->ABp Bool
|0,_=>none
|n+1,b=>L1 a (Aa a n) b
end BZ
section
open BZ
def BZ (a:AO):ABp Bool:=
Aa a BT 0
theorem NS {a:AO} {r:Bool} (h:BZ a=some r):Says Tryz.prog 43 [.agg (BB a)] (sb r):=by
 refine kO mix Tryz.func43 (hn [(1,[3,11,12,13,14,26,37,38,62,70,71,72,76,77,78,79,84,85,86,97]),(5,[22,27,32,46,51]),(10,[94])] [(9,1),(12,2),(24,6)] (E:=[(1,(Rc 11 [.y 1 (.yI 92 [.t 1]),.w 3,.y 1 (.cp (.t 11))])),(5,(.X2 [.o (Lt 22 5 0 5),.o (iL 23 22),.o (iP 24 .neq 23 (-1)),.o (iC 25 24),.o (j1 26 1 (.cp (.t 3)) 25 true),.o (jFr 27 5 0 5 25 true),.o (jL 28 27 25 true),.clo (some ⟨29,[],[]⟩) 92 (.t 26) [.t 28] (some (25,true)),.o (jN 30 29 25 true),.o (iAn 31 25 30)])),(13,(.X2 [.o (iC 58 8),.o (iC 59 6),.o (iO 60 .leq 58 59),.o (iC 61 60),.o (j1 62 1 (.cp (.t 3)) 61 false),.o (jC 63 8 61 false),.clo (some ⟨64,[],[]⟩) 92 (.t 62) [.t 63] (some (61,false)),.o (jN 65 64 61 false),.o (iOr 66 61 65)])),(18,(.X2 [.o (Lt 70 1 7 1),.o (Lt 71 1 0 70),.o (Lt 72 1 1 71),.o (iL 73 72),.o (iP 74 .neq 73 (-1)),.o (iC 75 74),.o (j1 76 1 (.cp (.t 3)) 75 true),.o (jFr 77 1 7 1 75 true),.o (jFr 78 1 0 77 75 true),.o (jFr 79 1 1 78 75 true),.o (jL 80 79 75 true),.clo (some ⟨81,[],[]⟩) 92 (.t 76) [.t 80] (some (75,true)),.o (jN 82 81 75 true),.o (iAn 83 75 82)])),(23,(.X2 [.o (Lt 94 10 2 10),.o (iL 95 94),.o (iC 96 95),.o (j1 97 1 (.cp (.t 3)) 96 true),.o (jC 98 9 96 true),.clo (some ⟨99,[],[]⟩) 92 (.t 97) [.t 98] (some (96,true)),.o (jN 100 99 96 true),.o (iAn 101 96 100)]))])) ?_
 have a1:= @MI
 have l3:=λn1 n2 n3 n4:Nat=>Ax λn τ=>∃(d:Int),(τ 1=bA 15 (BB a)/\τ 3= .cl 92 [(1,[])]/\τ 87=vS 3 Ae a.Init.Sync.AA/\τ 88=si (a.Init.Sync.AA.length:Int)/\τ 89=si d)/\Gm a n d=some r
 have l1:=λn1 n2 n3 n4:Nat=>Ax λn τ=>∃(b:Int),(τ 1=bA 15 (BB a)/\τ 3= .cl 92 [(1,[])]/\τ 15=vS 2 C4 a.Init.Sync.AG/\τ 16=si (a.Init.Sync.AG.length:Int)/\τ 17=si b)/\Aa a n b=some r
 have l2:=λn1 n2 n3 n4:Nat=>Ax λn τ=>∃(b:Int) (c:AW) (f e:Int),(τ 1=bA 15 (BB a)/\τ 3= .cl 92 [(1,[])]/\τ 6=si f/\τ 15=vS 2 C4 a.Init.Sync.AG/\τ 16=si (a.Init.Sync.AG.length:Int)/\τ 17=si b/\τ 52=vS 1 eI c.As/\τ 53=si (c.As.length:Int)/\τ 54=si e)/\C2 (Aa a n1) b a c n f e=some r
 have c6:=λn1 n2 n3 n4:Nat=>Bh 6 λτ=>∃(o:Bool),(τ 1=bA 15 (BB a)/\τ 3= .cl 92 [(1,[])]/\τ 83=sb o)/\J6 a o=some r
 have c2:=λn1 n2 n3 n4:Nat=>Bh 2 λτ=>∃(b:Int) (c:AW) (l:Bool),(τ 1=bA 15 (BB a)/\τ 3= .cl 92 [(1,[])]/\τ 5=bA 2 (C4 c)/\τ 15=vS 2 C4 a.Init.Sync.AG/\τ 16=si (a.Init.Sync.AG.length:Int)/\τ 17=si b/\τ 50=sb l)/\J2 (Aa a n1) b a c l=some r
 have c1:=λn1 n2 n3 n4:Nat=>Bh 1 λτ=>∃(b:Int) (c:AW) (j:Bool),(τ 1=bA 15 (BB a)/\τ 3= .cl 92 [(1,[])]/\τ 4=si b/\τ 5=bA 2 (C4 c)/\τ 15=vS 2 C4 a.Init.Sync.AG/\τ 16=si (a.Init.Sync.AG.length:Int)/\τ 17=si b/\τ 31=sb j)/\J1 (Aa a n1) b a c j=some r
 unfold BZ at h
 exact walk
end
namespace Da
def J5:ABp Bool:=
some true
def L3 (a b:AN) (L3:Int->ABp Bool) (e:Int):ABp Bool:=
if decide (e<(a.AA.length:Int))then
(gt a.AA e).bind λi=>
(gt b.AA e).bind λj=>
if !(i.Status==j.Status&&(i.D8==j.D8&&(i.Atomic==j.Atomic)))then
some false
else
L3 (Ap (e+1))
else
J5
def Gm (a b:AN):Nat->Int->ABp Bool
|0,_=>none
|n+1,e=>L3 a b (Gm a b n) e
def J4 (a b:AN):ABp Bool:=
Gm a b BT 0
def L2 (a b:AN) (L2:Int->ABp Bool) (d:Int):ABp Bool:=
if decide (d<(a.Bq.length:Int))then
(gt a.Bq d).bind λs=>
(gt b.Bq d).bind λt=>
if !(s==t)then
some false
else
L2 (Ap (d+1))
else
J4 a b
def C2 (a b:AN):Nat->Int->ABp Bool
|0,_=>none
|n+1,d=>L2 a b (C2 a b n) d
def J3 (a b:AN):ABp Bool:=
C2 a b BT 0
def J2 (L1:Int->ABp Bool) (c:Int) (p:Bool):ABp Bool:=
if p then
some false
else
L1 (Ap (c+1))
def L1 (a b:AN) (L1:Int->ABp Bool) (c:Int):ABp Bool:=
if decide (c<(a.AG.length:Int))then
(gt a.AG c).bind λl=>
(gt b.AG c).bind λo=>
if l.CW != o.CW then
J2 L1 c true
else
(Cb l.As o.As).bind λq=>
J2 L1 c (!q)
else
J3 a b
def Aa (a b:AN):Nat->Int->ABp Bool
|0,_=>none
|n+1,c=>L1 a b (Aa a b n) c
def J1 (a b:AN) (f:Bool):ABp Bool:=
if f then
some false
else
Aa a b BT 0
end Da
section
open Da
def Da (a b:AN):ABp Bool:=
if a.Tx != b.Tx then
J1 a b true
else
if(a.AG.length:Int) != (b.AG.length:Int)then
J1 a b true
else
if(a.Bq.length:Int) != (b.Bq.length:Int)then
J1 a b true
else
J1 a b ((a.AA.length:Int) != (b.AA.length:Int))
theorem Xv {a b:AN} {r:Bool} (h:Da a b=some r):Says Tryz.prog 15 [.agg (E1 a),.agg (E1 b)] (sb r):=by
 refine kO mix Tryz.func15 (hn [(2,[8,14,23,32,41,47,61,77,83,95,101]),(3,[10,17,26,35,53,67,88,106])] [(2,1)]) ?_
 have a1:= @Hi
 have l3:=λn1 n2 n3 n4:Nat=>Ax λn τ=>∃(e:Int),(τ 2=bA 4 (E1 a)/\τ 3=bA 4 (E1 b)/\τ 7=si e)/\Gm a b n e=some r
 have l2:=λn1 n2 n3 n4:Nat=>Ax λn τ=>∃(d:Int),(τ 2=bA 4 (E1 a)/\τ 3=bA 4 (E1 b)/\τ 6=si d)/\C2 a b n d=some r
 have l1:=λn1 n2 n3 n4:Nat=>Ax λn τ=>∃(c:Int),(τ 2=bA 4 (E1 a)/\τ 3=bA 4 (E1 b)/\τ 5=si c)/\Aa a b n c=some r
 have c1:=λn1 n2 n3 n4:Nat=>Bh 1 λτ=>∃(f:Bool),(τ 2=bA 4 (E1 a)/\τ 3=bA 4 (E1 b)/\τ 39=sb f)/\J1 a b f=some r
 unfold Da at h
 exact walk
end
namespace Fg
def J1 (c:Bool):ABp Bool:=
some c
end Fg
section
open Fg
def Fg (a b:AH):ABp Bool:=
if a.Thread==b.Thread then
if a.Kind==b.Kind then
if a.Obj==b.Obj then
if a.Value==b.Value then
if a.Site==b.Site then
(Cb a.D9 b.D9).bind λd=>
if d then
(Cb a.Db b.Db).bind λe=>
J1 e
else
J1 false
else
J1 false
else
J1 false
else
J1 false
else
J1 false
else
J1 false
theorem Qx {a b:AH} {r:Bool} (h:Fg a b=some r):Says Tryz.prog 46 [.agg (BG a),.agg (BG b)] (sb r):=by
 refine kO mix Tryz.func46 (hn [(2,[5,11,18,25,32,39,46]),(3,[7,13,20,27,34,41,48])]) ?_
 have a1:= @Hi
 unfold Fg at h
 exact walk
end
namespace G6
def J1 (d:AB):ABp AB:=
some d
def L1 (a:AD) (L1:AB->Int->ABp AB) (b:AB) (c:Int):ABp AB:=
if decide (c<(a.Cells.length:Int))then
(gt a.Cells c).bind λf=>
if Al (b.Cells.length+1) 8=true then
L1 (AB.mk b.Sync (b.Cells++[f.Init]) b.AK b.Count) (Ap (c+1))
else none
else
J1 b
def Aa (a:AD):Nat->AB->Int->ABp AB
|0,_,_=>none
|n+1,b,c=>L1 a (Aa a n) b c
end G6
section
open G6
def G6 (a:AD):ABp AB:=
(CV a).bind λe=>
if 0≤(a.AK.length:Int)/\(a.AK.length:Int)≤(a.AK.length:Int)/\Al a.AK.length 8=true then
if 0≤(a.AA.length:Int)/\(a.AA.length:Int)≤(a.AA.length:Int)/\Al a.AA.length 8=true then
Aa a BT (AB.mk e [] (List.replicate a.AK.length 0) (List.replicate a.AA.length 0)) 0
else none
else none
theorem O4 {a:AD} {r:AB} (h:G6 a=some r):Says Tryz.prog 105 [.agg (Ai a)] (.agg (CG r)):=by
 refine kO mix Tryz.func105 (hn [(1,[7,11,17,25]),(3,[23,24,33,34])]) ?_
 have a1:= @O2
 have l1:=λn1 n2 n3 n4:Nat=>Ax λn τ=>∃(b:AB) (c:Int),(τ 1=bA 6 (Ai a)/\τ 2=bA 7 z0/\τ 3=bA 7 (CG b)/\τ 4=si c)/\Aa a n b c=some r
 unfold G6 at h
 exact walk
end
namespace Hb
def J1 (c:Bool):ABp Bool:=
some c
end Hb
section
open Hb
def Hb (b:AD) (a:AB):ABp Bool:=
(ER b a.Sync).bind λd=>
if d then
if(a.Cells.length:Int)==(b.Cells.length:Int)then
if(a.AK.length:Int)==(b.AK.length:Int)then
J1 ((a.Count.length:Int)==(b.AA.length:Int))
else
J1 false
else
J1 false
else
J1 false
theorem QL {b:AD} {a:AB} {r:Bool} (h:Hb b a=some r):Says Tryz.prog 48 [.agg (Ai b),.agg (Aw a)] (sb r):=by
 refine kO mix Tryz.func48 (hn [(2,[13,22,31]),(3,[6,10,19,28])]) ?_
 have a1:= @Lz
 unfold Hb at h
 exact walk
end
namespace Gs
def J1 (e:Bool):ABp Bool:=
some e
def J3 (f:Bool):ABp Bool:=
some f
def J2 (a:AH) (b:AB) (c:Bool):ABp Bool:=
if c then
some true
else
if a.Kind==18 then
(CO b.Sync a.Obj).bind λd=>
if(d.length:Int)==0 then
some (a.Value==(-1))
else
if decide (a.Value≥0)then
if decide (a.Value<(b.Sync.AA.length:Int))then
(GA d a.Value).bind λi=>
J3 i
else
J3 false
else
J3 false
else
if a.Kind==19 then
(CO b.Sync a.Obj).bind λj=>
some (a.Value==(j.length:Int))
else
some (a.Value==0)
end Gs
section
open Gs
def Gs (b:AB) (a:AH):ABp Bool:=
if a.Kind==3 then
(gt b.Cells a.Obj).bind λl=>
some (a.Value==l)
else
if a.Kind==23 then
(gt b.AK a.Obj).bind λo=>
some (a.Value==o)
else
if a.Kind==5 then
if a.Value==0 then
J1 true
else
J1 (a.Value==1)
else
if a.Kind==4 then
J2 a b (a.Kind==4)
else
J2 a b (a.Kind==22)
theorem Wq {b:AB} {a:AH} {r:Bool} (h:Gs b a=some r):Says Tryz.prog 102 [.agg (Aw b),.agg (BG a)] (sb r):=by
 refine kO mix Tryz.func102 (hn [(2,[12,23,45,62,63,78]),(3,[6,10,14,21,25,32,36,47,53,56,60,70,76,80,85]),(5,[50,69])] [(9,2)]) ?_
 have a1:= @Mh
 have a2:= @NG
 have c2:=λn1 n2 n3 n4:Nat=>Bh 2 λτ=>∃(c:Bool),(τ 2=bA 7 (Aw b)/\τ 3=bA 7 (BG a)/\τ 7=si a.Kind/\τ 40=sb c)/\J2 a b c=some r
 unfold Gs at h
 exact walk
end
namespace Eb
def J5:ABp Bool:=
some true
def J4 (L1:Int->ABp Bool) (b:Int) (l:Bool):ABp Bool:=
if l then
some false
else
L1 (Ap (b+1))
def J3 (L1:Int->ABp Bool) (b:Int) (c:Bool) (a:AO) (e:Bool):ABp Bool:=
if e then
some false
else
if c then
(gt a.Init.Sync.AA b).bind λq=>
(Ks q.D8 (a.World.Af.length:Int)).bind λo=>
if !o then
J4 L1 b true
else
J4 L1 b false
else
(gt a.Init.Sync.AA b).bind λs=>
J4 L1 b (s.D8 != 0)
def J2 (L1:Int->ABp Bool) (d:Bool) (b:Int) (a:AO) (c:Bool):ABp Bool:=
(gt a.Init.Sync.AA b).bind λf=>
if decide (f.Status<0)then
J3 L1 b c a true
else
if decide (f.Status>5)then
J3 L1 b c a true
else
(gt a.Init.Count b).bind λp=>
if !(d==(p==0))then
J3 L1 b c a true
else
if b==0 then
J3 L1 b c a (f.Status==0)
else
J3 L1 b c a false
def J1 (L1:Int->ABp Bool) (b:Int) (a:AO) (d:Bool):ABp Bool:=
(gt a.Init.Sync.AA b).bind λj=>
if j.Status==3 then
J2 L1 d b a true
else
J2 L1 d b a (j.Status==4)
def L1 (a:AO) (L1:Int->ABp Bool) (b:Int):ABp Bool:=
if decide (b<(a.Init.Sync.AA.length:Int))then
(gt a.Init.Sync.AA b).bind λi=>
if i.Status==0 then
J1 L1 b a true
else
J1 L1 b a (i.Status==1)
else
J5
def Aa (a:AO):Nat->Int->ABp Bool
|0,_=>none
|n+1,b=>L1 a (Aa a n) b
end Eb
section
open Eb
def Eb (a:AO):ABp Bool:=
Aa a BT 0
theorem Sf {a:AO} {r:Bool} (h:Eb a=some r):Says Tryz.prog 50 [.agg (BB a)] (sb r):=by
 refine kO mix Tryz.func50 (hn [(1,[7,8,9,61,62,89,90])] [(7,1),(8,2),(10,3)]) ?_
 have a1:= @UA
 have l1:=λn1 n2 n3 n4:Nat=>Ax λn τ=>∃(b:Int),(τ 1=bA 15 (BB a)/\τ 3=vS 3 Ae a.Init.Sync.AA/\τ 4=si b)/\Aa a n b=some r
 have c3:=λn1 n2 n3 n4:Nat=>Bh 3 λτ=>∃(b:Int) (c e:Bool),(τ 1=bA 15 (BB a)/\τ 3=vS 3 Ae a.Init.Sync.AA/\τ 4=si b/\τ 6=sb c/\τ 81=sb e)/\J3 (Aa a n1) b c a e=some r
 have c2:=λn1 n2 n3 n4:Nat=>Bh 2 λτ=>∃(d:Bool) (b:Int) (c:Bool),(τ 1=bA 15 (BB a)/\τ 3=vS 3 Ae a.Init.Sync.AA/\τ 4=si b/\τ 5=sb d/\τ 6=sb c)/\J2 (Aa a n1) d b a c=some r
 have c1:=λn1 n2 n3 n4:Nat=>Bh 1 λτ=>∃(b:Int) (d:Bool),(τ 1=bA 15 (BB a)/\τ 3=vS 3 Ae a.Init.Sync.AA/\τ 4=si b/\τ 5=sb d)/\J1 (Aa a n1) b a d=some r
 unfold Eb at h
 exact walk
end
namespace GD
def J1 (c:Bool):ABp Bool:=
some c
end GD
section
open GD
def GD (b:AO) (a:Int):ABp Bool:=
(Ks a (b.Init.Count.length:Int)).bind λd=>
if d then
(gt b.Init.Count a).bind λe=>
J1 (decide (e≥1))
else
J1 false
theorem Wu {b:AO} {a:Int} {r:Bool} (h:GD b a=some r):Says Tryz.prog 98 [.agg (BB b),si a] (sb r):=by
 refine kO mix Tryz.func98 (hn [(2,[6,7,12,13])]) ?_
 have a1:= @UA
 unfold GD at h
 exact walk
end
namespace Gt
def J3:ABp Bool:=
some true
def J2 (L1:Int->ABp Bool) (a:Int):ABp Bool:=
L1 (Ap (a+1))
def J1 (L1:Int->ABp Bool) (a:Int) (l:Bool):ABp Bool:=
if l then
some false
else
J2 L1 a
def L1 (c:List Int) (d:Int) (b:AO) (L1:Int->ABp Bool) (a:Int):ABp Bool:=
if decide (a<(c.length:Int))then
(gt c a).bind λf=>
(gt b.Init.Count d).bind λi=>
if decide (f<i)then
J2 L1 a
else
(Ji b d (Ap (f-i))).bind λe=>
if decide (e<0)then
J1 L1 a true
else
(gt b.AF e).bind λj=>
if j.Kind != 3 then
J1 L1 a (j.Kind != 23)
else
J1 L1 a false
else
J3
def Aa (c:List Int) (d:Int) (b:AO):Nat->Int->ABp Bool
|0,_=>none
|n+1,a=>L1 c d b (Aa c d b n) a
end Gt
section
open Gt
def Gt (b:AO) (d:Int) (c:List Int):ABp Bool:=
Aa c d b BT 0
theorem Wv {b:AO} {d:Int} {c:List Int} {r:Bool} (h:Gt b d c=some r):Says Tryz.prog 53 [.agg (BB b),si d,vS 1 eI c] (sb r):=by
 refine kO mix Tryz.func53 (hn [(3,[19,20,32,33,43,51])]) ?_
 have a1:= @ZT
 have l1:=λn1 n2 n3 n4:Nat=>Ax λn τ=>∃(a:Int),(τ 1=si d/\τ 2=vS 1 eI c/\τ 3=bA 15 (BB b)/\τ 7=si a)/\Aa c d b n a=some r
 unfold Gt at h
 exact walk
end
end Go.Abs
