/- Typed programs of Go functions, and that the functions do what these say. -/
import Derived.Test.YtdadohkcmclilaaGreatDoorBaseA
import Derived.Shelf.Slices.SearchI
set_option linter.unusedSimpArgs false
set_option linter.unusedVariables false
namespace Go.Abs
open Go.Proofs
set_option maxRecDepth 1000000
set_option maxHeartbeats 4000000
def f74c:IC:=(.seq (.OD [⟨some ⟨2,[],[]⟩,.mv (.c (.own false 1 [])),none⟩])
(.seq (.seq (.X2 [.o ⟨some ⟨3,[],[]⟩,.cp (.t 0),none⟩,
.Ry ⟨4,[],[]⟩ false (.t 3)])
(.cond (.t 4) (.seq (.OD [⟨some ⟨2,[],[]⟩,.mv (.c (.own false 1 [])),none⟩])
.ret) .skip))
(.seq (.OD [⟨some ⟨5,[],[]⟩,.Mr 1 [] [],none⟩,
⟨some ⟨6,[],[]⟩,.cp (.t 0),none⟩,
⟨some ⟨7,[],[]⟩,.app 1 8 (.t 5) (.t 6),none⟩,
⟨some ⟨2,[],[]⟩,.mv (.t 7),none⟩])
.ret)))
def f74g:Gi:=⟨[]⟩
def f74r:List RV:=[.tmp 2]
def f74:FI:=⟨f74c,f74g,f74r⟩
theorem chk74:JP Tryz.prog Tryz.f74 f74=true:=by kernel_rfl
def Eo (l:List Int):ABp (List Int):=if Al l.length 8=true then some l else none
theorem Jn {l:List Int} {r:List Int} (h:Eo l=some r):Says Tryz.prog 74 [vS 1 eI l] (vO 1 eI r):=by
  obtain⟨g,h⟩:=Gx h
  obtain rfl:=AAR h
  refine Gu mix Tryz.func74 chk74 (AAa (by kernel_rfl)) rfl ?_
  simp only[f74,f74c,f74g,f74r]
  simp +decide only[go_sem,g]
  intro b hb
  cases b with
  |true=>
    have hl:l=[]:=by simpa using hb rfl
    subst hl
    simp +decide only[go_sem,g]
  |false=>simp +decide only[go_sem,g]
def f67c:IC:=(Ra 0 [.b 3 [9,11] (.bx 7 (.t 1)),.B 4 false]
(Ip (Ra 9 [.f 5 3,.f 6 3,.o (.RD [.own false 1 [],.own false 1 []] [(0,1,.t 10),(1,1,.t 12)]),.Y 0]
(Bl 0 (Ra 15 [.P .lss 14 2]
(Sq (cX 15 0)
(Ip (Bk 1 (Ip (Rc 16 [.o (.idx false 2 1 (.t 13) (.t 14)),.M 6 16])
(Ra 17 [.C 6,.Z 17,.Y 0]
(Bl 2 (Ra 20 [.O .lss 19 18]
(Sq (cX 20 2)
(Sq (Bk 3 (Ra 21 [.I 1 17 19,.L 21,.M 8 22]
(Ip (Rc 23 [.C 8,.P .lss 23 0,.C 24,.G 25 false,.C 8,.C 0,.Z 27,.O .geq 26 28,.e,.V 25 29,.C 30,.G 31 false,.C 0,.C 8,.I 1 32 33,.L 34,.N 35,.e,.V 31 36])
(Ci 37 (Rb 0 [.B 4 false])))))
(Rc 38 [.P .add 19 1,.w 19,.C 38]))))))))
(Rc 39 [.P .add 14 1,.w 14,.C 39]))))))
(Rb 0 [.B 4 true])))
def f67g:Gi:=⟨[(9,[3]),(11,[3])]⟩
def f67r:List RV:=[.tmp 4]
def f67:FI:=⟨f67c,f67g,f67r⟩
theorem chk67:JP Tryz.prog Tryz.f67 f67=true:=by kernel_rfl
namespace Ay
def J4:ABp Bool:=
some true
def J3 (L1:Int->ABp Bool) (Jg:Int):ABp Bool:=
L1 (Ap (Jg+1))
def J2 (L2:Int->ABp Bool) (Kd:Int) (AAD:Bool):ABp Bool:=
if AAD then
some false
else
L2 (Ap (Kd+1))
def L2 (L1:Int->ABp Bool) (l:List Int) (reads:List Bool) (Jg:Int) (L2:Int->ABp Bool) (Kd:Int):ABp Bool:=
if decide (Kd<(l.length:Int))then
(gt l Kd).bind λx=>
if decide (x<0)then
J2 L2 Kd true
else
if decide (x≥(reads.length:Int))then
J2 L2 Kd true
else
(gt reads x).bind λUx=>
J2 L2 Kd (!Ux)
else
J3 L1 Jg
def C2 (L1:Int->ABp Bool) (l:List Int) (reads:List Bool) (Jg:Int):Nat->Int->ABp Bool
|0,_=>none
|n+1,Kd=>L2 L1 l reads Jg (C2 L1 l reads Jg n) Kd
def J1 (L1:Int->ABp Bool) (reads:List Bool) (Jg:Int) (l:List Int):ABp Bool:=
C2 L1 l reads Jg BT 0
def L1 (ev:AH) (reads:List Bool) (L1:Int->ABp Bool) (Jg:Int):ABp Bool:=
if decide (Jg<2)then
if Jg==0 then
J1 L1 reads Jg ev.D9
else
if Jg==1 then
J1 L1 reads Jg ev.Db
else
none
else
J4
def Aa (ev:AH) (reads:List Bool):Nat->Int->ABp Bool
|0,_=>none
|n+1,Jg=>L1 ev reads (Aa ev reads n) Jg
end Ay
section
open Ay
def Ay (reads:List Bool) (ev:AH):ABp Bool:=
Aa ev reads BT 0
theorem NP {reads:List Bool} {ev:AH} {r:Bool} (h:Ay reads ev=some r):Says Tryz.prog 67 [vS 1 eB reads,.agg (BG ev)] (sb r):=by
 refine Gu mix Tryz.func67 chk67 (AAa (by kernel_rfl)) rfl ?_
 simp only[f67,f67c,f67g,f67r]
 try simp +decide only[go_sem, *]
 refine JH (λτ=>(True)/\J4=some r) λM4 kQ=>⟨?_,?_⟩
 . try simp +decide only[go_sem, *]
   refine Ir (λn τ=>∃Jg:Int,(τ 0=vS 1 eB reads/\τ 13= .agg [vS 1 eI ev.D9,vS 1 eI ev.Db]/\τ 14=si Jg)/\Aa ev reads n Jg=some r) ⟨_,?_,h⟩ λn1 τ1 N1=> ?_
   . simp +decide only[go_sem, *]
   rintro⟨Jg,s1,h⟩ dR
   cases n1 with
   |zero=>exact Bi h
   |succ n1=>
    rw[Aa]at h;generalize dP:Aa ev reads n1=L1 at h
    try simp +decide only[go_sem, *]
    refine cI h (λ_ h=> ?_) λ_ h=> ?_
    . try simp +decide only[go_sem, *]
      refine JH (λτ=>(τ 0=vS 1 eB reads/\τ 13= .agg [vS 1 eI ev.D9,vS 1 eI ev.Db]/\τ 14=si Jg)/\J3 L1 Jg=some r) λM3 dQ=>⟨?_,?_⟩
      . try simp +decide only[go_sem, *]
        refine JH (λτ=>∃l:List Int,(τ 0=vS 1 eB reads/\τ 6=vS 1 eI l/\τ 13= .agg [vS 1 eI ev.D9,vS 1 eI ev.Db]/\τ 14=si Jg)/\J1 L1 reads Jg l=some r) λM1 TG=>⟨?_,?_⟩
        . rcases Y0 h with⟨e2,h⟩|⟨e2,h⟩
          . obtain rfl:=e2
            try simp +decide only[go_sem, *]
            refine TG _ ⟨_,?_,h⟩
            simp +decide only[go_sem, *]
          . obtain rfl:=e2
            try simp +decide only[go_sem, *]
            refine TG _ ⟨_,?_,h⟩
            simp +decide only[go_sem, *]
        rintro τ1 ⟨l,s1,h⟩
        try simp +decide only[go_sem, *]
        refine Ir (λn τ=>∃Kd:Int,(τ 0=vS 1 eB reads/\τ 13= .agg [vS 1 eI ev.D9,vS 1 eI ev.Db]/\τ 14=si Jg/\τ 17=vS 1 eI l/\τ 18=si (l.length:Int)/\τ 19=si Kd)/\C2 L1 l reads Jg n Kd=some r) ⟨_,?_,h⟩ λn2 τ2 N2=> ?_
        . simp +decide only[go_sem, *]
        rintro⟨Kd,s2,h⟩ hN2
        cases n2 with
        |zero=>exact Bi h
        |succ n2=>
         rw[C2]at h;generalize YT:C2 L1 l reads Jg n2=L2 at h
         try simp +decide only[go_sem, *]
         refine cI h (λ_ h=> ?_) λ_ h=> ?_
         . obtain⟨x,_,h⟩:=gB h
           try simp +decide only[go_sem, *]
           refine JH (λτ=>∃AAD:Bool,(τ 0=vS 1 eB reads/\τ 13= .agg [vS 1 eI ev.D9,vS 1 eI ev.Db]/\τ 14=si Jg/\τ 17=vS 1 eI l/\τ 18=si (l.length:Int)/\τ 19=si Kd/\τ 37=sb AAD)/\J2 L2 Kd AAD=some r) λM2 TJ=>⟨?_,?_⟩
           . try simp +decide only[go_sem, *]
             refine gI h (λ_ h=> ?_) λ_ h=> ?_
             . try simp +decide only[go_sem, *]
               refine TJ _ ⟨_,?_,h⟩
               simp +decide only[go_sem, *]
             try simp +decide only[go_sem, *]
             refine gI h (λ_ h=> ?_) λ_ h=> ?_
             . try simp +decide only[go_sem, *]
               refine TJ _ ⟨_,?_,h⟩
               simp +decide only[go_sem, *]
             obtain⟨Ux,_,h⟩:=gB h
             try simp +decide only[go_sem, *]
             refine TJ _ ⟨_,?_,h⟩
             simp +decide only[go_sem, *]
           rintro τ2 ⟨AAD,s2,h⟩
           try simp +decide only[go_sem, *]
           refine cI h (λ_ h=> ?_) λ_ h=> ?_
           . obtain rfl:=AAR h
             simp +decide only[go_sem, *]
           try simp +decide only[go_sem, *]
           refine hN2 n2 (AA8 _) _ ⟨_,?_,YT.symm▸h⟩
           simp +decide only[go_sem, *]
         try simp +decide only[go_sem, *]
         refine dQ _ ⟨?_,h⟩
         simp +decide only[go_sem, *]
      rintro τ3 ⟨s3,h⟩
      try simp +decide only[go_sem, *]
      refine dR n1 (AA8 _) _ ⟨_,?_,dP.symm▸h⟩
      simp +decide only[go_sem, *]
    try simp +decide only[go_sem, *]
    refine kQ _ ⟨?_,h⟩
    simp +decide only[go_sem, *]
 rintro τ4 ⟨_,h⟩
 obtain rfl:=AAR h
 simp +decide only[go_sem, *]
end
def f69c:IC:=(.seq (.OD [⟨some ⟨2,[],[]⟩,.mv (.c (.own false 5 [])),none⟩])
(.seq (.seq (.X2 [.o ⟨some ⟨3,[],[]⟩,.cp (.t 0),none⟩,
.Ry ⟨4,[],[]⟩ false (.t 3)])
(.cond (.t 4) (.seq (.OD [⟨some ⟨2,[],[]⟩,.mv (.c (.own false 5 [])),none⟩])
.ret) .skip))
(.seq (.OD [⟨some ⟨5,[],[]⟩,.Mr 5 [] [],none⟩,
⟨some ⟨6,[],[]⟩,.cp (.t 0),none⟩,
⟨some ⟨7,[],[]⟩,.app 5 48 (.t 5) (.t 6),none⟩,
⟨some ⟨2,[],[]⟩,.mv (.t 7),none⟩])
.ret)))
def f69g:Gi:=⟨[]⟩
def f69r:List RV:=[.tmp 2]
def f69:FI:=⟨f69c,f69g,f69r⟩
theorem chk69:JP Tryz.prog Tryz.f69 f69=true:=by kernel_rfl
def Ig (l:List DB):ABp (List DB):=if Al l.length 48=true then some l else none
theorem MC {l:List DB} {r:List DB} (h:Ig l=some r):Says Tryz.prog 69 [vS 5 Fw l] (vO 5 Fw r):=by
  obtain⟨g,h⟩:=Gx h
  obtain rfl:=AAR h
  refine Gu mix Tryz.func69 chk69 (AAa (by kernel_rfl)) rfl ?_
  simp only[f69,f69c,f69g,f69r]
  simp +decide only[go_sem,g]
  intro b hb
  cases b with
  |true=>
    have hl:l=[]:=by simpa using hb rfl
    subst hl
    simp +decide only[go_sem,g]
  |false=>simp +decide only[go_sem,g]
def f70c:IC:=(.seq (.OD [⟨some ⟨2,[],[]⟩,.mv (.c (.own false 2 [])),none⟩])
(.seq (.seq (.X2 [.o ⟨some ⟨3,[],[]⟩,.cp (.t 0),none⟩,
.Ry ⟨4,[],[]⟩ false (.t 3)])
(.cond (.t 4) (.seq (.OD [⟨some ⟨2,[],[]⟩,.mv (.c (.own false 2 [])),none⟩])
.ret) .skip))
(.seq (.OD [⟨some ⟨5,[],[]⟩,.Mr 2 [] [],none⟩,
⟨some ⟨6,[],[]⟩,.cp (.t 0),none⟩,
⟨some ⟨7,[],[]⟩,.app 2 24 (.t 5) (.t 6),none⟩,
⟨some ⟨2,[],[]⟩,.mv (.t 7),none⟩])
.ret)))
def f70g:Gi:=⟨[]⟩
def f70r:List RV:=[.tmp 2]
def f70:FI:=⟨f70c,f70g,f70r⟩
theorem chk70:JP Tryz.prog Tryz.f70 f70=true:=by kernel_rfl
def Ii (l:List Ic):ABp (List Ic):=if Al l.length 24=true then some l else none
theorem ME {l:List Ic} {r:List Ic} (h:Ii l=some r):Says Tryz.prog 70 [vS 2 HG l] (vO 2 HG r):=by
  obtain⟨g,h⟩:=Gx h
  obtain rfl:=AAR h
  refine Gu mix Tryz.func70 chk70 (AAa (by kernel_rfl)) rfl ?_
  simp only[f70,f70c,f70g,f70r]
  simp +decide only[go_sem,g]
  intro b hb
  cases b with
  |true=>
    have hl:l=[]:=by simpa using hb rfl
    subst hl
    simp +decide only[go_sem,g]
  |false=>simp +decide only[go_sem,g]
def f71c:IC:=(.seq (.OD [⟨some ⟨2,[],[]⟩,.mv (.c (.own false 2 [])),none⟩])
(.seq (.seq (.X2 [.o ⟨some ⟨3,[],[]⟩,.cp (.t 0),none⟩,
.Ry ⟨4,[],[]⟩ false (.t 3)])
(.cond (.t 4) (.seq (.OD [⟨some ⟨2,[],[]⟩,.mv (.c (.own false 2 [])),none⟩])
.ret) .skip))
(.seq (.OD [⟨some ⟨5,[],[]⟩,.Mr 2 [] [],none⟩,
⟨some ⟨6,[],[]⟩,.cp (.t 0),none⟩,
⟨some ⟨7,[],[]⟩,.app 2 24 (.t 5) (.t 6),none⟩,
⟨some ⟨2,[],[]⟩,.mv (.t 7),none⟩])
.ret)))
def f71g:Gi:=⟨[]⟩
def f71r:List RV:=[.tmp 2]
def f71:FI:=⟨f71c,f71g,f71r⟩
theorem chk71:JP Tryz.prog Tryz.f71 f71=true:=by kernel_rfl
def Ih (l:List LL):ABp (List LL):=if Al l.length 24=true then some l else none
theorem MD {l:List LL} {r:List LL} (h:Ih l=some r):Says Tryz.prog 71 [vS 2 HF l] (vO 2 HF r):=by
  obtain⟨g,h⟩:=Gx h
  obtain rfl:=AAR h
  refine Gu mix Tryz.func71 chk71 (AAa (by kernel_rfl)) rfl ?_
  simp only[f71,f71c,f71g,f71r]
  simp +decide only[go_sem,g]
  intro b hb
  cases b with
  |true=>
    have hl:l=[]:=by simpa using hb rfl
    subst hl
    simp +decide only[go_sem,g]
  |false=>simp +decide only[go_sem,g]
def f72c:IC:=(.seq (.OD [⟨some ⟨2,[],[]⟩,.mv (.c (.own false 1 [])),none⟩])
(.seq (.seq (.X2 [.o ⟨some ⟨3,[],[]⟩,.cp (.t 0),none⟩,
.Ry ⟨4,[],[]⟩ false (.t 3)])
(.cond (.t 4) (.seq (.OD [⟨some ⟨2,[],[]⟩,.mv (.c (.own false 1 [])),none⟩])
.ret) .skip))
(.seq (.OD [⟨some ⟨5,[],[]⟩,.Mr 1 [] [],none⟩,
⟨some ⟨6,[],[]⟩,.cp (.t 0),none⟩,
⟨some ⟨7,[],[]⟩,.app 1 16 (.t 5) (.t 6),none⟩,
⟨some ⟨2,[],[]⟩,.mv (.t 7),none⟩])
.ret)))
def f72g:Gi:=⟨[]⟩
def f72r:List RV:=[.tmp 2]
def f72:FI:=⟨f72c,f72g,f72r⟩
theorem chk72:JP Tryz.prog Tryz.f72 f72=true:=by kernel_rfl
def slices_Clone_string (l:List ABq):ABp (List ABq):=if Al l.length 16=true then some l else none
theorem NM {l:List ABq} {r:List ABq} (h:slices_Clone_string l=some r):Says Tryz.prog 72 [vS 1 eS l] (vO 1 eS r):=by
  obtain⟨g,h⟩:=Gx h
  obtain rfl:=AAR h
  refine Gu mix Tryz.func72 chk72 (AAa (by kernel_rfl)) rfl ?_
  simp only[f72,f72c,f72g,f72r]
  simp +decide only[go_sem,g]
  intro b hb
  cases b with
  |true=>
    have hl:l=[]:=by simpa using hb rfl
    subst hl
    simp +decide only[go_sem,g]
  |false=>simp +decide only[go_sem,g]
def f73c:IC:=(.seq (.OD [⟨some ⟨2,[],[]⟩,.mv (.c (.own false 3 [])),none⟩])
(.seq (.seq (.X2 [.o ⟨some ⟨3,[],[]⟩,.cp (.t 0),none⟩,
.Ry ⟨4,[],[]⟩ false (.t 3)])
(.cond (.t 4) (.seq (.OD [⟨some ⟨2,[],[]⟩,.mv (.c (.own false 3 [])),none⟩])
.ret) .skip))
(.seq (.OD [⟨some ⟨5,[],[]⟩,.Mr 3 [] [],none⟩,
⟨some ⟨6,[],[]⟩,.cp (.t 0),none⟩,
⟨some ⟨7,[],[]⟩,.app 3 24 (.t 5) (.t 6),none⟩,
⟨some ⟨2,[],[]⟩,.mv (.t 7),none⟩])
.ret)))
def f73g:Gi:=⟨[]⟩
def f73r:List RV:=[.tmp 2]
def f73:FI:=⟨f73c,f73g,f73r⟩
theorem chk73:JP Tryz.prog Tryz.f73 f73=true:=by kernel_rfl
def Ij (l:List DL):ABp (List DL):=if Al l.length 24=true then some l else none
theorem MF {l:List DL} {r:List DL} (h:Ij l=some r):Says Tryz.prog 73 [vS 3 FO l] (vO 3 FO r):=by
  obtain⟨g,h⟩:=Gx h
  obtain rfl:=AAR h
  refine Gu mix Tryz.func73 chk73 (AAa (by kernel_rfl)) rfl ?_
  simp only[f73,f73c,f73g,f73r]
  simp +decide only[go_sem,g]
  intro b hb
  cases b with
  |true=>
    have hl:l=[]:=by simpa using hb rfl
    subst hl
    simp +decide only[go_sem,g]
  |false=>simp +decide only[go_sem,g]
namespace KF
def J3 (f:List BK):ABp (List BK):=
some f
def J2 (L1:(List BK)->Int->ABp (List BK)) (b:Int) (c:List BK) (e:BK):ABp (List BK):=
if Al (c.length+1) 16=true then
L1 (c++[e]) (Ap (b+1))
else none
def J1 (L1:(List BK)->Int->ABp (List BK)) (b:Int) (a:List AH) (c:List BK) (d:AH) (i:Bool):ABp (List BK):=
if i then
(gt a b).bind λj=>
J2 L1 b c (BK.mk d.Thread j.Value)
else
J2 L1 b c (BK.mk d.Thread (-1))
def L1 (a:List AH) (L1:(List BK)->Int->ABp (List BK)) (c:List BK) (b:Int):ABp (List BK):=
if decide (b<(a.length:Int))then
(gt a b).bind λd=>
if d.Kind==18 then
if decide (d.Value≥0)then
J1 L1 b a c d (decide (d.Value<4))
else
J1 L1 b a c d false
else
J1 L1 b a c d false
else
J3 c
def Aa (a:List AH):Nat->(List BK)->Int->ABp (List BK)
|0,_,_=>none
|n+1,c,b=>L1 a (Aa a n) c b
end KF
section
open KF
def KF (a:List AH):ABp (List BK):=
Aa a BT [] 0
end
namespace Ec
def J3 (i:Bool):ABp Bool:=
some i
def J2 (a:AO) (e:Int):ABp Bool:=
if a.Start==e then
J3 (decide ((Ap (e+(a.AF.length:Int)))≤400))
else
J3 false
def J1 (L1:Int->Int->ABp Bool) (c b d:Int) (f:Bool):ABp Bool:=
if f then
some false
else
L1 (Ap (c+d)) (Ap (b+1))
def L1 (a:AO) (L1:Int->Int->ABp Bool) (c b:Int):ABp Bool:=
if decide (b<(a.Init.Count.length:Int))then
(gt a.Init.Count b).bind λd=>
if decide (d<0)then
J1 L1 c b d true
else
J1 L1 c b d (decide (d>400))
else
J2 a c
def Aa (a:AO):Nat->Int->Int->ABp Bool
|0,_,_=>none
|n+1,c,b=>L1 a (Aa a n) c b
end Ec
section
open Ec
def Ec (a:AO):ABp Bool:=
Aa a BT 0 0
theorem Sz {a:AO} {r:Bool} (h:Ec a=some r):Says Tryz.prog 41 [.agg (BB a)] (sb r):=by
 refine kO mix Tryz.func41 (hn [(1,[6,7,24,30])]) ?_
 have l1:=λn1 n2 n3 n4:Nat=>Ax λn τ=>∃(c b:Int),(τ 1=bA 15 (BB a)/\τ 3=si c/\τ 8=vS 1 eI a.Init.Count/\τ 9=si (a.Init.Count.length:Int)/\τ 10=si b)/\Aa a n c b=some r
 unfold Ec at h
 exact walk
end
namespace CY
def J6:ABp Bool:=
some true
def J5 (L1:Int->ABp Bool) (b:Int):ABp Bool:=
L1 (Ap (b+1))
def J4 (L1:Int->ABp Bool) (b:Int) (a:AO) (c:AE) (i:Bool):ABp Bool:=
if i then
some false
else
(gt a.World.Af c.D8).bind λl=>
(gt a.Init.Sync.AG l.Mutex).bind λo=>
if o.CW==b then
some false
else
J5 L1 b
def J3 (L1:Int->ABp Bool) (b:Int) (a:AO) (c:AE) (f:Bool):ABp Bool:=
if f then
if c.D8 != 0 then
some false
else
J5 L1 b
else
if decide (c.D8<0)then
J4 L1 b a c true
else
J4 L1 b a c (decide (c.D8≥(a.World.Af.length:Int)))
def J2 (L1:Int->ABp Bool) (b:Int) (a:AO) (c:AE) (d:Bool):ABp Bool:=
(gt a.Init.Count b).bind λj=>
if !((j==0)==d)then
some false
else
if c.Status != 3 then
J3 L1 b a c (c.Status != 4)
else
J3 L1 b a c false
def J1 (L1:Int->ABp Bool) (b:Int) (a:AO) (c:AE) (e:Bool):ABp Bool:=
if e then
some false
else
if c.Status==0 then
J2 L1 b a c true
else
J2 L1 b a c (c.Status==1)
def L1 (a:AO) (L1:Int->ABp Bool) (b:Int):ABp Bool:=
if decide (b<(a.Init.Sync.AA.length:Int))then
(gt a.Init.Sync.AA b).bind λc=>
if decide (c.Status<0)then
J1 L1 b a c true
else
if decide (c.Status>5)then
J1 L1 b a c true
else
if b==0 then
J1 L1 b a c (c.Status==0)
else
J1 L1 b a c false
else
J6
def Aa (a:AO):Nat->Int->ABp Bool
|0,_=>none
|n+1,b=>L1 a (Aa a n) b
end CY
section
open CY
def CY (a:AO):ABp Bool:=
Aa a BT 0
theorem NT {a:AO} {r:Bool} (h:CY a=some r):Says Tryz.prog 42 [.agg (BB a)] (sb r):=by
 refine kO mix Tryz.func42 (hn [(1,[6,7,8,41,42,67,68,73,74,75,77,78]),(4,[16,20,28,33,37,50,54,58,61,65,80])] [(8,1),(10,2),(15,3)]) ?_
 have l1:=λn1 n2 n3 n4:Nat=>Ax λn τ=>∃(b:Int),(τ 1=bA 15 (BB a)/\τ 9=vS 3 Ae a.Init.Sync.AA/\τ 10=si (a.Init.Sync.AA.length:Int)/\τ 11=si b)/\Aa a n b=some r
 have c3:=λn1 n2 n3 n4:Nat=>Bh 3 λτ=>∃(b:Int) (c:AE) (f:Bool),(τ 1=bA 15 (BB a)/\τ 3=si b/\τ 4=bA 3 (Ae c)/\τ 9=vS 3 Ae a.Init.Sync.AA/\τ 10=si (a.Init.Sync.AA.length:Int)/\τ 11=si b/\τ 57=sb f)/\J3 (Aa a n1) b a c f=some r
 have c2:=λn1 n2 n3 n4:Nat=>Bh 2 λτ=>∃(b:Int) (c:AE) (d:Bool),(τ 1=bA 15 (BB a)/\τ 3=si b/\τ 4=bA 3 (Ae c)/\τ 5=sb d/\τ 9=vS 3 Ae a.Init.Sync.AA/\τ 10=si (a.Init.Sync.AA.length:Int)/\τ 11=si b)/\J2 (Aa a n1) b a c d=some r
 have c1:=λn1 n2 n3 n4:Nat=>Bh 1 λτ=>∃(b:Int) (c:AE) (e:Bool),(τ 1=bA 15 (BB a)/\τ 3=si b/\τ 4=bA 3 (Ae c)/\τ 9=vS 3 Ae a.Init.Sync.AA/\τ 10=si (a.Init.Sync.AA.length:Int)/\τ 11=si b/\τ 32=sb e)/\J1 (Aa a n1) b a c e=some r
 unfold CY at h
 exact walk
end
namespace B6
def J1 (c:Bool):ABp Bool:=
some c
end B6
section
open B6
def B6 (b:Int) (a:AO):ABp Bool:=
if decide (b≥0)then
if decide (b<(a.Init.Count.length:Int))then
(gt a.Init.Count b).bind λd=>
J1 (decide (d≥1))
else
J1 false
else
J1 false
theorem MI {b:Int} {a:AO} {r:Bool} (h:B6 b a=some r):Says Tryz.prog 92 [si b,.fp [vS 5 Fw a.World.Cells,vS 2 HG a.World.AG,vS 2 HF a.World.Af,vS 1 eS a.World.AK,vS 1 eS a.World.AA,vS 3 FO a.World.A7,si a.Start,vS 2 C4 a.Init.Sync.AG,si a.Init.Sync.Tx,vS 1 eB a.Init.Sync.Bq,vS 3 Ae a.Init.Sync.AA,vS 1 eI a.Init.Cells,vS 1 eI a.Init.AK,vS 1 eI a.Init.Count,vS 7 BG a.AF]] (sb r):=by
 refine kO mix Tryz.func92 hn ?_
 unfold B6 at h
 exact walk
end
namespace Cz
def J2:ABp Bool:=
some true
def J1 (L1:Int->ABp Bool) (b:Int) (c:Bool):ABp Bool:=
if c then
some false
else
L1 (Ap (b+1))
def L1 (a:AB) (L1:Int->ABp Bool) (b:Int):ABp Bool:=
if decide (b<(a.Sync.Bq.length:Int))then
(gt a.Sync.Bq b).bind λd=>
if !d then
(gt a.AK b).bind λe=>
J1 L1 b (e != 0)
else
J1 L1 b false
else
J2
def Aa (a:AB):Nat->Int->ABp Bool
|0,_=>none
|n+1,b=>L1 a (Aa a n) b
end Cz
section
open Cz
def Cz (a:AB):ABp Bool:=
Aa a BT 0
theorem NR {a:AB} {r:Bool} (h:Cz a=some r):Says Tryz.prog 44 [.agg (Aw a)] (sb r):=by
 refine kO mix Tryz.func44 (hn [(1,[5,6,17])]) ?_
 have l1:=λn1 n2 n3 n4:Nat=>Ax λn τ=>∃(b:Int),(τ 1=bA 7 (Aw a)/\τ 7=vS 1 eB a.Sync.Bq/\τ 8=si (a.Sync.Bq.length:Int)/\τ 9=si b)/\Aa a n b=some r
 unfold Cz at h
 exact walk
end
namespace Cb
def J1:ABp Bool:=
some true
def L1 (a b:List Int) (L1:Int->ABp Bool) (c:Int):ABp Bool:=
if decide (c<(a.length:Int))then
(gt a c).bind λd=>
(gt b c).bind λe=>
if d != e then
some false
else
L1 (Ap (c+1))
else
J1
def Aa (a b:List Int):Nat->Int->ABp Bool
|0,_=>none
|n+1,c=>L1 a b (Aa a b n) c
end Cb
section
open Cb
def Cb (a b:List Int):ABp Bool:=
if(a.length:Int) != (b.length:Int)then
some false
else
Aa a b BT 0
theorem Hi {a b:List Int} {r:Bool} (h:Cb a b=some r):Says Tryz.prog 26 [vS 1 eI a,vS 1 eI b] (sb r):=by
 refine kO mix Tryz.func26 hn ?_
 have l1:=λn1 n2 n3 n4:Nat=>Ax λn τ=>∃(c:Int),(τ 0=vS 1 eI a/\τ 1=vS 1 eI b/\τ 5=si c)/\Aa a b n c=some r
 unfold Cb at h
 exact walk
end
namespace Cs
def J1:ABp Bool:=
some true
def L1 (a b:List Int) (L1:Int->ABp Bool) (c:Int):ABp Bool:=
if decide (c<(a.length:Int))then
(gt a c).bind λd=>
(gt b c).bind λe=>
if d != e then
some false
else
L1 (Ap (c+1))
else
J1
def Aa (a b:List Int):Nat->Int->ABp Bool
|0,_=>none
|n+1,c=>L1 a b (Aa a b n) c
end Cs
section
open Cs
def Cs (a b:List Int):ABp Bool:=
if(a.length:Int) != (b.length:Int)then
some false
else
Aa a b BT 0
theorem Qy {a b:List Int} {r:Bool} (h:Cs a b=some r):Says Tryz.prog 16 [vS 1 eI a,vS 1 eI b] (sb r):=by
 refine kO mix Tryz.func16 hn ?_
 have l1:=λn1 n2 n3 n4:Nat=>Ax λn τ=>∃(c:Int),(τ 0=vS 1 eI a/\τ 1=vS 1 eI b/\τ 5=si c)/\Aa a b n c=some r
 unfold Cs at h
 exact walk
end
namespace Kj
def J1 (c:Bool):ABp Bool:=
some c
end Kj
section
open Kj
def Kj (a b:Int):ABp Bool:=
if decide (a≥0)then
J1 (decide (a<b))
else
J1 false
theorem cG {a b:Int} {r:Bool} (h:Kj a b=some r):Says Tryz.prog 99 [si a,si b] (sb r):=by
 refine kO mix Tryz.func99 hn ?_
 unfold Kj at h
 exact walk
end
namespace Ef
def J2:ABp Bool:=
some true
def J1 (L1:Int->ABp Bool) (a:Int) (e:Bool):ABp Bool:=
if e then
some false
else
L1 (Ap (a+1))
def L1 (c:Int) (b:List Int) (L1:Int->ABp Bool) (a:Int):ABp Bool:=
if decide (a<(b.length:Int))then
(gt b a).bind λd=>
if decide (d<1)then
J1 L1 a true
else
if decide (d≥c)then
J1 L1 a true
else
if decide (a>0)then
(gt b (Ap (a-1))).bind λf=>
J1 L1 a (decide (d≤f))
else
J1 L1 a false
else
J2
def Aa (c:Int) (b:List Int):Nat->Int->ABp Bool
|0,_=>none
|n+1,a=>L1 c b (Aa c b n) a
end Ef
section
open Ef
def Ef (b:List Int) (c:Int):ABp Bool:=
Aa c b BT 0
theorem Tc {b:List Int} {c:Int} {r:Bool} (h:Ef b c=some r):Says Tryz.prog 101 [vS 1 eI b,si c] (sb r):=by
 refine kO mix Tryz.func101 hn ?_
 have l1:=λn1 n2 n3 n4:Nat=>Ax λn τ=>∃(a:Int),(τ 0=vS 1 eI b/\τ 1=si c/\τ 5=si a)/\Aa c b n a=some r
 unfold Ef at h
 exact walk
end
namespace Dq
def J5:ABp Bool:=
some true
def J4 (L1:Int->ABp Bool) (a:Int):ABp Bool:=
L1 (Ap (a+1))
def J3 (L1:Int->ABp Bool) (a:Int) (s:Bool):ABp Bool:=
if !s then
some false
else
J4 L1 a
def J2 (L2:Int->Bool->Int->ABp Bool) (f o:Int) (q:Bool):ABp Bool:=
L2 o q (Ap (f+1))
def J1 (L2:Int->Bool->Int->ABp Bool) (f i:Int) (p:Bool):ABp Bool:=
J2 L2 f (Ap (i+1)) p
def L2 (L1:Int->ABp Bool) (c a:Int) (d:List AH) (b:List Int) (e:Int) (L2:Int->Bool->Int->ABp Bool) (i:Int) (j:Bool) (f:Int):ABp Bool:=
if decide (f<c)then
(gt d f).bind λl=>
if l.Thread != e then
J2 L2 f i j
else
if j then
J1 L2 f i true
else
(gt b a).bind λt=>
if i==t then
if l.Kind==3 then
J1 L2 f i true
else
J1 L2 f i (l.Kind==23)
else
J1 L2 f i false
else
J3 L1 a j
def C2 (L1:Int->ABp Bool) (c a:Int) (d:List AH) (b:List Int) (e:Int):Nat->Int->Bool->Int->ABp Bool
|0,_,_,_=>none
|n+1,i,j,f=>L2 L1 c a d b e (C2 L1 c a d b e n) i j f
def L1 (c:Int) (d:List AH) (b:List Int) (e:Int) (L1:Int->ABp Bool) (a:Int):ABp Bool:=
if decide (a<(b.length:Int))then
C2 L1 c a d b e BT 0 false 0
else
J5
def Aa (c:Int) (d:List AH) (b:List Int) (e:Int):Nat->Int->ABp Bool
|0,_=>none
|n+1,a=>L1 c d b e (Aa c d b e n) a
end Dq
section
open Dq
def Dq (d:List AH) (c e:Int) (b:List Int):ABp Bool:=
Aa c d b e BT 0
theorem Wp {d:List AH} {c e:Int} {b:List Int} {r:Bool} (h:Dq d c e b=some r):Says Tryz.prog 106 [vS 7 BG d,si c,si e,vS 1 eI b] (sb r):=by
 refine kO mix Tryz.func106 hn ?_
 have l1:=λn1 n2 n3 n4:Nat=>Ax λn τ=>∃(a:Int),(τ 0=vS 7 BG d/\τ 1=si c/\τ 2=si e/\τ 3=vS 1 eI b/\τ 9=si a)/\Aa c d b e n a=some r
 have l2:=λn1 n2 n3 n4:Nat=>Ax λn τ=>∃(a i:Int) (j:Bool) (f:Int),(τ 0=vS 7 BG d/\τ 1=si c/\τ 2=si e/\τ 3=vS 1 eI b/\τ 9=si a/\τ 10=si i/\τ 11=sb j/\τ 12=si f)/\C2 (Aa c d b e n1) c a d b e n i j f=some r
 unfold Dq at h
 exact walk
end
namespace G9
def J3 (i:Bool):ABp Bool:=
some i
def J2 (a:AO) (d:Int):ABp Bool:=
if a.Start==d then
J3 (decide ((Ap (d+(a.AF.length:Int)))≤400))
else
J3 false
def J1 (L1:Int->Int->ABp Bool) (b c:Int) (a:AO) (f:Bool):ABp Bool:=
if f then
some false
else
(gt a.Init.Count b).bind λj=>
L1 (Ap (c+j)) (Ap (b+1))
def L1 (a:AO) (L1:Int->Int->ABp Bool) (c b:Int):ABp Bool:=
if decide (b<(a.Init.Count.length:Int))then
(gt a.Init.Count b).bind λe=>
if decide (e<0)then
J1 L1 b c a true
else
J1 L1 b c a (decide (e>400))
else
J2 a c
def Aa (a:AO):Nat->Int->Int->ABp Bool
|0,_,_=>none
|n+1,c,b=>L1 a (Aa a n) c b
end G9
section
open G9
def G9 (a:AO):ABp Bool:=
Aa a BT 0 0
theorem Uo {a:AO} {r:Bool} (h:G9 a=some r):Says Tryz.prog 49 [.agg (BB a)] (sb r):=by
 refine kO mix Tryz.func49 (hn [(1,[6,7,13,14,21,22,30,31,37,43])]) ?_
 have l1:=λn1 n2 n3 n4:Nat=>Ax λn τ=>∃(c b:Int),(τ 1=bA 15 (BB a)/\τ 3=si c/\τ 4=si b)/\Aa a n c b=some r
 unfold G9 at h
 exact walk
end
namespace Ks
def J1 (c:Bool):ABp Bool:=
some c
end Ks
section
open Ks
def Ks (a b:Int):ABp Bool:=
if decide (a≥0)then
J1 (decide (a<b))
else
J1 false
theorem UA {a b:Int} {r:Bool} (h:Ks a b=some r):Says Tryz.prog 97 [si a,si b] (sb r):=by
 refine kO mix Tryz.func97 hn ?_
 unfold Ks at h
 exact walk
end
namespace Ji
def J2:ABp Int:=
some (-1)
def J1 (L1:Int->Int->ABp Int) (a f:Int):ABp Int:=
L1 f (Ap (a+1))
def L1 (c:Int) (b:AO) (L1:Int->Int->ABp Int) (d a:Int):ABp Int:=
if decide (a<(b.AF.length:Int))then
(gt b.AF a).bind λi=>
if i.Thread==c then
if d==0 then
some a
else
J1 L1 a (Ap (d-1))
else
J1 L1 a d
else
J2
def Aa (c:Int) (b:AO):Nat->Int->Int->ABp Int
|0,_,_=>none
|n+1,d,a=>L1 c b (Aa c b n) d a
end Ji
section
open Ji
def Ji (b:AO) (c e:Int):ABp Int:=
Aa c b BT e 0
theorem ZT {b:AO} {c e r:Int} (h:Ji b c e=some r):Says Tryz.prog 104 [.agg (BB b),si c,si e] (si r):=by
 refine kO mix Tryz.func104 (hn [(3,[9,15])]) ?_
 have l1:=λn1 n2 n3 n4:Nat=>Ax λn τ=>∃(d a:Int),(τ 1=si c/\τ 2=si d/\τ 3=bA 15 (BB b)/\τ 7=si a)/\Aa c b n d a=some r
 unfold Ji at h
 exact walk
end
def f56c:IC:=(Ra 0 [.b 2 [11,19,28,37,46,55,64,70,82,88,100,106,118,124,136,142,154,160] (.bx 6 (.t 0)),.b 3 [14,22,31,40,49,58,75,93,111,129,147,165] (.bx 6 (.t 1)),.B 4 false]
(Sq (Ny 1 (Rc 11 [.f 0 2,.Z 12,.f 0 3,.Z 15,.O .neq 13 16,.C 17,.G 18 false,.f 1 2,.Z 20,.f 1 3,.Z 23,.O .neq 21 24,.e,.V 18 25,.C 26,.G 27 false,.f 2 2,.Z 29,.f 2 3,.Z 32,.O .neq 30 33,.e,.V 27 34,.C 35,.G 36 false,.f 3 2,.Z 38,.f 3 3,.Z 41,.O .neq 39 42,.e,.V 36 43,.C 44,.G 45 false,.f 4 2,.Z 47,.f 4 3,.Z 50,.O .neq 48 51,.e,.V 45 52,.C 53,.G 54 false,.f 5 2,.Z 56,.f 5 3,.Z 59,.O .neq 57 60,.e,.V 54 61])
(Ci 62 (Rb 0 [.B 4 false])))
(Sq (Ra 0 [.K 5 0]
(Bl 0 (Sq (Ra 63 [.C 5,.f 0 2,.Z 65,.O .lss 63 66]
(cX 67 0))
(Sq (Bk 1 (Ra 70 [.f 0 2,.C 5,.I 5 71 72,.A 5 73,.f 0 3,.C 5,.I 5 76 77,.A 5 78,.o (.Up true [2,1,1,0,1] (.t 74) (.t 79))]
(Ci 80 (Rb 0 [.B 4 false]))))
(Rc 68 [.C 5,.P .add 68 1,.M 5 69])))))
(Sq (Ra 0 [.K 6 0]
(Bl 2 (Sq (Ra 81 [.C 6,.f 1 2,.Z 83,.O .lss 81 84]
(cX 85 2))
(Sq (Bk 3 (Ra 88 [.f 1 2,.C 6,.I 2 89 90,.A 2 91,.f 1 3,.C 6,.I 2 94 95,.A 2 96,.o (.Up true [2,0] (.t 92) (.t 97))]
(Ci 98 (Rb 0 [.B 4 false]))))
(Rc 86 [.C 6,.P .add 86 1,.M 6 87])))))
(Sq (Ra 0 [.K 7 0]
(Bl 4 (Sq (Ra 99 [.C 7,.f 2 2,.Z 101,.O .lss 99 102]
(cX 103 4))
(Sq (Bk 5 (Ra 106 [.f 2 2,.C 7,.I 2 107 108,.A 2 109,.f 2 3,.C 7,.I 2 112 113,.A 2 114,.o (.Up true [2,1] (.t 110) (.t 115))]
(Ci 116 (Rb 0 [.B 4 false]))))
(Rc 104 [.C 7,.P .add 104 1,.M 7 105])))))
(Sq (Ra 0 [.K 8 0]
(Bl 6 (Sq (Ra 117 [.C 8,.f 3 2,.Z 119,.O .lss 117 120]
(cX 121 6))
(Sq (Bk 7 (Ra 124 [.f 3 2,.C 8,.I 1 125 126,.L 127,.f 3 3,.C 8,.I 1 130 131,.L 132,.O .neq 128 133]
(Ci 134 (Rb 0 [.B 4 false]))))
(Rc 122 [.C 8,.P .add 122 1,.M 8 123])))))
(Sq (Ra 0 [.K 9 0]
(Bl 8 (Sq (Ra 135 [.C 9,.f 4 2,.Z 137,.O .lss 135 138]
(cX 139 8))
(Sq (Bk 9 (Ra 142 [.f 4 2,.C 9,.I 1 143 144,.L 145,.f 4 3,.C 9,.I 1 148 149,.L 150,.O .neq 146 151]
(Ci 152 (Rb 0 [.B 4 false]))))
(Rc 140 [.C 9,.P .add 140 1,.M 9 141])))))
(Sq (Ra 0 [.K 10 0]
(Bl 10 (Sq (Ra 153 [.C 10,.f 5 2,.Z 155,.O .lss 153 156]
(cX 157 10))
(Sq (Bk 11 (Ra 160 [.f 5 2,.C 10,.I 3 161 162,.A 3 163,.f 5 3,.C 10,.I 3 166 167,.A 3 168,.o (.Up true [1,1,1] (.t 164) (.t 169))]
(Ci 170 (Rb 0 [.B 4 false]))))
(Rc 158 [.C 10,.P .add 158 1,.M 10 159])))))
(Rb 0 [.B 4 true])))))))))
def f56g:Gi:=⟨[(11,[2]),(14,[3]),(19,[2]),(22,[3]),(28,[2]),(31,[3]),(37,[2]),(40,[3]),(46,[2]),(49,[3]),(55,[2]),(58,[3]),(64,[2]),(70,[2]),(75,[3]),(82,[2]),(88,[2]),(93,[3]),(100,[2]),(106,[2]),(111,[3]),(118,[2]),(124,[2]),(129,[3]),(136,[2]),(142,[2]),(147,[3]),(154,[2]),(160,[2]),(165,[3])]⟩
def f56r:List RV:=[.tmp 4]
def f56:FI:=⟨f56c,f56g,f56r⟩
theorem chk56:JP Tryz.prog Tryz.f56 f56=true:=by kernel_rfl
namespace Bx
def J7:ABp Bool:=
some true
def L6 (a b:AD) (L6:Int->ABp Bool) (i_5:Int):ABp Bool:=
if decide (i_5<(a.A7.length:Int))then
(gt a.A7 i_5).bind λx_10=>
(gt b.A7 i_5).bind λx_11=>
if !(x_10.Thread==x_11.Thread&&(x_10.Stmt==x_11.Stmt&&(x_10.Ep==x_11.Ep)))then
some false
else
L6 (Ap (i_5+1))
else
J7
def L6r (a b:AD):Nat->Int->ABp Bool
|0,_=>none
|n+1,i_5=>L6 a b (L6r a b n) i_5
def J6 (a b:AD):ABp Bool:=
L6r a b BT 0
def L5 (a b:AD) (L5:Int->ABp Bool) (i_4:Int):ABp Bool:=
if decide (i_4<(a.AA.length:Int))then
(gt a.AA i_4).bind λx_8=>
(gt b.AA i_4).bind λx_9=>
if !(x_8.toList==x_9.toList)then
some false
else
L5 (Ap (i_4+1))
else
J6 a b
def L5r (a b:AD):Nat->Int->ABp Bool
|0,_=>none
|n+1,i_4=>L5 a b (L5r a b n) i_4
def J5 (a b:AD):ABp Bool:=
L5r a b BT 0
def L4 (a b:AD) (L4:Int->ABp Bool) (i_3:Int):ABp Bool:=
if decide (i_3<(a.AK.length:Int))then
(gt a.AK i_3).bind λx_6=>
(gt b.AK i_3).bind λx_7=>
if !(x_6.toList==x_7.toList)then
some false
else
L4 (Ap (i_3+1))
else
J5 a b
def rI (a b:AD):Nat->Int->ABp Bool
|0,_=>none
|n+1,i_3=>L4 a b (rI a b n) i_3
def J4 (a b:AD):ABp Bool:=
rI a b BT 0
def L3 (a b:AD) (L3:Int->ABp Bool) (i_2:Int):ABp Bool:=
if decide (i_2<(a.Af.length:Int))then
(gt a.Af i_2).bind λx_4=>
(gt b.Af i_2).bind λx_5=>
if !(x_4.Name.toList==x_5.Name.toList&&(x_4.Mutex==x_5.Mutex))then
some false
else
L3 (Ap (i_2+1))
else
J4 a b
def Gm (a b:AD):Nat->Int->ABp Bool
|0,_=>none
|n+1,i_2=>L3 a b (Gm a b n) i_2
def J3 (a b:AD):ABp Bool:=
Gm a b BT 0
def L2 (a b:AD) (L2:Int->ABp Bool) (i_1:Int):ABp Bool:=
if decide (i_1<(a.AG.length:Int))then
(gt a.AG i_1).bind λS6=>
(gt b.AG i_1).bind λx_3=>
if !(S6.Name.toList==x_3.Name.toList&&(S6.RW==x_3.RW))then
some false
else
L2 (Ap (i_1+1))
else
J3 a b
def C2 (a b:AD):Nat->Int->ABp Bool
|0,_=>none
|n+1,i_1=>L2 a b (C2 a b n) i_1
def J2 (a b:AD):ABp Bool:=
C2 a b BT 0
def L1 (a b:AD) (L1:Int->ABp Bool) (i:Int):ABp Bool:=
if decide (i<(a.Cells.length:Int))then
(gt a.Cells i).bind λx=>
(gt b.Cells i).bind λUx=>
if !(x.Name.toList==Ux.Name.toList&&(x.Index==Ux.Index&&(x.B0==Ux.B0&&(x.Fv==Ux.Fv&&(x.Init==Ux.Init)))))then
some false
else
L1 (Ap (i+1))
else
J2 a b
def Aa (a b:AD):Nat->Int->ABp Bool
|0,_=>none
|n+1,i=>L1 a b (Aa a b n) i
def J1 (a b:AD) (t62v:Bool):ABp Bool:=
if t62v then
some false
else
Aa a b BT 0
end Bx
section
open Bx
def Bx (a b:AD):ABp Bool:=
if(a.Cells.length:Int) != (b.Cells.length:Int)then
J1 a b true
else
if(a.AG.length:Int) != (b.AG.length:Int)then
J1 a b true
else
if(a.Af.length:Int) != (b.Af.length:Int)then
J1 a b true
else
if(a.AK.length:Int) != (b.AK.length:Int)then
J1 a b true
else
if(a.AA.length:Int) != (b.AA.length:Int)then
J1 a b true
else
J1 a b ((a.A7.length:Int) != (b.A7.length:Int))
theorem Qu {a b:AD} {r:Bool} (h:Bx a b=some r):Says Tryz.prog 56 [.agg (Ai a),.agg (Ai b)] (sb r):=by
 refine Gu mix Tryz.func56 chk56 (AAa (by kernel_rfl)) rfl ?_
 simp only[f56,f56c,f56g,f56r]
 repeat' first
  |with_reducible exact Bi h
  |with_reducible refine gBe h (by assumption) λh=> ?_
  |with_reducible refine gBk h λ_ _ h=> ?_
  | (with_reducible cases h
     simp +decide only[go_sem, *]
     done)
  |simp only[eq_self,AAs,AAe,AAW]at h
  |simp +decide only[go_sem, *]
  | (with_reducible refine cutNH 1 (λτ=>∃t62v:Bool,(τ 2=bA 6 (Ai a)/\τ 3=bA 6 (Ai b)/\τ 62=sb t62v)/\J1 a b t62v=some r) λM m1=>⟨?_,?_⟩
     rotate_left
     clear h;rintro τ ⟨_,_,h⟩
     rotate_left)
  | (with_reducible refine impI m1 ⟨_,?_,h⟩;simp +decide only[go_sem, *];done)
  | (with_reducible refine Ir (λn τ=>∃i_5:Int,(τ 2=bA 6 (Ai a)/\τ 3=bA 6 (Ai b)/\τ 10=si i_5)/\L6r a b n i_5=some r) ⟨_,?_,h⟩ ?_
     rotate_left
     rintro(_|n6) τ N ⟨_,_,h⟩ k6
     . exact Bi h
     rw[L6r]at h)
  | (with_reducible refine Ir (λn τ=>∃i_4:Int,(τ 2=bA 6 (Ai a)/\τ 3=bA 6 (Ai b)/\τ 9=si i_4)/\L5r a b n i_4=some r) ⟨_,?_,h⟩ ?_
     rotate_left
     rintro(_|n5) τ N ⟨_,_,h⟩ k5
     . exact Bi h
     rw[L5r]at h)
  | (with_reducible refine Ir (λn τ=>∃i_3:Int,(τ 2=bA 6 (Ai a)/\τ 3=bA 6 (Ai b)/\τ 8=si i_3)/\rI a b n i_3=some r) ⟨_,?_,h⟩ ?_
     rotate_left
     rintro(_|n4) τ N ⟨_,_,h⟩ k4
     . exact Bi h
     rw[rI]at h)
  | (with_reducible refine Ir (λn τ=>∃i_2:Int,(τ 2=bA 6 (Ai a)/\τ 3=bA 6 (Ai b)/\τ 7=si i_2)/\Gm a b n i_2=some r) ⟨_,?_,h⟩ ?_
     rotate_left
     rintro(_|n3) τ N ⟨_,_,h⟩ k3
     . exact Bi h
     rw[Gm]at h)
  | (with_reducible refine Ir (λn τ=>∃i_1:Int,(τ 2=bA 6 (Ai a)/\τ 3=bA 6 (Ai b)/\τ 6=si i_1)/\C2 a b n i_1=some r) ⟨_,?_,h⟩ ?_
     rotate_left
     rintro(_|n2) τ N ⟨_,_,h⟩ k2
     . exact Bi h
     rw[C2]at h)
  | (with_reducible refine Ir (λn τ=>∃i:Int,(τ 2=bA 6 (Ai a)/\τ 3=bA 6 (Ai b)/\τ 5=si i)/\Aa a b n i=some r) ⟨_,?_,h⟩ ?_
     rotate_left
     rintro(_|n1) τ N ⟨_,_,h⟩ k1
     . exact Bi h
     rw[Aa]at h)
  |with_reducible refine RJ k1 ⟨_,?_,h⟩
  |with_reducible refine RJ k2 ⟨_,?_,h⟩
  |with_reducible refine RJ k3 ⟨_,?_,h⟩
  |with_reducible refine RJ k4 ⟨_,?_,h⟩
  |with_reducible refine RJ k5 ⟨_,?_,h⟩
  |with_reducible refine RJ k6 ⟨_,?_,h⟩
  |simp only[*,eq_self,AAs,AAe,AAW,decide_true,decide_false]at h
  | (with_reducible refine bI h ?_ ?_
     all_goals clear h;intro _ h)
  |unfold Bx at h
  |unfold J7 at h
  |unfold L6 at h
  |unfold J6 at h
  |unfold L5 at h
  |unfold J5 at h
  |unfold L4 at h
  |unfold J4 at h
  |unfold L3 at h
  |unfold J3 at h
  |unfold L2 at h
  |unfold J2 at h
  |unfold L1 at h
  |unfold J1 at h
end
end Go.Abs
