/- Typed programs of Go functions, and that the functions do what these say. -/
import Derived.Test.YtdadohkcmclilaaGreatDoorWalkD
import Derived.Test.YtdadohkcmclilaaGreatDoorWalkE
import Derived.Shelf.Slices.SearchI
set_option linter.unusedSimpArgs false
set_option linter.unusedVariables false
namespace Go.Abs
open Go.Proofs
set_option maxRecDepth 1000000
set_option maxHeartbeats 4000000
namespace B4
def J3 (a:Ab) (b:AL) (t:Int) (l:Bool) (e:List Int):ABp (AL×Bool):=
if Al (e.length) 8=true then
(gt b.Br a.A).bind λad=>
(gt b.Bn a.A).bind λac=>
some ((AL.mk (Ap (b.PC+1)) (b.Br.set a.A.toNat t) (b.Bn.set a.A.toNat e) b.AF),l)
else none
def J2 (a:Ab) (b:AL):ABp (AL×Bool):=
if a.Op==5 then
some ((AL.mk a.A b.Br b.Bn b.AF),true)
else
if a.Op==1 then
J3 a b a.N true []
else
if a.Op==2 then
(gt b.Br a.B).bind λu=>
(gt b.Bn a.B).bind λv=>
J3 a b u true v
else
if a.Op==3 then
(Cj a.N).bind λp=>
(gt b.Br a.B).bind λw=>
(Hq p w).bind λf=>
(gt b.Bn a.B).bind λx=>
J3 a b f.1 f.2 x
else
(Cj a.N).bind λq=>
(gt b.Br a.B).bind λy=>
(gt b.Br a.C).bind λz=>
(DW q y z).bind λi=>
(gt b.Bn a.B).bind λaa=>
(gt b.Bn a.C).bind λab=>
(Dk aa ab).bind λs=>
J3 a b i.1 i.2 s
def J1 (L1:Int->ABp (AL×Bool)) (c:Int) (o:Bool):ABp (AL×Bool):=
if o then
some ((AL.mk 0 [] [] 0),false)
else
L1 (Ap (c+1))
def L1 (a:Ab) (b:AL) (d:List Int) (L1:Int->ABp (AL×Bool)) (c:Int):ABp (AL×Bool):=
if decide (c<(d.length:Int))then
(gt d c).bind λj=>
if decide (j<0)then
J1 L1 c true
else
J1 L1 c (decide (j≥(b.Br.length:Int)))
else
J2 a b
def Aa (a:Ab) (b:AL) (d:List Int):Nat->Int->ABp (AL×Bool)
|0,_=>none
|n+1,c=>L1 a b d (Aa a b d n) c
end B4
section
open B4
def B4 (a:Ab) (b:AL):ABp (AL×Bool):=
(AU a).bind λd=>
Aa a b d BT 0
theorem Xu {a:Ab} {b:AL} {r:AL×Bool} (h:B4 a b=some r):Says Tryz.prog 170 [.agg (Du a),.agg (Bc b)] (.BJ [.agg (Bc r.1),sb r.2]):=by
 refine kO mix Tryz.func170 (hn [(2,[35,38,43,49,58,64,71,77,83,89,96,101,110,116,120]),(3,[29,30,41,42,45,47,48,51,56,57,60,61,62,63,66,67,73,74,81,82,85,87,88,91,92,99,100,103,108,109,112,113,114,115,118,119,126,127,128,131,132]),(6,[14,19,21,25,27]),(10,[124])] (C:=[(142,1)]) (F:=[10]) (E:=[(22,(.pg true 3 [(0,2,0)] (Rc 114 [.F 1 3,.y 3 (.WM (.t 114)),.f 1 2,.F 2 3,.y 3 (.WM (.t 118)),.f 1 2,.C 8,.o (.Mr 1 [] []),.y 10 (.cp (.t 10)),.o (.app 1 8 (.t 123) (.t 124)),.J 3 1 115 117,.x ⟨none,.VG (.t 126) (.t 122),none⟩,.J 3 1 119 121,.S 1 127 125])))])) ?_
 have a1:= @I4
 have a2:= @Sc
 have a3:= @Wg
 have a4:= @Uj
 have a5:= @O0
 have l1:=λn1 n2 n3 n4:Nat=>Ax λn τ=>∃(d:List Int) (c:Int),(τ 2=bA 6 (Du a)/\τ 3=bA 4 (Bc b)/\τ 4=bA 4 z9/\τ 6=vO 1 eI d/\τ 7=si c)/\Aa a b d n c=some r
 unfold B4 at h
 exact walk
end
def f88c:XZ:=(.seq (.ic (Rc 0 [.b 2 [16,29,43,47] (.bx 6 (.t 0)),.B 4 false]))
(.seq (.ic (Rc 0 [.b 5 [13,23,36,42,46,51,55] (.mv (.c (.own false 1 [])))]))
(.seq (.ic (Rc 13 [.y 5 (.cp (.t 5)),.C 1,.o (.app 1 16 (.t 13) (.t 14)),.b 5 [13,23,36,42,46,51,55] (.mv (.t 15))]))
(aQ (.ic (Ra 16 [.f 1 2,.Z 17,.Y 0]
(Bl 0 (Ra 20 [.O .lss 19 18]
(Sq (cX 20 0)
(Sq (Bk 1 (Ra 21 [.I 2 17 19,.A 2 21,.b 7 [24] (.bx 2 (.c (.agg [BM ⟨#[]⟩,sb false]))),.S 2 7 22]
(Rc 23 [.y 5 (.cp (.t 5)),.f 0 7,.o (.Mr 1 [[BM ⟨#[]⟩]] [(0,.t 25)]),.o (.app 1 16 (.t 23) (.t 26)),.b 5 [13,23,36,42,46,51,55] (.mv (.t 27))])))
(Rc 28 [.P .add 19 1,.w 19,.C 28])))))))
(aQ (.ic (Ra 29 [.f 2 2,.Z 30,.Y 0]
(Bl 2 (Ra 33 [.O .lss 32 31]
(Sq (cX 33 2)
(Sq (Bk 3 (Ra 34 [.I 2 30 32,.A 2 34,.b 9 [37] (.bx 2 (.c (.agg [BM ⟨#[]⟩,si 0]))),.S 2 9 35]
(Rc 36 [.y 5 (.cp (.t 5)),.f 0 9,.o (.Mr 1 [[BM ⟨#[]⟩]] [(0,.t 38)]),.o (.app 1 16 (.t 36) (.t 39)),.b 5 [13,23,36,42,46,51,55] (.mv (.t 40))])))
(Rc 41 [.P .add 32 1,.w 32,.C 41])))))))
(.seq (.ic (Rc 42 [.y 5 (.cp (.t 5)),.f 3 2,.o (.app 1 16 (.t 42) (.t 44)),.b 5 [13,23,36,42,46,51,55] (.mv (.t 45))]))
(.seq (.ic (Rc 46 [.y 5 (.cp (.t 5)),.f 4 2,.o (.app 1 16 (.t 46) (.t 48)),.b 5 [13,23,36,42,46,51,55] (.mv (.t 49))]))
(.seq (.Xq [.mkm ⟨50,[],[]⟩,.x (.o ⟨some ⟨10,[],[]⟩,.mv (.t 50),none⟩)])
(aQ (.seq (.ic (Rc 51 [.y 5 (.cp (.t 5)),.Z 51,.Y 0]))
(.block 4 (.loop (.seq (.ic (Rc 54 [.O .lss 53 52]))
(.seq (.ic (cX 54 4))
(.seq (.block 5 (.seq (.ic (Rc 55 [.J 5 1 51 53,.L 55,.M 12 56]))
(.seq (aQ (.Xq [.x (.o ⟨some ⟨57,[],[]⟩,.cp (.t 12),none⟩),.x (.o ⟨some ⟨58,[],[]⟩,.call 132 [.t 57] 0,none⟩),.x (.o ⟨some ⟨59,[],[]⟩,.un .not (.t 58),none⟩),.x (.o ⟨some ⟨60,[],[]⟩,.cp (.t 59),none⟩),.x (.o ⟨some ⟨61,[],[]⟩,.cp (.t 10),some (60,false)⟩),.x (.o ⟨some ⟨62,[],[]⟩,.cp (.t 12),some (60,false)⟩),.lkp (some (60,false)) ⟨63,[],[]⟩ (.t 61) (.t 62),.x (.o ⟨some ⟨64,[],[]⟩,.pick (.t 60) (.c (sb true)) (.t 63),none⟩)])
(.ic (Ci 64 (Rb 0 [.B 4 false]))))
(.Xq [.x (.o ⟨some ⟨65,[],[]⟩,.cp (.t 10),none⟩),.x (.o ⟨some ⟨66,[],[]⟩,.cp (.t 12),none⟩),.mup (.t 65) (.t 66) (.c (sb true))]))))
(.ic (Rc 67 [.P .add 53 1,.w 53,.C 67]))))))))
(.ic (Rb 0 [.B 4 true])))))))))))
def f88g:Gi:=⟨[(13,[5]),(16,[2]),(23,[5]),(24,[7]),(29,[2]),(36,[5]),(37,[9]),(42,[5]),(43,[2]),(46,[5]),(47,[2]),(51,[5]),(55,[5])]⟩
def f88r:List RV:=[.tmp 4]
def f88:FIM:=⟨f88c,f88g,f88r⟩
theorem chk88:kB Tryz.prog Tryz.f88 f88=true:=by kernel_rfl
namespace A3
def J4 (seen:List ABq):ABp Bool:=
some true
def J3 (L3:Int->(List ABq)->ABp Bool) (seen:List ABq) (Sv:Int) (S6:ABq) (XA:Bool):ABp Bool:=
if XA then
some false
else
if(seen.any λζ=>ζ==S6)=false then
L3 (Ap (Sv+1)) (seen++[S6])
else none
def L3 (JL:List ABq) (wv:AD) (L3:Int->(List ABq)->ABp Bool) (Sv:Int) (seen:List ABq):ABp Bool:=
if decide (Sv<(((JL++wv.AK)++wv.AA).length:Int))then
(gt ((JL++wv.AK)++wv.AA) Sv).bind λS6=>
(CL S6).bind λv=>
if !v then
J3 L3 seen Sv S6 true
else
J3 L3 seen Sv S6 (seen.any λζ=>ζ==S6)
else
J4 seen
def Gm (JL:List ABq) (wv:AD):Nat->Int->(List ABq)->ABp Bool
|0,_,_=>none
|n+1,Sv,seen=>L3 JL wv (Gm JL wv n) Sv seen
def J2 (wv:AD) (JL:List ABq):ABp Bool:=
if Al (JL.length+wv.AK.length) 16=true then
if Al ((JL++wv.AK).length+wv.AA.length) 16=true then
Gm JL wv BT 0 []
else none
else none
def L2 (wv:AD) (L2:(List ABq)->Int->ABp Bool) (RH:List ABq) (Zg:Int):ABp Bool:=
if decide (Zg<(wv.Af.length:Int))then
(gt wv.Af Zg).bind λUx=>
if Al (RH.length+1) 16=true then
L2 (RH++[Ux.Name]) (Ap (Zg+1))
else none
else
J2 wv RH
def C2 (wv:AD):Nat->(List ABq)->Int->ABp Bool
|0,_,_=>none
|n+1,RH,Zg=>L2 wv (C2 wv n) RH Zg
def J1 (wv:AD) (Z8:List ABq):ABp Bool:=
C2 wv BT Z8 0
def L1 (wv:AD) (L1:(List ABq)->Int->ABp Bool) (all:List ABq) (Kd:Int):ABp Bool:=
if decide (Kd<(wv.AG.length:Int))then
(gt wv.AG Kd).bind λx=>
if Al (all.length+1) 16=true then
L1 (all++[x.Name]) (Ap (Kd+1))
else none
else
J1 wv all
def Aa (wv:AD):Nat->(List ABq)->Int->ABp Bool
|0,_,_=>none
|n+1,all,Kd=>L1 wv (Aa wv n) all Kd
end A3
section
open A3
def A3 (wv:AD) (variables:List ABq):ABp Bool:=
if Al (variables.length) 16=true then
Aa wv BT variables 0
else none
theorem Nv {wv:AD} {variables:List ABq} {r:Bool} (h:A3 wv variables=some r):Says Tryz.prog 88 [.agg (Ai wv),vS 1 eS variables] (sb r):=by
 refine cV mix Tryz.func88 chk88 (AAa (by kernel_rfl)) rfl ?_
 simp only[f88,f88c,f88g,f88r]
 obtain⟨_,h⟩:=cS h
 try simp +decide only[go_sem, *]
 refine aR (λτ ν=>∃Z8:List ABq,(τ 2=bA 6 (Ai wv)/\τ 5=vO 1 eS Z8)/\J1 wv Z8=some r) λM1 TG=>⟨?_,?_⟩
 . try simp +decide only[go_sem, *]
   refine Ir (λn τ=>∃all:List ABq,∃Kd:Int,(τ 2=bA 6 (Ai wv)/\τ 5=vO 1 eS all/\τ 17=vS 2 HG wv.AG/\τ 18=si (wv.AG.length:Int)/\τ 19=si Kd)/\Aa wv n all Kd=some r) ⟨_,_,?_,h⟩ λn1 τ1 N1=> ?_
   . simp +decide only[go_sem, *]
   rintro⟨all,Kd,s1,h⟩ dR
   cases n1 with
   |zero=>exact Bi h
   |succ n1=>
    rw[Aa]at h;generalize dP:Aa wv n1=L1 at h
    try simp +decide only[go_sem, *]
    refine cI h (λ_ h=> ?_) λ_ h=> ?_
    . obtain⟨x,_,h⟩:=gB h
      obtain⟨_,h⟩:=cS h
      try simp +decide only[go_sem, *]
      refine dR n1 (AA8 _) _ ⟨_,_,?_,dP.symm▸h⟩
      simp +decide only[go_sem, *]
    try simp +decide only[go_sem, *]
    refine TG _ _ ⟨_,?_,h⟩
    simp +decide only[go_sem, *]
 rintro τ1 ν1 ⟨Z8,s1,h⟩
 try simp +decide only[go_sem, *]
 refine aR (λτ ν=>∃JL:List ABq,(τ 2=bA 6 (Ai wv)/\τ 5=vO 1 eS JL)/\J2 wv JL=some r) λM2 TJ=>⟨?_,?_⟩
 . try simp +decide only[go_sem, *]
   refine Ir (λn τ=>∃RH:List ABq,∃Zg:Int,(τ 2=bA 6 (Ai wv)/\τ 5=vO 1 eS RH/\τ 30=vS 2 HF wv.Af/\τ 31=si (wv.Af.length:Int)/\τ 32=si Zg)/\C2 wv n RH Zg=some r) ⟨_,_,?_,h⟩ λn2 τ2 N2=> ?_
   . simp +decide only[go_sem, *]
   rintro⟨RH,Zg,s2,h⟩ hN2
   cases n2 with
   |zero=>exact Bi h
   |succ n2=>
    rw[C2]at h;generalize YT:C2 wv n2=L2 at h
    try simp +decide only[go_sem, *]
    refine cI h (λ_ h=> ?_) λ_ h=> ?_
    . obtain⟨Ux,_,h⟩:=gB h
      obtain⟨_,h⟩:=cS h
      try simp +decide only[go_sem, *]
      refine hN2 n2 (AA8 _) _ ⟨_,_,?_,YT.symm▸h⟩
      simp +decide only[go_sem, *]
    try simp +decide only[go_sem, *]
    refine TJ _ _ ⟨_,?_,h⟩
    simp +decide only[go_sem, *]
 rintro τ2 ν2 ⟨JL,s2,h⟩
 obtain⟨_,h⟩:=cS h
 obtain⟨_,h⟩:=cS h
 try simp +decide only[go_sem, *]
 intro b1 hb1
 try simp +decide only[go_sem, *]
 refine aR (λτ ν=>∃seen:List ABq,(ν b1=some (.mp (seen.map tv)))/\J4 seen=some r) λM4 kQ=>⟨?_,?_⟩
 . try simp +decide only[go_sem, *]
   refine yF (λn τ ν=>∃Sv:Int,∃seen:List ABq,(τ 5= .own false 1 (((JL++wv.AK)++wv.AA).map eS)/\τ 10= .sc (.map (some b1))/\τ 51= .al 5 []/\τ 52=si (((JL++wv.AK)++wv.AA).length:Int)/\τ 53=si Sv/\ν b1=some (.mp (seen.map tv)))/\Gm JL wv n Sv seen=some r) ⟨_,_,?_,h⟩ λn3 τ3 ν3 N3=> ?_
   . simp +decide only[go_sem, *]
   rintro⟨Sv,seen,s3,h⟩ hN3
   cases n3 with
   |zero=>exact Bi h
   |succ n3=>
    rw[Gm]at h;generalize hL3:Gm JL wv n3=L3 at h
    try simp +decide only[go_sem, *]
    refine cI h (λ_ h=> ?_) λ_ h=> ?_
    . obtain⟨S6,_,h⟩:=gB h
      try simp +decide only[go_sem, *]
      refine aR (λτ ν=>∃XA:Bool,(τ 5= .own false 1 (((JL++wv.AK)++wv.AA).map eS)/\τ 10= .sc (.map (some b1))/\τ 12=BM S6/\τ 51= .al 5 []/\τ 52=si (((JL++wv.AK)++wv.AA).length:Int)/\τ 53=si Sv/\τ 64=sb XA/\ν b1=some (.mp (seen.map tv)))/\J3 L3 seen Sv S6 XA=some r) λM3 dQ=>⟨?_,?_⟩
      . obtain⟨v,g9,h⟩:=bS h
        try simp +decide only[go_sem, *]
        refine⟨_,Uu g9,?_⟩
        try simp +decide only[go_sem, *]
        refine gI h (λ_ h=> ?_) λ_ h=> ?_
        . try simp +decide only[go_sem, *]
          refine dQ _ _ ⟨_,?_,h⟩
          simp +decide only[go_sem, *]
        try simp +decide only[go_sem, *]
        refine dQ _ _ ⟨_,?_,h⟩
        simp +decide only[go_sem, *]
      rintro τ3 ν3 ⟨XA,s3,h⟩
      try simp +decide only[go_sem, *]
      refine cI h (λ_ h=> ?_) λ_ h=> ?_
      . obtain rfl:=AAR h
        simp +decide only[go_sem, *]
      obtain⟨_,h⟩:=cS h
      try simp +decide only[go_sem, *]
      refine hN3 n3 (AA8 _) _ _ ⟨_,_,?_,hL3.symm▸h⟩
      simp +decide only[go_sem, *]
    try simp +decide only[go_sem, *]
    refine kQ _ _ ⟨_,?_,h⟩
    simp +decide only[go_sem, *]
 rintro τ4 ν4 ⟨seen,s4,h⟩
 obtain rfl:=AAR h
 simp +decide only[go_sem, *]
end
namespace EL
def J1 (c:Bool):ABp Bool:=
some c
end EL
section
open EL
def EL (b:AD) (a:AB):ABp Bool:=
(EI b a.Sync).bind λd=>
if d then
if(a.Cells.length:Int)==(b.Cells.length:Int)then
if(a.AK.length:Int)==(b.AK.length:Int)then
J1 ((a.Count.length:Int)==(b.AA.length:Int))
else
J1 false
else
J1 false
else
J1 false
theorem Q9 {b:AD} {a:AB} {r:Bool} (h:EL b a=some r):Says Tryz.prog 78 [.agg (Ai b),.agg (Aw a)] (sb r):=by
 refine kO mix Tryz.func78 (hn [(2,[13,22,31]),(3,[6,10,19,28])]) ?_
 have a1:= @K7
 unfold EL at h
 exact walk
end
namespace D1
def J1 (o:Bool):ABp Bool:=
some o
def J2 (p:Bool):ABp Bool:=
some p
def J5 (q:Bool):ABp Bool:=
some q
def J6 (s:Bool):ABp Bool:=
some s
def J4 (a c:Int) (b:AN) (d:Int) (e:AD) (f:Bool):ABp Bool:=
if f then
(gt e.Af c).bind λad=>
(gt b.AG ad.Mutex).bind λae=>
some (ae.CW==d)
else
if a==20 then
if c != d then
(gt b.AA c).bind λaf=>
J5 (af.Status==0)
else
J5 false
else
if a==21 then
if c != d then
(gt b.AA c).bind λw=>
J6 (w.Status==5)
else
J6 false
else
if a==22 then
(gt b.Bq c).bind λx=>
some (!x)
else
if a==23 then
(gt b.Bq c).bind λy=>
some y
else
some true
def J3 (a c:Int) (b:AN) (d:Int) (e:AD) (i:Bool):ABp Bool:=
if i then
(gt b.AG c).bind λz=>
some (z.CW==d)
else
if a==9 then
(gt b.AG c).bind λaa=>
(GZ aa.As d).bind λu=>
some u
else
if a==12 then
some (b.Tx==(-1))
else
if a==13 then
some (b.Tx==d)
else
if a==14 then
(gt b.AA d).bind λab=>
some (!ab.Atomic)
else
if a==15 then
(gt b.AA d).bind λac=>
some ac.Atomic
else
if a==16 then
J4 a c b d e (a==16)
else
if a==18 then
J4 a c b d e (a==18)
else
J4 a c b d e (a==19)
end D1
section
open D1
def D1 (e:AD) (b:AN) (d a c:Int):ABp Bool:=
if a==6 then
(gt b.AG c).bind λv=>
some (v.CW==(-1))
else
if a==10 then
(gt b.AG c).bind λj=>
if j.CW==(-1)then
J1 ((j.As.length:Int)==0)
else
J1 false
else
if a==8 then
(gt b.AG c).bind λl=>
if l.CW==(-1)then
(GZ l.As d).bind λt=>
J2 (!t)
else
J2 false
else
if a==7 then
J3 a c b d e (a==7)
else
J3 a c b d e (a==11)
theorem UZ {e:AD} {b:AN} {d a c:Int} {r:Bool} (h:D1 e b d a c=some r):Says Tryz.prog 118 [.agg (Ai e),.agg (E1 b),si d,si a,si c] (sb r):=by
 refine kO mix Tryz.func118 (hn [(5,[115]),(6,[14,23,31,42,50,63,73,83,88,94,103,113,132,146,156,164])] [(9,3),(22,4)]) ?_
 have a1:= @Q4
 have c4:=λn1 n2 n3 n4:Nat=>Bh 4 λτ=>∃(f:Bool),(τ 2=si d/\τ 4=si c/\τ 5=bA 6 (Ai e)/\τ 6=bA 4 (E1 b)/\τ 11=si a/\τ 109=sb f)/\J4 a c b d e f=some r
 have c3:=λn1 n2 n3 n4:Nat=>Bh 3 λτ=>∃(i:Bool),(τ 2=si d/\τ 4=si c/\τ 5=bA 6 (Ai e)/\τ 6=bA 4 (E1 b)/\τ 11=si a/\τ 60=sb i)/\J3 a c b d e i=some r
 unfold D1 at h
 exact walk
end
namespace It
def J1 (c:Bool):ABp Bool:=
some c
end It
section
open It
def It (b:AD) (a:AB):ABp Bool:=
(EI b a.Sync).bind λd=>
if d then
if(a.Cells.length:Int)==(b.Cells.length:Int)then
if(a.AK.length:Int)==(b.AK.length:Int)then
J1 ((a.Count.length:Int)==(b.AA.length:Int))
else
J1 false
else
J1 false
else
J1 false
theorem XG {b:AD} {a:AB} {r:Bool} (h:It b a=some r):Says Tryz.prog 40 [.agg (Ai b),.agg (Aw a)] (sb r):=by
 refine kO mix Tryz.func40 (hn [(2,[13,22,31]),(3,[6,10,19,28])]) ?_
 have a1:= @K7
 unfold It at h
 exact walk
end
namespace Cq
def J1:ABp Bool:=
some true
def L1 (a b:List AH) (L1:Int->ABp Bool) (c:Int):ABp Bool:=
if decide (c<(a.length:Int))then
(gt a c).bind λe=>
(gt b c).bind λf=>
(Fg e f).bind λd=>
if !d then
some false
else
L1 (Ap (c+1))
else
J1
def Aa (a b:List AH):Nat->Int->ABp Bool
|0,_=>none
|n+1,c=>L1 a b (Aa a b n) c
end Cq
section
open Cq
def Cq (a b:List AH):ABp Bool:=
if(a.length:Int) != (b.length:Int)then
some false
else
Aa a b BT 0
theorem Ki {a b:List AH} {r:Bool} (h:Cq a b=some r):Says Tryz.prog 17 [vS 7 BG a,vS 7 BG b] (sb r):=by
 refine kO mix Tryz.func17 hn ?_
 have a1:= @Qx
 have l1:=λn1 n2 n3 n4:Nat=>Ax λn τ=>∃(c:Int),(τ 0=vS 7 BG a/\τ 1=vS 7 BG b/\τ 5=si c)/\Aa a b n c=some r
 unfold Cq at h
 exact walk
end
namespace C7
def J8:ABp Bool:=
some true
def J7 (L3:Int->ABp Bool) (d:Int) (p:Bool):ABp Bool:=
if p then
some false
else
L3 (Ap (d+1))
def J6 (L3:Int->ABp Bool) (d:Int) (a:AO) (f:AE) (o:Bool):ABp Bool:=
if o then
some false
else
if f.Status==3 then
(gt a.World.Af f.D8).bind λz=>
(gt a.Init.Sync.AG z.Mutex).bind λaa=>
J7 L3 d (aa.CW==d)
else
if f.Status==4 then
(gt a.World.Af f.D8).bind λab=>
(gt a.Init.Sync.AG ab.Mutex).bind λac=>
J7 L3 d (ac.CW==d)
else
J7 L3 d false
def L3 (a:AO) (L3:Int->ABp Bool) (d:Int):ABp Bool:=
if decide (d<(a.Init.Sync.AA.length:Int))then
(gt a.Init.Sync.AA d).bind λf=>
if f.Atomic then
(GD a d).bind λv=>
J6 L3 d a f (!v)
else
J6 L3 d a f false
else
J8
def Gm (a:AO):Nat->Int->ABp Bool
|0,_=>none
|n+1,d=>L3 a (Gm a n) d
def J5 (a:AO) (j:Bool):ABp Bool:=
if j then
some false
else
Gm a BT 0
def J4 (a:AO):ABp Bool:=
if a.Init.Sync.Tx != (-1)then
(GD a a.Init.Sync.Tx).bind λu=>
J5 a (!u)
else
J5 a false
def J3 (L1:Int->ABp Bool) (b:Int):ABp Bool:=
L1 (Ap (b+1))
def J2 (L2:Int->ABp Bool) (e:Int) (q:Bool):ABp Bool:=
if q then
some false
else
L2 (Ap (e+1))
def L2 (L1:Int->ABp Bool) (b:Int) (a:AO) (c:AW) (L2:Int->ABp Bool) (e:Int):ABp Bool:=
if decide (e<(c.As.length:Int))then
(gt c.As e).bind λl=>
(GD a l).bind λt=>
if !t then
J2 L2 e true
else
if decide (e>0)then
(gt c.As (Ap (e-1))).bind λy=>
J2 L2 e (decide (l≤y))
else
J2 L2 e false
else
J3 L1 b
def C2 (L1:Int->ABp Bool) (b:Int) (a:AO) (c:AW):Nat->Int->ABp Bool
|0,_=>none
|n+1,e=>L2 L1 b a c (C2 L1 b a c n) e
def J1 (L1:Int->ABp Bool) (b:Int) (a:AO) (c:AW) (i:Bool):ABp Bool:=
if i then
some false
else
C2 L1 b a c BT 0
def L1 (a:AO) (L1:Int->ABp Bool) (b:Int):ABp Bool:=
if decide (b<(a.Init.Sync.AG.length:Int))then
(gt a.Init.Sync.AG b).bind λc=>
if c.CW != (-1)then
(GD a c.CW).bind λs=>
if !s then
J1 L1 b a c true
else
if decide ((c.As.length:Int)>0)then
(gt a.World.AG b).bind λw=>
if !w.RW then
J1 L1 b a c true
else
J1 L1 b a c (c.CW != (-1))
else
J1 L1 b a c false
else
if decide ((c.As.length:Int)>0)then
(gt a.World.AG b).bind λx=>
if !x.RW then
J1 L1 b a c true
else
J1 L1 b a c (c.CW != (-1))
else
J1 L1 b a c false
else
J4 a
def Aa (a:AO):Nat->Int->ABp Bool
|0,_=>none
|n+1,b=>L1 a (Aa a n) b
end C7
section
open C7
def C7 (a:AO):ABp Bool:=
Aa a BT 0
theorem Td {a:AO} {r:Bool} (h:C7 a=some r):Says Tryz.prog 51 [.agg (BB a)] (sb r):=by
 refine kO mix Tryz.func51 (hn [(1,[9,10,40,41,129,130]),(3,[13,19,88,93,99,105,127]),(5,[24,29,35,49,56,63,74,79]),(8,[110,118,122,132])] [(9,1),(18,5)]) ?_
 have a1:= @Wu
 have l3:=λn1 n2 n3 n4:Nat=>Ax λn τ=>∃(d:Int),(τ 1=bA 15 (BB a)/\τ 3=bA 4 (E1 a.Init.Sync)/\τ 7=si d)/\Gm a n d=some r
 have l1:=λn1 n2 n3 n4:Nat=>Ax λn τ=>∃(b:Int),(τ 1=bA 15 (BB a)/\τ 3=bA 4 (E1 a.Init.Sync)/\τ 4=si b)/\Aa a n b=some r
 have l2:=λn1 n2 n3 n4:Nat=>Ax λn τ=>∃(b:Int) (c:AW) (e:Int),(τ 1=bA 15 (BB a)/\τ 3=bA 4 (E1 a.Init.Sync)/\τ 4=si b/\τ 5=bA 2 (C4 c)/\τ 6=si e)/\C2 (Aa a n1) b a c n e=some r
 have c5:=λn1 n2 n3 n4:Nat=>Bh 5 λτ=>∃(j:Bool),(τ 1=bA 15 (BB a)/\τ 3=bA 4 (E1 a.Init.Sync)/\τ 97=sb j)/\J5 a j=some r
 have c1:=λn1 n2 n3 n4:Nat=>Bh 1 λτ=>∃(b:Int) (c:AW) (i:Bool),(τ 1=bA 15 (BB a)/\τ 3=bA 4 (E1 a.Init.Sync)/\τ 4=si b/\τ 5=bA 2 (C4 c)/\τ 54=sb i)/\J1 (Aa a n1) b a c i=some r
 unfold C7 at h
 exact walk
end
namespace C6
def J1 (c:Bool):ABp Bool:=
some c
end C6
section
open C6
def C6 (a b:AB):ABp Bool:=
(Da a.Sync b.Sync).bind λd=>
if d then
(Cs a.Cells b.Cells).bind λe=>
if e then
(Cs a.AK b.AK).bind λf=>
if f then
(Cb a.Count b.Count).bind λi=>
J1 i
else
J1 false
else
J1 false
else
J1 false
theorem Hc {a b:AB} {r:Bool} (h:C6 a b=some r):Says Tryz.prog 21 [.agg (Aw a),.agg (Aw b)] (sb r):=by
 refine kO mix Tryz.func21 (hn [(2,[5,11,18,25]),(3,[7,13,20,27])]) ?_
 have a1:= @Xv
 have a2:= @Qy
 have a3:= @Hi
 unfold C6 at h
 exact walk
end
end Go.Abs
