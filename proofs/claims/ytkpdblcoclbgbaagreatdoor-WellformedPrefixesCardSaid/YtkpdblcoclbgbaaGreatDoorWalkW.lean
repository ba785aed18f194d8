/- Typed programs of Go functions, and that the functions do what these say. -/
import Derived.Test.YtkpdblcoclbgbaaGreatDoorBaseA
import Derived.Test.YtkpdblcoclbgbaaGreatDoorWalkV
import Derived.Shelf.Slices.SearchI
set_option linter.unusedSimpArgs false
set_option linter.unusedVariables false
namespace Go.Abs
open Go.Proofs
set_option maxRecDepth 100000
set_option maxHeartbeats 4000000
def xE:Rp:=(.seq (.ic (Rc 0 [.b 2 [16,29,43,47] (.bx 6 (.t 0)),.B 4 false]))
(.seq (.ic (Rc 0 [.b 5 [13,23,36,42,46,51,55] (.mv (.c (.own false 1 [])))]))
(.seq (.ic (Rc 13 [.y 5 (.cp (.t 5)),.C 1,.o (.app 1 16 (.t 13) (.t 14)),.b 5 [13,23,36,42,46,51,55] (.mv (.t 15))]))
(U3 (.ic (Ra 16 [.f 1 2,.Z 17,.Y 0]
(Bl 0 (Ra 20 [.O .lss 19 18]
(Sq (cX 20 0)
(Sq (Bk 1 (Ra 21 [.I 2 17 19,.A 2 21,.b 7 [24] (.bx 2 (.c (.agg [Ao ⟨#[]⟩,sb false]))),.S 2 7 22]
(Rc 23 [.y 5 (.cp (.t 5)),.f 0 7,.o (.Eg 1 [[Ao ⟨#[]⟩]] [(0,.t 25)]),.o (.app 1 16 (.t 23) (.t 26)),.b 5 [13,23,36,42,46,51,55] (.mv (.t 27))])))
(Rc 28 [.P .add 19 1,.w 19,.C 28])))))))
(U3 (.ic (Ra 29 [.f 2 2,.Z 30,.Y 0]
(Bl 2 (Ra 33 [.O .lss 32 31]
(Sq (cX 33 2)
(Sq (Bk 3 (Ra 34 [.I 2 30 32,.A 2 34,.b 9 [37] (.bx 2 (.c (.agg [Ao ⟨#[]⟩,si 0]))),.S 2 9 35]
(Rc 36 [.y 5 (.cp (.t 5)),.f 0 9,.o (.Eg 1 [[Ao ⟨#[]⟩]] [(0,.t 38)]),.o (.app 1 16 (.t 36) (.t 39)),.b 5 [13,23,36,42,46,51,55] (.mv (.t 40))])))
(Rc 41 [.P .add 32 1,.w 32,.C 41])))))))
(.seq (.ic (Rc 42 [.y 5 (.cp (.t 5)),.f 3 2,.o (.app 1 16 (.t 42) (.t 44)),.b 5 [13,23,36,42,46,51,55] (.mv (.t 45))]))
(.seq (.ic (Rc 46 [.y 5 (.cp (.t 5)),.f 4 2,.o (.app 1 16 (.t 46) (.t 48)),.b 5 [13,23,36,42,46,51,55] (.mv (.t 49))]))
(.seq (.SH [.uG ⟨50,[],[]⟩,.x (.o ⟨some ⟨10,[],[]⟩,.mv (.t 50),none⟩)])
(U3 (.seq (.ic (Rc 51 [.y 5 (.cp (.t 5)),.Z 51,.Y 0]))
(.block 4 (.loop (.seq (.ic (Rc 54 [.O .lss 53 52]))
(.seq (.ic (cX 54 4))
(.seq (.block 5 (.seq (.ic (Rc 55 [.J 5 1 51 53,.L 55,.M 12 56]))
(.seq (U3 (.SH [.x (.o ⟨some ⟨57,[],[]⟩,.cp (.t 12),none⟩),.x (.o ⟨some ⟨58,[],[]⟩,.call 51 [.t 57] 0,none⟩),.x (.o ⟨some ⟨59,[],[]⟩,.un .not (.t 58),none⟩),.x (.o ⟨some ⟨60,[],[]⟩,.cp (.t 59),none⟩),.x (.o ⟨some ⟨61,[],[]⟩,.cp (.t 10),some (60,false)⟩),.x (.o ⟨some ⟨62,[],[]⟩,.cp (.t 12),some (60,false)⟩),.uF (some (60,false)) ⟨63,[],[]⟩ (.t 61) (.t 62),.x (.o ⟨some ⟨64,[],[]⟩,.pick (.t 60) (.c (sb true)) (.t 63),none⟩)])
(.ic (Ci 64 (Rb 0 [.B 4 false]))))
(.SH [.x (.o ⟨some ⟨65,[],[]⟩,.cp (.t 10),none⟩),.x (.o ⟨some ⟨66,[],[]⟩,.cp (.t 12),none⟩),.uH (.t 65) (.t 66) (.c (sb true))]))))
(.ic (Rc 67 [.P .add 53 1,.w 53,.C 67]))))))))
(.ic (Rb 0 [.B 4 true])))))))))))
def xF:Gi:=⟨[(13,[5]),(16,[2]),(23,[5]),(24,[7]),(29,[2]),(36,[5]),(37,[9]),(42,[5]),(43,[2]),(46,[5]),(47,[2]),(51,[5]),(55,[5])]⟩
def xG:List RV:=[.tmp 4]
def f24:FIM:=⟨xE,xF,xG⟩
theorem vG:Xf Tryz.prog Tryz.f24 f24=true:=by kernel_rfl
namespace Ax
def J4 (seen:List ByteArray):Option Bool:=
some true
def J3 (L3:Int->(List ByteArray)->Option Bool) (seen:List ByteArray) (t53v:Int) (x_2:ByteArray) (t64v:Bool):Option Bool:=
if t64v then
some false
else
if(seen.any λζ=>ζ==x_2)=false then
L3 (BE (t53v+1)) (seen++[x_2])
else none
def L3 (all_3:List ByteArray) (wv:AB) (L3:Int->(List ByteArray)->Option Bool) (t53v:Int) (seen:List ByteArray):Option Bool:=
if decide (t53v<(((all_3++wv.AH)++wv.AA).length:Int))then
(gt ((all_3++wv.AH)++wv.AA) t53v).bind λx_2=>
(B0 x_2).bind λv=>
if !v then
J3 L3 seen t53v x_2 true
else
J3 L3 seen t53v x_2 (seen.any λζ=>ζ==x_2)
else
J4 seen
def Gx (all_3:List ByteArray) (wv:AB):Nat->Int->(List ByteArray)->Option Bool
|0,_,_=>none
|n+1,t53v,seen=>L3 all_3 wv (Gx all_3 wv n) t53v seen
def J2 (wv:AB) (all_3:List ByteArray):Option Bool:=
if Aq (all_3.length+wv.AH.length) 16=true then
if Aq ((all_3++wv.AH).length+wv.AA.length) 16=true then
Gx all_3 wv Bo 0 []
else none
else none
def L2 (wv:AB) (L2:(List ByteArray)->Int->Option Bool) (all_2:List ByteArray) (t32v:Int):Option Bool:=
if decide (t32v<(wv.Au.length:Int))then
(gt wv.Au t32v).bind λx_1=>
if Aq (all_2.length+1) 16=true then
L2 (all_2++[x_1.Name]) (BE (t32v+1))
else none
else
J2 wv all_2
def Da (wv:AB):Nat->(List ByteArray)->Int->Option Bool
|0,_,_=>none
|n+1,all_2,t32v=>L2 wv (Da wv n) all_2 t32v
def J1 (wv:AB) (all_1:List ByteArray):Option Bool:=
Da wv Bo all_1 0
def L1 (wv:AB) (L1:(List ByteArray)->Int->Option Bool) (all:List ByteArray) (t19v:Int):Option Bool:=
if decide (t19v<(wv.AG.length:Int))then
(gt wv.AG t19v).bind λx=>
if Aq (all.length+1) 16=true then
L1 (all++[x.Name]) (BE (t19v+1))
else none
else
J1 wv all
def Ac (wv:AB):Nat->(List ByteArray)->Int->Option Bool
|0,_,_=>none
|n+1,all,t19v=>L1 wv (Ac wv n) all t19v
end Ax
section
open Ax
def Ax (wv:AB) (variables:List ByteArray):Option Bool:=
if Aq (variables.length) 16=true then
Ac wv Bo variables 0
else none
theorem Ju {wv:AB} {variables:List ByteArray} {r:Bool} (h:Ax wv variables=some r):Says Tryz.prog 24 [.agg (Ap wv),vS 1 eS variables] (sb r):=by
 refine Vj mix Tryz.func24 vG (of_decide_eq_true (by kernel_rfl)) rfl ?_
 simp only[f24,xE,xF,xG]
 obtain⟨_,h⟩:=cS h
 try simp +decide only[go_sem, *]
 refine U4 (λτ ν=>∃all_1:List ByteArray,(τ 2=bA 6 (Ap wv)/\τ 5=vO 1 eS all_1)/\J1 wv all_1=some r) λM1 hM1=>⟨?_,?_⟩
 . try simp +decide only[go_sem, *]
   refine Jc (λn τ=>∃all:List ByteArray,∃t19v:Int,(τ 2=bA 6 (Ap wv)/\τ 5=vO 1 eS all/\τ 17=vS 2 HI wv.AG/\τ 18=si (wv.AG.length:Int)/\τ 19=si t19v)/\Ac wv n all t19v=some r) ⟨_,_,?_,h⟩ λn1 τ1 N1=> ?_
   . simp +decide only[go_sem, *]
   rintro⟨all,t19v,s1,h⟩ hN1
   cases n1 with
   |zero=>exact B9 h
   |succ n1=>
    rw[Ac]at h;generalize hL1:Ac wv n1=L1 at h
    try simp +decide only[go_sem, *]
    refine cI h (λ_ h=> ?_) λ_ h=> ?_
    . obtain⟨x,_,h⟩:=gB h
      obtain⟨_,h⟩:=cS h
      try simp +decide only[go_sem, *]
      refine hN1 n1 (Nat.lt_succ_self _) _ ⟨_,_,?_,hL1.symm▸h⟩
      simp +decide only[go_sem, *]
    try simp +decide only[go_sem, *]
    refine hM1 _ _ ⟨_,?_,h⟩
    simp +decide only[go_sem, *]
 rintro τ1 ν1 ⟨all_1,s1,h⟩
 try simp +decide only[go_sem, *]
 refine U4 (λτ ν=>∃all_3:List ByteArray,(τ 2=bA 6 (Ap wv)/\τ 5=vO 1 eS all_3)/\J2 wv all_3=some r) λM2 hM2=>⟨?_,?_⟩
 . try simp +decide only[go_sem, *]
   refine Jc (λn τ=>∃all_2:List ByteArray,∃t32v:Int,(τ 2=bA 6 (Ap wv)/\τ 5=vO 1 eS all_2/\τ 30=vS 2 HH wv.Au/\τ 31=si (wv.Au.length:Int)/\τ 32=si t32v)/\Da wv n all_2 t32v=some r) ⟨_,_,?_,h⟩ λn2 τ2 N2=> ?_
   . simp +decide only[go_sem, *]
   rintro⟨all_2,t32v,s2,h⟩ hN2
   cases n2 with
   |zero=>exact B9 h
   |succ n2=>
    rw[Da]at h;generalize hL2:Da wv n2=L2 at h
    try simp +decide only[go_sem, *]
    refine cI h (λ_ h=> ?_) λ_ h=> ?_
    . obtain⟨x_1,_,h⟩:=gB h
      obtain⟨_,h⟩:=cS h
      try simp +decide only[go_sem, *]
      refine hN2 n2 (Nat.lt_succ_self _) _ ⟨_,_,?_,hL2.symm▸h⟩
      simp +decide only[go_sem, *]
    try simp +decide only[go_sem, *]
    refine hM2 _ _ ⟨_,?_,h⟩
    simp +decide only[go_sem, *]
 rintro τ2 ν2 ⟨all_3,s2,h⟩
 obtain⟨_,h⟩:=cS h
 obtain⟨_,h⟩:=cS h
 try simp +decide only[go_sem, *]
 intro b1 hb1
 try simp +decide only[go_sem, *]
 refine U4 (λτ ν=>∃seen:List ByteArray,(ν b1=some (.mp (seen.map tv)))/\J4 seen=some r) λM4 hM4=>⟨?_,?_⟩
 . try simp +decide only[go_sem, *]
   refine dN (λn τ ν=>∃t53v:Int,∃seen:List ByteArray,(τ 5= .own false 1 (((all_3++wv.AH)++wv.AA).map eS)/\τ 10= .sc (.map (some b1))/\τ 51= .al 5 []/\τ 52=si (((all_3++wv.AH)++wv.AA).length:Int)/\τ 53=si t53v/\ν b1=some (.mp (seen.map tv)))/\Gx all_3 wv n t53v seen=some r) ⟨_,_,?_,h⟩ λn3 τ3 ν3 N3=> ?_
   . simp +decide only[go_sem, *]
   rintro⟨t53v,seen,s3,h⟩ hN3
   cases n3 with
   |zero=>exact B9 h
   |succ n3=>
    rw[Gx]at h;generalize hL3:Gx all_3 wv n3=L3 at h
    try simp +decide only[go_sem, *]
    refine cI h (λ_ h=> ?_) λ_ h=> ?_
    . obtain⟨x_2,_,h⟩:=gB h
      try simp +decide only[go_sem, *]
      refine U4 (λτ ν=>∃t64v:Bool,(τ 5= .own false 1 (((all_3++wv.AH)++wv.AA).map eS)/\τ 10= .sc (.map (some b1))/\τ 12=Ao x_2/\τ 51= .al 5 []/\τ 52=si (((all_3++wv.AH)++wv.AA).length:Int)/\τ 53=si t53v/\τ 64=sb t64v/\ν b1=some (.mp (seen.map tv)))/\J3 L3 seen t53v x_2 t64v=some r) λM3 hM3=>⟨?_,?_⟩
      . obtain⟨v,g9,h⟩:=bS h
        try simp +decide only[go_sem, *]
        refine⟨_,Pp g9,?_⟩
        try simp +decide only[go_sem, *]
        refine gI h (λ_ h=> ?_) λ_ h=> ?_
        . try simp +decide only[go_sem, *]
          refine hM3 _ _ ⟨_,?_,h⟩
          simp +decide only[go_sem, *]
        try simp +decide only[go_sem, *]
        refine hM3 _ _ ⟨_,?_,h⟩
        simp +decide only[go_sem, *]
      rintro τ3 ν3 ⟨t64v,s3,h⟩
      try simp +decide only[go_sem, *]
      refine cI h (λ_ h=> ?_) λ_ h=> ?_
      . obtain rfl:=Option.some.inj h
        simp +decide only[go_sem, *]
      obtain⟨_,h⟩:=cS h
      try simp +decide only[go_sem, *]
      refine hN3 n3 (Nat.lt_succ_self _) _ _ ⟨_,_,?_,hL3.symm▸h⟩
      simp +decide only[go_sem, *]
    try simp +decide only[go_sem, *]
    refine hM4 _ _ ⟨_,?_,h⟩
    simp +decide only[go_sem, *]
 rintro τ4 ν4 ⟨seen,s4,h⟩
 obtain rfl:=Option.some.inj h
 simp +decide only[go_sem, *]
end
def zV:IC:=(Ra 0 [.B 4 false]
(Rb 5 [.C 0,.P .geq 5 0,.C 6,.G 7 true,.C 0,.C 1,.O .lss 8 9,.e,.W 7 10,.M 4 11]))
def zW:Gi:=⟨[]⟩
def zX:List RV:=[.tmp 4]
namespace Dg
def J1 (c:Bool):Option Bool:=
some c
end Dg
section
open Dg
def Dg (a b:Int):Option Bool:=
if decide (a≥0)then
J1 (decide (a<b))
else
J1 false
theorem NC {a b:Int} {r:Bool} (h:Dg a b=some r):Says Tryz.prog 52 [si a,si b] (sb r):=by
 refine wO mix Tryz.func52 (I:=⟨zV,zW,zX⟩) ?_
 simp only[zV,zW,zX]
 unfold Dg at h
 exact walk
end
def xH:IC:=(Ra 0 [.b 3 [8,13] (.bx 6 (.t 0)),.B 6 false]
(Rb 7 [.C 1,.f 1 3,.Z 9,.c 52 [7,10] 0,.C 11,.G 12 true,.f 1 3,.C 1,.I 2 14 15,.U 1 16,.C 2,.o (.beq false (.t 18) (.t 19)),.e,.W 12 20,.M 6 21]))
def xI:Gi:=⟨[(8,[3]),(13,[3])]⟩
def xJ:List RV:=[.tmp 6]
namespace EG
def J1 (d:Bool):Option Bool:=
some d
end EG
section
open EG
def EG (b:AB) (a:Int) (c:Bool):Option Bool:=
(Dg a (b.AG.length:Int)).bind λe=>
if e then
(gt b.AG a).bind λf=>
J1 (f.RW==c)
else
J1 false
theorem NB {b:AB} {a:Int} {c r:Bool} (h:EG b a c=some r):Says Tryz.prog 25 [.agg (Ap b),si a,sb c] (sb r):=by
 refine wO mix Tryz.func25 (I:=⟨xH,xI,xJ⟩) ?_
 simp only[xH,xI,xJ]
 have a1:= @NC
 unfold EG at h
 exact walk
end
def xK:IC:=(Ra 0 [.b 1 [7,21] (.bx 6 (.t 0)),.B 2 false]
(Ra 0 [.K 3 0,.K 4 0]
(Sq (Ra 7 [.f 5 1,.Z 8,.Y 0]
(Bl 0 (Ra 11 [.O .lss 10 9]
(Sq (cX 11 0)
(Sq (Bk 1 (Ra 12 [.I 3 8 10,.A 3 12,.b 6 [14,19,26,30,32] (.bx 3 (.c (.agg [si 0,si 0,si 0]))),.S 3 6 13]
(Sq (Ra 14 [.f 0 6,.C 3,.O .lss 15 16,.C 17,.G 18 false,.f 0 6,.f 4 1,.Z 22,.O .geq 20 23,.e,.V 18 24]
(Ci 25 (Rb 0 [.B 2 false])))
(Sq (Ra 26 [.f 0 6,.C 3,.O .gtr 27 28]
(Ci 29 (Rc 30 [.f 0 6,.M 3 31,.K 4 0])))
(Sq (Ra 32 [.f 1 6,.C 4,.O .neq 33 34]
(Ci 35 (Rb 0 [.B 2 false])))
(Rc 36 [.C 4,.P .add 36 1,.M 4 37]))))))
(Rc 38 [.P .add 10 1,.w 10,.C 38]))))))
(Rb 0 [.B 2 true]))))
def xL:Gi:=⟨[(7,[1]),(14,[6]),(19,[6]),(21,[1]),(26,[6]),(30,[6]),(32,[6])]⟩
def xM:List RV:=[.tmp 2]
namespace Bm
def J3:Option Bool:=
some true
def J2 (L1:Int->Int->Int->Option Bool) (b:Int) (d:DO) (j f:Int):Option Bool:=
if d.Stmt != f then
some false
else
L1 j (BE (f+1)) (BE (b+1))
def J1 (L1:Int->Int->Int->Option Bool) (e b c:Int) (d:DO) (i:Bool):Option Bool:=
if i then
some false
else
if decide (d.Thread>c)then
J2 L1 b d d.Thread 0
else
J2 L1 b d c e
def L1 (a:AB) (L1:Int->Int->Int->Option Bool) (c e b:Int):Option Bool:=
if decide (b<(a.BA.length:Int))then
(gt a.BA b).bind λd=>
if decide (d.Thread<c)then
J1 L1 e b c d true
else
J1 L1 e b c d (decide (d.Thread≥(a.AA.length:Int)))
else
J3
def Ac (a:AB):Nat->Int->Int->Int->Option Bool
|0,_,_,_=>none
|n+1,c,e,b=>L1 a (Ac a n) c e b
end Bm
section
open Bm
def Bm (a:AB):Option Bool:=
Ac a Bo 0 0 0
theorem Jv {a:AB} {r:Bool} (h:Bm a=some r):Says Tryz.prog 26 [.agg (Ap a)] (sb r):=by
 refine wO mix Tryz.func26 (I:=⟨xK,xL,xM⟩) ?_
 simp only[xK,xL,xM]
 have l1:=λn1 n2 n3 n4:Nat=>BM λn τ=>∃(c e b:Int),(τ 1=bA 6 (Ap a)/\τ 3=si c/\τ 4=si e/\τ 8=vS 3 E7 a.BA/\τ 9=si (a.BA.length:Int)/\τ 10=si b)/\Ac a n c e b=some r
 unfold Bm at h
 exact walk
end
end Go.Abs
