/- Typed programs of Go functions, and that the functions do what these say. -/
import Derived.Test.YthmijagacgnmkaaGreatDoorWalkB
import Derived.Test.YthmijagacgnmkaaGreatDoorWalkC
set_option linter.unusedSimpArgs false
set_option linter.unusedVariables false
namespace Go.Abs
open Go.Proofs
set_option maxRecDepth 1000000
set_option maxHeartbeats 4000000
def f165c:Yl:=(.seq (.ic (Rc 0 [.B 2 false]))
(.seq (.ic (sO (Rc 5 [.C 0,.o (.ZN (.t 5)),.P .lss 6 1,.C 7,.G 8 false,.C 0,.o (.ZN (.t 9)),.P .gtr 10 12,.e,.V 8 11,.C 12,.G 13 false,.C 0,.c 202 [14] 0,.e,.V 13 15])
(Ci 16 (Rb 0 [.B 2 false]))))
(fI (.seq (.Y6 [.x (.o ⟨some ⟨17,[],[]⟩,.cp (.t 0),none⟩),.rng ⟨18,[],[]⟩ (.t 17)])
(.block 0 (.loop (.seq (.Y6 [.nxt ⟨19,[],[]⟩ (.t 18),.x (.o ⟨some ⟨20,[],[]⟩,.ext (.t 19) 0,none⟩)])
(.ic (Sq (cX 20 0)
(Bk 1 (Ra 21 [.o (.ext (.t 19) 1),.o (.ext (.t 19) 2),.M 3 21,.M 4 22]
(Bk 2 (sO (Rc 24 [.C 4,.o (.bin .leq (.c (.sc (.int .i32 97))) (.t 24)),.C 25,.G 26 true,.C 4,.o (.bin .leq (.t 27) (.c (.sc (.int .i32 122)))),.e,.W 26 28,.C 29,.G 30 false,.C 4,.o (.bin .leq (.c (.sc (.int .i32 65))) (.t 31)),.C 32,.G 33 true,.C 4,.o (.bin .leq (.t 34) (.c (.sc (.int .i32 90)))),.G 30 false,.o (.pick (.t 33) (.t 35) (.c (sb false))),.e,.V 30 36,.M 23 37])
(Cn 23 .skip (sO (Rc 39 [.C 3,.P .gtr 39 0,.C 40,.G 41 true,.C 4,.o (.bin .eql (.t 42) (.c (.sc (.int .i32 95)))),.C 43,.G 44 false,.C 4,.o (.bin .leq (.c (.sc (.int .i32 48))) (.t 45)),.C 46,.G 47 true,.C 4,.o (.bin .leq (.t 48) (.c (.sc (.int .i32 57)))),.G 44 false,.o (.pick (.t 47) (.t 49) (.c (sb false))),.G 41 true,.o (.pick (.t 44) (.c (sb true)) (.t 50)),.e,.W 41 51,.M 38 52])
(Cn 38 .skip (Rb 0 [.B 2 false]))))))))))))))
(.ic (Rb 0 [.B 2 true])))))
def f165g:Gi:=⟨[]⟩
def f165r:List RV:=[.tmp 2]
def f165:FIM:=⟨f165c,f165g,f165r⟩
theorem chk165:o4 Tryz.prog Tryz.f165 f165=true:=by kernel_rfl
namespace Cm
def J4:ABr Bool:=
some true
def J3 (L1:Nat->ABr Bool) (pos:Nat) (s:ABs) (t38v:Bool):ABr Bool:=
if t38v then
L1 (pos+(Utf8.decode s pos).2)
else
some false
def J2 (L1:Nat->ABr Bool) (pos:Nat) (s:ABs) (t23v:Bool):ABr Bool:=
if t23v then
L1 (pos+(Utf8.decode s pos).2)
else
if decide ((pos:Int)>0)then
if((Utf8.decode s pos).1:Int)==95 then
J3 L1 pos s true
else
if decide (48≤((Utf8.decode s pos).1:Int))then
J3 L1 pos s (decide (((Utf8.decode s pos).1:Int)≤57))
else
J3 L1 pos s false
else
J3 L1 pos s false
def L1 (s:ABs) (L1:Nat->ABr Bool) (pos:Nat):ABr Bool:=
if decide (pos<s.size)then
if decide (97≤((Utf8.decode s pos).1:Int))then
if decide (((Utf8.decode s pos).1:Int)≤122)then
J2 L1 pos s true
else
if decide (65≤((Utf8.decode s pos).1:Int))then
J2 L1 pos s (decide (((Utf8.decode s pos).1:Int)≤90))
else
J2 L1 pos s false
else
if decide (65≤((Utf8.decode s pos).1:Int))then
J2 L1 pos s (decide (((Utf8.decode s pos).1:Int)≤90))
else
J2 L1 pos s false
else
J4
def AZ (s:ABs):Nat->Nat->ABr Bool
|0,_=>none
|n+1,pos=>L1 s (AZ s n) pos
def J1 (s:ABs) (t16v:Bool):ABr Bool:=
if t16v then
some false
else
AZ s BU 0
end Cm
section
open Cm
def Cm (s:ABs):ABr Bool:=
if decide ((s.size:Int)<1)then
J1 s true
else
if decide ((s.size:Int)>12)then
J1 s true
else
(Df s).bind λv=>
J1 s v
theorem Vu {s:ABs} {r:Bool} (h:Cm s=some r):Says Tryz.prog 165 [BR s] (sb r):=by
 refine jC mix Tryz.func165 chk165 (AAc (by kernel_rfl)) rfl ?_;simp only[f165,f165c,f165g,f165r]
 try simp +decide only[go_sem, *]
 refine cutH (λτ=>∃t16v:Bool,(τ 0=BR s/\τ 16=sb t16v)/\J1 s t16v=some r) λM1 hM1=>⟨?_,?_⟩
 . try simp +decide only[go_sem, *]
   refine gI h (λ_ h=> ?_) λ_ h=> ?_
   . try simp +decide only[go_sem, *]
     refine hM1 _ ⟨_,?_,h⟩;simp +decide only[go_sem, *]
   try simp +decide only[go_sem, *]
   refine gI h (λ_ h=> ?_) λ_ h=> ?_
   . try simp +decide only[go_sem, *]
     refine hM1 _ ⟨_,?_,h⟩;simp +decide only[go_sem, *]
   obtain⟨v,g1,h⟩:=bS h
   try simp +decide only[go_sem, *]
   refine⟨_,Ro g1,?_⟩
   try simp +decide only[go_sem, *]
   refine hM1 _ ⟨_,?_,h⟩;simp +decide only[go_sem, *]
 rintro τ1 ⟨t16v,s1,h⟩
 try simp +decide only[go_sem, *]
 refine cI h (λ_ h=> ?_) λ_ h=> ?_
 . obtain rfl:=AAU h;simp +decide only[go_sem, *]
 try simp +decide only[go_sem, *]
 refine fJ (λτ ν=>(True)/\J4=some r) λM4 hM4=>⟨?_,?_⟩
 . try simp +decide only[go_sem, *]
   intro b1 hb1
   try simp +decide only[go_sem, *]
   refine loopMH (λn τ ν=>∃pos:Nat,(τ 18= .sc (.pointer (some ⟨b1,0,none⟩))/\ν b1=some (.it s pos))/\AZ s n pos=some r) ⟨_,?_,h⟩ λn1 τ1 ν1 N1=> ?_
   . simp +decide only[go_sem, *]
   rintro⟨pos,s1,h⟩ hN1;cases n1 with
   |zero=>exact EO h
   |succ n1=>
    rw[AZ]at h;generalize hL1:AZ s n1=L1 at h
    try simp +decide only[go_sem, *]
    rcases bool_sp (decide (pos<s.size))with e4|e4
    . replace h:=ifT e4 h
      try simp +decide only[go_sem,(AAc e4),G9,Fv, *]
      refine cutH (λτ=>∃t23v:Bool,(τ 3=si (pos:Int)/\τ 4= .sc (.int .i32 ((Utf8.decode s pos).1:Int))/\τ 18= .sc (.pointer (some ⟨b1,0,none⟩))/\τ 23=sb t23v)/\J2 L1 pos s t23v=some r) λM2 hM2=>⟨?_,?_⟩
      . try simp +decide only[go_sem,(AAc e4),G9,Fv, *]
        refine gI h (λ_ h=> ?_) λ_ h=> ?_
        . try simp +decide only[go_sem,(AAc e4),G9,Fv, *]
          refine gI h (λ_ h=> ?_) λ_ h=> ?_
          . try simp +decide only[go_sem,(AAc e4),G9,Fv, *]
            refine hM2 _ ⟨_,?_,h⟩;simp +decide only[go_sem,(AAc e4),G9,Fv, *]
          try simp +decide only[go_sem,(AAc e4),G9,Fv, *]
          refine gI h (λ_ h=> ?_) λ_ h=> ?_
          . try simp +decide only[go_sem,(AAc e4),G9,Fv, *]
            refine hM2 _ ⟨_,?_,h⟩;simp +decide only[go_sem,(AAc e4),G9,Fv, *]
          try simp +decide only[go_sem,(AAc e4),G9,Fv, *]
          refine hM2 _ ⟨_,?_,h⟩;simp +decide only[go_sem,(AAc e4),G9,Fv, *]
        try simp +decide only[go_sem,(AAc e4),G9,Fv, *]
        refine gI h (λ_ h=> ?_) λ_ h=> ?_
        . try simp +decide only[go_sem,(AAc e4),G9,Fv, *]
          refine hM2 _ ⟨_,?_,h⟩;simp +decide only[go_sem,(AAc e4),G9,Fv, *]
        try simp +decide only[go_sem,(AAc e4),G9,Fv, *]
        refine hM2 _ ⟨_,?_,h⟩;simp +decide only[go_sem,(AAc e4),G9,Fv, *]
      rintro τ2 ⟨t23v,s2,h⟩
      try simp +decide only[go_sem, *]
      refine cI h (λ_ h=> ?_) λ_ h=> ?_
      . try simp +decide only[go_sem, *]
        refine hN1 n1 (Nat.lt_succ_self _) _ _ ⟨_,?_,hL1.symm▸h⟩;simp +decide only[go_sem, *]
      try simp +decide only[go_sem, *]
      refine cutH (λτ=>∃t38v:Bool,(τ 18= .sc (.pointer (some ⟨b1,0,none⟩))/\τ 38=sb t38v)/\J3 L1 pos s t38v=some r) λM3 hM3=>⟨?_,?_⟩
      . try simp +decide only[go_sem, *]
        refine gI h (λ_ h=> ?_) λ_ h=> ?_
        . try simp +decide only[go_sem, *]
          refine gI h (λ_ h=> ?_) λ_ h=> ?_
          . try simp +decide only[go_sem, *]
            refine hM3 _ ⟨_,?_,h⟩;simp +decide only[go_sem, *]
          try simp +decide only[go_sem, *]
          refine gI h (λ_ h=> ?_) λ_ h=> ?_
          . try simp +decide only[go_sem, *]
            refine hM3 _ ⟨_,?_,h⟩;simp +decide only[go_sem, *]
          try simp +decide only[go_sem, *]
          refine hM3 _ ⟨_,?_,h⟩;simp +decide only[go_sem, *]
        try simp +decide only[go_sem, *]
        refine hM3 _ ⟨_,?_,h⟩;simp +decide only[go_sem, *]
      rintro τ3 ⟨t38v,s3,h⟩
      try simp +decide only[go_sem, *]
      refine cI h (λ_ h=> ?_) λ_ h=> ?_
      . try simp +decide only[go_sem, *]
        refine hN1 n1 (Nat.lt_succ_self _) _ _ ⟨_,?_,hL1.symm▸h⟩;simp +decide only[go_sem, *]
      obtain rfl:=AAU h;simp +decide only[go_sem, *]
    . replace h:=ifF e4 h
      try simp +decide only[go_sem,(of_decide_eq_false e4),G9,Fv, *]
      refine hM4 _ _ ⟨?_,h⟩;simp +decide only[go_sem,(of_decide_eq_false e4),G9,Fv, *]
 rintro τ4 ν4 ⟨_,h⟩;obtain rfl:=AAU h;simp +decide only[go_sem, *]
end
namespace C4
def J1 (R100:AO->Int->ABr (A7×AO)) (c:Int) (a:AO) (b:Int×Ab) (d:Bool):ABr (A7×AO):=
if d then
(Ak b.2 4).bind λe=>
(Jq e.1).bind λp=>
some (p,(AO.mk e.2 a.BX a.left a.HY a.tx a.atomic a.loop a.held))
else
if decide (b.1<7)then
(Ak b.2 7).bind λf=>
(gt [(⟨#[97]⟩:ABs),(⟨#[98]⟩:ABs),(⟨#[120]⟩:ABs),(⟨#[121]⟩:ABs),(⟨#[118]⟩:ABs),(⟨#[120]⟩:ABs),(⟨#[121]⟩:ABs)] f.1).bind λt=>
(Ii t).bind λq=>
some (q,(AO.mk f.2 a.BX a.left a.HY a.tx a.atomic a.loop a.held))
else
if b.1==7 then
(R100 (AO.mk b.2 a.BX a.left a.HY a.tx a.atomic a.loop a.held) 0).bind λi=>
some ((A7.mk 3 0 (⟨#[113]⟩:ABs) [i.1]),i.2)
else
(Ak b.2 6).bind λj=>
(gt [6,7,8,11,13,17] j.1).bind λu=>
(R100 (AO.mk j.2 a.BX a.left a.HY a.tx a.atomic a.loop a.held) (Ay (c-1))).bind λl=>
(R100 l.2 (Ay (c-1))).bind λo=>
(IJ u l.1 o.1).bind λs=>
some (s,o.2)
end C4
section
open C4
def C4 (R100:AO->Int->ABr (A7×AO)) (a:AO) (c:Int):ABr (A7×AO):=
(Ak a.t 10).bind λb=>
if decide (b.1<2)then
J1 R100 c a b true
else
if c==0 then
J1 R100 c a b (decide (b.1≥7))
else
J1 R100 c a b false
theorem RR {R100:AO->Int->ABr (A7×AO)} (H100:∀{x0 x1 r},R100 x0 x1=some r->A8 Tryz.prog 245 [bA 8 (CH x0),si x1] (.agg [si r.1.Op,si r.1.N,BR r.1.Name,vS 4 A9 r.1.L]) [bA 8 (CH r.2),.dead]) {a:AO} {c:Int} {r:A7×AO} (h:C4 R100 a c=some r):A8 Tryz.prog 245 [bA 8 (CH a),si c] (.agg [si r.1.Op,si r.1.N,BR r.1.Name,vS 4 A9 r.1.L]) [bA 8 (CH r.2),.dead]:=by refine kP mix Tryz.func245 (hn [(0,[9,10,11,12,25,26,27,28,35,36,37,38,48,54,55,56,57]),(5,[34,39,42]),(7,[53,58,61])] [(4,1)] (E:=[(10,(.dS [(0,10,13,63),(0,14,17,67)] [i1 53 7 (.cp (.t 7)),i1 54 0 (.cp (.t 0)),i1 55 0 (.Hx (.t 54)),Np 56 0 0 55,Zu 57 0 56,i1 58 7 (.cp (.t 7)),iZ 59 58,i0 60 (.Up 104 [] (.t 57) none [.t 59]),wZ 61 7 1 53 60,iL 62 61,i0 63 .fl,iC 64 1,iP 65 .sub 64 1,i0 66 (.Up 245 [] (.t 0) none [.t 65]),i0 67 .fl,iC 68 1,iP 69 .sub 68 1,i0 70 (.Up 245 [] (.t 0) none [.t 69]),i0 71 (.call 246 [.t 62,.t 66,.t 70] 1),iS 4 4 71]))])) ?_;have a1:= @DO;have a2:= @PU;have a3:= @Sv;have a4:= @H100;have a5:= @PR;have c1:=λn1 n2 n3 n4:Nat=>Bo 1 λτ=>∃(b:Int×Ab) (d:Bool),(τ 0=bA 8 [bA 2 (Gz b.2),si a.BX,si a.left,sb a.HY,sb a.tx,sb a.atomic,sb a.loop,vO 1 eS a.held]/\τ 1=si c/\τ 4=bA 4 z23/\τ 5= .own false 1 ([[BR ⟨#[97]⟩],[BR ⟨#[98]⟩],[BR ⟨#[120]⟩],[BR ⟨#[121]⟩],[BR ⟨#[118]⟩],[BR ⟨#[120]⟩],[BR ⟨#[121]⟩]])/\τ 6=si b.1/\τ 14=sb d)/\J1 R100 c a b d=some r;unfold C4 at h;exact walk
end
def NM:Nat->(AO->Int->ABr (A7×AO))
|0=>(λ_ _=>none)
|n+1=>C4 ((NM n))
def B5 (n:Nat):AO->Int->ABr (A7×AO):=(NM n)
theorem QV (n:Nat):(∀{x0 x1 r},(B5 n) x0 x1=some r->A8 Tryz.prog 245 [bA 8 (CH x0),si x1] (.agg [si r.1.Op,si r.1.N,BR r.1.Name,.sl false 4 (r.1.L.map A9)]) [bA 8 (CH r.2),.dead]):=by
  induction n with
  |zero=>exactλh=>EO h
  |succ n ih=>exactλh=>RR ih h
theorem QW {n:Nat}:∀{x0 x1 r},(B5 n) x0 x1=some r->A8 Tryz.prog 245 [bA 8 (CH x0),si x1] (.agg [si r.1.Op,si r.1.N,BR r.1.Name,.sl false 4 (r.1.L.map A9)]) [bA 8 (CH r.2),.dead]:=(QV n)
namespace Hf
def J6:ABr (Int×Int):=
some (0,0)
def J5 (L1:Int->Int->Int->Int->Int->ABr (Int×Int)) (b t:Int) (w u v:Int):ABr (Int×Int):=
L1 t w u v (Ay (b+1))
def J4 (L1:Int->Int->Int->Int->Int->ABr (Int×Int)) (j l:Int) (o b:Int) (c:List ET) (p:Int) (a:ET) (q:Bool):ABr (Int×Int):=
if q then
some (2,a.FG)
else
if a.Kind==5 then
if 0≤b/\b.toNat≤c.length then
(Cj (c.take b.toNat) a.On).bind λs=>
if decide (s<0)then
some (5,a.FG)
else
(gt c s).bind λaa=>
if aa.Kind != 3 then
some (6,a.FG)
else
J5 L1 b j p l o
else none
else
J5 L1 b j p l o
def J3 (L1:Int->Int->Int->Int->Int->ABr (Int×Int)) (b:Int) (c:List ET) (a:ET) (j p:Int) (l o:Int):ABr (Int×Int):=
if decide (j>12)then
J4 L1 j l o b c p a true
else
if decide (p>4)then
J4 L1 j l o b c p a true
else
if decide (l>2)then
J4 L1 j l o b c p a true
else
J4 L1 j l o b c p a (decide (o>2))
def J2 (L1:Int->Int->Int->Int->Int->ABr (Int×Int)) (d e:Int) (f b:Int) (c:List ET) (i:Int) (a:ET) (y:Bool):ABr (Int×Int):=
if y then
J3 L1 b c a d (Ay (i+1)) e f
else
if a.Kind==5 then
J3 L1 b c a d i (Ay (e+1)) f
else
J3 L1 b c a d i e (Ay (f+1))
def J1 (L1:Int->Int->Int->Int->Int->ABr (Int×Int)) (d e:Int) (f b:Int) (c:List ET) (i:Int) (a:ET) (x:Bool):ABr (Int×Int):=
if x then
J3 L1 b c a (Ay (d+(if 1>a.B7 then 1 else a.B7))) i e f
else
if a.Kind==3 then
J2 L1 d e f b c i a (a.Kind==3)
else
J2 L1 d e f b c i a (a.Kind==4)
def L1 (c:List ET) (L1:Int->Int->Int->Int->Int->ABr (Int×Int)) (d i:Int) (e f b:Int):ABr (Int×Int):=
if decide (b<(c.length:Int))then
(gt c b).bind λa=>
if 0≤b/\b.toNat≤c.length then
(Cj (c.take b.toNat) a.Name).bind λz=>
if decide (z≥0)then
some (4,a.FG)
else
if decide (a.B7>4)then
some (2,a.FG)
else
if a.Kind==1 then
J1 L1 d e f b c i a (a.Kind==1)
else
J1 L1 d e f b c i a (a.Kind==2)
else none
else
J6
def AZ (c:List ET):Nat->Int->Int->Int->Int->Int->ABr (Int×Int)
|0,_,_,_,_,_=>none
|n+1,d,i,e,f,b=>L1 c (AZ c n) d i e f b
end Hf
section
open Hf
def Hf (c:List ET):ABr (Int×Int):=
AZ c BU 0 0 0 0 0
theorem Xt {c:List ET} {r:Int×Int} (h:Hf c=some r):Says Tryz.prog 214 [vS 6 Jm c] (.BI [si r.1,si r.2]):=by refine kO mix Tryz.func214 (hn [(9,[24,28,30,33,35,43,70,72,78,83,91])] [(14,3),(22,4)]) ?_;have a1:= @JJ;have l1:=λn1 n2 n3 n4:Nat=>A0 λn τ=>∃(d i e f b:Int),(τ 0=vS 6 Jm c/\τ 4=si d/\τ 5=si i/\τ 6=si e/\τ 7=si f/\τ 8=si b)/\AZ c n d i e f b=some r;have c4:=λn1 n2 n3 n4:Nat=>Bo 4 λτ=>∃(j l o b p:Int) (a:ET) (q:Bool),(τ 0=vS 6 Jm c/\τ 4=si j/\τ 5=si p/\τ 6=si l/\τ 7=si o/\τ 8=si b/\τ 9=bA 6 (Jm a)/\τ 69=sb q)/\J4 (AZ c n1) j l o b c p a q=some r;have c3:=λn1 n2 n3 n4:Nat=>Bo 3 λτ=>∃(b:Int) (a:ET) (j p l o:Int),(τ 0=vS 6 Jm c/\τ 4=si j/\τ 5=si p/\τ 6=si l/\τ 7=si o/\τ 8=si b/\τ 9=bA 6 (Jm a))/\J3 (AZ c n1) b c a j p l o=some r;unfold Hf at h;exact walk
end
namespace CD
def J4 (l:Bool):ABr Bool:=
some l
def J6 (o:Bool):ABr Bool:=
some o
def J9 (b:Int) (c:AB) (q:Bool):ABr Bool:=
if q then
(DA b (c.AK.length:Int)).bind λx=>
some x
else
some false
def J8 (a b:Int) (c:AB) (p:Bool):ABr Bool:=
if p then
(DA b (c.AA.length:Int)).bind λw=>
some w
else
if a==22 then
J9 b c (a==22)
else
J9 b c (a==23)
def J7 (a b:Int) (c:AB) (i:Bool):ABr Bool:=
if i then
(DA b (c.Ah.length:Int)).bind λv=>
some v
else
if a==20 then
J8 a b c (a==20)
else
J8 a b c (a==21)
def J5 (a b:Int) (c:AB) (f:Bool):ABr Bool:=
if f then
(DA b (c.AF.length:Int)).bind λu=>
if u then
(gt c.AF b).bind λz=>
J6 z.RW
else
J6 false
else
if a==16 then
J7 a b c (a==16)
else
if a==17 then
J7 a b c (a==17)
else
if a==18 then
J7 a b c (a==18)
else
J7 a b c (a==19)
def J3 (a b:Int) (c:AB) (e:Bool):ABr Bool:=
if e then
(DA b (c.AF.length:Int)).bind λt=>
if t then
(gt c.AF b).bind λy=>
J4 (!y.RW)
else
J4 false
else
if a==8 then
J5 a b c (a==8)
else
if a==9 then
J5 a b c (a==9)
else
if a==10 then
J5 a b c (a==10)
else
J5 a b c (a==11)
def J2 (a b:Int) (c:AB) (d:Bool):ABr Bool:=
if d then
(DA b (c.Cells.length:Int)).bind λs=>
some s
else
if a==6 then
J3 a b c (a==6)
else
J3 a b c (a==7)
def J1 (a b:Int) (c:AB) (j:Bool):ABr Bool:=
if j then
some (b==(-1))
else
if a==3 then
J2 a b c (a==3)
else
J2 a b c (a==4)
end CD
section
open CD
def CD (c:AB) (a b:Int):ABr Bool:=
if a==1 then
J1 a b c (a==1)
else
if a==2 then
J1 a b c (a==2)
else
if a==5 then
J1 a b c (a==5)
else
if a==12 then
J1 a b c (a==12)
else
if a==13 then
J1 a b c (a==13)
else
if a==14 then
J1 a b c (a==14)
else
J1 a b c (a==15)
theorem Sz {c:AB} {a b:Int} {r:Bool} (h:CD c a b=some r):Says Tryz.prog 111 [.agg (Am c),si a,si b] (sb r):=by refine kO mix Tryz.func111 (hn [(3,[22,30,35,49,54,67,75,83])] [(3,1),(11,2),(14,3),(17,5),(22,7)]) ?_;have a1:= @Ik;have c7:=λn1 n2 n3 n4:Nat=>Bo 7 λτ=>∃(i:Bool),(τ 2=si b/\τ 3=bA 6 (Am c)/\τ 7=si a/\τ 61=sb i)/\J7 a b c i=some r;have c5:=λn1 n2 n3 n4:Nat=>Bo 5 λτ=>∃(f:Bool),(τ 2=si b/\τ 3=bA 6 (Am c)/\τ 7=si a/\τ 43=sb f)/\J5 a b c f=some r;have c3:=λn1 n2 n3 n4:Nat=>Bo 3 λτ=>∃(e:Bool),(τ 2=si b/\τ 3=bA 6 (Am c)/\τ 7=si a/\τ 26=sb e)/\J3 a b c e=some r;have c2:=λn1 n2 n3 n4:Nat=>Bo 2 λτ=>∃(d:Bool),(τ 2=si b/\τ 3=bA 6 (Am c)/\τ 7=si a/\τ 18=sb d)/\J2 a b c d=some r;have c1:=λn1 n2 n3 n4:Nat=>Bo 1 λτ=>∃(j:Bool),(τ 2=si b/\τ 3=bA 6 (Am c)/\τ 7=si a/\τ 8=sb j)/\J1 a b c j=some r;unfold CD at h;exact walk
end
namespace IP
def J4 (l:Bool):ABr Bool:=
some l
def J6 (o:Bool):ABr Bool:=
some o
def J9 (b:Int) (c:AB) (q:Bool):ABr Bool:=
if q then
(HC b (c.AK.length:Int)).bind λx=>
some x
else
some false
def J8 (a b:Int) (c:AB) (p:Bool):ABr Bool:=
if p then
(HC b (c.AA.length:Int)).bind λw=>
some w
else
if a==22 then
J9 b c (a==22)
else
J9 b c (a==23)
def J7 (a b:Int) (c:AB) (i:Bool):ABr Bool:=
if i then
(HC b (c.Ah.length:Int)).bind λv=>
some v
else
if a==20 then
J8 a b c (a==20)
else
J8 a b c (a==21)
def J5 (a b:Int) (c:AB) (f:Bool):ABr Bool:=
if f then
(HC b (c.AF.length:Int)).bind λu=>
if u then
(gt c.AF b).bind λz=>
J6 z.RW
else
J6 false
else
if a==16 then
J7 a b c (a==16)
else
if a==17 then
J7 a b c (a==17)
else
if a==18 then
J7 a b c (a==18)
else
J7 a b c (a==19)
def J3 (a b:Int) (c:AB) (e:Bool):ABr Bool:=
if e then
(HC b (c.AF.length:Int)).bind λt=>
if t then
(gt c.AF b).bind λy=>
J4 (!y.RW)
else
J4 false
else
if a==8 then
J5 a b c (a==8)
else
if a==9 then
J5 a b c (a==9)
else
if a==10 then
J5 a b c (a==10)
else
J5 a b c (a==11)
def J2 (a b:Int) (c:AB) (d:Bool):ABr Bool:=
if d then
(HC b (c.Cells.length:Int)).bind λs=>
some s
else
if a==6 then
J3 a b c (a==6)
else
J3 a b c (a==7)
def J1 (a b:Int) (c:AB) (j:Bool):ABr Bool:=
if j then
some (b==(-1))
else
if a==3 then
J2 a b c (a==3)
else
J2 a b c (a==4)
end IP
section
open IP
def IP (c:AB) (a b:Int):ABr Bool:=
if a==1 then
J1 a b c (a==1)
else
if a==2 then
J1 a b c (a==2)
else
if a==5 then
J1 a b c (a==5)
else
if a==12 then
J1 a b c (a==12)
else
if a==13 then
J1 a b c (a==13)
else
if a==14 then
J1 a b c (a==14)
else
J1 a b c (a==15)
theorem X4 {c:AB} {a b:Int} {r:Bool} (h:IP c a b=some r):Says Tryz.prog 129 [.agg (Am c),si a,si b] (sb r):=by refine kO mix Tryz.func129 (hn [(3,[22,30,35,49,54,67,75,83])] [(3,1),(11,2),(14,3),(17,5),(22,7)]) ?_;have a1:= @Ph;have c7:=λn1 n2 n3 n4:Nat=>Bo 7 λτ=>∃(i:Bool),(τ 2=si b/\τ 3=bA 6 (Am c)/\τ 7=si a/\τ 61=sb i)/\J7 a b c i=some r;have c5:=λn1 n2 n3 n4:Nat=>Bo 5 λτ=>∃(f:Bool),(τ 2=si b/\τ 3=bA 6 (Am c)/\τ 7=si a/\τ 43=sb f)/\J5 a b c f=some r;have c3:=λn1 n2 n3 n4:Nat=>Bo 3 λτ=>∃(e:Bool),(τ 2=si b/\τ 3=bA 6 (Am c)/\τ 7=si a/\τ 26=sb e)/\J3 a b c e=some r;have c2:=λn1 n2 n3 n4:Nat=>Bo 2 λτ=>∃(d:Bool),(τ 2=si b/\τ 3=bA 6 (Am c)/\τ 7=si a/\τ 18=sb d)/\J2 a b c d=some r;have c1:=λn1 n2 n3 n4:Nat=>Bo 1 λτ=>∃(j:Bool),(τ 2=si b/\τ 3=bA 6 (Am c)/\τ 7=si a/\τ 8=sb j)/\J1 a b c j=some r;unfold IP at h;exact walk
end
namespace B3
def J5:ABr (Int×Int):=
some (0,0)
def J4 (L2:Int->ABr (Int×Int)) (c:Int):ABr (Int×Int):=
L2 (Ay (c+1))
def J3 (L3:Int->ABr (Int×Int)) (d:Int) (b:Cd) (l:Bool):ABr (Int×Int):=
if l then
some (4,b.FG)
else
L3 (Ay (d+1))
def L3 (L2:Int->ABr (Int×Int)) (c:Int) (a:AQ) (b:Cd) (L3:Int->ABr (Int×Int)) (d:Int):ABr (Int×Int):=
if decide (d<(b.GG.length:Int))then
(gt b.GG d).bind λi=>
(Cj a.Decls i).bind λq=>
if decide (q≥0)then
J3 L3 d b true
else
(Cg a.AA i).bind λs=>
if decide (s≥0)then
J3 L3 d b true
else
if 0≤d/\d.toNat≤b.GG.length then
(CF (b.GG.take d.toNat) i).bind λt=>
J3 L3 d b (decide (t≥0))
else none
else
J4 L2 c
def Hz (L2:Int->ABr (Int×Int)) (c:Int) (a:AQ) (b:Cd):Nat->Int->ABr (Int×Int)
|0,_=>none
|n+1,d=>L3 L2 c a b (Hz L2 c a b n) d
def L2 (a:AQ) (L2:Int->ABr (Int×Int)) (c:Int):ABr (Int×Int):=
if decide (c<(a.AA.length:Int))then
(gt a.AA c).bind λb=>
if decide ((b.GG.length:Int)>4)then
some (2,b.FG)
else
Hz L2 c a b BU 0
else
J5
def Cf (a:AQ):Nat->Int->ABr (Int×Int)
|0,_=>none
|n+1,c=>L2 a (Cf a n) c
def J2 (a:AQ):ABr (Int×Int):=
Cf a BU 0
def J1 (L1:Int->ABr (Int×Int)) (e:Int) (f:Cd) (j:Bool):ABr (Int×Int):=
if j then
some (4,f.FG)
else
L1 (Ay (e+1))
def L1 (a:AQ) (L1:Int->ABr (Int×Int)) (e:Int):ABr (Int×Int):=
if decide (e<(a.AA.length:Int))then
(gt a.AA e).bind λf=>
(Cj a.Decls f.Name).bind λo=>
if decide (o≥0)then
J1 L1 e f true
else
if 0≤e/\e.toNat≤a.AA.length then
(Cg (a.AA.take e.toNat) f.Name).bind λp=>
J1 L1 e f (decide (p≥0))
else none
else
J2 a
def AZ (a:AQ):Nat->Int->ABr (Int×Int)
|0,_=>none
|n+1,e=>L1 a (AZ a n) e
end B3
section
open B3
def B3 (a:AQ):ABr (Int×Int):=
AZ a BU 0
theorem UO {a:AQ} {r:Int×Int} (h:B3 a=some r):Says Tryz.prog 215 [.agg (CC a)] (.BI [si r.1,si r.2]):=by refine kO mix Tryz.func215 (hn [(1,[11,17,22,29,41,47,70,76]),(5,[24,33,38]),(7,[52,56,59,65,83,91])]) ?_;have a1:= @JJ;have a2:= @Jv;have a3:= @He;have l2:=λn1 n2 n3 n4:Nat=>A0 λn τ=>∃(c:Int),(τ 1=bA 2 (CC a)/\τ 6=si c)/\Cf a n c=some r;have l3:=λn1 n2 n3 n4:Nat=>A0 λn τ=>∃(c:Int) (b:Cd) (d:Int),(τ 1=bA 2 (CC a)/\τ 6=si c/\τ 7=bA 4 (Ie b)/\τ 8=si d)/\Hz (Cf a n2) c a b n d=some r;have l1:=λn1 n2 n3 n4:Nat=>A0 λn τ=>∃(e:Int),(τ 1=bA 2 (CC a)/\τ 4=si e)/\AZ a n e=some r;unfold B3 at h;exact walk
end
namespace HX
def J5:ABr Bool:=
some true
def L3 (a b:AN) (L3:Int->ABr Bool) (e:Int):ABr Bool:=
if decide (e<(a.AA.length:Int))then
(gt a.AA e).bind λi=>
(gt b.AA e).bind λj=>
if !(i.Status==j.Status&&(i.Es==j.Es&&(i.Atomic==j.Atomic)))then
some false
else
L3 (Ay (e+1))
else
J5
def Hz (a b:AN):Nat->Int->ABr Bool
|0,_=>none
|n+1,e=>L3 a b (Hz a b n) e
def J4 (a b:AN):ABr Bool:=
Hz a b BU 0
def L2 (a b:AN) (L2:Int->ABr Bool) (d:Int):ABr Bool:=
if decide (d<(a.B6.length:Int))then
(gt a.B6 d).bind λs=>
(gt b.B6 d).bind λt=>
if !(s==t)then
some false
else
L2 (Ay (d+1))
else
J4 a b
def Cf (a b:AN):Nat->Int->ABr Bool
|0,_=>none
|n+1,d=>L2 a b (Cf a b n) d
def J3 (a b:AN):ABr Bool:=
Cf a b BU 0
def J2 (L1:Int->ABr Bool) (c:Int) (p:Bool):ABr Bool:=
if p then
some false
else
L1 (Ay (c+1))
def L1 (a b:AN) (L1:Int->ABr Bool) (c:Int):ABr Bool:=
if decide (c<(a.AF.length:Int))then
(gt a.AF c).bind λl=>
(gt b.AF c).bind λo=>
if l.Bz != o.Bz then
J2 L1 c true
else
(F8 l.Ax o.Ax).bind λq=>
J2 L1 c (!q)
else
J3 a b
def AZ (a b:AN):Nat->Int->ABr Bool
|0,_=>none
|n+1,c=>L1 a b (AZ a b n) c
def J1 (a b:AN) (f:Bool):ABr Bool:=
if f then
some false
else
AZ a b BU 0
end HX
section
open HX
def HX (a b:AN):ABr Bool:=
if a.Tx != b.Tx then
J1 a b true
else
if(a.AF.length:Int) != (b.AF.length:Int)then
J1 a b true
else
if(a.B6.length:Int) != (b.B6.length:Int)then
J1 a b true
else
J1 a b ((a.AA.length:Int) != (b.AA.length:Int))
theorem ZA {a b:AN} {r:Bool} (h:HX a b=some r):Says Tryz.prog 71 [.agg (EH a),.agg (EH b)] (sb r):=by refine kO mix Tryz.func71 (hn [(2,[8,14,23,32,41,47,61,77,83,95,101]),(3,[10,17,26,35,53,67,88,106])] [(2,1)]) ?_;have a1:= @Mf;have l3:=λn1 n2 n3 n4:Nat=>A0 λn τ=>∃(e:Int),(τ 2=bA 4 (EH a)/\τ 3=bA 4 (EH b)/\τ 7=si e)/\Hz a b n e=some r;have l2:=λn1 n2 n3 n4:Nat=>A0 λn τ=>∃(d:Int),(τ 2=bA 4 (EH a)/\τ 3=bA 4 (EH b)/\τ 6=si d)/\Cf a b n d=some r;have l1:=λn1 n2 n3 n4:Nat=>A0 λn τ=>∃(c:Int),(τ 2=bA 4 (EH a)/\τ 3=bA 4 (EH b)/\τ 5=si c)/\AZ a b n c=some r;have c1:=λn1 n2 n3 n4:Nat=>Bo 1 λτ=>∃(f:Bool),(τ 2=bA 4 (EH a)/\τ 3=bA 4 (EH b)/\τ 39=sb f)/\J1 a b f=some r;unfold HX at h;exact walk
end
def GN (R100:A6->A7->Int->ABr A6) (c:A6) (a:A7) (b:Int):ABr A6:=
if a.Op==1 then
(A3 c (Aa.mk 1 b 0 0 a.N 0)).bind λi=>
some i
else
if a.Op==2 then
(CF c.locals a.Name).bind λe=>
if decide (e≥0)then
(A3 c (Aa.mk 2 b e 0 0 0)).bind λo=>
some o
else
(Bb c.w a.Name).bind λp=>
(A3 c (Aa.mk 6 b p 0 0 0)).bind λq=>
some q
else
if a.Op==3 then
(gt a.L 0).bind λv=>
(R100 c v b).bind λd=>
(Bb d.w a.Name).bind λf=>
(gt d.w.Cells f).bind λw=>
(A3 d (Aa.mk 7 b f b w.B7 0)).bind λs=>
some s
else
if(a.L.length:Int)==1 then
(gt a.L 0).bind λx=>
(R100 c x b).bind λt=>
(A3 t (Aa.mk 3 b b 0 a.Op 0)).bind λu=>
some u
else
(gt a.L 0).bind λy=>
(R100 c y b).bind λj=>
(gt a.L 1).bind λz=>
(R100 j z (Ay (b+1))).bind λl=>
(A3 l (Aa.mk 4 b b (Ay (b+1)) a.Op 0)).bind λaa=>
some aa
theorem Ri {R100:A6->A7->Int->ABr A6} (H100:∀{x0 x1 x2 r},R100 x0 x1 x2=some r->A8 Tryz.prog 244 [bA 10 (EJ x0),.agg [si x1.Op,si x1.N,BR x1.Name,vS 4 A9 x1.L],si x2] (.BI []) [bA 10 (EJ r),.dead,.dead]) {c:A6} {a:A7} {b:Int} {r:A6} (h:GN R100 c a b=some r):A8 Tryz.prog 244 [bA 10 (EJ c),.agg [si a.Op,si a.N,BR a.Name,vS 4 A9 a.L],si b] (.BI []) [bA 10 (EJ r),.dead,.dead]:=by refine kL mix Tryz.func244 (hn [(0,[8,15,23,36,46,47,48,49,55,60,62,63,64,65,75,82,83,84,85,89,93,94,95,96,97,99,100,109,116]),(4,[9,16,28,33,38,43,50,66,72,76,86,105,110,119])]) ?_;have a1:= @Gn;have a2:= @He;have a3:= @OP;have a4:= @H100;unfold GN at h;exact walk
def NQ:Nat->(A6->A7->Int->ABr A6)
|0=>(λ_ _ _=>none)
|n+1=>GN ((NQ n))
def Cb (n:Nat):A6->A7->Int->ABr A6:=(NQ n)
theorem Qi (n:Nat):(∀{x0 x1 x2 r},(Cb n) x0 x1 x2=some r->A8 Tryz.prog 244 [bA 10 (EJ x0),.agg [si x1.Op,si x1.N,BR x1.Name,.sl false 4 (x1.L.map A9)],si x2] (.BI []) [bA 10 (EJ r),.dead,.dead]):=by
  induction n with
  |zero=>exactλh=>EO h
  |succ n ih=>exactλh=>Ri ih h
theorem I0 {n:Nat}:∀{x0 x1 x2 r},(Cb n) x0 x1 x2=some r->A8 Tryz.prog 244 [bA 10 (EJ x0),.agg [si x1.Op,si x1.N,BR x1.Name,.sl false 4 (x1.L.map A9)],si x2] (.BI []) [bA 10 (EJ r),.dead,.dead]:=(Qi n)
namespace Jy
def J5:ABr Bool:=
some true
def J4 (L1:Int->ABr Bool) (b:Int) (l:Bool):ABr Bool:=
if l then
some false
else
L1 (Ay (b+1))
def J3 (L1:Int->ABr Bool) (b:Int) (c:Bool) (a:BQ) (e:Bool):ABr Bool:=
if e then
some false
else
if c then
(gt a.Init.Sync.AA b).bind λq=>
(Pk q.Es (a.World.Ah.length:Int)).bind λo=>
if !o then
J4 L1 b true
else
J4 L1 b false
else
(gt a.Init.Sync.AA b).bind λs=>
J4 L1 b (s.Es != 0)
def J2 (L1:Int->ABr Bool) (d:Bool) (b:Int) (a:BQ) (c:Bool):ABr Bool:=
(gt a.Init.Sync.AA b).bind λf=>
if decide (f.Status<0)then
J3 L1 b c a true
else
if decide (f.Status>5)then
J3 L1 b c a true
else
(gt a.Init.Count b).bind λp=>
if !(d==(p==0))then
J3 L1 b c a true
else
if b==0 then
J3 L1 b c a (f.Status==0)
else
J3 L1 b c a false
def J1 (L1:Int->ABr Bool) (b:Int) (a:BQ) (d:Bool):ABr Bool:=
(gt a.Init.Sync.AA b).bind λj=>
if j.Status==3 then
J2 L1 d b a true
else
J2 L1 d b a (j.Status==4)
def L1 (a:BQ) (L1:Int->ABr Bool) (b:Int):ABr Bool:=
if decide (b<(a.Init.Sync.AA.length:Int))then
(gt a.Init.Sync.AA b).bind λi=>
if i.Status==0 then
J1 L1 b a true
else
J1 L1 b a (i.Status==1)
else
J5
def AZ (a:BQ):Nat->Int->ABr Bool
|0,_=>none
|n+1,b=>L1 a (AZ a n) b
end Jy
section
open Jy
def Jy (a:BQ):ABr Bool:=
AZ a BU 0
end
namespace Ck
def J5 (b:Ab) (c:Int) (p:Bool):ABr (Int×Ab):=
if p then
(Ak b 3).bind λo=>
some ((Ay ((Ay (c+1))+o.1)).tmod 4,o.2)
else
some ((-1),b)
def J4 (a:Int) (b:Ab) (c:Int) (f:Bool):ABr (Int×Ab):=
if f then
some (0,b)
else
if a==20 then
J5 b c (a==20)
else
J5 b c (a==21)
def J3 (a:Int) (b:Ab) (c:Int) (e:Bool):ABr (Int×Ab):=
if e then
some (2,b)
else
if a==16 then
J4 a b c (a==16)
else
if a==17 then
J4 a b c (a==17)
else
if a==18 then
J4 a b c (a==18)
else
if a==19 then
J4 a b c (a==19)
else
if a==22 then
J4 a b c (a==22)
else
J4 a b c (a==23)
def J2 (a:Int) (b:Ab) (c:Int) (d:Bool):ABr (Int×Ab):=
if d then
(Ak b 2).bind λl=>
some (l.1,l.2)
else
if a==8 then
J3 a b c (a==8)
else
if a==9 then
J3 a b c (a==9)
else
if a==10 then
J3 a b c (a==10)
else
J3 a b c (a==11)
def J1 (a:Int) (b:Ab) (c:Int) (i:Bool):ABr (Int×Ab):=
if i then
(Ak b 8).bind λj=>
(gt [0,0,0,1,1,2,3,4] j.1).bind λq=>
some (q,j.2)
else
if a==6 then
J2 a b c (a==6)
else
J2 a b c (a==7)
end Ck
section
open Ck
def Ck (b:Ab) (a c:Int):ABr (Int×Ab):=
if a==3 then
J1 a b c (a==3)
else
J1 a b c (a==4)
theorem Vp {b:Ab} {a c:Int} {r:Int×Ab} (h:Ck b a c=some r):A8 Tryz.prog 176 [bA 2 (Gz b),si a,si c] (si r.1) [bA 2 (Gz r.2),.dead,.dead]:=by refine kL mix Tryz.func176 (hn [(0,[12,19,38]),(11,[14])] [(3,1),(6,2),(9,3),(14,4)]) ?_;have a1:= @DO;have c4:=λn1 n2 n3 n4:Nat=>Bo 4 λτ=>∃(f:Bool),(τ 0=bA 2 (Gz b)/\τ 2=si c/\τ 7=si a/\τ 26=sb f)/\J4 a b c f=some r;have c3:=λn1 n2 n3 n4:Nat=>Bo 3 λτ=>∃(e:Bool),(τ 0=bA 2 (Gz b)/\τ 2=si c/\τ 7=si a/\τ 21=sb e)/\J3 a b c e=some r;have c2:=λn1 n2 n3 n4:Nat=>Bo 2 λτ=>∃(d:Bool),(τ 0=bA 2 (Gz b)/\τ 2=si c/\τ 7=si a/\τ 16=sb d)/\J2 a b c d=some r;have c1:=λn1 n2 n3 n4:Nat=>Bo 1 λτ=>∃(i:Bool),(τ 0=bA 2 (Gz b)/\τ 2=si c/\τ 7=si a/\τ 8=sb i)/\J1 a b c i=some r;unfold Ck at h;exact walk
end
namespace GX
def J4 (o q:List Int):ABr ((List Int)×(List Int)):=
some (o,q)
def J3 (L1:(List Int)->(List Int)->Int->ABr ((List Int)×(List Int))) (c:Int) (l p:List Int):ABr ((List Int)×(List Int)):=
L1 l p (Ay (c+1))
def J2 (L1:(List Int)->(List Int)->Int->ABr ((List Int)×(List Int))) (d:List Int) (c:Int) (a:AN) (b:Int) (j:List Int):ABr ((List Int)×(List Int)):=
(gt a.AF c).bind λw=>
(GC w.Ax b).bind λu=>
if u then
if Af (d.length+1) 8=true then
J3 L1 c j (d++[c])
else none
else
J3 L1 c j d
def L1 (a:AN) (b:Int) (L1:(List Int)->(List Int)->Int->ABr ((List Int)×(List Int))) (e d:List Int) (c:Int):ABr ((List Int)×(List Int)):=
if decide (c<(a.AF.length:Int))then
(gt a.AF c).bind λv=>
if v.Bz==b then
if Af (e.length+1) 8=true then
J2 L1 d c a b (e++[c])
else none
else
J2 L1 d c a b e
else
J4 e d
def AZ (a:AN) (b:Int):Nat->(List Int)->(List Int)->Int->ABr ((List Int)×(List Int))
|0,_,_,_=>none
|n+1,e,d,c=>L1 a b (AZ a b n) e d c
def J1 (a:AN) (b:Int) (i:Bool):ABr ((List Int)×(List Int)):=
if i then
some ([],[])
else
AZ a b BU [] [] 0
end GX
section
open GX
def GX (f:AB) (a:AN) (b:Int):ABr ((List Int)×(List Int)):=
(EN f a).bind λs=>
if !s then
J1 a b true
else
(HC b (f.AA.length:Int)).bind λt=>
J1 a b (!t)
theorem X2 {f:AB} {a:AN} {b:Int} {r:(List Int)×(List Int)} (h:GX f a b=some r):Says Tryz.prog 76 [.agg (Am f),.agg (EH a),si b] (.BI [vO 1 eI r.1,vO 1 eI r.2]):=by refine kO mix Tryz.func76 (hn [(3,[17]),(4,[26,32,44]),(8,[23,40,56]),(9,[24,52,57])] [(3,1)]) ?_;have a1:= @LQ;have a2:= @Kk;have a3:= @Ph;have l1:=λn1 n2 n3 n4:Nat=>A0 λn τ=>∃(e d:List Int) (c:Int),(τ 2=si b/\τ 4=bA 4 (EH a)/\τ 8=vO 1 eI e/\τ 9=vO 1 eI d/\τ 10=si c)/\AZ a b n e d c=some r;have c1:=λn1 n2 n3 n4:Nat=>Bo 1 λτ=>∃(i:Bool),(τ 2=si b/\τ 4=bA 4 (EH a)/\τ 8= .own false 1 []/\τ 9= .own false 1 []/\τ 22=sb i)/\J1 a b i=some r;unfold GX at h;exact walk
end
namespace C9
def J4 (f:Int) (o:List AG):ABr (Int×(List AG)):=
some (f,o)
def J3 (a:List AG) (f:Int):ABr (Int×(List AG)):=
if decide (f≥0)then
(gt a f).bind λj=>
J4 f (a.set f.toNat (AG.mk 4 j.Es j.Atomic))
else
J4 f a
def J2 (L1:Int->Int->ABr (Int×(List AG))) (b l:Int):ABr (Int×(List AG)):=
L1 l (Ay (b+1))
def J1 (L1:Int->Int->ABr (Int×(List AG))) (c b:Int) (p:Bool):ABr (Int×(List AG)):=
if p then
J2 L1 b b
else
J2 L1 b c
def L1 (d:Int) (a:List AG) (e:Int) (L1:Int->Int->ABr (Int×(List AG))) (c b:Int):ABr (Int×(List AG)):=
if decide (b<(a.length:Int))then
(gt a b).bind λs=>
(Fi s d).bind λq=>
if q then
if decide (c<0)then
J1 L1 c b true
else
J1 L1 c b (b==e)
else
J1 L1 c b false
else
J3 a c
def AZ (d:Int) (a:List AG) (e:Int):Nat->Int->Int->ABr (Int×(List AG))
|0,_,_=>none
|n+1,c,b=>L1 d a e (AZ d a e n) c b
end C9
section
open C9
def C9 (i:Int) (a:List AG) (d e:Int):ABr (Int×(List AG)):=
AZ d a e BU (-1) 0
theorem UJ {i:Int} {a:List AG} {d e:Int} {r:Int×(List AG)} (h:C9 i a d e=some r):A8 Tryz.prog 118 [.agg [.dead,si i,.dead,vO 3 BN a],si d,si e] (si r.1) [.agg [.dead,si i,.dead,vO 3 BN r.2],.dead,.dead]:=by refine kL mix Tryz.func118 (hn [(0,[3,10,11,16,34,35,37,38])] (E:=[(0,(.nV [.bxv ⟨3,[],[0]⟩ 4 0,.o (iK 6 0)]))])) ?_;have a1:= @OK;have l1:=λn1 n2 n3 n4:Nat=>A0 λn τ=>∃(c b:Int) (us1:List Value),(τ 0= .agg [.dead,si i,.dead,vO 3 BN a]/\τ 1=si d/\τ 2=si e/\τ 3= .vb 0 0 us1/\τ 7=si c/\τ 11= .al 0 [(0,3,0)]/\τ 12=si (a.length:Int)/\τ 13=si b)/\AZ d a e n c b=some r;unfold C9 at h;exact walk
end
namespace C5
def J2 (p:List AG) (l:Int):ABr (Int×(List AG)):=
some (l,p)
def J1 (L1:(List AG)->Int->Int->ABr (Int×(List AG))) (a:Int) (o:List AG) (j:Int):ABr (Int×(List AG)):=
L1 o j (Ay (a+1))
def L1 (c:Int) (b:List AG) (L1:(List AG)->Int->Int->ABr (Int×(List AG))) (d:List AG) (e a:Int):ABr (Int×(List AG)):=
if decide (a<(b.length:Int))then
(gt d a).bind λi=>
(Fi i c).bind λq=>
if q then
J1 L1 a (d.set a.toNat (AG.mk 4 i.Es i.Atomic)) (Ay (e+1))
else
J1 L1 a d e
else
J2 d e
def AZ (c:Int) (b:List AG):Nat->(List AG)->Int->Int->ABr (Int×(List AG))
|0,_,_,_=>none
|n+1,d,e,a=>L1 c b (AZ c b n) d e a
end C5
section
open C5
def C5 (f:Int) (b:List AG) (c:Int):ABr (Int×(List AG)):=
AZ c b BU b 0 0
theorem QZ {f:Int} {b:List AG} {c:Int} {r:Int×(List AG)} (h:C5 f b c=some r):A8 Tryz.prog 119 [.agg [.dead,si f,.dead,vO 3 BN b],si c] (si r.1) [.agg [.dead,si f,.dead,vO 3 BN r.2],.dead]:=by refine kL mix Tryz.func119 (hn [(0,[2,8,9,14,19,20,22,23])] (E:=[(0,(.nV [.bxv ⟨2,[],[0]⟩ 4 0,.o (iK 4 0)]))])) ?_;have a1:= @OK;have l1:=λn1 n2 n3 n4:Nat=>A0 λn τ=>∃(d:List AG) (e a:Int) (us1:List Value),(τ 0= .agg [.dead,si f,.dead,vO 3 BN d]/\τ 1=si c/\τ 2= .vb 0 0 us1/\τ 5=si e/\τ 9= .al 0 [(0,3,0)]/\τ 10=si (b.length:Int)/\τ 11=si a)/\AZ c b n d e a=some r;unfold C5 at h;exact walk
end
namespace Ei
def J3 (s:Ab) (o:List Int):ABr ((List Int)×Ab):=
some (o,s)
def J2 (L1:Ab->(List Int)->Int->ABr ((List Int)×Ab)) (b:Int) (q:Ab) (l:List Int):ABr ((List Int)×Ab):=
L1 q l (Ay (b+1))
def J1 (L1:Ab->(List Int)->Int->ABr ((List Int)×Ab)) (c:List Int) (b f:Int) (i:Ab) (p:Bool):ABr ((List Int)×Ab):=
if p then
if Af (c.length+1) 8=true then
J2 L1 b i (c++[f])
else none
else
J2 L1 b i c
def L1 (a:List Int) (L1:Ab->(List Int)->Int->ABr ((List Int)×Ab)) (d:Ab) (c:List Int) (b:Int):ABr ((List Int)×Ab):=
if decide (b<(a.length:Int))then
(gt a b).bind λf=>
if decide ((Ay (b+3))≥(a.length:Int))then
(Ak d 2).bind λj=>
J1 L1 c b f j.2 (j.1==1)
else
J1 L1 c b f d false
else
J3 d c
def AZ (a:List Int):Nat->Ab->(List Int)->Int->ABr ((List Int)×Ab)
|0,_,_,_=>none
|n+1,d,c,b=>L1 a (AZ a n) d c b
end Ei
section
open Ei
def Ei (e:Ab) (a:List Int):ABr ((List Int)×Ab):=
AZ a BU e [] 0
theorem ZM {e:Ab} {a:List Int} {r:(List Int)×Ab} (h:Ei e a=some r):A8 Tryz.prog 178 [bA 2 (Gz e),vO 1 eI a] (vO 1 eI r.1) [bA 2 (Gz r.2),vO 1 eI a]:=by refine kL mix Tryz.func178 (hn [(0,[21]),(1,[8,13,17]),(5,[25,30])]) ?_;have a1:= @DO;have l1:=λn1 n2 n3 n4:Nat=>A0 λn τ=>∃(d:Ab) (c:List Int) (b:Int),(τ 0=bA 2 (Gz d)/\τ 1=vO 1 eI a/\τ 5=vO 1 eI c/\τ 8= .al 1 []/\τ 9=si (a.length:Int)/\τ 10=si b)/\AZ a n d c b=some r;unfold Ei at h;exact walk
end
end Go.Abs
