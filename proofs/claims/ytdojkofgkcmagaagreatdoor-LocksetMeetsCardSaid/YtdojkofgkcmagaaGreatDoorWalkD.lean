/- Typed programs of Go functions, and that the functions do what these say. -/
import Derived.Test.YtdojkofgkcmagaaGreatDoorWalkB
import Derived.Test.YtdojkofgkcmagaaGreatDoorWalkC
set_option linter.defProp false
set_option linter.unusedSimpArgs false
set_option linter.unusedVariables false
namespace Go.Abs
open Go.Proofs Tryz
set_option maxRecDepth 1000000
set_option maxHeartbeats 4000000
def f142c:bR:=(.seq (.ic (Rc 0 [.B 2 false]))
(.seq (.ic (zS (Rc 5 [.C 0,.o (.dM (.t 5)),.P .lss 6 1,.C 7,.G 8 false,.C 0,.o (.dM (.t 9)),.P .gtr 10 12,.e,.V 8 11,.C 12,.G 13 false,.C 0,.c 190 [14] 0,.e,.V 13 15])
(Ci 16 (Rb 0 [.B 2 false]))))
(nC (.seq (.cO [.x (.o ⟨some ⟨17,[],[]⟩,.cp (.t 0),none⟩),.rng ⟨18,[],[]⟩ (.t 17)])
(.block 0 (.loop (.seq (.cO [.nxt ⟨19,[],[]⟩ (.t 18),.x (.o ⟨some ⟨20,[],[]⟩,.ext (.t 19) 0,none⟩)])
(.ic (Sq (cX 20 0)
(Bk 1 (Ra 21 [.o (.ext (.t 19) 1),.o (.ext (.t 19) 2),.M 3 21,.M 4 22]
(Bk 2 (zS (Rc 24 [.C 4,.o (.bin .leq (.c (.sc (.int .i32 97))) (.t 24)),.C 25,.G 26 true,.C 4,.o (.bin .leq (.t 27) (.c (.sc (.int .i32 122)))),.e,.W 26 28,.C 29,.G 30 false,.C 4,.o (.bin .leq (.c (.sc (.int .i32 65))) (.t 31)),.C 32,.G 33 true,.C 4,.o (.bin .leq (.t 34) (.c (.sc (.int .i32 90)))),.G 30 false,.o (.pick (.t 33) (.t 35) (.c (sb false))),.e,.V 30 36,.M 23 37])
(Cn 23 .skip (zS (Rc 39 [.C 3,.P .gtr 39 0,.C 40,.G 41 true,.C 4,.o (.bin .eql (.t 42) (.c (.sc (.int .i32 95)))),.C 43,.G 44 false,.C 4,.o (.bin .leq (.c (.sc (.int .i32 48))) (.t 45)),.C 46,.G 47 true,.C 4,.o (.bin .leq (.t 48) (.c (.sc (.int .i32 57)))),.G 44 false,.o (.pick (.t 47) (.t 49) (.c (sb false))),.G 41 true,.o (.pick (.t 44) (.c (sb true)) (.t 50)),.e,.W 41 51,.M 38 52])
(Cn 38 .skip (Rb 0 [.B 2 false]))))))))))))))
(.ic (Rb 0 [.B 2 true])))))
def f142g:Gi:=⟨[]⟩
def f142r:List RV:=[.tmp 2]
def f142:FIM:=⟨f142c,f142g,f142r⟩
def chk142:wF prog Tryz.f142 f142=true:=by kernel_rfl
namespace DF
def J4:=
some true
def J3(L1:Nat->ABu Bool)(pos:Nat)(s:ABv)(t38v:Bool):=
if t38v then
L1 (pos+(Utf8.decode s pos).2)
else
some false
def J2(L1:Nat->ABu Bool)(pos:Nat)(s:ABv)(t23v:Bool):=
if t23v then
L1 (pos+(Utf8.decode s pos).2)
else
if decide ((pos:Int)>0)then
if((Utf8.decode s pos).1:Int)==95 then
J3 L1 pos s true
else
if decide (48<=((Utf8.decode s pos).1:Int))then
J3 L1 pos s (decide (((Utf8.decode s pos).1:Int)<=57))
else
J3 L1 pos s false
else
J3 L1 pos s false
def L1(s:ABv)(L1:Nat->ABu Bool)(pos:Nat):=
if decide (pos<s.size)then
if decide (97<=((Utf8.decode s pos).1:Int))then
if decide (((Utf8.decode s pos).1:Int)<=122)then
J2 L1 pos s true
else
if decide (65<=((Utf8.decode s pos).1:Int))then
J2 L1 pos s (decide (((Utf8.decode s pos).1:Int)<=90))
else
J2 L1 pos s false
else
if decide (65<=((Utf8.decode s pos).1:Int))then
J2 L1 pos s (decide (((Utf8.decode s pos).1:Int)<=90))
else
J2 L1 pos s false
else
J4
def AW(s:ABv):Nat->Nat->ABu Bool
|0,_=>none
|n+1,pos=>L1 s (AW s n) pos
def J1(s:ABv)(t16v:Bool):=
if t16v then
some false
else
AW s BT 0
end DF
variable{d:ABv}{e:Bool}
section
open DF
def DF(s:ABv):=
if decide ((s.size:Int)<1)then
J1 s true
else
if decide ((s.size:Int)>12)then
J1 s true
else
(D9 s).bind λv=>
J1 s v
theorem X1(h:DF d=some e):Says prog 142 [Bq d] (sb e):=by
 refine pQ mix func142 chk142 (AAc (by kernel_rfl)) rfl ?_;simp only[f142,f142c,f142g,f142r]
 try simp +decide only[go_sem, *]
 refine cutH (λl=>∃t16v:Bool,(l 0=Bq d/\l 16=sb t16v)/\J1 d t16v=some e) λM1 hM1=>⟨?_,?_⟩
 . try simp +decide only[go_sem, *]
   refine gI h (λ_ h=> ?_) λ_ h=> ?_
   . try simp +decide only[go_sem, *]
     refine hM1 _ ⟨_,?_,h⟩;simp +decide only[go_sem, *]
   try simp +decide only[go_sem, *]
   refine gI h (λ_ h=> ?_) λ_ h=> ?_
   . try simp +decide only[go_sem, *]
     refine hM1 _ ⟨_,?_,h⟩;simp +decide only[go_sem, *]
   obtain⟨v,g1,h⟩:=bS h
   try simp +decide only[go_sem, *]
   refine⟨_,T0 g1,?_⟩
   try simp +decide only[go_sem, *]
   refine hM1 _ ⟨_,?_,h⟩;simp +decide only[go_sem, *]
 rintro τ1 ⟨t16v,s1,h⟩
 try simp +decide only[go_sem, *]
 refine cI h (λ_ h=> ?_) λ_ h=> ?_
 . obtain rfl:=AAW h;simp +decide only[go_sem, *]
 try simp +decide only[go_sem, *]
 refine nF (λl m=>(True)/\J4=some e) λM4 hM4=>⟨?_,?_⟩
 . try simp +decide only[go_sem, *]
   intro b1 hb1
   try simp +decide only[go_sem, *]
   refine loopMH (λn l m=>∃pos:Nat,(l 18= .sc (.pointer (some ⟨b1,0,none⟩))/\m b1=some (.it d pos))/\AW d n pos=some e) ⟨_,?_,h⟩ λn1 τ1 ν1 N1=> ?_
   . simp +decide only[go_sem, *]
   rintro⟨pos,s1,h⟩ hN1;cases n1 with
   |zero=>exact Et h
   |succ n1=>
    rw[AW]at h;generalize hL1:AW d n1=L1 at h
    try simp +decide only[go_sem, *]
    rcases bool_sp (decide (pos<d.size))with e4|e4
    . replace h:=ifT e4 h
      try simp +decide only[go_sem,(AAc e4),Hs,Gp, *]
      refine cutH (λl=>∃t23v:Bool,(l 3=si (pos:Int)/\l 4= .sc (.int .i32 ((Utf8.decode d pos).1:Int))/\l 18= .sc (.pointer (some ⟨b1,0,none⟩))/\l 23=sb t23v)/\J2 L1 pos d t23v=some e) λM2 hM2=>⟨?_,?_⟩
      . try simp +decide only[go_sem,(AAc e4),Hs,Gp, *]
        refine gI h (λ_ h=> ?_) λ_ h=> ?_
        . try simp +decide only[go_sem,(AAc e4),Hs,Gp, *]
          refine gI h (λ_ h=> ?_) λ_ h=> ?_
          . try simp +decide only[go_sem,(AAc e4),Hs,Gp, *]
            refine hM2 _ ⟨_,?_,h⟩;simp +decide only[go_sem,(AAc e4),Hs,Gp, *]
          try simp +decide only[go_sem,(AAc e4),Hs,Gp, *]
          refine gI h (λ_ h=> ?_) λ_ h=> ?_
          . try simp +decide only[go_sem,(AAc e4),Hs,Gp, *]
            refine hM2 _ ⟨_,?_,h⟩;simp +decide only[go_sem,(AAc e4),Hs,Gp, *]
          try simp +decide only[go_sem,(AAc e4),Hs,Gp, *]
          refine hM2 _ ⟨_,?_,h⟩;simp +decide only[go_sem,(AAc e4),Hs,Gp, *]
        try simp +decide only[go_sem,(AAc e4),Hs,Gp, *]
        refine gI h (λ_ h=> ?_) λ_ h=> ?_
        . try simp +decide only[go_sem,(AAc e4),Hs,Gp, *]
          refine hM2 _ ⟨_,?_,h⟩;simp +decide only[go_sem,(AAc e4),Hs,Gp, *]
        try simp +decide only[go_sem,(AAc e4),Hs,Gp, *]
        refine hM2 _ ⟨_,?_,h⟩;simp +decide only[go_sem,(AAc e4),Hs,Gp, *]
      rintro τ2 ⟨t23v,s2,h⟩
      try simp +decide only[go_sem, *]
      refine cI h (λ_ h=> ?_) λ_ h=> ?_
      . try simp +decide only[go_sem, *]
        refine hN1 n1 (Nat.lt_succ_self _) _ _ ⟨_,?_,hL1.symm▸h⟩;simp +decide only[go_sem, *]
      try simp +decide only[go_sem, *]
      refine cutH (λl=>∃t38v:Bool,(l 18= .sc (.pointer (some ⟨b1,0,none⟩))/\l 38=sb t38v)/\J3 L1 pos d t38v=some e) λM3 hM3=>⟨?_,?_⟩
      . try simp +decide only[go_sem, *]
        refine gI h (λ_ h=> ?_) λ_ h=> ?_
        . try simp +decide only[go_sem, *]
          refine gI h (λ_ h=> ?_) λ_ h=> ?_
          . try simp +decide only[go_sem, *]
            refine hM3 _ ⟨_,?_,h⟩;simp +decide only[go_sem, *]
          try simp +decide only[go_sem, *]
          refine gI h (λ_ h=> ?_) λ_ h=> ?_
          . try simp +decide only[go_sem, *]
            refine hM3 _ ⟨_,?_,h⟩;simp +decide only[go_sem, *]
          try simp +decide only[go_sem, *]
          refine hM3 _ ⟨_,?_,h⟩;simp +decide only[go_sem, *]
        try simp +decide only[go_sem, *]
        refine hM3 _ ⟨_,?_,h⟩;simp +decide only[go_sem, *]
      rintro τ3 ⟨t38v,s3,h⟩
      try simp +decide only[go_sem, *]
      refine cI h (λ_ h=> ?_) λ_ h=> ?_
      . try simp +decide only[go_sem, *]
        refine hN1 n1 (Nat.lt_succ_self _) _ _ ⟨_,?_,hL1.symm▸h⟩;simp +decide only[go_sem, *]
      obtain rfl:=AAW h;simp +decide only[go_sem, *]
    . replace h:=ifF e4 h
      try simp +decide only[go_sem,(of_decide_eq_false e4),Hs,Gp, *]
      refine hM4 _ _ ⟨?_,h⟩;simp +decide only[go_sem,(of_decide_eq_false e4),Hs,Gp, *]
 rintro τ4 ν4 ⟨_,h⟩;obtain rfl:=AAW h;simp +decide only[go_sem, *]
end
namespace Ah
def J8:=
some true
def J7(L3:ir)(d:Int)(p:Bool):=
if p then
some false
else
L3 (A6 (d+1))
def L3(a:AG)(L3:ir)(d:Int):=
if decide (d<(a.db.de.AA.length:Int))then
(gt a.db.de.AA d).bind λx=>
if x.dy then
(CH d a).bind λv=>
J7 L3 d (!v)
else
J7 L3 d false
else
J8
def Gc(a:AG):Nat->Int->ABu Bool
|0,_=>none
|n+1,d=>L3 a (Gc a n) d
def J6(a:AG)(o:Bool):=
if o then
some false
else
Gc a BT 0
def J5(a:AG):=
if a.db.de.Tx != (-1)then
(CH a.db.de.Tx a).bind λu=>
J6 a (!u)
else
J6 a false
def J4(L1:ir)(b:Int):=
L1 (A6 (b+1))
def J3(L2:jw)(e i:Int)(q:Bool):=
if q then
some false
else
L2 i (A6 (e+1))
def L2(L1:ir)(b:Int)(a:AG)(c:AY)(L2:jw)(f e:Int):=
if decide (e<(c.An.length:Int))then
(gt c.An e).bind λi=>
if decide (i<=f)then
J3 L2 e i true
else
(CH i a).bind λt=>
J3 L2 e i (!t)
else
J4 L1 b
def CC(L1:ir)(b:Int)(a:AG)(c:AY):Nat->Int->Int->ABu Bool
|0,_,_=>none
|n+1,f,e=>L2 L1 b a c (CC L1 b a c n) f e
def J2(L1:ir)(b:Int)(a:AG)(c:AY)(l:Bool):=
if l then
some false
else
CC L1 b a c BT (-1) 0
def J1(L1:ir)(b:Int)(a:AG)(c:AY)(j:Bool):=
if j then
some false
else
if decide ((c.An.length:Int)>0)then
(gt a.cT.AK b).bind λw=>
if !w.RW then
J2 L1 b a c true
else
J2 L1 b a c (c.B9 != (-1))
else
J2 L1 b a c false
def L1(a:AG)(L1:ir)(b:Int):=
if decide (b<(a.db.de.AK.length:Int))then
(gt a.db.de.AK b).bind λc=>
if c.B9 != (-1)then
(CH c.B9 a).bind λs=>
J1 L1 b a c (!s)
else
J1 L1 b a c false
else
J5 a
def AW(a:AG):Nat->Int->ABu Bool
|0,_=>none
|n+1,b=>L1 a (AW a n) b
end Ah
section
open Ah
def Ah(a:AG):=
AW a BT 0
theorem Pg{a:AG}{r:Bool}(h:Ah a=some r):Says prog 47 [.agg (A4 a)] (sb r):=by refine kO mix func47 (hn [(1,[3,11,12,13,14,26,37,38,62,70,71,72,76,77,78,79,84,85,86,97]),(5,[22,27,32,46,51]),(10,[94])] [(9,1),(12,2),(24,6)] (E:=[(1,(Rc 11 [.y 1 (.mkf 95 [.t 1]),.w 3,.y 1 (.cp (.t 11))])),(5,(.fR [.o (Kf 22 5 0 5),.o (iL 23 22),.o (iP 24 .neq 23 (-1)),.o (iC 25 24),.o (j1 26 1 (.cp (.t 3)) 25 true),.o (jFr 27 5 0 5 25 true),.o (jL 28 27 25 true),.clo (some ⟨29,[],[]⟩) 95 (.t 26) [.t 28] (some (25,true)),.o (jN 30 29 25 true),.o (iAn 31 25 30)])),(13,(.fR [.o (iC 58 8),.o (iC 59 6),.o (iO 60 .leq 58 59),.o (iC 61 60),.o (j1 62 1 (.cp (.t 3)) 61 false),.o (jC 63 8 61 false),.clo (some ⟨64,[],[]⟩) 95 (.t 62) [.t 63] (some (61,false)),.o (jN 65 64 61 false),.o (iOr 66 61 65)])),(18,(.fR [.o (Kf 70 1 7 1),.o (Kf 71 1 0 70),.o (Kf 72 1 1 71),.o (iL 73 72),.o (iP 74 .neq 73 (-1)),.o (iC 75 74),.o (j1 76 1 (.cp (.t 3)) 75 true),.o (jFr 77 1 7 1 75 true),.o (jFr 78 1 0 77 75 true),.o (jFr 79 1 1 78 75 true),.o (jL 80 79 75 true),.clo (some ⟨81,[],[]⟩) 95 (.t 76) [.t 80] (some (75,true)),.o (jN 82 81 75 true),.o (iAn 83 75 82)])),(23,(.fR [.o (Kf 94 10 2 10),.o (iL 95 94),.o (iC 96 95),.o (j1 97 1 (.cp (.t 3)) 96 true),.o (jC 98 9 96 true),.clo (some ⟨99,[],[]⟩) 95 (.t 97) [.t 98] (some (96,true)),.o (jN 100 99 96 true),.o (iAn 101 96 100)]))])) ?_;have a1:= @OL;have l3:=im λ_ _ _ _ n b=>∃d,(b 1=bA 15 (A4 a)/\b 3= .cl 95 [(1,[])]/\b 87=vS 3 Ap a.db.de.AA/\b 88=si (a.db.de.AA.length:Int)/\b 89=si d)/\Gc a n d=some r;have l1:=im λ_ _ _ _ n c=>∃b,(c 1=bA 15 (A4 a)/\c 3= .cl 95 [(1,[])]/\c 15=vS 2 C9 a.db.de.AK/\c 16=si (a.db.de.AK.length:Int)/\c 17=si b)/\AW a n b=some r;have l2:=im λd _ _ _ n g=>∃(b:Int)(c:AY)(f e:Int),(g 1=bA 15 (A4 a)/\g 3= .cl 95 [(1,[])]/\g 6=si f/\g 15=vS 2 C9 a.db.de.AK/\g 16=si (a.db.de.AK.length:Int)/\g 17=si b/\g 52=vS 1 eI c.An/\g 53=si (c.An.length:Int)/\g 54=si e)/\CC (AW a d) b a c n f e=some r;have c6:=ip 6 λ_ _ _ _ b=>∃o,(b 1=bA 15 (A4 a)/\b 3= .cl 95 [(1,[])]/\b 83=sb o)/\J6 a o=some r;have c2:=ip 2 λd _ _ _ e=>∃b c l,(e 1=bA 15 (A4 a)/\e 3= .cl 95 [(1,[])]/\e 5=bA 2 (C9 c)/\e 15=vS 2 C9 a.db.de.AK/\e 16=si (a.db.de.AK.length:Int)/\e 17=si b/\e 50=sb l)/\J2 (AW a d) b a c l=some r;have c1:=ip 1 λd _ _ _ e=>∃b c j,(e 1=bA 15 (A4 a)/\e 3= .cl 95 [(1,[])]/\e 4=si b/\e 5=bA 2 (C9 c)/\e 15=vS 2 C9 a.db.de.AK/\e 16=si (a.db.de.AK.length:Int)/\e 17=si b/\e 31=sb j)/\J1 (AW a d) b a c j=some r;unfold Ah at h;exact walk
end
namespace DN
def J1(R100:mc)(c:Int)(a:AP)(b:jr)(d:Bool):ABu (BO×AP):=
if d then
(Al b.2 4).bind λe=>
(Ku e.1).bind λp=>
some (p,(AP.mk e.2 a.Bt a.left a.IQ a.tx a.d5 a.ea a.d6))
else
if decide (b.1<7)then
(Al b.2 7).bind λf=>
(gt [(⟨#[97]⟩:ABv),(⟨#[98]⟩:ABv),(⟨#[120]⟩:ABv),(⟨#[121]⟩:ABv),(⟨#[118]⟩:ABv),(⟨#[120]⟩:ABv),(⟨#[121]⟩:ABv)] f.1).bind λt=>
(JX t).bind λq=>
some (q,(AP.mk f.2 a.Bt a.left a.IQ a.tx a.d5 a.ea a.d6))
else
if b.1==7 then
(R100 (AP.mk b.2 a.Bt a.left a.IQ a.tx a.d5 a.ea a.d6) 0).bind λi=>
some ((BO.mk 3 0 (⟨#[113]⟩:ABv) [i.1]),i.2)
else
(Al b.2 6).bind λj=>
(gt [6,7,8,11,13,17] j.1).bind λu=>
(R100 (AP.mk j.2 a.Bt a.left a.IQ a.tx a.d5 a.ea a.d6) (A6 (c-1))).bind λl=>
(R100 l.2 (A6 (c-1))).bind λo=>
(JF u l.1 o.1).bind λs=>
some (s,o.2)
end DN
variable{j:mc}{i:AP}{c:Int}{f:BO×AP}
section
open DN
def DN(R100:mc)(a:AP)(c:Int):=
(Al a.t 10).bind λb=>
if decide (b.1<2)then
J1 R100 c a b true
else
if c==0 then
J1 R100 c a b (decide (b.1>=7))
else
J1 R100 c a b false
theorem Tg(H100:∀{x0 x1 f},j x0 x1=some f->BB prog 254 [bA 8 (Co x0),si x1] (.agg [si f.1.Op,si f.1.N,Bq f.1.di,vS 4 BR f.1.L]) [bA 8 (Co f.2),.dead])(h:DN j i c=some f):BB prog 254 [bA 8 (Co i),si c] (.agg [si f.1.Op,si f.1.N,Bq f.1.di,vS 4 BR f.1.L]) [bA 8 (Co f.2),.dead]:=by refine kP mix func254 (hn [(0,[9,10,11,12,25,26,27,28,35,36,37,38,48,54,55,56,57]),(5,[34,39,42]),(7,[53,58,61])] [(4,1)] (E:=[(10,(.jB [(0,10,13,63),(0,14,17,67)] [i1 53 7 (.cp (.t 7)),i1 54 0 (.cp (.t 0)),i1 55 0 (.I6 (.t 54)),Kf 56 0 0 55,Vg 57 0 56,i1 58 7 (.cp (.t 7)),iZ 59 58,i0 60 (.Vx 132 [] (.t 57) none [.t 59]),tY 61 7 1 53 60,iL 62 61,i0 63 .fl,iC 64 1,iP 65 .sub 64 1,i0 66 (.Vx 254 [] (.t 0) none [.t 65]),i0 67 .fl,iC 68 1,iP 69 .sub 68 1,i0 70 (.Vx 254 [] (.t 0) none [.t 69]),i0 71 (.call 255 [.t 62,.t 66,.t 70] 1),iS 4 4 71]))])) ?_;have a1:= @DT;have a2:= @Qp;have a3:= @Ui;have a4:= @H100;have a5:= @Qm;have c1:=ip 1 λ_ _ _ _ e=>∃(b:jr)(d:Bool),(e 0=bA 8 [bA 2 (GO b.2),si i.Bt,si i.left,sb i.IQ,sb i.tx,sb i.d5,sb i.ea,vO 1 eS i.d6]/\e 1=si c/\e 4=bA 4 z20/\e 5= .own false 1 ([[Bq ⟨#[97]⟩],[Bq ⟨#[98]⟩],[Bq ⟨#[120]⟩],[Bq ⟨#[121]⟩],[Bq ⟨#[118]⟩],[Bq ⟨#[120]⟩],[Bq ⟨#[121]⟩]])/\e 6=si b.1/\e 14=sb d)/\J1 j c i b d=some f;unfold DN at h;exact walk
end
def Oe:Nat->(AP->Int->ABu (BO×AP))
|0=>(λ_ _=>none)
|n+1=>DN ((Oe n))
def Cb(n:Nat):AP->Int->ABu (BO×AP):=(Oe n)
theorem SO(n:Nat):(∀{x0 x1 r},(Cb n) x0 x1=some r->BB prog 254 [bA 8 (Co x0),si x1] (.agg [si r.1.Op,si r.1.N,Bq r.1.di,vS 4 BR r.1.L]) [bA 8 (Co r.2),.dead]):=by
  induction n with
  |zero=>exactλh=>Et h
  |succ n ih=>exactλh=>Tg ih h
def SP{n:Nat}:∀{x0 x1 r},(Cb n) x0 x1=some r->BB prog 254 [bA 8 (Co x0),si x1] (.agg [si r.1.Op,si r.1.N,Bq r.1.di,vS 4 BR r.1.L]) [bA 8 (Co r.2),.dead]:=(SO n)
namespace Hr
def J4(a:AE)(o:jb):ABu ((List (List Int))×AE):=
some (o,a)
def J3(L1:(List (List Int))->Int->ABu ((List (List Int))×AE))(b:Int)(l:jb):=
L1 l (A6 (b+1))
def J2(L1:(List (List Int))->Int->ABu ((List (List Int))×AE))(c:jb)(b:Int)(e:AH)(j:iq):=
(Ms j e.cr).bind λq=>
(gt c b).bind λv=>
J3 L1 b (c.set b.toNat q)
def J1(L2:(List Int)->Int->ABu ((List (List Int))×AE))(d:Int)(i:iq):=
L2 i (A6 (d+1))
def L2(L1:(List (List Int))->Int->ABu ((List (List Int))×AE))(c:jb)(a:AE)(b:Int)(e:AH)(L2:(List Int)->Int->ABu ((List (List Int))×AE))(f:iq)(d:Int):=
if decide (d<(a.d4.length:Int))then
(gt a.d4 d).bind λs=>
(gt s b).bind λt=>
if t then
(gt a.w.AB d).bind λu=>
(Ms f u.cr).bind λp=>
J1 L2 d p
else
J1 L2 d f
else
J2 L1 c b e f
def CC(L1:(List (List Int))->Int->ABu ((List (List Int))×AE))(c:jb)(a:AE)(b:Int)(e:AH):Nat->(List Int)->Int->ABu ((List (List Int))×AE)
|0,_,_=>none
|n+1,f,d=>L2 L1 c a b e (CC L1 c a b e n) f d
def L1(a:AE)(L1:(List (List Int))->Int->ABu ((List (List Int))×AE))(c:jb)(b:Int):=
if decide (b<(a.w.AB.length:Int))then
(gt a.w.AB b).bind λe=>
if 0<=(a.eb.length:Int)/\(a.eb.length:Int)<=(a.eb.length:Int)/\Am a.eb.length 8=true then
CC L1 c a b e BT (List.replicate a.eb.length (0:Int)) 0
else none
else
J4 a c
def AW(a:AE):Nat->(List (List Int))->Int->ABu ((List (List Int))×AE)
|0,_,_=>none
|n+1,c,b=>L1 a (AW a n) c b
end Hr
section
open Hr
def Hr(a:AE):=
if 0<=(a.d4.length:Int)/\(a.d4.length:Int)<=(a.d4.length:Int)/\Am a.d4.length 24=true then
AW a BT (List.replicate a.d4.length ([]:List Int)) 0
else none
end
namespace Ie
def J6:na:=
some (0,0)
def J5(L1:jx)(b t w u v:Int):=
L1 t w u v (A6 (b+1))
def J4(L1:jx)(j l o b:Int)(c:ml)(p:Int)(a:Ey)(q:Bool):=
if q then
some (2,a.GH)
else
if a.da==5 then
if 0<=b/\b.toNat<=c.length then
(DD (c.take b.toNat) a.On).bind λs=>
if decide (s<0)then
some (5,a.GH)
else
(gt c s).bind λaa=>
if aa.da != 3 then
some (6,a.GH)
else
J5 L1 b j p l o
else none
else
J5 L1 b j p l o
def J3(L1:jx)(b:Int)(c:ml)(a:Ey)(j p l o:Int):=
if decide (j>12)then
J4 L1 j l o b c p a true
else
if decide (p>4)then
J4 L1 j l o b c p a true
else
if decide (l>2)then
J4 L1 j l o b c p a true
else
J4 L1 j l o b c p a (decide (o>2))
def J2(L1:jx)(d e f b:Int)(c:ml)(i:Int)(a:Ey)(y:Bool):=
if y then
J3 L1 b c a d (A6 (i+1)) e f
else
if a.da==5 then
J3 L1 b c a d i (A6 (e+1)) f
else
J3 L1 b c a d i e (A6 (f+1))
def J1(L1:jx)(d e f b:Int)(c:ml)(i:Int)(a:Ey)(x:Bool):=
if x then
J3 L1 b c a (A6 (d+(if 1>a.B3 then 1 else a.B3))) i e f
else
if a.da==3 then
J2 L1 d e f b c i a (a.da==3)
else
J2 L1 d e f b c i a (a.da==4)
def L1(c:ml)(L1:jx)(d i e f b:Int):=
if decide (b<(c.length:Int))then
(gt c b).bind λa=>
if 0<=b/\b.toNat<=c.length then
(DD (c.take b.toNat) a.di).bind λz=>
if decide (z>=0)then
some (4,a.GH)
else
if decide (a.B3>4)then
some (2,a.GH)
else
if a.da==1 then
J1 L1 d e f b c i a (a.da==1)
else
J1 L1 d e f b c i a (a.da==2)
else none
else
J6
def AW(c:ml):Nat->Int->Int->Int->Int->Int->ABu (Int×Int)
|0,_,_,_,_,_=>none
|n+1,d,i,e,f,b=>L1 c (AW c n) d i e f b
end Ie
section
open Ie
def Ie(c:ml):=
AW c BT 0 0 0 0 0
theorem Zq{c:ml}{r:Int×Int}(h:Ie c=some r):Says prog 216 [vS 6 Kq c] (.BZ [si r.1,si r.2]):=by refine kO mix func216 (hn [(9,[24,28,30,33,35,43,70,72,78,83,91])] [(14,3),(22,4)]) ?_;have a1:= @KG;have l1:=im λ_ _ _ _ n a=>∃d i e f b,(a 0=vS 6 Kq c/\a 4=si d/\a 5=si i/\a 6=si e/\a 7=si f/\a 8=si b)/\AW c n d i e f b=some r;have c4:=ip 4 λd _ _ _ e=>∃j l o b p a q,(e 0=vS 6 Kq c/\e 4=si j/\e 5=si p/\e 6=si l/\e 7=si o/\e 8=si b/\e 9=bA 6 (Kq a)/\e 69=sb q)/\J4 (AW c d) j l o b c p a q=some r;have c3:=ip 3 λd _ _ _ e=>∃b a j p l o,(e 0=vS 6 Kq c/\e 4=si j/\e 5=si p/\e 6=si l/\e 7=si o/\e 8=si b/\e 9=bA 6 (Kq a))/\J3 (AW c d) b c a j p l o=some r;unfold Ie at h;exact walk
end
namespace Bc
def J4(L2:jg)(i:Int)(s:AE):=
L2 s (A6 (i+1))
def J3(L2:jg)(e:Int)(f:AE)(i:Int)(u:Bool):=
if u then
(gt f.d4 e).bind λq=>
(gt q i).bind λz=>
J4 L2 i (AE.mk f.w f.eb f.ef (f.d4.set e.toNat (q.set i.toNat true)))
else
J4 L2 i f
def J2(L2:jg)(e:Int)(f:AE)(b:Bool)(i:Int)(o:AH)(t:Bool):=
if t then
J4 L2 i f
else
if !b then
J3 L2 e f i true
else
J3 L2 e f i (o.da != 8)
def L2(e d:Int)(a:AE)(b:Bool)(c:Int)(L2:jg)(f:AE)(i:Int):=
if decide (i<(a.w.AB.length:Int))then
(gt a.w.AB i).bind λo=>
if o.cr==c then
J2 L2 e f b i o true
else
(Hz f.w.cT o).bind λw=>
J2 L2 e f b i o (w != d)
else
some f
def CC(e d:Int)(a:AE)(b:Bool)(c:Int):Nat->AE->Int->ABu AE
|0,_,_=>none
|n+1,f,i=>L2 e d a b c (CC e d a b c n) f i
def J1(d:Int)(a:AE)(b:Bool)(c e:Int):=
if decide (e<0)then
some a
else
CC e d a b c BT a 0
def L1(d:Int)(a:AE)(b:Bool)(c:Int)(j:iq)(L1:Int->ABu AE)(l:Int):=
if decide (l<(j.length:Int))then
(gt a.eb c).bind λx=>
(gt x l).bind λp=>
(gt a.w.AB p).bind λy=>
(IA a.w.cT y).bind λv=>
if v==d then
J1 d a b c p
else
L1 (A6 (l+1))
else
J1 d a b c (-1)
def AW(d:Int)(a:AE)(b:Bool)(c:Int)(j:iq):Nat->Int->ABu AE
|0,_=>none
|n+1,l=>L1 d a b c j (AW d a b c j n) l
end Bc
section
open Bc
def Bc(a:AE)(c d:Int)(b:Bool):=
(gt a.eb c).bind λj=>
AW d a b c j BT 0
theorem OB{a:AE}{c d:Int}{b:Bool}{r:AE}(h:Bc a c d b=some r):BB prog 174 [bA 18 (Bh a),si c,si d,sb b] (.BZ []) [bA 18 (Bh r),.dead,.dead,.dead]:=by refine kL mix func174 (hn [(0,[13,14,15,16,18,19,23,25,26,27,28,29,30,31,32,33,34,36,37,45,46,47,48,49,54,55,61,62,63,64,65,78,79,80,81,83,84,86]),(12,[56,66,74])] [(1,1)]) ?_;have a1:= @Vy;have a2:= @Vz;have l2:=im λ_ _ _ _ n g=>∃e f i,(g 0=bA 18 (Bh f)/\g 1=si c/\g 2=si d/\g 3=sb b/\g 8=si e/\g 49=vS 7 A7 a.w.AB/\g 50=si (a.w.AB.length:Int)/\g 51=si i)/\CC e d a b c n f i=some r;have l1:=im λ_ _ _ _ n e=>∃(j:iq)(l:Int),(e 0=bA 18 (Bh a)/\e 1=si c/\e 2=si d/\e 3=sb b/\e 8=si (-1)/\e 19= .al 0 [(0,15,18),(c.toNat,0,1)]/\e 20=si (j.length:Int)/\e 21=si l)/\AW d a b c j n l=some r;have c1:=ip 1 λ_ _ _ _ f=>∃e,(f 0=bA 18 (Bh a)/\f 1=si c/\f 2=si d/\f 3=sb b/\f 8=si e)/\J1 d a b c e=some r;unfold Bc at h;exact walk
end
namespace Cg
def J4(l:Bool):ABu Bool:=
some l
def J6(o:Bool):ABu Bool:=
some o
def J9(b:Int)(c:AF)(q:Bool):ABu Bool:=
if q then
(Da b (c.AL.length:Int)).bind λx=>
some x
else
some false
def J8(a b:Int)(c:AF)(p:Bool):=
if p then
(Da b (c.AA.length:Int)).bind λw=>
some w
else
if a==22 then
J9 b c (a==22)
else
J9 b c (a==23)
def J7(a b:Int)(c:AF)(i:Bool):=
if i then
(Da b (c.Ak.length:Int)).bind λv=>
some v
else
if a==20 then
J8 a b c (a==20)
else
J8 a b c (a==21)
def J5(a b:Int)(c:AF)(f:Bool):=
if f then
(Da b (c.AK.length:Int)).bind λu=>
if u then
(gt c.AK b).bind λz=>
J6 z.RW
else
J6 false
else
if a==16 then
J7 a b c (a==16)
else
if a==17 then
J7 a b c (a==17)
else
if a==18 then
J7 a b c (a==18)
else
J7 a b c (a==19)
def J3(a b:Int)(c:AF)(e:Bool):=
if e then
(Da b (c.AK.length:Int)).bind λt=>
if t then
(gt c.AK b).bind λy=>
J4 (!y.RW)
else
J4 false
else
if a==8 then
J5 a b c (a==8)
else
if a==9 then
J5 a b c (a==9)
else
if a==10 then
J5 a b c (a==10)
else
J5 a b c (a==11)
def J2(a b:Int)(c:AF)(d:Bool):=
if d then
(Da b (c.df.length:Int)).bind λs=>
some s
else
if a==6 then
J3 a b c (a==6)
else
J3 a b c (a==7)
def J1(a b:Int)(c:AF)(j:Bool):=
if j then
some (b==(-1))
else
if a==3 then
J2 a b c (a==3)
else
J2 a b c (a==4)
end Cg
section
open Cg
def Cg(c:AF)(a b:Int):=
if a==1 then
J1 a b c (a==1)
else
if a==2 then
J1 a b c (a==2)
else
if a==5 then
J1 a b c (a==5)
else
if a==12 then
J1 a b c (a==12)
else
if a==13 then
J1 a b c (a==13)
else
if a==14 then
J1 a b c (a==14)
else
J1 a b c (a==15)
theorem Un{c:AF}{a b:Int}{r:Bool}(h:Cg c a b=some r):Says prog 191 [.agg (Aw c),si a,si b] (sb r):=by refine kO mix func191 (hn [(3,[22,30,35,49,54,67,75,83])] [(3,1),(11,2),(14,3),(17,5),(22,7)]) ?_;have a1:= @JZ;have c7:=ip 7 λ_ _ _ _ d=>∃i,(d 2=si b/\d 3=bA 6 (Aw c)/\d 7=si a/\d 61=sb i)/\J7 a b c i=some r;have c5:=ip 5 λ_ _ _ _ d=>∃f,(d 2=si b/\d 3=bA 6 (Aw c)/\d 7=si a/\d 43=sb f)/\J5 a b c f=some r;have c3:=ip 3 λ_ _ _ _ d=>∃e,(d 2=si b/\d 3=bA 6 (Aw c)/\d 7=si a/\d 26=sb e)/\J3 a b c e=some r;have c2:=ip 2 λ_ _ _ _ e=>∃d,(e 2=si b/\e 3=bA 6 (Aw c)/\e 7=si a/\e 18=sb d)/\J2 a b c d=some r;have c1:=ip 1 λ_ _ _ _ d=>∃j,(d 2=si b/\d 3=bA 6 (Aw c)/\d 7=si a/\d 8=sb j)/\J1 a b c j=some r;unfold Cg at h;exact walk
end
namespace JJ
def J4(l:Bool):ABu Bool:=
some l
def J6(o:Bool):ABu Bool:=
some o
def J9(b:Int)(c:AF)(q:Bool):ABu Bool:=
if q then
(IP b (c.AL.length:Int)).bind λx=>
some x
else
some false
def J8(a b:Int)(c:AF)(p:Bool):=
if p then
(IP b (c.AA.length:Int)).bind λw=>
some w
else
if a==22 then
J9 b c (a==22)
else
J9 b c (a==23)
def J7(a b:Int)(c:AF)(i:Bool):=
if i then
(IP b (c.Ak.length:Int)).bind λv=>
some v
else
if a==20 then
J8 a b c (a==20)
else
J8 a b c (a==21)
def J5(a b:Int)(c:AF)(f:Bool):=
if f then
(IP b (c.AK.length:Int)).bind λu=>
if u then
(gt c.AK b).bind λz=>
J6 z.RW
else
J6 false
else
if a==16 then
J7 a b c (a==16)
else
if a==17 then
J7 a b c (a==17)
else
if a==18 then
J7 a b c (a==18)
else
J7 a b c (a==19)
def J3(a b:Int)(c:AF)(e:Bool):=
if e then
(IP b (c.AK.length:Int)).bind λt=>
if t then
(gt c.AK b).bind λy=>
J4 (!y.RW)
else
J4 false
else
if a==8 then
J5 a b c (a==8)
else
if a==9 then
J5 a b c (a==9)
else
if a==10 then
J5 a b c (a==10)
else
J5 a b c (a==11)
def J2(a b:Int)(c:AF)(d:Bool):=
if d then
(IP b (c.df.length:Int)).bind λs=>
some s
else
if a==6 then
J3 a b c (a==6)
else
J3 a b c (a==7)
def J1(a b:Int)(c:AF)(j:Bool):=
if j then
some (b==(-1))
else
if a==3 then
J2 a b c (a==3)
else
J2 a b c (a==4)
end JJ
section
open JJ
def JJ(c:AF)(a b:Int):=
if a==1 then
J1 a b c (a==1)
else
if a==2 then
J1 a b c (a==2)
else
if a==5 then
J1 a b c (a==5)
else
if a==12 then
J1 a b c (a==12)
else
if a==13 then
J1 a b c (a==13)
else
if a==14 then
J1 a b c (a==14)
else
J1 a b c (a==15)
theorem Z0{c:AF}{a b:Int}{r:Bool}(h:JJ c a b=some r):Says prog 121 [.agg (Aw c),si a,si b] (sb r):=by refine kO mix func121 (hn [(3,[22,30,35,49,54,67,75,83])] [(3,1),(11,2),(14,3),(17,5),(22,7)]) ?_;have a1:= @Wu;have c7:=ip 7 λ_ _ _ _ d=>∃i,(d 2=si b/\d 3=bA 6 (Aw c)/\d 7=si a/\d 61=sb i)/\J7 a b c i=some r;have c5:=ip 5 λ_ _ _ _ d=>∃f,(d 2=si b/\d 3=bA 6 (Aw c)/\d 7=si a/\d 43=sb f)/\J5 a b c f=some r;have c3:=ip 3 λ_ _ _ _ d=>∃e,(d 2=si b/\d 3=bA 6 (Aw c)/\d 7=si a/\d 26=sb e)/\J3 a b c e=some r;have c2:=ip 2 λ_ _ _ _ e=>∃d,(e 2=si b/\e 3=bA 6 (Aw c)/\e 7=si a/\e 18=sb d)/\J2 a b c d=some r;have c1:=ip 1 λ_ _ _ _ d=>∃j,(d 2=si b/\d 3=bA 6 (Aw c)/\d 7=si a/\d 8=sb j)/\J1 a b c j=some r;unfold JJ at h;exact walk
end
namespace CY
def J5:na:=
some (0,0)
def J4(L2:ka)(c:Int):=
L2 (A6 (c+1))
def J3(L3:ka)(d:Int)(b:C7)(l:Bool):=
if l then
some (4,b.GH)
else
L3 (A6 (d+1))
def L3(L2:ka)(c:Int)(a:AU)(b:C7)(L3:ka)(d:Int):=
if decide (d<(b.G0.length:Int))then
(gt b.G0 d).bind λi=>
(DD a.d9 i).bind λq=>
if decide (q>=0)then
J3 L3 d b true
else
(DB a.AA i).bind λs=>
if decide (s>=0)then
J3 L3 d b true
else
if 0<=d/\d.toNat<=b.G0.length then
(Ch (b.G0.take d.toNat) i).bind λt=>
J3 L3 d b (decide (t>=0))
else none
else
J4 L2 c
def Gc(L2:ka)(c:Int)(a:AU)(b:C7):Nat->Int->ABu (Int×Int)
|0,_=>none
|n+1,d=>L3 L2 c a b (Gc L2 c a b n) d
def L2(a:AU)(L2:ka)(c:Int):=
if decide (c<(a.AA.length:Int))then
(gt a.AA c).bind λb=>
if decide ((b.G0.length:Int)>4)then
some (2,b.GH)
else
Gc L2 c a b BT 0
else
J5
def CC(a:AU):Nat->Int->ABu (Int×Int)
|0,_=>none
|n+1,c=>L2 a (CC a n) c
def J2(a:AU):=
CC a BT 0
def J1(L1:ka)(e:Int)(f:C7)(j:Bool):=
if j then
some (4,f.GH)
else
L1 (A6 (e+1))
def L1(a:AU)(L1:ka)(e:Int):=
if decide (e<(a.AA.length:Int))then
(gt a.AA e).bind λf=>
(DD a.d9 f.di).bind λo=>
if decide (o>=0)then
J1 L1 e f true
else
if 0<=e/\e.toNat<=a.AA.length then
(DB (a.AA.take e.toNat) f.di).bind λp=>
J1 L1 e f (decide (p>=0))
else none
else
J2 a
def AW(a:AU):Nat->Int->ABu (Int×Int)
|0,_=>none
|n+1,e=>L1 a (AW a n) e
end CY
section
open CY
def CY(a:AU):=
AW a BT 0
theorem V6{a:AU}{r:Int×Int}(h:CY a=some r):Says prog 217 [.agg (Cf a)] (.BZ [si r.1,si r.2]):=by refine kO mix func217 (hn [(1,[11,17,22,29,41,47,70,76]),(5,[24,33,38]),(7,[52,56,59,65,83,91])]) ?_;have a1:= @KG;have a2:= @K4;have a3:= @Ic;have l2:=im λ_ _ _ _ n b=>∃c,(b 1=bA 2 (Cf a)/\b 6=si c)/\CC a n c=some r;have l3:=im λ_ e _ _ n f=>∃c b d,(f 1=bA 2 (Cf a)/\f 6=si c/\f 7=bA 4 (JU b)/\f 8=si d)/\Gc (CC a e) c a b n d=some r;have l1:=im λ_ _ _ _ n b=>∃e,(b 1=bA 2 (Cf a)/\b 4=si e)/\AW a n e=some r;unfold CY at h;exact walk
end
def G5(R100:BL->BO->Int->ABu BL)(c:BL)(a:BO)(b:Int):ABu BL:=
if a.Op==1 then
(BH c (Ai.mk 1 b 0 0 a.N 0)).bind λi=>
some i
else
if a.Op==2 then
(Ch c.dq a.di).bind λe=>
if decide (e>=0)then
(BH c (Ai.mk 2 b e 0 0 0)).bind λo=>
some o
else
(Bz c.w a.di).bind λp=>
(BH c (Ai.mk 6 b p 0 0 0)).bind λq=>
some q
else
if a.Op==3 then
(gt a.L 0).bind λv=>
(R100 c v b).bind λd=>
(Bz d.w a.di).bind λf=>
(gt d.w.df f).bind λw=>
(BH d (Ai.mk 7 b f b w.B3 0)).bind λs=>
some s
else
if(a.L.length:Int)==1 then
(gt a.L 0).bind λx=>
(R100 c x b).bind λt=>
(BH t (Ai.mk 3 b b 0 a.Op 0)).bind λu=>
some u
else
(gt a.L 0).bind λy=>
(R100 c y b).bind λj=>
(gt a.L 1).bind λz=>
(R100 j z (A6 (b+1))).bind λl=>
(BH l (Ai.mk 4 b b (A6 (b+1)) a.Op 0)).bind λaa=>
some aa
variable{k:BL->BO->Int->ABu BL}{a b:BL}{g:BO}
theorem Tt(H100:∀{x0 x1 x2 b},k x0 x1 x2=some b->BB prog 253 [bA 10 (El x0),.agg [si x1.Op,si x1.N,Bq x1.di,vS 4 BR x1.L],si x2] (.BZ []) [bA 10 (El b),.dead,.dead])(h:G5 k a g c=some b):BB prog 253 [bA 10 (El a),.agg [si g.Op,si g.N,Bq g.di,vS 4 BR g.L],si c] (.BZ []) [bA 10 (El b),.dead,.dead]:=by refine kL mix func253 (hn [(0,[8,15,23,36,46,47,48,49,55,60,62,63,64,65,75,82,83,84,85,89,93,94,95,96,97,99,100,109,116]),(4,[9,16,28,33,38,43,50,66,72,76,86,105,110,119])]) ?_;have a1:= @HR;have a2:= @Ic;have a3:= @Pz;have a4:= @H100;unfold G5 at h;exact walk
def Oi:Nat->(BL->BO->Int->ABu BL)
|0=>(λ_ _ _=>none)
|n+1=>G5 ((Oi n))
def C6(n:Nat):BL->BO->Int->ABu BL:=(Oi n)
theorem Sd(n:Nat):(∀{x0 x1 x2 r},(C6 n) x0 x1 x2=some r->BB prog 253 [bA 10 (El x0),.agg [si x1.Op,si x1.N,Bq x1.di,vS 4 BR x1.L],si x2] (.BZ []) [bA 10 (El r),.dead,.dead]):=by
  induction n with
  |zero=>exactλh=>Et h
  |succ n ih=>exactλh=>Tt ih h
def Ju{n:Nat}:∀{x0 x1 x2 r},(C6 n) x0 x1 x2=some r->BB prog 253 [bA 10 (El x0),.agg [si x1.Op,si x1.N,Bq x1.di,vS 4 BR x1.L],si x2] (.BZ []) [bA 10 (El r),.dead,.dead]:=(Sd n)
end Go.Abs
