/- Typed programs of Go functions, and that the functions do what these say. -/
import Derived.Test.YthmijagacgnmkaaGreatDoorWalkC
set_option linter.unusedSimpArgs false
set_option linter.unusedVariables false
namespace Go.Abs
open Go.Proofs
set_option maxRecDepth 1000000
set_option maxHeartbeats 4000000
def f165c:ZY:=(.seq (.ic (Rc 0 [.B 2 false]))
(.seq (.ic (uN (Rc 5 [.C 0,.o (.Z6 (.t 5)),.P .lss 6 1,.C 7,.G 8 false,.C 0,.o (.Z6 (.t 9)),.P .gtr 10 12,.e,.V 8 11,.C 12,.G 13 false,.C 0,.c 202 [14] 0,.e,.V 13 15])
(Ci 16 (Rb 0 [.B 2 false]))))
(iM (.seq (.Zt [.x (.o ⟨some ⟨17,[],[]⟩,.cp (.t 0),none⟩),.rng ⟨18,[],[]⟩ (.t 17)])
(.block 0 (.loop (.seq (.Zt [.nxt ⟨19,[],[]⟩ (.t 18),.x (.o ⟨some ⟨20,[],[]⟩,.ext (.t 19) 0,none⟩)])
(.ic (Sq (cX 20 0)
(Bk 1 (Ra 21 [.o (.ext (.t 19) 1),.o (.ext (.t 19) 2),.M 3 21,.M 4 22]
(Bk 2 (uN (Rc 24 [.C 4,.o (.bin .leq (.c (.sc (.int .i32 97))) (.t 24)),.C 25,.G 26 true,.C 4,.o (.bin .leq (.t 27) (.c (.sc (.int .i32 122)))),.e,.W 26 28,.C 29,.G 30 false,.C 4,.o (.bin .leq (.c (.sc (.int .i32 65))) (.t 31)),.C 32,.G 33 true,.C 4,.o (.bin .leq (.t 34) (.c (.sc (.int .i32 90)))),.G 30 false,.o (.pick (.t 33) (.t 35) (.c (sb false))),.e,.V 30 36,.M 23 37])
(Cn 23 .skip (uN (Rc 39 [.C 3,.P .gtr 39 0,.C 40,.G 41 true,.C 4,.o (.bin .eql (.t 42) (.c (.sc (.int .i32 95)))),.C 43,.G 44 false,.C 4,.o (.bin .leq (.c (.sc (.int .i32 48))) (.t 45)),.C 46,.G 47 true,.C 4,.o (.bin .leq (.t 48) (.c (.sc (.int .i32 57)))),.G 44 false,.o (.pick (.t 47) (.t 49) (.c (sb false))),.G 41 true,.o (.pick (.t 44) (.c (sb true)) (.t 50)),.e,.W 41 51,.M 38 52])
(Cn 38 .skip (Rb 0 [.B 2 false]))))))))))))))
(.ic (Rb 0 [.B 2 true])))))
def f165g:Gi:=⟨[]⟩
def f165r:List RV:=[.tmp 2]
def f165:FIM:=⟨f165c,f165g,f165r⟩
theorem chk165:qN Tryz.prog Tryz.f165 f165=true:=by kernel_rfl
namespace Cy
def J4:AB8 Bool:=
some true
def J3 (L1:Nat->AB8 Bool) (pos:Nat) (s:AB9) (t38v:Bool):AB8 Bool:=
if t38v then
L1 (pos+(Utf8.decode s pos).2)
else
some false
def J2 (L1:Nat->AB8 Bool) (pos:Nat) (s:AB9) (t23v:Bool):AB8 Bool:=
if t23v then
L1 (pos+(Utf8.decode s pos).2)
else
if decide ((pos:Int)>0)then
if((Utf8.decode s pos).1:Int)==95 then
J3 L1 pos s true
else
if decide (48≤((Utf8.decode s pos).1:Int))then
J3 L1 pos s (decide (((Utf8.decode s pos).1:Int)≤57))
else
J3 L1 pos s false
else
J3 L1 pos s false
def L1 (s:AB9) (L1:Nat->AB8 Bool) (pos:Nat):AB8 Bool:=
if decide (pos<s.size)then
if decide (97≤((Utf8.decode s pos).1:Int))then
if decide (((Utf8.decode s pos).1:Int)≤122)then
J2 L1 pos s true
else
if decide (65≤((Utf8.decode s pos).1:Int))then
J2 L1 pos s (decide (((Utf8.decode s pos).1:Int)≤90))
else
J2 L1 pos s false
else
if decide (65≤((Utf8.decode s pos).1:Int))then
J2 L1 pos s (decide (((Utf8.decode s pos).1:Int)≤90))
else
J2 L1 pos s false
else
J4
def AZ (s:AB9):Nat->Nat->AB8 Bool
|0,_=>none
|n+1,pos=>L1 s (AZ s n) pos
def J1 (s:AB9) (t16v:Bool):AB8 Bool:=
if t16v then
some false
else
AZ s BP 0
end Cy
section
open Cy
def Cy (s:AB9):AB8 Bool:=
if decide ((s.size:Int)<1)then
J1 s true
else
if decide ((s.size:Int)>12)then
J1 s true
else
(Dm s).bind λv=>
J1 s v
theorem Wk {s:AB9} {r:Bool} (h:Cy s=some r):Says Tryz.prog 165 [BZ s] (sb r):=by
 refine kZ mix Tryz.func165 chk165 (AAq (by kernel_rfl)) rfl ?_;simp only[f165,f165c,f165g,f165r]
 try simp +decide only[go_sem, *]
 refine cutH (λτ=>∃t16v:Bool,(τ 0=BZ s/\τ 16=sb t16v)/\J1 s t16v=some r) λM1 hM1=>⟨?_,?_⟩
 . try simp +decide only[go_sem, *]
   refine gI h (λ_ h=> ?_) λ_ h=> ?_
   . try simp +decide only[go_sem, *]
     refine hM1 _ ⟨_,?_,h⟩;simp +decide only[go_sem, *]
   try simp +decide only[go_sem, *]
   refine gI h (λ_ h=> ?_) λ_ h=> ?_
   . try simp +decide only[go_sem, *]
     refine hM1 _ ⟨_,?_,h⟩;simp +decide only[go_sem, *]
   obtain⟨v,g1,h⟩:=bS h
   try simp +decide only[go_sem, *]
   refine⟨_,Sm g1,?_⟩
   try simp +decide only[go_sem, *]
   refine hM1 _ ⟨_,?_,h⟩;simp +decide only[go_sem, *]
 rintro τ1 ⟨t16v,s1,h⟩
 try simp +decide only[go_sem, *]
 refine cI h (λ_ h=> ?_) λ_ h=> ?_
 . obtain rfl:=AAl h;simp +decide only[go_sem, *]
 try simp +decide only[go_sem, *]
 refine iN (λτ ν=>(True)/\J4=some r) λM4 hM4=>⟨?_,?_⟩
 . try simp +decide only[go_sem, *]
   intro b1 hb1
   try simp +decide only[go_sem, *]
   refine loopMH (λn τ ν=>∃pos:Nat,(τ 18= .sc (.pointer (some ⟨b1,0,none⟩))/\ν b1=some (.it s pos))/\AZ s n pos=some r) ⟨_,?_,h⟩ λn1 τ1 ν1 N1=> ?_
   . simp +decide only[go_sem, *]
   rintro⟨pos,s1,h⟩ hN1;cases n1 with
   |zero=>exact DP h
   |succ n1=>
    rw[AZ]at h;generalize hL1:AZ s n1=L1 at h
    try simp +decide only[go_sem, *]
    rcases bool_sp (decide (pos<s.size))with e4|e4
    . replace h:=ifT e4 h
      try simp +decide only[go_sem,(AAq e4),HR,GN, *]
      refine cutH (λτ=>∃t23v:Bool,(τ 3=si (pos:Int)/\τ 4= .sc (.int .i32 ((Utf8.decode s pos).1:Int))/\τ 18= .sc (.pointer (some ⟨b1,0,none⟩))/\τ 23=sb t23v)/\J2 L1 pos s t23v=some r) λM2 hM2=>⟨?_,?_⟩
      . try simp +decide only[go_sem,(AAq e4),HR,GN, *]
        refine gI h (λ_ h=> ?_) λ_ h=> ?_
        . try simp +decide only[go_sem,(AAq e4),HR,GN, *]
          refine gI h (λ_ h=> ?_) λ_ h=> ?_
          . try simp +decide only[go_sem,(AAq e4),HR,GN, *]
            refine hM2 _ ⟨_,?_,h⟩;simp +decide only[go_sem,(AAq e4),HR,GN, *]
          try simp +decide only[go_sem,(AAq e4),HR,GN, *]
          refine gI h (λ_ h=> ?_) λ_ h=> ?_
          . try simp +decide only[go_sem,(AAq e4),HR,GN, *]
            refine hM2 _ ⟨_,?_,h⟩;simp +decide only[go_sem,(AAq e4),HR,GN, *]
          try simp +decide only[go_sem,(AAq e4),HR,GN, *]
          refine hM2 _ ⟨_,?_,h⟩;simp +decide only[go_sem,(AAq e4),HR,GN, *]
        try simp +decide only[go_sem,(AAq e4),HR,GN, *]
        refine gI h (λ_ h=> ?_) λ_ h=> ?_
        . try simp +decide only[go_sem,(AAq e4),HR,GN, *]
          refine hM2 _ ⟨_,?_,h⟩;simp +decide only[go_sem,(AAq e4),HR,GN, *]
        try simp +decide only[go_sem,(AAq e4),HR,GN, *]
        refine hM2 _ ⟨_,?_,h⟩;simp +decide only[go_sem,(AAq e4),HR,GN, *]
      rintro τ2 ⟨t23v,s2,h⟩
      try simp +decide only[go_sem, *]
      refine cI h (λ_ h=> ?_) λ_ h=> ?_
      . try simp +decide only[go_sem, *]
        refine hN1 n1 (Nat.lt_succ_self _) _ _ ⟨_,?_,hL1.symm▸h⟩;simp +decide only[go_sem, *]
      try simp +decide only[go_sem, *]
      refine cutH (λτ=>∃t38v:Bool,(τ 18= .sc (.pointer (some ⟨b1,0,none⟩))/\τ 38=sb t38v)/\J3 L1 pos s t38v=some r) λM3 hM3=>⟨?_,?_⟩
      . try simp +decide only[go_sem, *]
        refine gI h (λ_ h=> ?_) λ_ h=> ?_
        . try simp +decide only[go_sem, *]
          refine gI h (λ_ h=> ?_) λ_ h=> ?_
          . try simp +decide only[go_sem, *]
            refine hM3 _ ⟨_,?_,h⟩;simp +decide only[go_sem, *]
          try simp +decide only[go_sem, *]
          refine gI h (λ_ h=> ?_) λ_ h=> ?_
          . try simp +decide only[go_sem, *]
            refine hM3 _ ⟨_,?_,h⟩;simp +decide only[go_sem, *]
          try simp +decide only[go_sem, *]
          refine hM3 _ ⟨_,?_,h⟩;simp +decide only[go_sem, *]
        try simp +decide only[go_sem, *]
        refine hM3 _ ⟨_,?_,h⟩;simp +decide only[go_sem, *]
      rintro τ3 ⟨t38v,s3,h⟩
      try simp +decide only[go_sem, *]
      refine cI h (λ_ h=> ?_) λ_ h=> ?_
      . try simp +decide only[go_sem, *]
        refine hN1 n1 (Nat.lt_succ_self _) _ _ ⟨_,?_,hL1.symm▸h⟩;simp +decide only[go_sem, *]
      obtain rfl:=AAl h;simp +decide only[go_sem, *]
    . replace h:=ifF e4 h
      try simp +decide only[go_sem,(of_decide_eq_false e4),HR,GN, *]
      refine hM4 _ _ ⟨?_,h⟩;simp +decide only[go_sem,(of_decide_eq_false e4),HR,GN, *]
 rintro τ4 ν4 ⟨_,h⟩;obtain rfl:=AAl h;simp +decide only[go_sem, *]
end
namespace Ap
def J8:AB8 Bool:=
some true
def J7 (L3:Int->AB8 Bool) (d:Int) (p:Bool):AB8 Bool:=
if p then
some false
else
L3 (A1 (d+1))
def L3 (a:AO) (L3:Int->AB8 Bool) (d:Int):AB8 Bool:=
if decide (d<(a.Init.Sync.AA.length:Int))then
(gt a.Init.Sync.AA d).bind λx=>
if x.Atomic then
(CB d a).bind λv=>
J7 L3 d (!v)
else
J7 L3 d false
else
J8
def Gq (a:AO):Nat->Int->AB8 Bool
|0,_=>none
|n+1,d=>L3 a (Gq a n) d
def J6 (a:AO) (o:Bool):AB8 Bool:=
if o then
some false
else
Gq a BP 0
def J5 (a:AO):AB8 Bool:=
if a.Init.Sync.Tx != (-1)then
(CB a.Init.Sync.Tx a).bind λu=>
J6 a (!u)
else
J6 a false
def J4 (L1:Int->AB8 Bool) (b:Int):AB8 Bool:=
L1 (A1 (b+1))
def J3 (L2:Int->Int->AB8 Bool) (e i:Int) (q:Bool):AB8 Bool:=
if q then
some false
else
L2 i (A1 (e+1))
def L2 (L1:Int->AB8 Bool) (b:Int) (a:AO) (c:AW) (L2:Int->Int->AB8 Bool) (f e:Int):AB8 Bool:=
if decide (e<(c.Al.length:Int))then
(gt c.Al e).bind λi=>
if decide (i≤f)then
J3 L2 e i true
else
(CB i a).bind λt=>
J3 L2 e i (!t)
else
J4 L1 b
def Cr (L1:Int->AB8 Bool) (b:Int) (a:AO) (c:AW):Nat->Int->Int->AB8 Bool
|0,_,_=>none
|n+1,f,e=>L2 L1 b a c (Cr L1 b a c n) f e
def J2 (L1:Int->AB8 Bool) (b:Int) (a:AO) (c:AW) (l:Bool):AB8 Bool:=
if l then
some false
else
Cr L1 b a c BP (-1) 0
def J1 (L1:Int->AB8 Bool) (b:Int) (a:AO) (c:AW) (j:Bool):AB8 Bool:=
if j then
some false
else
if decide ((c.Al.length:Int)>0)then
(gt a.World.AE b).bind λw=>
if !w.RW then
J2 L1 b a c true
else
J2 L1 b a c (c.B6 != (-1))
else
J2 L1 b a c false
def L1 (a:AO) (L1:Int->AB8 Bool) (b:Int):AB8 Bool:=
if decide (b<(a.Init.Sync.AE.length:Int))then
(gt a.Init.Sync.AE b).bind λc=>
if c.B6 != (-1)then
(CB c.B6 a).bind λs=>
J1 L1 b a c (!s)
else
J1 L1 b a c false
else
J5 a
def AZ (a:AO):Nat->Int->AB8 Bool
|0,_=>none
|n+1,b=>L1 a (AZ a n) b
end Ap
section
open Ap
def Ap (a:AO):AB8 Bool:=
AZ a BP 0
theorem Og {a:AO} {r:Bool} (h:Ap a=some r):Says Tryz.prog 84 [.agg (BV a)] (sb r):=by refine kO mix Tryz.func84 (hn [(1,[3,11,12,13,14,26,37,38,62,70,71,72,76,77,78,79,84,85,86,97]),(5,[22,27,32,46,51]),(10,[94])] [(9,1),(12,2),(24,6)] (E:=[(1,(Rc 11 [.y 1 (.mkf 141 [.t 1]),.w 3,.y 1 (.cp (.t 11))])),(5,(.Wc [.o (Ll 22 5 0 5),.o (iL 23 22),.o (iP 24 .neq 23 (-1)),.o (iC 25 24),.o (j1 26 1 (.cp (.t 3)) 25 true),.o (jFr 27 5 0 5 25 true),.o (jL 28 27 25 true),.clo (some ⟨29,[],[]⟩) 141 (.t 26) [.t 28] (some (25,true)),.o (jN 30 29 25 true),.o (iAn 31 25 30)])),(13,(.Wc [.o (iC 58 8),.o (iC 59 6),.o (iO 60 .leq 58 59),.o (iC 61 60),.o (j1 62 1 (.cp (.t 3)) 61 false),.o (jC 63 8 61 false),.clo (some ⟨64,[],[]⟩) 141 (.t 62) [.t 63] (some (61,false)),.o (jN 65 64 61 false),.o (iOr 66 61 65)])),(18,(.Wc [.o (Ll 70 1 7 1),.o (Ll 71 1 0 70),.o (Ll 72 1 1 71),.o (iL 73 72),.o (iP 74 .neq 73 (-1)),.o (iC 75 74),.o (j1 76 1 (.cp (.t 3)) 75 true),.o (jFr 77 1 7 1 75 true),.o (jFr 78 1 0 77 75 true),.o (jFr 79 1 1 78 75 true),.o (jL 80 79 75 true),.clo (some ⟨81,[],[]⟩) 141 (.t 76) [.t 80] (some (75,true)),.o (jN 82 81 75 true),.o (iAn 83 75 82)])),(23,(.Wc [.o (Ll 94 10 2 10),.o (iL 95 94),.o (iC 96 95),.o (j1 97 1 (.cp (.t 3)) 96 true),.o (jC 98 9 96 true),.clo (some ⟨99,[],[]⟩) 141 (.t 97) [.t 98] (some (96,true)),.o (jN 100 99 96 true),.o (iAn 101 96 100)]))])) ?_;have a1:= @NY;have l3:=λn1 n2 n3 n4:Nat=>Av λn τ=>∃(d:Int),(τ 1=bA 15 (BV a)/\τ 3= .cl 141 [(1,[])]/\τ 87=vS 3 An a.Init.Sync.AA/\τ 88=si (a.Init.Sync.AA.length:Int)/\τ 89=si d)/\Gq a n d=some r;have l1:=λn1 n2 n3 n4:Nat=>Av λn τ=>∃(b:Int),(τ 1=bA 15 (BV a)/\τ 3= .cl 141 [(1,[])]/\τ 15=vS 2 DS a.Init.Sync.AE/\τ 16=si (a.Init.Sync.AE.length:Int)/\τ 17=si b)/\AZ a n b=some r;have l2:=λn1 n2 n3 n4:Nat=>Av λn τ=>∃(b:Int) (c:AW) (f e:Int),(τ 1=bA 15 (BV a)/\τ 3= .cl 141 [(1,[])]/\τ 6=si f/\τ 15=vS 2 DS a.Init.Sync.AE/\τ 16=si (a.Init.Sync.AE.length:Int)/\τ 17=si b/\τ 52=vS 1 eI c.Al/\τ 53=si (c.Al.length:Int)/\τ 54=si e)/\Cr (AZ a n1) b a c n f e=some r;have c6:=λn1 n2 n3 n4:Nat=>Bm 6 λτ=>∃(o:Bool),(τ 1=bA 15 (BV a)/\τ 3= .cl 141 [(1,[])]/\τ 83=sb o)/\J6 a o=some r;have c2:=λn1 n2 n3 n4:Nat=>Bm 2 λτ=>∃(b:Int) (c:AW) (l:Bool),(τ 1=bA 15 (BV a)/\τ 3= .cl 141 [(1,[])]/\τ 5=bA 2 (DS c)/\τ 15=vS 2 DS a.Init.Sync.AE/\τ 16=si (a.Init.Sync.AE.length:Int)/\τ 17=si b/\τ 50=sb l)/\J2 (AZ a n1) b a c l=some r;have c1:=λn1 n2 n3 n4:Nat=>Bm 1 λτ=>∃(b:Int) (c:AW) (j:Bool),(τ 1=bA 15 (BV a)/\τ 3= .cl 141 [(1,[])]/\τ 4=si b/\τ 5=bA 2 (DS c)/\τ 15=vS 2 DS a.Init.Sync.AE/\τ 16=si (a.Init.Sync.AE.length:Int)/\τ 17=si b/\τ 31=sb j)/\J1 (AZ a n1) b a c j=some r;unfold Ap at h;exact walk
end
namespace DB
def J1 (R100:AN->Int->AB8 (BB×AN)) (c:Int) (a:AN) (b:Int×AU) (d:Bool):AB8 (BB×AN):=
if d then
(Ae b.2 4).bind λe=>
(KJ e.1).bind λp=>
some (p,(AN.mk e.2 a.Be a.left a.Ho a.tx a.atomic a.loop a.held))
else
if decide (b.1<7)then
(Ae b.2 7).bind λf=>
(gt [(⟨#[97]⟩:AB9),(⟨#[98]⟩:AB9),(⟨#[120]⟩:AB9),(⟨#[121]⟩:AB9),(⟨#[118]⟩:AB9),(⟨#[120]⟩:AB9),(⟨#[121]⟩:AB9)] f.1).bind λt=>
(Iy t).bind λq=>
some (q,(AN.mk f.2 a.Be a.left a.Ho a.tx a.atomic a.loop a.held))
else
if b.1==7 then
(R100 (AN.mk b.2 a.Be a.left a.Ho a.tx a.atomic a.loop a.held) 0).bind λi=>
some ((BB.mk 3 0 (⟨#[113]⟩:AB9) [i.1]),i.2)
else
(Ae b.2 6).bind λj=>
(gt [6,7,8,11,13,17] j.1).bind λu=>
(R100 (AN.mk j.2 a.Be a.left a.Ho a.tx a.atomic a.loop a.held) (A1 (c-1))).bind λl=>
(R100 l.2 (A1 (c-1))).bind λo=>
(Ig u l.1 o.1).bind λs=>
some (s,o.2)
end DB
section
open DB
def DB (R100:AN->Int->AB8 (BB×AN)) (a:AN) (c:Int):AB8 (BB×AN):=
(Ae a.t 10).bind λb=>
if decide (b.1<2)then
J1 R100 c a b true
else
if c==0 then
J1 R100 c a b (decide (b.1≥7))
else
J1 R100 c a b false
theorem SK {R100:AN->Int->AB8 (BB×AN)} (H100:∀{x0 x1 r},R100 x0 x1=some r->BA Tryz.prog 245 [bA 8 (CS x0),si x1] (.agg [si r.1.Op,si r.1.N,BZ r.1.Name,vS 4 BD r.1.L]) [bA 8 (CS r.2),.dead]) {a:AN} {c:Int} {r:BB×AN} (h:DB R100 a c=some r):BA Tryz.prog 245 [bA 8 (CS a),si c] (.agg [si r.1.Op,si r.1.N,BZ r.1.Name,vS 4 BD r.1.L]) [bA 8 (CS r.2),.dead]:=by refine kP mix Tryz.func245 (hn [(0,[9,10,11,12,25,26,27,28,35,36,37,38,48,54,55,56,57]),(5,[34,39,42]),(7,[53,58,61])] [(4,1)] (E:=[(10,(.aY [(0,10,13,63),(0,14,17,67)] [i1 53 7 (.cp (.t 7)),i1 54 0 (.cp (.t 0)),i1 55 0 (.KK (.t 54)),Ll 56 0 0 55,Zm 57 0 56,i1 58 7 (.cp (.t 7)),iZ 59 58,i0 60 (.VW 104 [] (.t 57) none [.t 59]),rL 61 7 1 53 60,iL 62 61,i0 63 .fl,iC 64 1,iP 65 .sub 64 1,i0 66 (.VW 245 [] (.t 0) none [.t 65]),i0 67 .fl,iC 68 1,iP 69 .sub 68 1,i0 70 (.VW 245 [] (.t 0) none [.t 69]),i0 71 (.call 246 [.t 62,.t 66,.t 70] 1),iS 4 4 71]))])) ?_;have a1:= @Cp;have a2:= @Py;have a3:= @Tg;have a4:= @H100;have a5:= @Pv;have c1:=λn1 n2 n3 n4:Nat=>Bm 1 λτ=>∃(b:Int×AU) (d:Bool),(τ 0=bA 8 [bA 2 (FE b.2),si a.Be,si a.left,sb a.Ho,sb a.tx,sb a.atomic,sb a.loop,vO 1 eS a.held]/\τ 1=si c/\τ 4=bA 4 z23/\τ 5= .own false 1 ([[BZ ⟨#[97]⟩],[BZ ⟨#[98]⟩],[BZ ⟨#[120]⟩],[BZ ⟨#[121]⟩],[BZ ⟨#[118]⟩],[BZ ⟨#[120]⟩],[BZ ⟨#[121]⟩]])/\τ 6=si b.1/\τ 14=sb d)/\J1 R100 c a b d=some r;unfold DB at h;exact walk
end
def Nr:Nat->(AN->Int->AB8 (BB×AN))
|0=>(λ_ _=>none)
|n+1=>DB ((Nr n))
def CD (n:Nat):AN->Int->AB8 (BB×AN):=(Nr n)
theorem Q0 (n:Nat):(∀{x0 x1 r},(CD n) x0 x1=some r->BA Tryz.prog 245 [bA 8 (CS x0),si x1] (.agg [si r.1.Op,si r.1.N,BZ r.1.Name,.sl false 4 (r.1.L.map BD)]) [bA 8 (CS r.2),.dead]):=by
  induction n with
  |zero=>exactλh=>DP h
  |succ n ih=>exactλh=>SK ih h
theorem Q1 {n:Nat}:∀{x0 x1 r},(CD n) x0 x1=some r->BA Tryz.prog 245 [bA 8 (CS x0),si x1] (.agg [si r.1.Op,si r.1.N,BZ r.1.Name,.sl false 4 (r.1.L.map BD)]) [bA 8 (CS r.2),.dead]:=(Q0 n)
namespace Hy
def J6:AB8 (Int×Int):=
some (0,0)
def J5 (L1:Int->Int->Int->Int->Int->AB8 (Int×Int)) (b t:Int) (w u v:Int):AB8 (Int×Int):=
L1 t w u v (A1 (b+1))
def J4 (L1:Int->Int->Int->Int->Int->AB8 (Int×Int)) (j l:Int) (o b:Int) (c:List Eg) (p:Int) (a:Eg) (q:Bool):AB8 (Int×Int):=
if q then
some (2,a.FA)
else
if a.Kind==5 then
if 0≤b/\b.toNat≤c.length then
(Cw (c.take b.toNat) a.On).bind λs=>
if decide (s<0)then
some (5,a.FA)
else
(gt c s).bind λaa=>
if aa.Kind != 3 then
some (6,a.FA)
else
J5 L1 b j p l o
else none
else
J5 L1 b j p l o
def J3 (L1:Int->Int->Int->Int->Int->AB8 (Int×Int)) (b:Int) (c:List Eg) (a:Eg) (j p:Int) (l o:Int):AB8 (Int×Int):=
if decide (j>12)then
J4 L1 j l o b c p a true
else
if decide (p>4)then
J4 L1 j l o b c p a true
else
if decide (l>2)then
J4 L1 j l o b c p a true
else
J4 L1 j l o b c p a (decide (o>2))
def J2 (L1:Int->Int->Int->Int->Int->AB8 (Int×Int)) (d e:Int) (f b:Int) (c:List Eg) (i:Int) (a:Eg) (y:Bool):AB8 (Int×Int):=
if y then
J3 L1 b c a d (A1 (i+1)) e f
else
if a.Kind==5 then
J3 L1 b c a d i (A1 (e+1)) f
else
J3 L1 b c a d i e (A1 (f+1))
def J1 (L1:Int->Int->Int->Int->Int->AB8 (Int×Int)) (d e:Int) (f b:Int) (c:List Eg) (i:Int) (a:Eg) (x:Bool):AB8 (Int×Int):=
if x then
J3 L1 b c a (A1 (d+(if 1>a.Bw then 1 else a.Bw))) i e f
else
if a.Kind==3 then
J2 L1 d e f b c i a (a.Kind==3)
else
J2 L1 d e f b c i a (a.Kind==4)
def L1 (c:List Eg) (L1:Int->Int->Int->Int->Int->AB8 (Int×Int)) (d i:Int) (e f b:Int):AB8 (Int×Int):=
if decide (b<(c.length:Int))then
(gt c b).bind λa=>
if 0≤b/\b.toNat≤c.length then
(Cw (c.take b.toNat) a.Name).bind λz=>
if decide (z≥0)then
some (4,a.FA)
else
if decide (a.Bw>4)then
some (2,a.FA)
else
if a.Kind==1 then
J1 L1 d e f b c i a (a.Kind==1)
else
J1 L1 d e f b c i a (a.Kind==2)
else none
else
J6
def AZ (c:List Eg):Nat->Int->Int->Int->Int->Int->AB8 (Int×Int)
|0,_,_,_,_,_=>none
|n+1,d,i,e,f,b=>L1 c (AZ c n) d i e f b
end Hy
section
open Hy
def Hy (c:List Eg):AB8 (Int×Int):=
AZ c BP 0 0 0 0 0
theorem Yh {c:List Eg} {r:Int×Int} (h:Hy c=some r):Says Tryz.prog 214 [vS 6 KG c] (.BM [si r.1,si r.2]):=by refine kO mix Tryz.func214 (hn [(9,[24,28,30,33,35,43,70,72,78,83,91])] [(14,3),(22,4)]) ?_;have a1:= @JW;have l1:=λn1 n2 n3 n4:Nat=>Av λn τ=>∃(d i e f b:Int),(τ 0=vS 6 KG c/\τ 4=si d/\τ 5=si i/\τ 6=si e/\τ 7=si f/\τ 8=si b)/\AZ c n d i e f b=some r;have c4:=λn1 n2 n3 n4:Nat=>Bm 4 λτ=>∃(j l o b p:Int) (a:Eg) (q:Bool),(τ 0=vS 6 KG c/\τ 4=si j/\τ 5=si p/\τ 6=si l/\τ 7=si o/\τ 8=si b/\τ 9=bA 6 (KG a)/\τ 69=sb q)/\J4 (AZ c n1) j l o b c p a q=some r;have c3:=λn1 n2 n3 n4:Nat=>Bm 3 λτ=>∃(b:Int) (a:Eg) (j p l o:Int),(τ 0=vS 6 KG c/\τ 4=si j/\τ 5=si p/\τ 6=si l/\τ 7=si o/\τ 8=si b/\τ 9=bA 6 (KG a))/\J3 (AZ c n1) b c a j p l o=some r;unfold Hy at h;exact walk
end
namespace CO
def J4 (l:Bool):AB8 Bool:=
some l
def J6 (o:Bool):AB8 Bool:=
some o
def J9 (b:Int) (c:AD) (q:Bool):AB8 Bool:=
if q then
(DH b (c.AK.length:Int)).bind λx=>
some x
else
some false
def J8 (a b:Int) (c:AD) (p:Bool):AB8 Bool:=
if p then
(DH b (c.AA.length:Int)).bind λw=>
some w
else
if a==22 then
J9 b c (a==22)
else
J9 b c (a==23)
def J7 (a b:Int) (c:AD) (i:Bool):AB8 Bool:=
if i then
(DH b (c.Af.length:Int)).bind λv=>
some v
else
if a==20 then
J8 a b c (a==20)
else
J8 a b c (a==21)
def J5 (a b:Int) (c:AD) (f:Bool):AB8 Bool:=
if f then
(DH b (c.AE.length:Int)).bind λu=>
if u then
(gt c.AE b).bind λz=>
J6 z.RW
else
J6 false
else
if a==16 then
J7 a b c (a==16)
else
if a==17 then
J7 a b c (a==17)
else
if a==18 then
J7 a b c (a==18)
else
J7 a b c (a==19)
def J3 (a b:Int) (c:AD) (e:Bool):AB8 Bool:=
if e then
(DH b (c.AE.length:Int)).bind λt=>
if t then
(gt c.AE b).bind λy=>
J4 (!y.RW)
else
J4 false
else
if a==8 then
J5 a b c (a==8)
else
if a==9 then
J5 a b c (a==9)
else
if a==10 then
J5 a b c (a==10)
else
J5 a b c (a==11)
def J2 (a b:Int) (c:AD) (d:Bool):AB8 Bool:=
if d then
(DH b (c.Cells.length:Int)).bind λs=>
some s
else
if a==6 then
J3 a b c (a==6)
else
J3 a b c (a==7)
def J1 (a b:Int) (c:AD) (j:Bool):AB8 Bool:=
if j then
some (b==(-1))
else
if a==3 then
J2 a b c (a==3)
else
J2 a b c (a==4)
end CO
section
open CO
def CO (c:AD) (a b:Int):AB8 Bool:=
if a==1 then
J1 a b c (a==1)
else
if a==2 then
J1 a b c (a==2)
else
if a==5 then
J1 a b c (a==5)
else
if a==12 then
J1 a b c (a==12)
else
if a==13 then
J1 a b c (a==13)
else
if a==14 then
J1 a b c (a==14)
else
J1 a b c (a==15)
theorem Tn {c:AD} {a b:Int} {r:Bool} (h:CO c a b=some r):Says Tryz.prog 111 [.agg (Ah c),si a,si b] (sb r):=by refine kO mix Tryz.func111 (hn [(3,[22,30,35,49,54,67,75,83])] [(3,1),(11,2),(14,3),(17,5),(22,7)]) ?_;have a1:= @I0;have c7:=λn1 n2 n3 n4:Nat=>Bm 7 λτ=>∃(i:Bool),(τ 2=si b/\τ 3=bA 6 (Ah c)/\τ 7=si a/\τ 61=sb i)/\J7 a b c i=some r;have c5:=λn1 n2 n3 n4:Nat=>Bm 5 λτ=>∃(f:Bool),(τ 2=si b/\τ 3=bA 6 (Ah c)/\τ 7=si a/\τ 43=sb f)/\J5 a b c f=some r;have c3:=λn1 n2 n3 n4:Nat=>Bm 3 λτ=>∃(e:Bool),(τ 2=si b/\τ 3=bA 6 (Ah c)/\τ 7=si a/\τ 26=sb e)/\J3 a b c e=some r;have c2:=λn1 n2 n3 n4:Nat=>Bm 2 λτ=>∃(d:Bool),(τ 2=si b/\τ 3=bA 6 (Ah c)/\τ 7=si a/\τ 18=sb d)/\J2 a b c d=some r;have c1:=λn1 n2 n3 n4:Nat=>Bm 1 λτ=>∃(j:Bool),(τ 2=si b/\τ 3=bA 6 (Ah c)/\τ 7=si a/\τ 8=sb j)/\J1 a b c j=some r;unfold CO at h;exact walk
end
namespace Ik
def J4 (l:Bool):AB8 Bool:=
some l
def J6 (o:Bool):AB8 Bool:=
some o
def J9 (b:Int) (c:AD) (q:Bool):AB8 Bool:=
if q then
(Hm b (c.AK.length:Int)).bind λx=>
some x
else
some false
def J8 (a b:Int) (c:AD) (p:Bool):AB8 Bool:=
if p then
(Hm b (c.AA.length:Int)).bind λw=>
some w
else
if a==22 then
J9 b c (a==22)
else
J9 b c (a==23)
def J7 (a b:Int) (c:AD) (i:Bool):AB8 Bool:=
if i then
(Hm b (c.Af.length:Int)).bind λv=>
some v
else
if a==20 then
J8 a b c (a==20)
else
J8 a b c (a==21)
def J5 (a b:Int) (c:AD) (f:Bool):AB8 Bool:=
if f then
(Hm b (c.AE.length:Int)).bind λu=>
if u then
(gt c.AE b).bind λz=>
J6 z.RW
else
J6 false
else
if a==16 then
J7 a b c (a==16)
else
if a==17 then
J7 a b c (a==17)
else
if a==18 then
J7 a b c (a==18)
else
J7 a b c (a==19)
def J3 (a b:Int) (c:AD) (e:Bool):AB8 Bool:=
if e then
(Hm b (c.AE.length:Int)).bind λt=>
if t then
(gt c.AE b).bind λy=>
J4 (!y.RW)
else
J4 false
else
if a==8 then
J5 a b c (a==8)
else
if a==9 then
J5 a b c (a==9)
else
if a==10 then
J5 a b c (a==10)
else
J5 a b c (a==11)
def J2 (a b:Int) (c:AD) (d:Bool):AB8 Bool:=
if d then
(Hm b (c.Cells.length:Int)).bind λs=>
some s
else
if a==6 then
J3 a b c (a==6)
else
J3 a b c (a==7)
def J1 (a b:Int) (c:AD) (j:Bool):AB8 Bool:=
if j then
some (b==(-1))
else
if a==3 then
J2 a b c (a==3)
else
J2 a b c (a==4)
end Ik
section
open Ik
def Ik (c:AD) (a b:Int):AB8 Bool:=
if a==1 then
J1 a b c (a==1)
else
if a==2 then
J1 a b c (a==2)
else
if a==5 then
J1 a b c (a==5)
else
if a==12 then
J1 a b c (a==12)
else
if a==13 then
J1 a b c (a==13)
else
if a==14 then
J1 a b c (a==14)
else
J1 a b c (a==15)
theorem Ys {c:AD} {a b:Int} {r:Bool} (h:Ik c a b=some r):Says Tryz.prog 129 [.agg (Ah c),si a,si b] (sb r):=by refine kO mix Tryz.func129 (hn [(3,[22,30,35,49,54,67,75,83])] [(3,1),(11,2),(14,3),(17,5),(22,7)]) ?_;have a1:= @Ve;have c7:=λn1 n2 n3 n4:Nat=>Bm 7 λτ=>∃(i:Bool),(τ 2=si b/\τ 3=bA 6 (Ah c)/\τ 7=si a/\τ 61=sb i)/\J7 a b c i=some r;have c5:=λn1 n2 n3 n4:Nat=>Bm 5 λτ=>∃(f:Bool),(τ 2=si b/\τ 3=bA 6 (Ah c)/\τ 7=si a/\τ 43=sb f)/\J5 a b c f=some r;have c3:=λn1 n2 n3 n4:Nat=>Bm 3 λτ=>∃(e:Bool),(τ 2=si b/\τ 3=bA 6 (Ah c)/\τ 7=si a/\τ 26=sb e)/\J3 a b c e=some r;have c2:=λn1 n2 n3 n4:Nat=>Bm 2 λτ=>∃(d:Bool),(τ 2=si b/\τ 3=bA 6 (Ah c)/\τ 7=si a/\τ 18=sb d)/\J2 a b c d=some r;have c1:=λn1 n2 n3 n4:Nat=>Bm 1 λτ=>∃(j:Bool),(τ 2=si b/\τ 3=bA 6 (Ah c)/\τ 7=si a/\τ 8=sb j)/\J1 a b c j=some r;unfold Ik at h;exact walk
end
namespace CA
def J5:AB8 (Int×Int):=
some (0,0)
def J4 (L2:Int->AB8 (Int×Int)) (c:Int):AB8 (Int×Int):=
L2 (A1 (c+1))
def J3 (L3:Int->AB8 (Int×Int)) (d:Int) (b:Co) (l:Bool):AB8 (Int×Int):=
if l then
some (4,b.FA)
else
L3 (A1 (d+1))
def L3 (L2:Int->AB8 (Int×Int)) (c:Int) (a:AR) (b:Co) (L3:Int->AB8 (Int×Int)) (d:Int):AB8 (Int×Int):=
if decide (d<(b.GZ.length:Int))then
(gt b.GZ d).bind λi=>
(Cw a.Decls i).bind λq=>
if decide (q≥0)then
J3 L3 d b true
else
(Cu a.AA i).bind λs=>
if decide (s≥0)then
J3 L3 d b true
else
if 0≤d/\d.toNat≤b.GZ.length then
(CP (b.GZ.take d.toNat) i).bind λt=>
J3 L3 d b (decide (t≥0))
else none
else
J4 L2 c
def Gq (L2:Int->AB8 (Int×Int)) (c:Int) (a:AR) (b:Co):Nat->Int->AB8 (Int×Int)
|0,_=>none
|n+1,d=>L3 L2 c a b (Gq L2 c a b n) d
def L2 (a:AR) (L2:Int->AB8 (Int×Int)) (c:Int):AB8 (Int×Int):=
if decide (c<(a.AA.length:Int))then
(gt a.AA c).bind λb=>
if decide ((b.GZ.length:Int)>4)then
some (2,b.FA)
else
Gq L2 c a b BP 0
else
J5
def Cr (a:AR):Nat->Int->AB8 (Int×Int)
|0,_=>none
|n+1,c=>L2 a (Cr a n) c
def J2 (a:AR):AB8 (Int×Int):=
Cr a BP 0
def J1 (L1:Int->AB8 (Int×Int)) (e:Int) (f:Co) (j:Bool):AB8 (Int×Int):=
if j then
some (4,f.FA)
else
L1 (A1 (e+1))
def L1 (a:AR) (L1:Int->AB8 (Int×Int)) (e:Int):AB8 (Int×Int):=
if decide (e<(a.AA.length:Int))then
(gt a.AA e).bind λf=>
(Cw a.Decls f.Name).bind λo=>
if decide (o≥0)then
J1 L1 e f true
else
if 0≤e/\e.toNat≤a.AA.length then
(Cu (a.AA.take e.toNat) f.Name).bind λp=>
J1 L1 e f (decide (p≥0))
else none
else
J2 a
def AZ (a:AR):Nat->Int->AB8 (Int×Int)
|0,_=>none
|n+1,e=>L1 a (AZ a n) e
end CA
section
open CA
def CA (a:AR):AB8 (Int×Int):=
AZ a BP 0
theorem Uy {a:AR} {r:Int×Int} (h:CA a=some r):Says Tryz.prog 215 [.agg (CN a)] (.BM [si r.1,si r.2]):=by refine kO mix Tryz.func215 (hn [(1,[11,17,22,29,41,47,70,76]),(5,[24,33,38]),(7,[52,56,59,65,83,91])]) ?_;have a1:= @JW;have a2:= @KR;have a3:= @Hx;have l2:=λn1 n2 n3 n4:Nat=>Av λn τ=>∃(c:Int),(τ 1=bA 2 (CN a)/\τ 6=si c)/\Cr a n c=some r;have l3:=λn1 n2 n3 n4:Nat=>Av λn τ=>∃(c:Int) (b:Co) (d:Int),(τ 1=bA 2 (CN a)/\τ 6=si c/\τ 7=bA 4 (Iv b)/\τ 8=si d)/\Gq (Cr a n2) c a b n d=some r;have l1:=λn1 n2 n3 n4:Nat=>Av λn τ=>∃(e:Int),(τ 1=bA 2 (CN a)/\τ 4=si e)/\AZ a n e=some r;unfold CA at h;exact walk
end
namespace Fw
def J5:AB8 Bool:=
some true
def L3 (a b:AP) (L3:Int->AB8 Bool) (e:Int):AB8 Bool:=
if decide (e<(a.AA.length:Int))then
(gt a.AA e).bind λi=>
(gt b.AA e).bind λj=>
if !(i.Status==j.Status&&(i.D7==j.D7&&(i.Atomic==j.Atomic)))then
some false
else
L3 (A1 (e+1))
else
J5
def Gq (a b:AP):Nat->Int->AB8 Bool
|0,_=>none
|n+1,e=>L3 a b (Gq a b n) e
def J4 (a b:AP):AB8 Bool:=
Gq a b BP 0
def L2 (a b:AP) (L2:Int->AB8 Bool) (d:Int):AB8 Bool:=
if decide (d<(a.Bp.length:Int))then
(gt a.Bp d).bind λs=>
(gt b.Bp d).bind λt=>
if !(s==t)then
some false
else
L2 (A1 (d+1))
else
J4 a b
def Cr (a b:AP):Nat->Int->AB8 Bool
|0,_=>none
|n+1,d=>L2 a b (Cr a b n) d
def J3 (a b:AP):AB8 Bool:=
Cr a b BP 0
def J2 (L1:Int->AB8 Bool) (c:Int) (p:Bool):AB8 Bool:=
if p then
some false
else
L1 (A1 (c+1))
def L1 (a b:AP) (L1:Int->AB8 Bool) (c:Int):AB8 Bool:=
if decide (c<(a.AE.length:Int))then
(gt a.AE c).bind λl=>
(gt b.AE c).bind λo=>
if l.B6 != o.B6 then
J2 L1 c true
else
(ET l.Al o.Al).bind λq=>
J2 L1 c (!q)
else
J3 a b
def AZ (a b:AP):Nat->Int->AB8 Bool
|0,_=>none
|n+1,c=>L1 a b (AZ a b n) c
def J1 (a b:AP) (f:Bool):AB8 Bool:=
if f then
some false
else
AZ a b BP 0
end Fw
section
open Fw
def Fw (a b:AP):AB8 Bool:=
if a.Tx != b.Tx then
J1 a b true
else
if(a.AE.length:Int) != (b.AE.length:Int)then
J1 a b true
else
if(a.Bp.length:Int) != (b.Bp.length:Int)then
J1 a b true
else
J1 a b ((a.AA.length:Int) != (b.AA.length:Int))
theorem Zx {a b:AP} {r:Bool} (h:Fw a b=some r):Says Tryz.prog 71 [.agg (FZ a),.agg (FZ b)] (sb r):=by refine kO mix Tryz.func71 (hn [(2,[8,14,23,32,41,47,61,77,83,95,101]),(3,[10,17,26,35,53,67,88,106])] [(2,1)]) ?_;have a1:= @KS;have l3:=λn1 n2 n3 n4:Nat=>Av λn τ=>∃(e:Int),(τ 2=bA 4 (FZ a)/\τ 3=bA 4 (FZ b)/\τ 7=si e)/\Gq a b n e=some r;have l2:=λn1 n2 n3 n4:Nat=>Av λn τ=>∃(d:Int),(τ 2=bA 4 (FZ a)/\τ 3=bA 4 (FZ b)/\τ 6=si d)/\Cr a b n d=some r;have l1:=λn1 n2 n3 n4:Nat=>Av λn τ=>∃(c:Int),(τ 2=bA 4 (FZ a)/\τ 3=bA 4 (FZ b)/\τ 5=si c)/\AZ a b n c=some r;have c1:=λn1 n2 n3 n4:Nat=>Bm 1 λτ=>∃(f:Bool),(τ 2=bA 4 (FZ a)/\τ 3=bA 4 (FZ b)/\τ 39=sb f)/\J1 a b f=some r;unfold Fw at h;exact walk
end
def Gf (R100:A9->BB->Int->AB8 A9) (c:A9) (a:BB) (b:Int):AB8 A9:=
if a.Op==1 then
(A6 c (Ac.mk 1 b 0 0 a.N 0)).bind λi=>
some i
else
if a.Op==2 then
(CP c.locals a.Name).bind λe=>
if decide (e≥0)then
(A6 c (Ac.mk 2 b e 0 0 0)).bind λo=>
some o
else
(Bj c.w a.Name).bind λp=>
(A6 c (Ac.mk 6 b p 0 0 0)).bind λq=>
some q
else
if a.Op==3 then
(gt a.L 0).bind λv=>
(R100 c v b).bind λd=>
(Bj d.w a.Name).bind λf=>
(gt d.w.Cells f).bind λw=>
(A6 d (Ac.mk 7 b f b w.Bw 0)).bind λs=>
some s
else
if(a.L.length:Int)==1 then
(gt a.L 0).bind λx=>
(R100 c x b).bind λt=>
(A6 t (Ac.mk 3 b b 0 a.Op 0)).bind λu=>
some u
else
(gt a.L 0).bind λy=>
(R100 c y b).bind λj=>
(gt a.L 1).bind λz=>
(R100 j z (A1 (b+1))).bind λl=>
(A6 l (Ac.mk 4 b b (A1 (b+1)) a.Op 0)).bind λaa=>
some aa
theorem Sc {R100:A9->BB->Int->AB8 A9} (H100:∀{x0 x1 x2 r},R100 x0 x1 x2=some r->BA Tryz.prog 244 [bA 10 (EV x0),.agg [si x1.Op,si x1.N,BZ x1.Name,vS 4 BD x1.L],si x2] (.BM []) [bA 10 (EV r),.dead,.dead]) {c:A9} {a:BB} {b:Int} {r:A9} (h:Gf R100 c a b=some r):BA Tryz.prog 244 [bA 10 (EV c),.agg [si a.Op,si a.N,BZ a.Name,vS 4 BD a.L],si b] (.BM []) [bA 10 (EV r),.dead,.dead]:=by refine kL mix Tryz.func244 (hn [(0,[8,15,23,36,46,47,48,49,55,60,62,63,64,65,75,82,83,84,85,89,93,94,95,96,97,99,100,109,116]),(4,[9,16,28,33,38,43,50,66,72,76,86,105,110,119])]) ?_;have a1:= @G5;have a2:= @Hx;have a3:= @Ox;have a4:= @H100;unfold Gf at h;exact walk
def Nv:Nat->(A9->BB->Int->AB8 A9)
|0=>(λ_ _ _=>none)
|n+1=>Gf ((Nv n))
def Cm (n:Nat):A9->BB->Int->AB8 A9:=(Nv n)
theorem RF (n:Nat):(∀{x0 x1 x2 r},(Cm n) x0 x1 x2=some r->BA Tryz.prog 244 [bA 10 (EV x0),.agg [si x1.Op,si x1.N,BZ x1.Name,.sl false 4 (x1.L.map BD)],si x2] (.BM []) [bA 10 (EV r),.dead,.dead]):=by
  induction n with
  |zero=>exactλh=>DP h
  |succ n ih=>exactλh=>Sc ih h
theorem JI {n:Nat}:∀{x0 x1 x2 r},(Cm n) x0 x1 x2=some r->BA Tryz.prog 244 [bA 10 (EV x0),.agg [si x1.Op,si x1.N,BZ x1.Name,.sl false 4 (x1.L.map BD)],si x2] (.BM []) [bA 10 (EV r),.dead,.dead]:=(RF n)
namespace Ea
def J5:AB8 Bool:=
some true
def J4 (L1:Int->AB8 Bool) (b:Int) (l:Bool):AB8 Bool:=
if l then
some false
else
L1 (A1 (b+1))
def J3 (L1:Int->AB8 Bool) (b:Int) (c:Bool) (a:AO) (e:Bool):AB8 Bool:=
if e then
some false
else
if c then
(gt a.Init.Sync.AA b).bind λq=>
(Ln q.D7 (a.World.Af.length:Int)).bind λo=>
if !o then
J4 L1 b true
else
J4 L1 b false
else
(gt a.Init.Sync.AA b).bind λs=>
J4 L1 b (s.D7 != 0)
def J2 (L1:Int->AB8 Bool) (d:Bool) (b:Int) (a:AO) (c:Bool):AB8 Bool:=
(gt a.Init.Sync.AA b).bind λf=>
if decide (f.Status<0)then
J3 L1 b c a true
else
if decide (f.Status>5)then
J3 L1 b c a true
else
(gt a.Init.Count b).bind λp=>
if !(d==(p==0))then
J3 L1 b c a true
else
if b==0 then
J3 L1 b c a (f.Status==0)
else
J3 L1 b c a false
def J1 (L1:Int->AB8 Bool) (b:Int) (a:AO) (d:Bool):AB8 Bool:=
(gt a.Init.Sync.AA b).bind λj=>
if j.Status==3 then
J2 L1 d b a true
else
J2 L1 d b a (j.Status==4)
def L1 (a:AO) (L1:Int->AB8 Bool) (b:Int):AB8 Bool:=
if decide (b<(a.Init.Sync.AA.length:Int))then
(gt a.Init.Sync.AA b).bind λi=>
if i.Status==0 then
J1 L1 b a true
else
J1 L1 b a (i.Status==1)
else
J5
def AZ (a:AO):Nat->Int->AB8 Bool
|0,_=>none
|n+1,b=>L1 a (AZ a n) b
end Ea
section
open Ea
def Ea (a:AO):AB8 Bool:=
AZ a BP 0
theorem UE {a:AO} {r:Bool} (h:Ea a=some r):Says Tryz.prog 88 [.agg (BV a)] (sb r):=by refine kO mix Tryz.func88 (hn [(1,[7,8,9,61,62,89,90])] [(7,1),(8,2),(10,3)]) ?_;have a1:= @Vg;have l1:=λn1 n2 n3 n4:Nat=>Av λn τ=>∃(b:Int),(τ 1=bA 15 (BV a)/\τ 3=vS 3 An a.Init.Sync.AA/\τ 4=si b)/\AZ a n b=some r;have c3:=λn1 n2 n3 n4:Nat=>Bm 3 λτ=>∃(b:Int) (c e:Bool),(τ 1=bA 15 (BV a)/\τ 3=vS 3 An a.Init.Sync.AA/\τ 4=si b/\τ 6=sb c/\τ 81=sb e)/\J3 (AZ a n1) b c a e=some r;have c2:=λn1 n2 n3 n4:Nat=>Bm 2 λτ=>∃(d:Bool) (b:Int) (c:Bool),(τ 1=bA 15 (BV a)/\τ 3=vS 3 An a.Init.Sync.AA/\τ 4=si b/\τ 5=sb d/\τ 6=sb c)/\J2 (AZ a n1) d b a c=some r;have c1:=λn1 n2 n3 n4:Nat=>Bm 1 λτ=>∃(b:Int) (d:Bool),(τ 1=bA 15 (BV a)/\τ 3=vS 3 An a.Init.Sync.AA/\τ 4=si b/\τ 5=sb d)/\J1 (AZ a n1) b a d=some r;unfold Ea at h;exact walk
end
namespace Cx
def J5 (b:AU) (c:Int) (p:Bool):AB8 (Int×AU):=
if p then
(Ae b 3).bind λo=>
some ((A1 ((A1 (c+1))+o.1)).tmod 4,o.2)
else
some ((-1),b)
def J4 (a:Int) (b:AU) (c:Int) (f:Bool):AB8 (Int×AU):=
if f then
some (0,b)
else
if a==20 then
J5 b c (a==20)
else
J5 b c (a==21)
def J3 (a:Int) (b:AU) (c:Int) (e:Bool):AB8 (Int×AU):=
if e then
some (2,b)
else
if a==16 then
J4 a b c (a==16)
else
if a==17 then
J4 a b c (a==17)
else
if a==18 then
J4 a b c (a==18)
else
if a==19 then
J4 a b c (a==19)
else
if a==22 then
J4 a b c (a==22)
else
J4 a b c (a==23)
def J2 (a:Int) (b:AU) (c:Int) (d:Bool):AB8 (Int×AU):=
if d then
(Ae b 2).bind λl=>
some (l.1,l.2)
else
if a==8 then
J3 a b c (a==8)
else
if a==9 then
J3 a b c (a==9)
else
if a==10 then
J3 a b c (a==10)
else
J3 a b c (a==11)
def J1 (a:Int) (b:AU) (c:Int) (i:Bool):AB8 (Int×AU):=
if i then
(Ae b 8).bind λj=>
(gt [0,0,0,1,1,2,3,4] j.1).bind λq=>
some (q,j.2)
else
if a==6 then
J2 a b c (a==6)
else
J2 a b c (a==7)
end Cx
section
open Cx
def Cx (b:AU) (a c:Int):AB8 (Int×AU):=
if a==3 then
J1 a b c (a==3)
else
J1 a b c (a==4)
theorem We {b:AU} {a c:Int} {r:Int×AU} (h:Cx b a c=some r):BA Tryz.prog 176 [bA 2 (FE b),si a,si c] (si r.1) [bA 2 (FE r.2),.dead,.dead]:=by refine kL mix Tryz.func176 (hn [(0,[12,19,38]),(11,[14])] [(3,1),(6,2),(9,3),(14,4)]) ?_;have a1:= @Cp;have c4:=λn1 n2 n3 n4:Nat=>Bm 4 λτ=>∃(f:Bool),(τ 0=bA 2 (FE b)/\τ 2=si c/\τ 7=si a/\τ 26=sb f)/\J4 a b c f=some r;have c3:=λn1 n2 n3 n4:Nat=>Bm 3 λτ=>∃(e:Bool),(τ 0=bA 2 (FE b)/\τ 2=si c/\τ 7=si a/\τ 21=sb e)/\J3 a b c e=some r;have c2:=λn1 n2 n3 n4:Nat=>Bm 2 λτ=>∃(d:Bool),(τ 0=bA 2 (FE b)/\τ 2=si c/\τ 7=si a/\τ 16=sb d)/\J2 a b c d=some r;have c1:=λn1 n2 n3 n4:Nat=>Bm 1 λτ=>∃(i:Bool),(τ 0=bA 2 (FE b)/\τ 2=si c/\τ 7=si a/\τ 8=sb i)/\J1 a b c i=some r;unfold Cx at h;exact walk
end
end Go.Abs
