/- Typed programs of Go functions, and that the functions do what these say. -/
import Derived.Test.YtdadohkcmclilaaGreatDoorWalkB
import Derived.Test.YtdadohkcmclilaaGreatDoorWalkC
import Derived.Shelf.Slices.SearchI
set_option linter.unusedSimpArgs false
set_option linter.unusedVariables false
namespace Go.Abs
open Go.Proofs
set_option maxRecDepth 1000000
set_option maxHeartbeats 4000000
def f132c:X1:=(.seq (.ic (Rc 0 [.B 2 false]))
(.seq (.ic (Tg (Rc 5 [.C 0,.o (.YU (.t 5)),.P .lss 6 1,.C 7,.G 8 false,.C 0,.o (.YU (.t 9)),.P .gtr 10 12,.e,.V 8 11,.C 12,.G 13 false,.C 0,.c 171 [14] 0,.e,.V 13 15])
(Ci 16 (Rb 0 [.B 2 false]))))
(cZ (.seq (.YH [.x (.o ⟨some ⟨17,[],[]⟩,.cp (.t 0),none⟩),.rng ⟨18,[],[]⟩ (.t 17)])
(.block 0 (.loop (.seq (.YH [.nxt ⟨19,[],[]⟩ (.t 18),.x (.o ⟨some ⟨20,[],[]⟩,.ext (.t 19) 0,none⟩)])
(.ic (Sq (cX 20 0)
(Bk 1 (Ra 21 [.o (.ext (.t 19) 1),.o (.ext (.t 19) 2),.M 3 21,.M 4 22]
(Bk 2 (Tg (Rc 24 [.C 4,.o (.bin .leq (.c (.sc (.int .i32 97))) (.t 24)),.C 25,.G 26 true,.C 4,.o (.bin .leq (.t 27) (.c (.sc (.int .i32 122)))),.e,.W 26 28,.C 29,.G 30 false,.C 4,.o (.bin .leq (.c (.sc (.int .i32 65))) (.t 31)),.C 32,.G 33 true,.C 4,.o (.bin .leq (.t 34) (.c (.sc (.int .i32 90)))),.G 30 false,.o (.pick (.t 33) (.t 35) (.c (sb false))),.e,.V 30 36,.M 23 37])
(Cn 23 .skip (Tg (Rc 39 [.C 3,.P .gtr 39 0,.C 40,.G 41 true,.C 4,.o (.bin .eql (.t 42) (.c (.sc (.int .i32 95)))),.C 43,.G 44 false,.C 4,.o (.bin .leq (.c (.sc (.int .i32 48))) (.t 45)),.C 46,.G 47 true,.C 4,.o (.bin .leq (.t 48) (.c (.sc (.int .i32 57)))),.G 44 false,.o (.pick (.t 47) (.t 49) (.c (sb false))),.G 41 true,.o (.pick (.t 44) (.c (sb true)) (.t 50)),.e,.W 41 51,.M 38 52])
(Cn 38 .skip (Rb 0 [.B 2 false]))))))))))))))
(.ic (Rb 0 [.B 2 true])))))
def f132g:Gi:=⟨[]⟩
def f132r:List RV:=[.tmp 2]
def f132:FIM:=⟨f132c,f132g,f132r⟩
theorem chk132:nG Tryz.prog Tryz.f132 f132=true:=by kernel_rfl
namespace Cs
def J4:ABh Bool:=
some true
def J3 (L1:Nat->ABh Bool) (pos:Nat) (s:ABi) (t38v:Bool):ABh Bool:=
if t38v then
L1 (pos+(Utf8.decode s pos).2)
else
some false
def J2 (L1:Nat->ABh Bool) (pos:Nat) (s:ABi) (HF:Bool):ABh Bool:=
if HF then
L1 (pos+(Utf8.decode s pos).2)
else
if decide ((pos:Int)>0)then
if((Utf8.decode s pos).1:Int)==95 then
J3 L1 pos s true
else
if decide (48≤((Utf8.decode s pos).1:Int))then
J3 L1 pos s (decide (((Utf8.decode s pos).1:Int)≤57))
else
J3 L1 pos s false
else
J3 L1 pos s false
def L1 (s:ABi) (L1:Nat->ABh Bool) (pos:Nat):ABh Bool:=
if decide (pos<s.size)then
if decide (97≤((Utf8.decode s pos).1:Int))then
if decide (((Utf8.decode s pos).1:Int)≤122)then
J2 L1 pos s true
else
if decide (65≤((Utf8.decode s pos).1:Int))then
J2 L1 pos s (decide (((Utf8.decode s pos).1:Int)≤90))
else
J2 L1 pos s false
else
if decide (65≤((Utf8.decode s pos).1:Int))then
J2 L1 pos s (decide (((Utf8.decode s pos).1:Int)≤90))
else
J2 L1 pos s false
else
J4
def AZ (s:ABi):Nat->Nat->ABh Bool
|0,_=>none
|n+1,pos=>L1 s (AZ s n) pos
def J1 (s:ABi) (t16v:Bool):ABh Bool:=
if t16v then
some false
else
AZ s Bg 0
end Cs
section
open Cs
def Cs (s:ABi):ABh Bool:=
if decide ((s.size:Int)<1)then
J1 s true
else
if decide ((s.size:Int)>12)then
J1 s true
else
(De s).bind λv=>
J1 s v
theorem VP {s:ABi} {r:Bool} (h:Cs s=some r):Says Tryz.prog 132 [BZ s] (sb r):=by
 refine fG mix Tryz.func132 chk132 (AAT (by kernel_rfl)) rfl ?_;simp only[f132,f132c,f132g,f132r]
 try simp +decide only[go_sem, *]
 refine WH (λτ=>∃t16v:Bool,(τ 0=BZ s/\τ 16=sb t16v)/\J1 s t16v=some r) λM1 hM1=>⟨?_,?_⟩
 . try simp +decide only[go_sem, *]
   refine gI h (λ_ h=> ?_) λ_ h=> ?_
   . try simp +decide only[go_sem, *]
     refine hM1 _ ⟨_,?_,h⟩;simp +decide only[go_sem, *]
   try simp +decide only[go_sem, *]
   refine gI h (λ_ h=> ?_) λ_ h=> ?_
   . try simp +decide only[go_sem, *]
     refine hM1 _ ⟨_,?_,h⟩;simp +decide only[go_sem, *]
   obtain⟨v,g1,h⟩:=bS h
   try simp +decide only[go_sem, *]
   refine⟨_,RQ g1,?_⟩
   try simp +decide only[go_sem, *]
   refine hM1 _ ⟨_,?_,h⟩;simp +decide only[go_sem, *]
 rintro τ1 ⟨t16v,s1,h⟩
 try simp +decide only[go_sem, *]
 refine cI h (λ_ h=> ?_) λ_ h=> ?_
 . obtain rfl:=AAJ h;simp +decide only[go_sem, *]
 try simp +decide only[go_sem, *]
 refine dA (λτ ν=>(True)/\J4=some r) λM4 hM4=>⟨?_,?_⟩
 . try simp +decide only[go_sem, *]
   intro b1 hb1
   try simp +decide only[go_sem, *]
   refine loopMH (λn τ ν=>∃pos:Nat,(τ 18= .sc (.pointer (some ⟨b1,0,none⟩))/\ν b1=some (.it s pos))/\AZ s n pos=some r) ⟨_,?_,h⟩ λn1 τ1 ν1 N1=> ?_
   . simp +decide only[go_sem, *]
   rintro⟨pos,s1,h⟩ hN1;cases n1 with
   |zero=>exact Dm h
   |succ n1=>
    rw[AZ]at h;generalize hL1:AZ s n1=L1 at h
    try simp +decide only[go_sem, *]
    rcases bool_sp (decide (pos<s.size))with e4|e4
    . replace h:=ifT e4 h
      try simp +decide only[go_sem,(AAT e4),Gq,FZ, *]
      refine WH (λτ=>∃HF:Bool,(τ 3=si (pos:Int)/\τ 4= .sc (.int .i32 ((Utf8.decode s pos).1:Int))/\τ 18= .sc (.pointer (some ⟨b1,0,none⟩))/\τ 23=sb HF)/\J2 L1 pos s HF=some r) λM2 zS=>⟨?_,?_⟩
      . try simp +decide only[go_sem,(AAT e4),Gq,FZ, *]
        refine gI h (λ_ h=> ?_) λ_ h=> ?_
        . try simp +decide only[go_sem,(AAT e4),Gq,FZ, *]
          refine gI h (λ_ h=> ?_) λ_ h=> ?_
          . try simp +decide only[go_sem,(AAT e4),Gq,FZ, *]
            refine zS _ ⟨_,?_,h⟩;simp +decide only[go_sem,(AAT e4),Gq,FZ, *]
          try simp +decide only[go_sem,(AAT e4),Gq,FZ, *]
          refine gI h (λ_ h=> ?_) λ_ h=> ?_
          . try simp +decide only[go_sem,(AAT e4),Gq,FZ, *]
            refine zS _ ⟨_,?_,h⟩;simp +decide only[go_sem,(AAT e4),Gq,FZ, *]
          try simp +decide only[go_sem,(AAT e4),Gq,FZ, *]
          refine zS _ ⟨_,?_,h⟩;simp +decide only[go_sem,(AAT e4),Gq,FZ, *]
        try simp +decide only[go_sem,(AAT e4),Gq,FZ, *]
        refine gI h (λ_ h=> ?_) λ_ h=> ?_
        . try simp +decide only[go_sem,(AAT e4),Gq,FZ, *]
          refine zS _ ⟨_,?_,h⟩;simp +decide only[go_sem,(AAT e4),Gq,FZ, *]
        try simp +decide only[go_sem,(AAT e4),Gq,FZ, *]
        refine zS _ ⟨_,?_,h⟩;simp +decide only[go_sem,(AAT e4),Gq,FZ, *]
      rintro τ2 ⟨HF,s2,h⟩
      try simp +decide only[go_sem, *]
      refine cI h (λ_ h=> ?_) λ_ h=> ?_
      . try simp +decide only[go_sem, *]
        refine hN1 n1 (ABP _) _ _ ⟨_,?_,hL1.symm▸h⟩;simp +decide only[go_sem, *]
      try simp +decide only[go_sem, *]
      refine WH (λτ=>∃t38v:Bool,(τ 18= .sc (.pointer (some ⟨b1,0,none⟩))/\τ 38=sb t38v)/\J3 L1 pos s t38v=some r) λM3 hM3=>⟨?_,?_⟩
      . try simp +decide only[go_sem, *]
        refine gI h (λ_ h=> ?_) λ_ h=> ?_
        . try simp +decide only[go_sem, *]
          refine gI h (λ_ h=> ?_) λ_ h=> ?_
          . try simp +decide only[go_sem, *]
            refine hM3 _ ⟨_,?_,h⟩;simp +decide only[go_sem, *]
          try simp +decide only[go_sem, *]
          refine gI h (λ_ h=> ?_) λ_ h=> ?_
          . try simp +decide only[go_sem, *]
            refine hM3 _ ⟨_,?_,h⟩;simp +decide only[go_sem, *]
          try simp +decide only[go_sem, *]
          refine hM3 _ ⟨_,?_,h⟩;simp +decide only[go_sem, *]
        try simp +decide only[go_sem, *]
        refine hM3 _ ⟨_,?_,h⟩;simp +decide only[go_sem, *]
      rintro τ3 ⟨t38v,s3,h⟩
      try simp +decide only[go_sem, *]
      refine cI h (λ_ h=> ?_) λ_ h=> ?_
      . try simp +decide only[go_sem, *]
        refine hN1 n1 (ABP _) _ _ ⟨_,?_,hL1.symm▸h⟩;simp +decide only[go_sem, *]
      obtain rfl:=AAJ h;simp +decide only[go_sem, *]
    . replace h:=ifF e4 h
      try simp +decide only[go_sem,(of_decide_eq_false e4),Gq,FZ, *]
      refine hM4 _ _ ⟨?_,h⟩;simp +decide only[go_sem,(of_decide_eq_false e4),Gq,FZ, *]
 rintro τ4 ν4 ⟨_,h⟩;obtain rfl:=AAJ h;simp +decide only[go_sem, *]
end
namespace Ab
def J8:ABh Bool:=
some true
def J7 (L3:Int->ABh Bool) (d:Int) (p:Bool):ABh Bool:=
if p then
some false
else
L3 (Aq (d+1))
def L3 (a:AP) (L3:Int->ABh Bool) (d:Int):ABh Bool:=
if decide (d<(a.Init.Sync.AA.length:Int))then
(gt a.Init.Sync.AA d).bind λx=>
if x.Atomic then
(Bt d a).bind λv=>
J7 L3 d (!v)
else
J7 L3 d false
else
J8
def GL (a:AP):Nat->Int->ABh Bool
|0,_=>none
|n+1,d=>L3 a (GL a n) d
def J6 (a:AP) (o:Bool):ABh Bool:=
if o then
some false
else
GL a Bg 0
def J5 (a:AP):ABh Bool:=
if a.Init.Sync.Tx != (-1)then
(Bt a.Init.Sync.Tx a).bind λu=>
J6 a (!u)
else
J6 a false
def J4 (L1:Int->ABh Bool) (b:Int):ABh Bool:=
L1 (Aq (b+1))
def J3 (L2:Int->Int->ABh Bool) (e i:Int) (q:Bool):ABh Bool:=
if q then
some false
else
L2 i (Aq (e+1))
def L2 (L1:Int->ABh Bool) (b:Int) (a:AP) (c:AX) (L2:Int->Int->ABh Bool) (f e:Int):ABh Bool:=
if decide (e<(c.Aj.length:Int))then
(gt c.Aj e).bind λi=>
if decide (i≤f)then
J3 L2 e i true
else
(Bt i a).bind λt=>
J3 L2 e i (!t)
else
J4 L1 b
def DI (L1:Int->ABh Bool) (b:Int) (a:AP) (c:AX):Nat->Int->Int->ABh Bool
|0,_,_=>none
|n+1,f,e=>L2 L1 b a c (DI L1 b a c n) f e
def J2 (L1:Int->ABh Bool) (b:Int) (a:AP) (c:AX) (l:Bool):ABh Bool:=
if l then
some false
else
DI L1 b a c Bg (-1) 0
def J1 (L1:Int->ABh Bool) (b:Int) (a:AP) (c:AX) (j:Bool):ABh Bool:=
if j then
some false
else
if decide ((c.Aj.length:Int)>0)then
(gt a.World.AG b).bind λw=>
if !w.RW then
J2 L1 b a c true
else
J2 L1 b a c (c.CS != (-1))
else
J2 L1 b a c false
def L1 (a:AP) (L1:Int->ABh Bool) (b:Int):ABh Bool:=
if decide (b<(a.Init.Sync.AG.length:Int))then
(gt a.Init.Sync.AG b).bind λc=>
if c.CS != (-1)then
(Bt c.CS a).bind λs=>
J1 L1 b a c (!s)
else
J1 L1 b a c false
else
J5 a
def AZ (a:AP):Nat->Int->ABh Bool
|0,_=>none
|n+1,b=>L1 a (AZ a n) b
end Ab
section
open Ab
def Ab (a:AP):ABh Bool:=
AZ a Bg 0
theorem Ng {a:AP} {r:Bool} (h:Ab a=some r):Says Tryz.prog 43 [.agg (BW a)] (sb r):=by refine kO mix Tryz.func43 (hn [(1,[3,11,12,13,14,26,37,38,62,70,71,72,76,77,78,79,84,85,86,97]),(5,[22,27,32,46,51]),(10,[94])] [(9,1),(12,2),(24,6)] (E:=[(1,(Rc 11 [.y 1 (.mkf 92 [.t 1]),.w 3,.y 1 (.cp (.t 11))])),(5,(.YS [.o (ML 22 5 0 5),.o (iL 23 22),.o (iP 24 .neq 23 (-1)),.o (iC 25 24),.o (j1 26 1 (.cp (.t 3)) 25 true),.o (jFr 27 5 0 5 25 true),.o (jL 28 27 25 true),.clo (some ⟨29,[],[]⟩) 92 (.t 26) [.t 28] (some (25,true)),.o (jN 30 29 25 true),.o (iAn 31 25 30)])),(13,(.YS [.o (iC 58 8),.o (iC 59 6),.o (iO 60 .leq 58 59),.o (iC 61 60),.o (j1 62 1 (.cp (.t 3)) 61 false),.o (jC 63 8 61 false),.clo (some ⟨64,[],[]⟩) 92 (.t 62) [.t 63] (some (61,false)),.o (jN 65 64 61 false),.o (iOr 66 61 65)])),(18,(.YS [.o (ML 70 1 7 1),.o (ML 71 1 0 70),.o (ML 72 1 1 71),.o (iL 73 72),.o (iP 74 .neq 73 (-1)),.o (iC 75 74),.o (j1 76 1 (.cp (.t 3)) 75 true),.o (jFr 77 1 7 1 75 true),.o (jFr 78 1 0 77 75 true),.o (jFr 79 1 1 78 75 true),.o (jL 80 79 75 true),.clo (some ⟨81,[],[]⟩) 92 (.t 76) [.t 80] (some (75,true)),.o (jN 82 81 75 true),.o (iAn 83 75 82)])),(23,(.YS [.o (ML 94 10 2 10),.o (iL 95 94),.o (iC 96 95),.o (j1 97 1 (.cp (.t 3)) 96 true),.o (jC 98 9 96 true),.clo (some ⟨99,[],[]⟩) 92 (.t 97) [.t 98] (some (96,true)),.o (jN 100 99 96 true),.o (iAn 101 96 100)]))])) ?_;have a1:= @Mb;have l3:=λn1 n2 n3 n4:Nat=>A7 λn τ=>∃(d:Int),(τ 1=bA 15 (BW a)/\τ 3= .cl 92 [(1,[])]/\τ 87=vS 3 Ax a.Init.Sync.AA/\τ 88=si (a.Init.Sync.AA.length:Int)/\τ 89=si d)/\GL a n d=some r;have l1:=λn1 n2 n3 n4:Nat=>A7 λn τ=>∃(b:Int),(τ 1=bA 15 (BW a)/\τ 3= .cl 92 [(1,[])]/\τ 15=vS 2 Dk a.Init.Sync.AG/\τ 16=si (a.Init.Sync.AG.length:Int)/\τ 17=si b)/\AZ a n b=some r;have l2:=λn1 n2 n3 n4:Nat=>A7 λn τ=>∃(b:Int) (c:AX) (f e:Int),(τ 1=bA 15 (BW a)/\τ 3= .cl 92 [(1,[])]/\τ 6=si f/\τ 15=vS 2 Dk a.Init.Sync.AG/\τ 16=si (a.Init.Sync.AG.length:Int)/\τ 17=si b/\τ 52=vS 1 eI c.Aj/\τ 53=si (c.Aj.length:Int)/\τ 54=si e)/\DI (AZ a n1) b a c n f e=some r;have c6:=λn1 n2 n3 n4:Nat=>Bu 6 λτ=>∃(o:Bool),(τ 1=bA 15 (BW a)/\τ 3= .cl 92 [(1,[])]/\τ 83=sb o)/\J6 a o=some r;have c2:=λn1 n2 n3 n4:Nat=>Bu 2 λτ=>∃(b:Int) (c:AX) (l:Bool),(τ 1=bA 15 (BW a)/\τ 3= .cl 92 [(1,[])]/\τ 5=bA 2 (Dk c)/\τ 15=vS 2 Dk a.Init.Sync.AG/\τ 16=si (a.Init.Sync.AG.length:Int)/\τ 17=si b/\τ 50=sb l)/\J2 (AZ a n1) b a c l=some r;have c1:=λn1 n2 n3 n4:Nat=>Bu 1 λτ=>∃(b:Int) (c:AX) (j:Bool),(τ 1=bA 15 (BW a)/\τ 3= .cl 92 [(1,[])]/\τ 4=si b/\τ 5=bA 2 (Dk c)/\τ 15=vS 2 Dk a.Init.Sync.AG/\τ 16=si (a.Init.Sync.AG.length:Int)/\τ 17=si b/\τ 31=sb j)/\J1 (AZ a n1) b a c j=some r;unfold Ab at h;exact walk
end
namespace C5
def J1 (R100:AO->Int->ABh (BA×AO)) (c:Int) (a:AO) (b:Int×Dh) (d:Bool):ABh (BA×AO):=
if d then
(Bc b.2 4).bind λe=>
(JV e.1).bind λp=>
some (p,(AO.mk e.2 a.Be a.left a.HB a.tx a.atomic a.loop a.held))
else
if decide (b.1<7)then
(Bc b.2 7).bind λf=>
(gt [(⟨#[97]⟩:ABi),(⟨#[98]⟩:ABi),(⟨#[120]⟩:ABi),(⟨#[121]⟩:ABi),(⟨#[118]⟩:ABi),(⟨#[120]⟩:ABi),(⟨#[121]⟩:ABi)] f.1).bind λt=>
(IH t).bind λq=>
some (q,(AO.mk f.2 a.Be a.left a.HB a.tx a.atomic a.loop a.held))
else
if b.1==7 then
(R100 (AO.mk b.2 a.Be a.left a.HB a.tx a.atomic a.loop a.held) 0).bind λi=>
some ((BA.mk 3 0 (⟨#[113]⟩:ABi) [i.1]),i.2)
else
(Bc b.2 6).bind λj=>
(gt [6,7,8,11,13,17] j.1).bind λu=>
(R100 (AO.mk j.2 a.Be a.left a.HB a.tx a.atomic a.loop a.held) (Aq (c-1))).bind λl=>
(R100 l.2 (Aq (c-1))).bind λo=>
(Hp u l.1 o.1).bind λs=>
some (s,o.2)
end C5
section
open C5
def C5 (R100:AO->Int->ABh (BA×AO)) (a:AO) (c:Int):ABh (BA×AO):=
(Bc a.t 10).bind λb=>
if decide (b.1<2)then
J1 R100 c a b true
else
if c==0 then
J1 R100 c a b (decide (b.1≥7))
else
J1 R100 c a b false
theorem Q4 {R100:AO->Int->ABh (BA×AO)} (H100:∀{x0 x1 r},R100 x0 x1=some r->BM Tryz.prog 154 [bA 8 (CR x0),si x1] (.agg [si r.1.Op,si r.1.N,BZ r.1.Name,vS 4 BC r.1.L]) [bA 8 (CR r.2),.dead]) {a:AO} {c:Int} {r:BA×AO} (h:C5 R100 a c=some r):BM Tryz.prog 154 [bA 8 (CR a),si c] (.agg [si r.1.Op,si r.1.N,BZ r.1.Name,vS 4 BC r.1.L]) [bA 8 (CR r.2),.dead]:=by refine kP mix Tryz.func154 (hn [(0,[9,10,11,12,25,26,27,28,35,36,37,38,48,54,55,56,57]),(5,[34,39,42]),(7,[53,58,61])] [(4,1)] (E:=[(10,(.bE [(0,10,13,63),(0,14,17,67)] [i1 53 7 (.cp (.t 7)),i1 54 0 (.cp (.t 0)),i1 55 0 (.JW (.t 54)),ML 56 0 0 55,bL 57 0 56,i1 58 7 (.cp (.t 7)),iZ 59 58,i0 60 (.Ww 63 [] (.t 57) none [.t 59]),iIr 61 7 1 53 60,iL 62 61,i0 63 .fl,iC 64 1,iP 65 .sub 64 1,i0 66 (.Ww 154 [] (.t 0) none [.t 65]),i0 67 .fl,iC 68 1,iP 69 .sub 68 1,i0 70 (.Ww 154 [] (.t 0) none [.t 69]),i0 71 (.call 155 [.t 62,.t 66,.t 70] 1),iS 4 4 71]))])) ?_;have a1:= @Hh;have a2:= @O0;have a3:= @SP;have a4:= @H100;have a5:= @Ox;have c1:=λn1 n2 n3 n4:Nat=>Bu 1 λτ=>∃(b:Int×Dh) (d:Bool),(τ 0=bA 8 [bA 2 (UF b.2),si a.Be,si a.left,sb a.HB,sb a.tx,sb a.atomic,sb a.loop,vO 1 eS a.held]/\τ 1=si c/\τ 4=bA 4 z18/\τ 5= .own false 1 ([[BZ ⟨#[97]⟩],[BZ ⟨#[98]⟩],[BZ ⟨#[120]⟩],[BZ ⟨#[121]⟩],[BZ ⟨#[118]⟩],[BZ ⟨#[120]⟩],[BZ ⟨#[121]⟩]])/\τ 6=si b.1/\τ 14=sb d)/\J1 R100 c a b d=some r;unfold C5 at h;exact walk
end
def Mm:Nat->(AO->Int->ABh (BA×AO))
|0=>(λ_ _=>none)
|n+1=>C5 ((Mm n))
def CE (n:Nat):AO->Int->ABh (BA×AO):=(Mm n)
theorem P6 (n:Nat):(∀{x0 x1 r},(CE n) x0 x1=some r->BM Tryz.prog 154 [bA 8 (CR x0),si x1] (.agg [si r.1.Op,si r.1.N,BZ r.1.Name,.sl false 4 (r.1.L.map BC)]) [bA 8 (CR r.2),.dead]):=by
  induction n with
  |zero=>exactλh=>Dm h
  |succ n ih=>exactλh=>Q4 ih h
theorem P7 {n:Nat}:∀{x0 x1 r},(CE n) x0 x1=some r->BM Tryz.prog 154 [bA 8 (CR x0),si x1] (.agg [si r.1.Op,si r.1.N,BZ r.1.Name,.sl false 4 (r.1.L.map BC)]) [bA 8 (CR r.2),.dead]:=(P6 n)
namespace HL
def J6:ABh (Int×Int):=
some (0,0)
def J5 (L1:Int->Int->Int->Int->Int->ABh (Int×Int)) (b t:Int) (w u v:Int):ABh (Int×Int):=
L1 t w u v (Aq (b+1))
def J4 (L1:Int->Int->Int->Int->Int->ABh (Int×Int)) (j l:Int) (o b:Int) (c:List EV) (p:Int) (a:EV) (q:Bool):ABh (Int×Int):=
if q then
some (2,a.E8)
else
if a.Kind==5 then
if 0≤b/\b.toNat≤c.length then
(Cr (c.take b.toNat) a.On).bind λs=>
if decide (s<0)then
some (5,a.E8)
else
(gt c s).bind λaa=>
if aa.Kind != 3 then
some (6,a.E8)
else
J5 L1 b j p l o
else none
else
J5 L1 b j p l o
def J3 (L1:Int->Int->Int->Int->Int->ABh (Int×Int)) (b:Int) (c:List EV) (a:EV) (j p:Int) (l o:Int):ABh (Int×Int):=
if decide (j>12)then
J4 L1 j l o b c p a true
else
if decide (p>4)then
J4 L1 j l o b c p a true
else
if decide (l>2)then
J4 L1 j l o b c p a true
else
J4 L1 j l o b c p a (decide (o>2))
def J2 (L1:Int->Int->Int->Int->Int->ABh (Int×Int)) (d e:Int) (f b:Int) (c:List EV) (i:Int) (a:EV) (y:Bool):ABh (Int×Int):=
if y then
J3 L1 b c a d (Aq (i+1)) e f
else
if a.Kind==5 then
J3 L1 b c a d i (Aq (e+1)) f
else
J3 L1 b c a d i e (Aq (f+1))
def J1 (L1:Int->Int->Int->Int->Int->ABh (Int×Int)) (d e:Int) (f b:Int) (c:List EV) (i:Int) (a:EV) (x:Bool):ABh (Int×Int):=
if x then
J3 L1 b c a (Aq (d+(if 1>a.CG then 1 else a.CG))) i e f
else
if a.Kind==3 then
J2 L1 d e f b c i a (a.Kind==3)
else
J2 L1 d e f b c i a (a.Kind==4)
def L1 (c:List EV) (L1:Int->Int->Int->Int->Int->ABh (Int×Int)) (d i:Int) (e f b:Int):ABh (Int×Int):=
if decide (b<(c.length:Int))then
(gt c b).bind λa=>
if 0≤b/\b.toNat≤c.length then
(Cr (c.take b.toNat) a.Name).bind λz=>
if decide (z≥0)then
some (4,a.E8)
else
if decide (a.CG>4)then
some (2,a.E8)
else
if a.Kind==1 then
J1 L1 d e f b c i a (a.Kind==1)
else
J1 L1 d e f b c i a (a.Kind==2)
else none
else
J6
def AZ (c:List EV):Nat->Int->Int->Int->Int->Int->ABh (Int×Int)
|0,_,_,_,_,_=>none
|n+1,d,i,e,f,b=>L1 c (AZ c n) d i e f b
end HL
section
open HL
def HL (c:List EV):ABh (Int×Int):=
AZ c Bg 0 0 0 0 0
theorem XE {c:List EV} {r:Int×Int} (h:HL c=some r):Says Tryz.prog 108 [vS 6 JR c] (.BT [si r.1,si r.2]):=by refine kO mix Tryz.func108 (hn [(9,[24,28,30,33,35,43,70,72,78,83,91])] [(14,3),(22,4)]) ?_;have a1:= @Iv;have l1:=λn1 n2 n3 n4:Nat=>A7 λn τ=>∃(d i e f b:Int),(τ 0=vS 6 JR c/\τ 4=si d/\τ 5=si i/\τ 6=si e/\τ 7=si f/\τ 8=si b)/\AZ c n d i e f b=some r;have c4:=λn1 n2 n3 n4:Nat=>Bu 4 λτ=>∃(j l o b p:Int) (a:EV) (q:Bool),(τ 0=vS 6 JR c/\τ 4=si j/\τ 5=si p/\τ 6=si l/\τ 7=si o/\τ 8=si b/\τ 9=bA 6 (JR a)/\τ 69=sb q)/\J4 (AZ c n1) j l o b c p a q=some r;have c3:=λn1 n2 n3 n4:Nat=>Bu 3 λτ=>∃(b:Int) (a:EV) (j p l o:Int),(τ 0=vS 6 JR c/\τ 4=si j/\τ 5=si p/\τ 6=si l/\τ 7=si o/\τ 8=si b/\τ 9=bA 6 (JR a))/\J3 (AZ c n1) b c a j p l o=some r;unfold HL at h;exact walk
end
namespace CM
def J4 (l:Bool):ABh Bool:=
some l
def J6 (o:Bool):ABh Bool:=
some o
def J9 (b:Int) (c:AD) (q:Bool):ABh Bool:=
if q then
(DJ b (c.AH.length:Int)).bind λx=>
some x
else
some false
def J8 (a b:Int) (c:AD) (p:Bool):ABh Bool:=
if p then
(DJ b (c.AA.length:Int)).bind λw=>
some w
else
if a==22 then
J9 b c (a==22)
else
J9 b c (a==23)
def J7 (a b:Int) (c:AD) (i:Bool):ABh Bool:=
if i then
(DJ b (c.Af.length:Int)).bind λv=>
some v
else
if a==20 then
J8 a b c (a==20)
else
J8 a b c (a==21)
def J5 (a b:Int) (c:AD) (f:Bool):ABh Bool:=
if f then
(DJ b (c.AG.length:Int)).bind λu=>
if u then
(gt c.AG b).bind λz=>
J6 z.RW
else
J6 false
else
if a==16 then
J7 a b c (a==16)
else
if a==17 then
J7 a b c (a==17)
else
if a==18 then
J7 a b c (a==18)
else
J7 a b c (a==19)
def J3 (a b:Int) (c:AD) (e:Bool):ABh Bool:=
if e then
(DJ b (c.AG.length:Int)).bind λt=>
if t then
(gt c.AG b).bind λy=>
J4 (!y.RW)
else
J4 false
else
if a==8 then
J5 a b c (a==8)
else
if a==9 then
J5 a b c (a==9)
else
if a==10 then
J5 a b c (a==10)
else
J5 a b c (a==11)
def J2 (a b:Int) (c:AD) (d:Bool):ABh Bool:=
if d then
(DJ b (c.Cells.length:Int)).bind λs=>
some s
else
if a==6 then
J3 a b c (a==6)
else
J3 a b c (a==7)
def J1 (a b:Int) (c:AD) (j:Bool):ABh Bool:=
if j then
some (b==(-1))
else
if a==3 then
J2 a b c (a==3)
else
J2 a b c (a==4)
end CM
section
open CM
def CM (c:AD) (a b:Int):ABh Bool:=
if a==1 then
J1 a b c (a==1)
else
if a==2 then
J1 a b c (a==2)
else
if a==5 then
J1 a b c (a==5)
else
if a==12 then
J1 a b c (a==12)
else
if a==13 then
J1 a b c (a==13)
else
if a==14 then
J1 a b c (a==14)
else
J1 a b c (a==15)
theorem SV {c:AD} {a b:Int} {r:Bool} (h:CM c a b=some r):Says Tryz.prog 117 [.agg (Az c),si a,si b] (sb r):=by refine kO mix Tryz.func117 (hn [(3,[22,30,35,49,54,67,75,83])] [(3,1),(11,2),(14,3),(17,5),(22,7)]) ?_;have a1:= @Jz;have c7:=λn1 n2 n3 n4:Nat=>Bu 7 λτ=>∃(i:Bool),(τ 2=si b/\τ 3=bA 6 (Az c)/\τ 7=si a/\τ 61=sb i)/\J7 a b c i=some r;have c5:=λn1 n2 n3 n4:Nat=>Bu 5 λτ=>∃(f:Bool),(τ 2=si b/\τ 3=bA 6 (Az c)/\τ 7=si a/\τ 43=sb f)/\J5 a b c f=some r;have c3:=λn1 n2 n3 n4:Nat=>Bu 3 λτ=>∃(e:Bool),(τ 2=si b/\τ 3=bA 6 (Az c)/\τ 7=si a/\τ 26=sb e)/\J3 a b c e=some r;have c2:=λn1 n2 n3 n4:Nat=>Bu 2 λτ=>∃(d:Bool),(τ 2=si b/\τ 3=bA 6 (Az c)/\τ 7=si a/\τ 18=sb d)/\J2 a b c d=some r;have c1:=λn1 n2 n3 n4:Nat=>Bu 1 λτ=>∃(j:Bool),(τ 2=si b/\τ 3=bA 6 (Az c)/\τ 7=si a/\τ 8=sb j)/\J1 a b c j=some r;unfold CM at h;exact walk
end
namespace Hu
def J4 (l:Bool):ABh Bool:=
some l
def J6 (o:Bool):ABh Bool:=
some o
def J9 (b:Int) (c:AD) (q:Bool):ABh Bool:=
if q then
(HA b (c.AH.length:Int)).bind λx=>
some x
else
some false
def J8 (a b:Int) (c:AD) (p:Bool):ABh Bool:=
if p then
(HA b (c.AA.length:Int)).bind λw=>
some w
else
if a==22 then
J9 b c (a==22)
else
J9 b c (a==23)
def J7 (a b:Int) (c:AD) (i:Bool):ABh Bool:=
if i then
(HA b (c.Af.length:Int)).bind λv=>
some v
else
if a==20 then
J8 a b c (a==20)
else
J8 a b c (a==21)
def J5 (a b:Int) (c:AD) (f:Bool):ABh Bool:=
if f then
(HA b (c.AG.length:Int)).bind λu=>
if u then
(gt c.AG b).bind λz=>
J6 z.RW
else
J6 false
else
if a==16 then
J7 a b c (a==16)
else
if a==17 then
J7 a b c (a==17)
else
if a==18 then
J7 a b c (a==18)
else
J7 a b c (a==19)
def J3 (a b:Int) (c:AD) (e:Bool):ABh Bool:=
if e then
(HA b (c.AG.length:Int)).bind λt=>
if t then
(gt c.AG b).bind λy=>
J4 (!y.RW)
else
J4 false
else
if a==8 then
J5 a b c (a==8)
else
if a==9 then
J5 a b c (a==9)
else
if a==10 then
J5 a b c (a==10)
else
J5 a b c (a==11)
def J2 (a b:Int) (c:AD) (d:Bool):ABh Bool:=
if d then
(HA b (c.Cells.length:Int)).bind λs=>
some s
else
if a==6 then
J3 a b c (a==6)
else
J3 a b c (a==7)
def J1 (a b:Int) (c:AD) (j:Bool):ABh Bool:=
if j then
some (b==(-1))
else
if a==3 then
J2 a b c (a==3)
else
J2 a b c (a==4)
end Hu
section
open Hu
def Hu (c:AD) (a b:Int):ABh Bool:=
if a==1 then
J1 a b c (a==1)
else
if a==2 then
J1 a b c (a==2)
else
if a==5 then
J1 a b c (a==5)
else
if a==12 then
J1 a b c (a==12)
else
if a==13 then
J1 a b c (a==13)
else
if a==14 then
J1 a b c (a==14)
else
J1 a b c (a==15)
theorem XO {c:AD} {a b:Int} {r:Bool} (h:Hu c a b=some r):Says Tryz.prog 138 [.agg (Az c),si a,si b] (sb r):=by refine kO mix Tryz.func138 (hn [(3,[22,30,35,49,54,67,75,83])] [(3,1),(11,2),(14,3),(17,5),(22,7)]) ?_;have a1:= @UX;have c7:=λn1 n2 n3 n4:Nat=>Bu 7 λτ=>∃(i:Bool),(τ 2=si b/\τ 3=bA 6 (Az c)/\τ 7=si a/\τ 61=sb i)/\J7 a b c i=some r;have c5:=λn1 n2 n3 n4:Nat=>Bu 5 λτ=>∃(f:Bool),(τ 2=si b/\τ 3=bA 6 (Az c)/\τ 7=si a/\τ 43=sb f)/\J5 a b c f=some r;have c3:=λn1 n2 n3 n4:Nat=>Bu 3 λτ=>∃(e:Bool),(τ 2=si b/\τ 3=bA 6 (Az c)/\τ 7=si a/\τ 26=sb e)/\J3 a b c e=some r;have c2:=λn1 n2 n3 n4:Nat=>Bu 2 λτ=>∃(d:Bool),(τ 2=si b/\τ 3=bA 6 (Az c)/\τ 7=si a/\τ 18=sb d)/\J2 a b c d=some r;have c1:=λn1 n2 n3 n4:Nat=>Bu 1 λτ=>∃(j:Bool),(τ 2=si b/\τ 3=bA 6 (Az c)/\τ 7=si a/\τ 8=sb j)/\J1 a b c j=some r;unfold Hu at h;exact walk
end
namespace CB
def J5:ABh (Int×Int):=
some (0,0)
def J4 (L2:Int->ABh (Int×Int)) (c:Int):ABh (Int×Int):=
L2 (Aq (c+1))
def J3 (L3:Int->ABh (Int×Int)) (d:Int) (b:Cj) (l:Bool):ABh (Int×Int):=
if l then
some (4,b.E8)
else
L3 (Aq (d+1))
def L3 (L2:Int->ABh (Int×Int)) (c:Int) (a:AU) (b:Cj) (L3:Int->ABh (Int×Int)) (d:Int):ABh (Int×Int):=
if decide (d<(b.Fh.length:Int))then
(gt b.Fh d).bind λi=>
(Cr a.Decls i).bind λq=>
if decide (q≥0)then
J3 L3 d b true
else
(Cp a.AA i).bind λs=>
if decide (s≥0)then
J3 L3 d b true
else
if 0≤d/\d.toNat≤b.Fh.length then
(CN (b.Fh.take d.toNat) i).bind λt=>
J3 L3 d b (decide (t≥0))
else none
else
J4 L2 c
def GL (L2:Int->ABh (Int×Int)) (c:Int) (a:AU) (b:Cj):Nat->Int->ABh (Int×Int)
|0,_=>none
|n+1,d=>L3 L2 c a b (GL L2 c a b n) d
def L2 (a:AU) (L2:Int->ABh (Int×Int)) (c:Int):ABh (Int×Int):=
if decide (c<(a.AA.length:Int))then
(gt a.AA c).bind λb=>
if decide ((b.Fh.length:Int)>4)then
some (2,b.E8)
else
GL L2 c a b Bg 0
else
J5
def DI (a:AU):Nat->Int->ABh (Int×Int)
|0,_=>none
|n+1,c=>L2 a (DI a n) c
def J2 (a:AU):ABh (Int×Int):=
DI a Bg 0
def J1 (L1:Int->ABh (Int×Int)) (e:Int) (f:Cj) (j:Bool):ABh (Int×Int):=
if j then
some (4,f.E8)
else
L1 (Aq (e+1))
def L1 (a:AU) (L1:Int->ABh (Int×Int)) (e:Int):ABh (Int×Int):=
if decide (e<(a.AA.length:Int))then
(gt a.AA e).bind λf=>
(Cr a.Decls f.Name).bind λo=>
if decide (o≥0)then
J1 L1 e f true
else
if 0≤e/\e.toNat≤a.AA.length then
(Cp (a.AA.take e.toNat) f.Name).bind λp=>
J1 L1 e f (decide (p≥0))
else none
else
J2 a
def AZ (a:AU):Nat->Int->ABh (Int×Int)
|0,_=>none
|n+1,e=>L1 a (AZ a n) e
end CB
section
open CB
def CB (a:AU):ABh (Int×Int):=
AZ a Bg 0
theorem Tv {a:AU} {r:Int×Int} (h:CB a=some r):Says Tryz.prog 109 [.agg (CL a)] (.BT [si r.1,si r.2]):=by refine kO mix Tryz.func109 (hn [(1,[11,17,22,29,41,47,70,76]),(5,[24,33,38]),(7,[52,56,59,65,83,91])]) ?_;have a1:= @Iv;have a2:= @Jb;have a3:= @HK;have l2:=λn1 n2 n3 n4:Nat=>A7 λn τ=>∃(c:Int),(τ 1=bA 2 (CL a)/\τ 6=si c)/\DI a n c=some r;have l3:=λn1 n2 n3 n4:Nat=>A7 λn τ=>∃(c:Int) (b:Cj) (d:Int),(τ 1=bA 2 (CL a)/\τ 6=si c/\τ 7=bA 4 (IE b)/\τ 8=si d)/\GL (DI a n2) c a b n d=some r;have l1:=λn1 n2 n3 n4:Nat=>A7 λn τ=>∃(e:Int),(τ 1=bA 2 (CL a)/\τ 4=si e)/\AZ a n e=some r;unfold CB at h;exact walk
end
namespace EH
def J5:ABh Bool:=
some true
def L3 (a b:AQ) (L3:Int->ABh Bool) (e:Int):ABh Bool:=
if decide (e<(a.AA.length:Int))then
(gt a.AA e).bind λi=>
(gt b.AA e).bind λj=>
if !(i.Status==j.Status&&(i.DC==j.DC&&(i.Atomic==j.Atomic)))then
some false
else
L3 (Aq (e+1))
else
J5
def GL (a b:AQ):Nat->Int->ABh Bool
|0,_=>none
|n+1,e=>L3 a b (GL a b n) e
def J4 (a b:AQ):ABh Bool:=
GL a b Bg 0
def L2 (a b:AQ) (L2:Int->ABh Bool) (d:Int):ABh Bool:=
if decide (d<(a.B4.length:Int))then
(gt a.B4 d).bind λs=>
(gt b.B4 d).bind λt=>
if !(s==t)then
some false
else
L2 (Aq (d+1))
else
J4 a b
def DI (a b:AQ):Nat->Int->ABh Bool
|0,_=>none
|n+1,d=>L2 a b (DI a b n) d
def J3 (a b:AQ):ABh Bool:=
DI a b Bg 0
def J2 (L1:Int->ABh Bool) (c:Int) (p:Bool):ABh Bool:=
if p then
some false
else
L1 (Aq (c+1))
def L1 (a b:AQ) (L1:Int->ABh Bool) (c:Int):ABh Bool:=
if decide (c<(a.AG.length:Int))then
(gt a.AG c).bind λl=>
(gt b.AG c).bind λo=>
if l.CS != o.CS then
J2 L1 c true
else
(EK l.Aj o.Aj).bind λq=>
J2 L1 c (!q)
else
J3 a b
def AZ (a b:AQ):Nat->Int->ABh Bool
|0,_=>none
|n+1,c=>L1 a b (AZ a b n) c
def J1 (a b:AQ) (f:Bool):ABh Bool:=
if f then
some false
else
AZ a b Bg 0
end EH
section
open EH
def EH (a b:AQ):ABh Bool:=
if a.Tx != b.Tx then
J1 a b true
else
if(a.AG.length:Int) != (b.AG.length:Int)then
J1 a b true
else
if(a.B4.length:Int) != (b.B4.length:Int)then
J1 a b true
else
J1 a b ((a.AA.length:Int) != (b.AA.length:Int))
theorem YM {a b:AQ} {r:Bool} (h:EH a b=some r):Says Tryz.prog 15 [.agg (FK a),.agg (FK b)] (sb r):=by refine kO mix Tryz.func15 (hn [(2,[8,14,23,32,41,47,61,77,83,95,101]),(3,[10,17,26,35,53,67,88,106])] [(2,1)]) ?_;have a1:= @Ly;have l3:=λn1 n2 n3 n4:Nat=>A7 λn τ=>∃(e:Int),(τ 2=bA 4 (FK a)/\τ 3=bA 4 (FK b)/\τ 7=si e)/\GL a b n e=some r;have l2:=λn1 n2 n3 n4:Nat=>A7 λn τ=>∃(d:Int),(τ 2=bA 4 (FK a)/\τ 3=bA 4 (FK b)/\τ 6=si d)/\DI a b n d=some r;have l1:=λn1 n2 n3 n4:Nat=>A7 λn τ=>∃(c:Int),(τ 2=bA 4 (FK a)/\τ 3=bA 4 (FK b)/\τ 5=si c)/\AZ a b n c=some r;have c1:=λn1 n2 n3 n4:Nat=>Bu 1 λτ=>∃(f:Bool),(τ 2=bA 4 (FK a)/\τ 3=bA 4 (FK b)/\τ 39=sb f)/\J1 a b f=some r;unfold EH at h;exact walk
end
def Fm (R100:A8->BA->Int->ABh A8) (c:A8) (a:BA) (b:Int):ABh A8:=
if a.Op==1 then
(A5 c (Ac.mk 1 b 0 0 a.N 0)).bind λi=>
some i
else
if a.Op==2 then
(CN c.locals a.Name).bind λe=>
if decide (e≥0)then
(A5 c (Ac.mk 2 b e 0 0 0)).bind λo=>
some o
else
(Bi c.w a.Name).bind λp=>
(A5 c (Ac.mk 6 b p 0 0 0)).bind λq=>
some q
else
if a.Op==3 then
(gt a.L 0).bind λv=>
(R100 c v b).bind λd=>
(Bi d.w a.Name).bind λf=>
(gt d.w.Cells f).bind λw=>
(A5 d (Ac.mk 7 b f b w.CG 0)).bind λs=>
some s
else
if(a.L.length:Int)==1 then
(gt a.L 0).bind λx=>
(R100 c x b).bind λt=>
(A5 t (Ac.mk 3 b b 0 a.Op 0)).bind λu=>
some u
else
(gt a.L 0).bind λy=>
(R100 c y b).bind λj=>
(gt a.L 1).bind λz=>
(R100 j z (Aq (b+1))).bind λl=>
(A5 l (Ac.mk 4 b b (Aq (b+1)) a.Op 0)).bind λaa=>
some aa
theorem RG {R100:A8->BA->Int->ABh A8} (H100:∀{x0 x1 x2 r},R100 x0 x1 x2=some r->BM Tryz.prog 153 [bA 10 (EJ x0),.agg [si x1.Op,si x1.N,BZ x1.Name,vS 4 BC x1.L],si x2] (.BT []) [bA 10 (EJ r),.dead,.dead]) {c:A8} {a:BA} {b:Int} {r:A8} (h:Fm R100 c a b=some r):BM Tryz.prog 153 [bA 10 (EJ c),.agg [si a.Op,si a.N,BZ a.Name,vS 4 BC a.L],si b] (.BT []) [bA 10 (EJ r),.dead,.dead]:=by refine kL mix Tryz.func153 (hn [(0,[8,15,23,36,46,47,48,49,55,60,62,63,64,65,75,82,83,84,85,89,93,94,95,96,97,99,100,109,116]),(4,[9,16,28,33,38,43,50,66,72,76,86,105,110,119])]) ?_;have a1:= @GO;have a2:= @HK;have a3:= @Ny;have a4:= @H100;unfold Fm at h;exact walk
def Mr:Nat->(A8->BA->Int->ABh A8)
|0=>(λ_ _ _=>none)
|n+1=>Fm ((Mr n))
def Ch (n:Nat):A8->BA->Int->ABh A8:=(Mr n)
theorem QJ (n:Nat):(∀{x0 x1 x2 r},(Ch n) x0 x1 x2=some r->BM Tryz.prog 153 [bA 10 (EJ x0),.agg [si x1.Op,si x1.N,BZ x1.Name,.sl false 4 (x1.L.map BC)],si x2] (.BT []) [bA 10 (EJ r),.dead,.dead]):=by
  induction n with
  |zero=>exactλh=>Dm h
  |succ n ih=>exactλh=>RG ih h
theorem Ig {n:Nat}:∀{x0 x1 x2 r},(Ch n) x0 x1 x2=some r->BM Tryz.prog 153 [bA 10 (EJ x0),.agg [si x1.Op,si x1.N,BZ x1.Name,.sl false 4 (x1.L.map BC)],si x2] (.BT []) [bA 10 (EJ r),.dead,.dead]:=(QJ n)
namespace DN
def J5:ABh Bool:=
some true
def J4 (L1:Int->ABh Bool) (b:Int) (l:Bool):ABh Bool:=
if l then
some false
else
L1 (Aq (b+1))
def J3 (L1:Int->ABh Bool) (b:Int) (c:Bool) (a:AP) (e:Bool):ABh Bool:=
if e then
some false
else
if c then
(gt a.Init.Sync.AA b).bind λq=>
(Ko q.DC (a.World.Af.length:Int)).bind λo=>
if !o then
J4 L1 b true
else
J4 L1 b false
else
(gt a.Init.Sync.AA b).bind λs=>
J4 L1 b (s.DC != 0)
def J2 (L1:Int->ABh Bool) (d:Bool) (b:Int) (a:AP) (c:Bool):ABh Bool:=
(gt a.Init.Sync.AA b).bind λf=>
if decide (f.Status<0)then
J3 L1 b c a true
else
if decide (f.Status>5)then
J3 L1 b c a true
else
(gt a.Init.Count b).bind λp=>
if !(d==(p==0))then
J3 L1 b c a true
else
if b==0 then
J3 L1 b c a (f.Status==0)
else
J3 L1 b c a false
def J1 (L1:Int->ABh Bool) (b:Int) (a:AP) (d:Bool):ABh Bool:=
(gt a.Init.Sync.AA b).bind λj=>
if j.Status==3 then
J2 L1 d b a true
else
J2 L1 d b a (j.Status==4)
def L1 (a:AP) (L1:Int->ABh Bool) (b:Int):ABh Bool:=
if decide (b<(a.Init.Sync.AA.length:Int))then
(gt a.Init.Sync.AA b).bind λi=>
if i.Status==0 then
J1 L1 b a true
else
J1 L1 b a (i.Status==1)
else
J5
def AZ (a:AP):Nat->Int->ABh Bool
|0,_=>none
|n+1,b=>L1 a (AZ a n) b
end DN
section
open DN
def DN (a:AP):ABh Bool:=
AZ a Bg 0
theorem S8 {a:AP} {r:Bool} (h:DN a=some r):Says Tryz.prog 50 [.agg (BW a)] (sb r):=by refine kO mix Tryz.func50 (hn [(1,[7,8,9,61,62,89,90])] [(7,1),(8,2),(10,3)]) ?_;have a1:= @UY;have l1:=λn1 n2 n3 n4:Nat=>A7 λn τ=>∃(b:Int),(τ 1=bA 15 (BW a)/\τ 3=vS 3 Ax a.Init.Sync.AA/\τ 4=si b)/\AZ a n b=some r;have c3:=λn1 n2 n3 n4:Nat=>Bu 3 λτ=>∃(b:Int) (c e:Bool),(τ 1=bA 15 (BW a)/\τ 3=vS 3 Ax a.Init.Sync.AA/\τ 4=si b/\τ 6=sb c/\τ 81=sb e)/\J3 (AZ a n1) b c a e=some r;have c2:=λn1 n2 n3 n4:Nat=>Bu 2 λτ=>∃(d:Bool) (b:Int) (c:Bool),(τ 1=bA 15 (BW a)/\τ 3=vS 3 Ax a.Init.Sync.AA/\τ 4=si b/\τ 5=sb d/\τ 6=sb c)/\J2 (AZ a n1) d b a c=some r;have c1:=λn1 n2 n3 n4:Nat=>Bu 1 λτ=>∃(b:Int) (d:Bool),(τ 1=bA 15 (BW a)/\τ 3=vS 3 Ax a.Init.Sync.AA/\τ 4=si b/\τ 5=sb d)/\J1 (AZ a n1) b a d=some r;unfold DN at h;exact walk
end
namespace C9
def J4 (f:Int) (o:List AF):ABh (Int×(List AF)):=
some (f,o)
def J3 (a:List AF) (f:Int):ABh (Int×(List AF)):=
if decide (f≥0)then
(gt a f).bind λj=>
J4 f (a.set f.toNat (AF.mk 4 j.DC j.Atomic))
else
J4 f a
def J2 (L1:Int->Int->ABh (Int×(List AF))) (b l:Int):ABh (Int×(List AF)):=
L1 l (Aq (b+1))
def J1 (L1:Int->Int->ABh (Int×(List AF))) (c b:Int) (p:Bool):ABh (Int×(List AF)):=
if p then
J2 L1 b b
else
J2 L1 b c
def L1 (d:Int) (a:List AF) (e:Int) (L1:Int->Int->ABh (Int×(List AF))) (c b:Int):ABh (Int×(List AF)):=
if decide (b<(a.length:Int))then
(gt a b).bind λs=>
(FN s d).bind λq=>
if q then
if decide (c<0)then
J1 L1 c b true
else
J1 L1 c b (b==e)
else
J1 L1 c b false
else
J3 a c
def AZ (d:Int) (a:List AF) (e:Int):Nat->Int->Int->ABh (Int×(List AF))
|0,_,_=>none
|n+1,c,b=>L1 d a e (AZ d a e n) c b
end C9
section
open C9
def C9 (i:Int) (a:List AF) (d e:Int):ABh (Int×(List AF)):=
AZ d a e Bg (-1) 0
theorem Tq {i:Int} {a:List AF} {d e:Int} {r:Int×(List AF)} (h:C9 i a d e=some r):BM Tryz.prog 124 [.agg [.dead,si i,.dead,vO 3 Ax a],si d,si e] (si r.1) [.agg [.dead,si i,.dead,vO 3 Ax r.2],.dead,.dead]:=by refine kL mix Tryz.func124 (hn [(0,[3,10,11,16,34,35,37,38])] (E:=[(0,(.YS [.bxv ⟨3,[],[0]⟩ 4 0,.o (iK 6 0)]))])) ?_;have a1:= @Ns;have l1:=λn1 n2 n3 n4:Nat=>A7 λn τ=>∃(c b:Int) (us1:List Value),(τ 0= .agg [.dead,si i,.dead,vO 3 Ax a]/\τ 1=si d/\τ 2=si e/\τ 3= .vb 0 0 us1/\τ 7=si c/\τ 11= .al 0 [(0,3,0)]/\τ 12=si (a.length:Int)/\τ 13=si b)/\AZ d a e n c b=some r;unfold C9 at h;exact walk
end
end Go.Abs
