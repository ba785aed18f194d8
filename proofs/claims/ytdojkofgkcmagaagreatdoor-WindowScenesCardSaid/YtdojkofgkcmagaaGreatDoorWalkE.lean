/- Typed programs of Go functions, and that the functions do what these say. -/
import Derived.Test.YtdojkofgkcmagaaGreatDoorWalkA
import Derived.Test.YtdojkofgkcmagaaGreatDoorWalkB
set_option linter.unusedSimpArgs false
set_option linter.unusedVariables false
namespace Go.Abs
open Go.Proofs
set_option maxRecDepth 1000000
set_option maxHeartbeats 4000000
def f142c:Y3:=(.seq (.ic (Rc 0 [.B 2 false]))
(.seq (.ic (vY (Rc 5 [.C 0,.o (.Zc (.t 5)),.P .lss 6 1,.C 7,.G 8 false,.C 0,.o (.Zc (.t 9)),.P .gtr 10 12,.e,.V 8 11,.C 12,.G 13 false,.C 0,.c 190 [14] 0,.e,.V 13 15])
(Ci 16 (Rb 0 [.B 2 false]))))
(iM (.seq (.ZQ [.x (.o ⟨some ⟨17,[],[]⟩,.cp (.t 0),none⟩),.rng ⟨18,[],[]⟩ (.t 17)])
(.block 0 (.loop (.seq (.ZQ [.nxt ⟨19,[],[]⟩ (.t 18),.x (.o ⟨some ⟨20,[],[]⟩,.ext (.t 19) 0,none⟩)])
(.ic (Sq (cX 20 0)
(Bk 1 (Ra 21 [.o (.ext (.t 19) 1),.o (.ext (.t 19) 2),.M 3 21,.M 4 22]
(Bk 2 (vY (Rc 24 [.C 4,.o (.bin .leq (.c (.sc (.int .i32 97))) (.t 24)),.C 25,.G 26 true,.C 4,.o (.bin .leq (.t 27) (.c (.sc (.int .i32 122)))),.e,.W 26 28,.C 29,.G 30 false,.C 4,.o (.bin .leq (.c (.sc (.int .i32 65))) (.t 31)),.C 32,.G 33 true,.C 4,.o (.bin .leq (.t 34) (.c (.sc (.int .i32 90)))),.G 30 false,.o (.pick (.t 33) (.t 35) (.c (sb false))),.e,.V 30 36,.M 23 37])
(Cn 23 .skip (vY (Rc 39 [.C 3,.P .gtr 39 0,.C 40,.G 41 true,.C 4,.o (.bin .eql (.t 42) (.c (.sc (.int .i32 95)))),.C 43,.G 44 false,.C 4,.o (.bin .leq (.c (.sc (.int .i32 48))) (.t 45)),.C 46,.G 47 true,.C 4,.o (.bin .leq (.t 48) (.c (.sc (.int .i32 57)))),.G 44 false,.o (.pick (.t 47) (.t 49) (.c (sb false))),.G 41 true,.o (.pick (.t 44) (.c (sb true)) (.t 50)),.e,.W 41 51,.M 38 52])
(Cn 38 .skip (Rb 0 [.B 2 false]))))))))))))))
(.ic (Rb 0 [.B 2 true])))))
def f142g:Gi:=⟨[]⟩
def f142r:List RV:=[.tmp 2]
def f142:FIM:=⟨f142c,f142g,f142r⟩
theorem chk142:rT Tryz.prog Tryz.f142 f142=true:=by kernel_rfl
namespace Cx
def J4:ABd Bool:=
some true
def J3 (L1:Nat->ABd Bool) (pos:Nat) (s:ABe) (t38v:Bool):ABd Bool:=
if t38v then
L1 (pos+(Utf8.decode s pos).2)
else
some false
def J2 (L1:Nat->ABd Bool) (pos:Nat) (s:ABe) (t23v:Bool):ABd Bool:=
if t23v then
L1 (pos+(Utf8.decode s pos).2)
else
if decide ((pos:Int)>0)then
if((Utf8.decode s pos).1:Int)==95 then
J3 L1 pos s true
else
if decide (48≤((Utf8.decode s pos).1:Int))then
J3 L1 pos s (decide (((Utf8.decode s pos).1:Int)≤57))
else
J3 L1 pos s false
else
J3 L1 pos s false
def L1 (s:ABe) (L1:Nat->ABd Bool) (pos:Nat):ABd Bool:=
if decide (pos<s.size)then
if decide (97≤((Utf8.decode s pos).1:Int))then
if decide (((Utf8.decode s pos).1:Int)≤122)then
J2 L1 pos s true
else
if decide (65≤((Utf8.decode s pos).1:Int))then
J2 L1 pos s (decide (((Utf8.decode s pos).1:Int)≤90))
else
J2 L1 pos s false
else
if decide (65≤((Utf8.decode s pos).1:Int))then
J2 L1 pos s (decide (((Utf8.decode s pos).1:Int)≤90))
else
J2 L1 pos s false
else
J4
def Aa (s:ABe):Nat->Nat->ABd Bool
|0,_=>none
|n+1,pos=>L1 s (Aa s n) pos
def J1 (s:ABe) (t16v:Bool):ABd Bool:=
if t16v then
some false
else
Aa s BW 0
end Cx
section
open Cx
def Cx (s:ABe):ABd Bool:=
if decide ((s.size:Int)<1)then
J1 s true
else
if decide ((s.size:Int)>12)then
J1 s true
else
(Dn s).bind λv=>
J1 s v
theorem V4 {s:ABe} {r:Bool} (h:Cx s=some r):Says Tryz.prog 142 [BZ s] (sb r):=by
 refine lN mix Tryz.func142 chk142 (AAO (by kernel_rfl)) rfl ?_;simp only[f142,f142c,f142g,f142r]
 try simp +decide only[go_sem, *]
 refine cutH (λτ=>∃t16v:Bool,(τ 0=BZ s/\τ 16=sb t16v)/\J1 s t16v=some r) λM1 hM1=>⟨?_,?_⟩
 . try simp +decide only[go_sem, *]
   refine gI h (λ_ h=> ?_) λ_ h=> ?_
   . try simp +decide only[go_sem, *]
     refine hM1 _ ⟨_,?_,h⟩;simp +decide only[go_sem, *]
   try simp +decide only[go_sem, *]
   refine gI h (λ_ h=> ?_) λ_ h=> ?_
   . try simp +decide only[go_sem, *]
     refine hM1 _ ⟨_,?_,h⟩;simp +decide only[go_sem, *]
   obtain⟨v,g1,h⟩:=bS h
   try simp +decide only[go_sem, *]
   refine⟨_,Rx g1,?_⟩
   try simp +decide only[go_sem, *]
   refine hM1 _ ⟨_,?_,h⟩;simp +decide only[go_sem, *]
 rintro τ1 ⟨t16v,s1,h⟩
 try simp +decide only[go_sem, *]
 refine cI h (λ_ h=> ?_) λ_ h=> ?_
 . obtain rfl:=AAG h;simp +decide only[go_sem, *]
 try simp +decide only[go_sem, *]
 refine iN (λτ ν=>(True)/\J4=some r) λM4 hM4=>⟨?_,?_⟩
 . try simp +decide only[go_sem, *]
   intro b1 hb1
   try simp +decide only[go_sem, *]
   refine loopMH (λn τ ν=>∃pos:Nat,(τ 18= .sc (.pointer (some ⟨b1,0,none⟩))/\ν b1=some (.it s pos))/\Aa s n pos=some r) ⟨_,?_,h⟩ λn1 τ1 ν1 N1=> ?_
   . simp +decide only[go_sem, *]
   rintro⟨pos,s1,h⟩ hN1;cases n1 with
   |zero=>exact ET h
   |succ n1=>
    rw[Aa]at h;generalize hL1:Aa s n1=L1 at h
    try simp +decide only[go_sem, *]
    rcases bool_sp (decide (pos<s.size))with e4|e4
    . replace h:=ifT e4 h
      try simp +decide only[go_sem,(AAO e4),G4,Fw, *]
      refine cutH (λτ=>∃t23v:Bool,(τ 3=si (pos:Int)/\τ 4= .sc (.int .i32 ((Utf8.decode s pos).1:Int))/\τ 18= .sc (.pointer (some ⟨b1,0,none⟩))/\τ 23=sb t23v)/\J2 L1 pos s t23v=some r) λM2 hM2=>⟨?_,?_⟩
      . try simp +decide only[go_sem,(AAO e4),G4,Fw, *]
        refine gI h (λ_ h=> ?_) λ_ h=> ?_
        . try simp +decide only[go_sem,(AAO e4),G4,Fw, *]
          refine gI h (λ_ h=> ?_) λ_ h=> ?_
          . try simp +decide only[go_sem,(AAO e4),G4,Fw, *]
            refine hM2 _ ⟨_,?_,h⟩;simp +decide only[go_sem,(AAO e4),G4,Fw, *]
          try simp +decide only[go_sem,(AAO e4),G4,Fw, *]
          refine gI h (λ_ h=> ?_) λ_ h=> ?_
          . try simp +decide only[go_sem,(AAO e4),G4,Fw, *]
            refine hM2 _ ⟨_,?_,h⟩;simp +decide only[go_sem,(AAO e4),G4,Fw, *]
          try simp +decide only[go_sem,(AAO e4),G4,Fw, *]
          refine hM2 _ ⟨_,?_,h⟩;simp +decide only[go_sem,(AAO e4),G4,Fw, *]
        try simp +decide only[go_sem,(AAO e4),G4,Fw, *]
        refine gI h (λ_ h=> ?_) λ_ h=> ?_
        . try simp +decide only[go_sem,(AAO e4),G4,Fw, *]
          refine hM2 _ ⟨_,?_,h⟩;simp +decide only[go_sem,(AAO e4),G4,Fw, *]
        try simp +decide only[go_sem,(AAO e4),G4,Fw, *]
        refine hM2 _ ⟨_,?_,h⟩;simp +decide only[go_sem,(AAO e4),G4,Fw, *]
      rintro τ2 ⟨t23v,s2,h⟩
      try simp +decide only[go_sem, *]
      refine cI h (λ_ h=> ?_) λ_ h=> ?_
      . try simp +decide only[go_sem, *]
        refine hN1 n1 (Nat.lt_succ_self _) _ _ ⟨_,?_,hL1.symm▸h⟩;simp +decide only[go_sem, *]
      try simp +decide only[go_sem, *]
      refine cutH (λτ=>∃t38v:Bool,(τ 18= .sc (.pointer (some ⟨b1,0,none⟩))/\τ 38=sb t38v)/\J3 L1 pos s t38v=some r) λM3 hM3=>⟨?_,?_⟩
      . try simp +decide only[go_sem, *]
        refine gI h (λ_ h=> ?_) λ_ h=> ?_
        . try simp +decide only[go_sem, *]
          refine gI h (λ_ h=> ?_) λ_ h=> ?_
          . try simp +decide only[go_sem, *]
            refine hM3 _ ⟨_,?_,h⟩;simp +decide only[go_sem, *]
          try simp +decide only[go_sem, *]
          refine gI h (λ_ h=> ?_) λ_ h=> ?_
          . try simp +decide only[go_sem, *]
            refine hM3 _ ⟨_,?_,h⟩;simp +decide only[go_sem, *]
          try simp +decide only[go_sem, *]
          refine hM3 _ ⟨_,?_,h⟩;simp +decide only[go_sem, *]
        try simp +decide only[go_sem, *]
        refine hM3 _ ⟨_,?_,h⟩;simp +decide only[go_sem, *]
      rintro τ3 ⟨t38v,s3,h⟩
      try simp +decide only[go_sem, *]
      refine cI h (λ_ h=> ?_) λ_ h=> ?_
      . try simp +decide only[go_sem, *]
        refine hN1 n1 (Nat.lt_succ_self _) _ _ ⟨_,?_,hL1.symm▸h⟩;simp +decide only[go_sem, *]
      obtain rfl:=AAG h;simp +decide only[go_sem, *]
    . replace h:=ifF e4 h
      try simp +decide only[go_sem,(of_decide_eq_false e4),G4,Fw, *]
      refine hM4 _ _ ⟨?_,h⟩;simp +decide only[go_sem,(of_decide_eq_false e4),G4,Fw, *]
 rintro τ4 ν4 ⟨_,h⟩;obtain rfl:=AAG h;simp +decide only[go_sem, *]
end
namespace CM
def J5:ABd (Int×Int):=
some (0,0)
def J4 (L2:Int->ABd (Int×Int)) (c:Int):ABd (Int×Int):=
L2 (BA (c+1))
def J3 (L3:Int->ABd (Int×Int)) (d:Int) (b:Cq) (l:Bool):ABd (Int×Int):=
if l then
some (4,b.FK)
else
L3 (BA (d+1))
def L3 (L2:Int->ABd (Int×Int)) (c:Int) (a:AR) (b:Cq) (L3:Int->ABd (Int×Int)) (d:Int):ABd (Int×Int):=
if decide (d<(b.GA.length:Int))then
(gt b.GA d).bind λi=>
(Cv a.Decls i).bind λq=>
if decide (q≥0)then
J3 L3 d b true
else
(Cs a.AA i).bind λs=>
if decide (s≥0)then
J3 L3 d b true
else
if 0≤d/\d.toNat≤b.GA.length then
(CU (b.GA.take d.toNat) i).bind λt=>
J3 L3 d b (decide (t≥0))
else none
else
J4 L2 c
def Gg (L2:Int->ABd (Int×Int)) (c:Int) (a:AR) (b:Cq):Nat->Int->ABd (Int×Int)
|0,_=>none
|n+1,d=>L3 L2 c a b (Gg L2 c a b n) d
def L2 (a:AR) (L2:Int->ABd (Int×Int)) (c:Int):ABd (Int×Int):=
if decide (c<(a.AA.length:Int))then
(gt a.AA c).bind λb=>
if decide ((b.GA.length:Int)>4)then
some (2,b.FK)
else
Gg L2 c a b BW 0
else
J5
def DF (a:AR):Nat->Int->ABd (Int×Int)
|0,_=>none
|n+1,c=>L2 a (DF a n) c
def J2 (a:AR):ABd (Int×Int):=
DF a BW 0
def J1 (L1:Int->ABd (Int×Int)) (e:Int) (f:Cq) (j:Bool):ABd (Int×Int):=
if j then
some (4,f.FK)
else
L1 (BA (e+1))
def L1 (a:AR) (L1:Int->ABd (Int×Int)) (e:Int):ABd (Int×Int):=
if decide (e<(a.AA.length:Int))then
(gt a.AA e).bind λf=>
(Cv a.Decls f.Name).bind λo=>
if decide (o≥0)then
J1 L1 e f true
else
if 0≤e/\e.toNat≤a.AA.length then
(Cs (a.AA.take e.toNat) f.Name).bind λp=>
J1 L1 e f (decide (p≥0))
else none
else
J2 a
def Aa (a:AR):Nat->Int->ABd (Int×Int)
|0,_=>none
|n+1,e=>L1 a (Aa a n) e
end CM
section
open CM
def CM (a:AR):ABd (Int×Int):=
Aa a BW 0
theorem US {a:AR} {r:Int×Int} (h:CM a=some r):Says Tryz.prog 217 [.agg (CS a)] (.BQ [si r.1,si r.2]):=by refine kO mix Tryz.func217 (hn [(1,[11,17,22,29,41,47,70,76]),(5,[24,33,38]),(7,[52,56,59,65,83,91])]) ?_;have a1:= @JF;have a2:= @Jx;have a3:= @HY;have l2:=λn1 n2 n3 n4:Nat=>A3 λn τ=>∃(c:Int),(τ 1=bA 2 (CS a)/\τ 6=si c)/\DF a n c=some r;have l3:=λn1 n2 n3 n4:Nat=>A3 λn τ=>∃(c:Int) (b:Cq) (d:Int),(τ 1=bA 2 (CS a)/\τ 6=si c/\τ 7=bA 4 (Ie b)/\τ 8=si d)/\Gg (DF a n2) c a b n d=some r;have l1:=λn1 n2 n3 n4:Nat=>A3 λn τ=>∃(e:Int),(τ 1=bA 2 (CS a)/\τ 4=si e)/\Aa a n e=some r;unfold CM at h;exact walk
end
def GL (R100:BB->BE->Int->ABd BB) (c:BB) (a:BE) (b:Int):ABd BB:=
if a.Op==1 then
(A6 c (Ad.mk 1 b 0 0 a.N 0)).bind λi=>
some i
else
if a.Op==2 then
(CU c.locals a.Name).bind λe=>
if decide (e≥0)then
(A6 c (Ad.mk 2 b e 0 0 0)).bind λo=>
some o
else
(Bh c.w a.Name).bind λp=>
(A6 c (Ad.mk 6 b p 0 0 0)).bind λq=>
some q
else
if a.Op==3 then
(gt a.L 0).bind λv=>
(R100 c v b).bind λd=>
(Bh d.w a.Name).bind λf=>
(gt d.w.Cells f).bind λw=>
(A6 d (Ad.mk 7 b f b w.Bq 0)).bind λs=>
some s
else
if(a.L.length:Int)==1 then
(gt a.L 0).bind λx=>
(R100 c x b).bind λt=>
(A6 t (Ad.mk 3 b b 0 a.Op 0)).bind λu=>
some u
else
(gt a.L 0).bind λy=>
(R100 c y b).bind λj=>
(gt a.L 1).bind λz=>
(R100 j z (BA (b+1))).bind λl=>
(A6 l (Ad.mk 4 b b (BA (b+1)) a.Op 0)).bind λaa=>
some aa
theorem Rp {R100:BB->BE->Int->ABd BB} (H100:∀{x0 x1 x2 r},R100 x0 x1 x2=some r->BD Tryz.prog 253 [bA 10 (EN x0),.agg [si x1.Op,si x1.N,BZ x1.Name,vS 4 BH x1.L],si x2] (.BQ []) [bA 10 (EN r),.dead,.dead]) {c:BB} {a:BE} {b:Int} {r:BB} (h:GL R100 c a b=some r):BD Tryz.prog 253 [bA 10 (EN c),.agg [si a.Op,si a.N,BZ a.Name,vS 4 BH a.L],si b] (.BQ []) [bA 10 (EN r),.dead,.dead]:=by refine kL mix Tryz.func253 (hn [(0,[8,15,23,36,46,47,48,49,55,60,62,63,64,65,75,82,83,84,85,89,93,94,95,96,97,99,100,109,116]),(4,[9,16,28,33,38,43,50,66,72,76,86,105,110,119])]) ?_;have a1:= @Gl;have a2:= @HY;have a3:= @OX;have a4:= @H100;unfold GL at h;exact walk
def NS:Nat->(BB->BE->Int->ABd BB)
|0=>(λ_ _ _=>none)
|n+1=>GL ((NS n))
def Cp (n:Nat):BB->BE->Int->ABd BB:=(NS n)
theorem Ql (n:Nat):(∀{x0 x1 x2 r},(Cp n) x0 x1 x2=some r->BD Tryz.prog 253 [bA 10 (EN x0),.agg [si x1.Op,si x1.N,BZ x1.Name,.sl false 4 (x1.L.map BH)],si x2] (.BQ []) [bA 10 (EN r),.dead,.dead]):=by
  induction n with
  |zero=>exactλh=>ET h
  |succ n ih=>exactλh=>Rp ih h
theorem I2 {n:Nat}:∀{x0 x1 x2 r},(Cp n) x0 x1 x2=some r->BD Tryz.prog 253 [bA 10 (EN x0),.agg [si x1.Op,si x1.N,BZ x1.Name,.sl false 4 (x1.L.map BH)],si x2] (.BQ []) [bA 10 (EN r),.dead,.dead]:=(Ql n)
namespace Er
def J3:ABd Bool:=
some true
def J2 (L1:Int->ABd Bool) (a:Int):ABd Bool:=
L1 (BA (a+1))
def J1 (L1:Int->ABd Bool) (a:Int) (l:Bool):ABd Bool:=
if l then
some false
else
J2 L1 a
def L1 (c:List Int) (d:Int) (b:AL) (L1:Int->ABd Bool) (a:Int):ABd Bool:=
if decide (a<(c.length:Int))then
(gt c a).bind λf=>
(gt b.Init.Count d).bind λi=>
if decide (f<i)then
J2 L1 a
else
(HQ b d (BA (f-i))).bind λe=>
if decide (e<0)then
J1 L1 a true
else
(gt b.AE e).bind λj=>
if j.Kind != 3 then
J1 L1 a (j.Kind != 23)
else
J1 L1 a false
else
J3
def Aa (c:List Int) (d:Int) (b:AL):Nat->Int->ABd Bool
|0,_=>none
|n+1,a=>L1 c d b (Aa c d b n) a
end Er
section
open Er
def Er (b:AL) (d:Int) (c:List Int):ABd Bool:=
Aa c d b BW 0
theorem YR {b:AL} {d:Int} {c:List Int} {r:Bool} (h:Er b d c=some r):Says Tryz.prog 56 [.agg (B0 b),si d,vS 1 eI c] (sb r):=by refine kO mix Tryz.func56 (hn [(3,[19,20,32,33,43,51])]) ?_;have a1:= @eE;have l1:=λn1 n2 n3 n4:Nat=>A3 λn τ=>∃(a:Int),(τ 1=si d/\τ 2=vS 1 eI c/\τ 3=bA 15 (B0 b)/\τ 7=si a)/\Aa c d b n a=some r;unfold Er at h;exact walk
end
namespace K6
def J1 (e:List AG):ABd (List AG):=
some e
def L1 (a:List AG) (L1:(List AG)->Int->ABd (List AG)) (b:List AG) (c:Int):ABd (List AG):=
if decide (c<(a.length:Int))then
(gt a c).bind λd=>
(slices_Clone_int d.Dw).bind λf=>
(slices_Clone_int d.DM).bind λi=>
if Ap (b.length+1) 88=true then
L1 (b++[(AG.mk d.Thread d.Kind d.Obj d.Value d.Site f i)]) (BA (c+1))
else none
else
J1 b
def Aa (a:List AG):Nat->(List AG)->Int->ABd (List AG)
|0,_,_=>none
|n+1,b,c=>L1 a (Aa a n) b c
end K6
section
open K6
def K6 (a:List AG):ABd (List AG):=
if 0≤0/\0≤(a.length:Int)/\Ap a.length 88=true then
Aa a BW [] 0
else none
theorem l9 {a r:List AG} (h:K6 a=some r):Says Tryz.prog 112 [vS 7 B1 a] (vO 7 Ic r):=by refine kO mix Tryz.func112 (hn [(3,[23,28]),(5,[15,16,18,19,21,22,24])]) ?_;have a1:= @Hs;have l1:=λn1 n2 n3 n4:Nat=>A3 λn τ=>∃(b:List AG) (c:Int),(τ 3=vO 7 Ic b/\τ 9=vS 7 B1 a/\τ 10=si (a.length:Int)/\τ 11=si c)/\Aa a n b c=some r;unfold K6 at h;exact walk
end
namespace Fg
def J1 (d:Al):ABd Al:=
some d
def L1 (a:Al) (L1:Al->Int->ABd Al) (b:Al) (c:Int):ABd Al:=
if decide (c<(a.AA.length:Int))then
(gt a.AA c).bind λi=>
(E6 i).bind λf=>
if Ap (b.AA.length+1) 64=true then
L1 (Al.mk b.Sync b.Cells b.AK (b.AA++[f])) (BA (c+1))
else none
else
J1 b
def Aa (a:Al):Nat->Al->Int->ABd Al
|0,_,_=>none
|n+1,b,c=>L1 a (Aa a n) b c
end Fg
section
open Fg
def Fg (a:Al):ABd Al:=
(GM a.Sync).bind λe=>
if Ap (a.Cells.length) 8=true then
if Ap (a.AK.length) 8=true then
Aa a BW (Al.mk e a.Cells a.AK []) 0
else none
else none
theorem ZU {a r:Al} (h:Fg a=some r):Says Tryz.prog 213 [.agg (KQ a)] (.agg (MI r)):=by refine kO mix Tryz.func213 (hn [(1,[5,9,13,18,26]),(3,[24,25,34,35])]) ?_;have a1:= @Q4;have a2:= @Q3;have l1:=λn1 n2 n3 n4:Nat=>A3 λn τ=>∃(b:Al) (c:Int),(τ 1=bA 7 (KQ a)/\τ 2=bA 7 z4/\τ 3=bA 7 (MI b)/\τ 4=si c)/\Aa a n b c=some r;unfold Fg at h;exact walk
end
namespace CJ
def J3:ABd Bool:=
some false
def J2 (L1:Int->Int->ABd Bool) (b f:Int):ABd Bool:=
L1 f (BA (b+1))
def J1 (L1:Int->Int->ABd Bool) (c:Int) (a:List Ad) (b:Int) (i:Bool):ABd Bool:=
if i then
some false
else
(gt a c).bind λe=>
(Fp e.Op).bind λj=>
if !j then
some true
else
if e.Op==5 then
J2 L1 b e.A
else
J2 L1 b (BA (c+1))
def L1 (a:List Ad) (L1:Int->Int->ABd Bool) (c b:Int):ABd Bool:=
if decide (b≤(a.length:Int))then
if decide (c<0)then
J1 L1 c a b true
else
J1 L1 c a b (decide (c≥(a.length:Int)))
else
J3
def Aa (a:List Ad):Nat->Int->Int->ABd Bool
|0,_,_=>none
|n+1,c,b=>L1 a (Aa a n) c b
end CJ
section
open CJ
def CJ (a:List Ad) (d:Int):ABd Bool:=
Aa a BW d 0
theorem YE {a:List Ad} {d:Int} {r:Bool} (h:CJ a d=some r):Says Tryz.prog 210 [vS 6 EF a,si d] (sb r):=by refine kO mix Tryz.func210 hn ?_;have a1:= @OY;have l1:=λn1 n2 n3 n4:Nat=>A3 λn τ=>∃(c b:Int),(τ 0=vS 6 EF a/\τ 1=si c/\τ 5=si b)/\Aa a n c b=some r;unfold CJ at h;exact walk
end
namespace Ac
def J8:ABd Bool:=
some true
def J7 (L3:Int->ABd Bool) (d:Int) (p:Bool):ABd Bool:=
if p then
some false
else
L3 (BA (d+1))
def L3 (a:AL) (L3:Int->ABd Bool) (d:Int):ABd Bool:=
if decide (d<(a.Init.Sync.AA.length:Int))then
(gt a.Init.Sync.AA d).bind λx=>
if x.Atomic then
(Bv d a).bind λv=>
J7 L3 d (!v)
else
J7 L3 d false
else
J8
def Gg (a:AL):Nat->Int->ABd Bool
|0,_=>none
|n+1,d=>L3 a (Gg a n) d
def J6 (a:AL) (o:Bool):ABd Bool:=
if o then
some false
else
Gg a BW 0
def J5 (a:AL):ABd Bool:=
if a.Init.Sync.Tx != (-1)then
(Bv a.Init.Sync.Tx a).bind λu=>
J6 a (!u)
else
J6 a false
def J4 (L1:Int->ABd Bool) (b:Int):ABd Bool:=
L1 (BA (b+1))
def J3 (L2:Int->Int->ABd Bool) (e i:Int) (q:Bool):ABd Bool:=
if q then
some false
else
L2 i (BA (e+1))
def L2 (L1:Int->ABd Bool) (b:Int) (a:AL) (c:AW) (L2:Int->Int->ABd Bool) (f e:Int):ABd Bool:=
if decide (e<(c.Ak.length:Int))then
(gt c.Ak e).bind λi=>
if decide (i≤f)then
J3 L2 e i true
else
(Bv i a).bind λt=>
J3 L2 e i (!t)
else
J4 L1 b
def DF (L1:Int->ABd Bool) (b:Int) (a:AL) (c:AW):Nat->Int->Int->ABd Bool
|0,_,_=>none
|n+1,f,e=>L2 L1 b a c (DF L1 b a c n) f e
def J2 (L1:Int->ABd Bool) (b:Int) (a:AL) (c:AW) (l:Bool):ABd Bool:=
if l then
some false
else
DF L1 b a c BW (-1) 0
def J1 (L1:Int->ABd Bool) (b:Int) (a:AL) (c:AW) (j:Bool):ABd Bool:=
if j then
some false
else
if decide ((c.Ak.length:Int)>0)then
(gt a.World.AF b).bind λw=>
if !w.RW then
J2 L1 b a c true
else
J2 L1 b a c (c.CG != (-1))
else
J2 L1 b a c false
def L1 (a:AL) (L1:Int->ABd Bool) (b:Int):ABd Bool:=
if decide (b<(a.Init.Sync.AF.length:Int))then
(gt a.Init.Sync.AF b).bind λc=>
if c.CG != (-1)then
(Bv c.CG a).bind λs=>
J1 L1 b a c (!s)
else
J1 L1 b a c false
else
J5 a
def Aa (a:AL):Nat->Int->ABd Bool
|0,_=>none
|n+1,b=>L1 a (Aa a n) b
end Ac
section
open Ac
def Ac (a:AL):ABd Bool:=
Aa a BW 0
theorem OH {a:AL} {r:Bool} (h:Ac a=some r):Says Tryz.prog 47 [.agg (B0 a)] (sb r):=by refine kO mix Tryz.func47 (hn [(1,[3,11,12,13,14,26,37,38,62,70,71,72,76,77,78,79,84,85,86,97]),(5,[22,27,32,46,51]),(10,[94])] [(9,1),(12,2),(24,6)] (E:=[(1,(Rc 11 [.y 1 (.mkf 95 [.t 1]),.w 3,.y 1 (.cp (.t 11))])),(5,(.Yu [.o (LU 22 5 0 5),.o (iL 23 22),.o (iP 24 .neq 23 (-1)),.o (iC 25 24),.o (j1 26 1 (.cp (.t 3)) 25 true),.o (jFr 27 5 0 5 25 true),.o (jL 28 27 25 true),.clo (some ⟨29,[],[]⟩) 95 (.t 26) [.t 28] (some (25,true)),.o (jN 30 29 25 true),.o (iAn 31 25 30)])),(13,(.Yu [.o (iC 58 8),.o (iC 59 6),.o (iO 60 .leq 58 59),.o (iC 61 60),.o (j1 62 1 (.cp (.t 3)) 61 false),.o (jC 63 8 61 false),.clo (some ⟨64,[],[]⟩) 95 (.t 62) [.t 63] (some (61,false)),.o (jN 65 64 61 false),.o (iOr 66 61 65)])),(18,(.Yu [.o (LU 70 1 7 1),.o (LU 71 1 0 70),.o (LU 72 1 1 71),.o (iL 73 72),.o (iP 74 .neq 73 (-1)),.o (iC 75 74),.o (j1 76 1 (.cp (.t 3)) 75 true),.o (jFr 77 1 7 1 75 true),.o (jFr 78 1 0 77 75 true),.o (jFr 79 1 1 78 75 true),.o (jL 80 79 75 true),.clo (some ⟨81,[],[]⟩) 95 (.t 76) [.t 80] (some (75,true)),.o (jN 82 81 75 true),.o (iAn 83 75 82)])),(23,(.Yu [.o (LU 94 10 2 10),.o (iL 95 94),.o (iC 96 95),.o (j1 97 1 (.cp (.t 3)) 96 true),.o (jC 98 9 96 true),.clo (some ⟨99,[],[]⟩) 95 (.t 97) [.t 98] (some (96,true)),.o (jN 100 99 96 true),.o (iAn 101 96 100)]))])) ?_;have a1:= @Mz;have l3:=λn1 n2 n3 n4:Nat=>A3 λn τ=>∃(d:Int),(τ 1=bA 15 (B0 a)/\τ 3= .cl 95 [(1,[])]/\τ 87=vS 3 An a.Init.Sync.AA/\τ 88=si (a.Init.Sync.AA.length:Int)/\τ 89=si d)/\Gg a n d=some r;have l1:=λn1 n2 n3 n4:Nat=>A3 λn τ=>∃(b:Int),(τ 1=bA 15 (B0 a)/\τ 3= .cl 95 [(1,[])]/\τ 15=vS 2 DS a.Init.Sync.AF/\τ 16=si (a.Init.Sync.AF.length:Int)/\τ 17=si b)/\Aa a n b=some r;have l2:=λn1 n2 n3 n4:Nat=>A3 λn τ=>∃(b:Int) (c:AW) (f e:Int),(τ 1=bA 15 (B0 a)/\τ 3= .cl 95 [(1,[])]/\τ 6=si f/\τ 15=vS 2 DS a.Init.Sync.AF/\τ 16=si (a.Init.Sync.AF.length:Int)/\τ 17=si b/\τ 52=vS 1 eI c.Ak/\τ 53=si (c.Ak.length:Int)/\τ 54=si e)/\DF (Aa a n1) b a c n f e=some r;have c6:=λn1 n2 n3 n4:Nat=>Bs 6 λτ=>∃(o:Bool),(τ 1=bA 15 (B0 a)/\τ 3= .cl 95 [(1,[])]/\τ 83=sb o)/\J6 a o=some r;have c2:=λn1 n2 n3 n4:Nat=>Bs 2 λτ=>∃(b:Int) (c:AW) (l:Bool),(τ 1=bA 15 (B0 a)/\τ 3= .cl 95 [(1,[])]/\τ 5=bA 2 (DS c)/\τ 15=vS 2 DS a.Init.Sync.AF/\τ 16=si (a.Init.Sync.AF.length:Int)/\τ 17=si b/\τ 50=sb l)/\J2 (Aa a n1) b a c l=some r;have c1:=λn1 n2 n3 n4:Nat=>Bs 1 λτ=>∃(b:Int) (c:AW) (j:Bool),(τ 1=bA 15 (B0 a)/\τ 3= .cl 95 [(1,[])]/\τ 4=si b/\τ 5=bA 2 (DS c)/\τ 15=vS 2 DS a.Init.Sync.AF/\τ 16=si (a.Init.Sync.AF.length:Int)/\τ 17=si b/\τ 31=sb j)/\J1 (Aa a n1) b a c j=some r;unfold Ac at h;exact walk
end
namespace HZ
def J6:ABd (Int×Int):=
some (0,0)
def J5 (L1:Int->Int->Int->Int->Int->ABd (Int×Int)) (b t:Int) (w u v:Int):ABd (Int×Int):=
L1 t w u v (BA (b+1))
def J4 (L1:Int->Int->Int->Int->Int->ABd (Int×Int)) (j l:Int) (o b:Int) (c:List EX) (p:Int) (a:EX) (q:Bool):ABd (Int×Int):=
if q then
some (2,a.FK)
else
if a.Kind==5 then
if 0≤b/\b.toNat≤c.length then
(Cv (c.take b.toNat) a.On).bind λs=>
if decide (s<0)then
some (5,a.FK)
else
(gt c s).bind λaa=>
if aa.Kind != 3 then
some (6,a.FK)
else
J5 L1 b j p l o
else none
else
J5 L1 b j p l o
def J3 (L1:Int->Int->Int->Int->Int->ABd (Int×Int)) (b:Int) (c:List EX) (a:EX) (j p:Int) (l o:Int):ABd (Int×Int):=
if decide (j>12)then
J4 L1 j l o b c p a true
else
if decide (p>4)then
J4 L1 j l o b c p a true
else
if decide (l>2)then
J4 L1 j l o b c p a true
else
J4 L1 j l o b c p a (decide (o>2))
def J2 (L1:Int->Int->Int->Int->Int->ABd (Int×Int)) (d e:Int) (f b:Int) (c:List EX) (i:Int) (a:EX) (y:Bool):ABd (Int×Int):=
if y then
J3 L1 b c a d (BA (i+1)) e f
else
if a.Kind==5 then
J3 L1 b c a d i (BA (e+1)) f
else
J3 L1 b c a d i e (BA (f+1))
def J1 (L1:Int->Int->Int->Int->Int->ABd (Int×Int)) (d e:Int) (f b:Int) (c:List EX) (i:Int) (a:EX) (x:Bool):ABd (Int×Int):=
if x then
J3 L1 b c a (BA (d+(if 1>a.Bq then 1 else a.Bq))) i e f
else
if a.Kind==3 then
J2 L1 d e f b c i a (a.Kind==3)
else
J2 L1 d e f b c i a (a.Kind==4)
def L1 (c:List EX) (L1:Int->Int->Int->Int->Int->ABd (Int×Int)) (d i:Int) (e f b:Int):ABd (Int×Int):=
if decide (b<(c.length:Int))then
(gt c b).bind λa=>
if 0≤b/\b.toNat≤c.length then
(Cv (c.take b.toNat) a.Name).bind λz=>
if decide (z≥0)then
some (4,a.FK)
else
if decide (a.Bq>4)then
some (2,a.FK)
else
if a.Kind==1 then
J1 L1 d e f b c i a (a.Kind==1)
else
J1 L1 d e f b c i a (a.Kind==2)
else none
else
J6
def Aa (c:List EX):Nat->Int->Int->Int->Int->Int->ABd (Int×Int)
|0,_,_,_,_,_=>none
|n+1,d,i,e,f,b=>L1 c (Aa c n) d i e f b
end HZ
section
open HZ
def HZ (c:List EX):ABd (Int×Int):=
Aa c BW 0 0 0 0 0
theorem X8 {c:List EX} {r:Int×Int} (h:HZ c=some r):Says Tryz.prog 216 [vS 6 Jj c] (.BQ [si r.1,si r.2]):=by refine kO mix Tryz.func216 (hn [(9,[24,28,30,33,35,43,70,72,78,83,91])] [(14,3),(22,4)]) ?_;have a1:= @JF;have l1:=λn1 n2 n3 n4:Nat=>A3 λn τ=>∃(d i e f b:Int),(τ 0=vS 6 Jj c/\τ 4=si d/\τ 5=si i/\τ 6=si e/\τ 7=si f/\τ 8=si b)/\Aa c n d i e f b=some r;have c4:=λn1 n2 n3 n4:Nat=>Bs 4 λτ=>∃(j l o b p:Int) (a:EX) (q:Bool),(τ 0=vS 6 Jj c/\τ 4=si j/\τ 5=si p/\τ 6=si l/\τ 7=si o/\τ 8=si b/\τ 9=bA 6 (Jj a)/\τ 69=sb q)/\J4 (Aa c n1) j l o b c p a q=some r;have c3:=λn1 n2 n3 n4:Nat=>Bs 3 λτ=>∃(b:Int) (a:EX) (j p l o:Int),(τ 0=vS 6 Jj c/\τ 4=si j/\τ 5=si p/\τ 6=si l/\τ 7=si o/\τ 8=si b/\τ 9=bA 6 (Jj a))/\J3 (Aa c n1) b c a j p l o=some r;unfold HZ at h;exact walk
end
namespace DJ
def J4 (f:Int) (o:List AH):ABd (Int×(List AH)):=
some (f,o)
def J3 (a:List AH) (f:Int):ABd (Int×(List AH)):=
if decide (f≥0)then
(gt a f).bind λj=>
J4 f (a.set f.toNat (AH.mk 4 j.Dg j.Atomic))
else
J4 f a
def J2 (L1:Int->Int->ABd (Int×(List AH))) (b l:Int):ABd (Int×(List AH)):=
L1 l (BA (b+1))
def J1 (L1:Int->Int->ABd (Int×(List AH))) (c b:Int) (p:Bool):ABd (Int×(List AH)):=
if p then
J2 L1 b b
else
J2 L1 b c
def L1 (d:Int) (a:List AH) (e:Int) (L1:Int->Int->ABd (Int×(List AH))) (c b:Int):ABd (Int×(List AH)):=
if decide (b<(a.length:Int))then
(gt a b).bind λs=>
(Fk s d).bind λq=>
if q then
if decide (c<0)then
J1 L1 c b true
else
J1 L1 c b (b==e)
else
J1 L1 c b false
else
J3 a c
def Aa (d:Int) (a:List AH) (e:Int):Nat->Int->Int->ABd (Int×(List AH))
|0,_,_=>none
|n+1,c,b=>L1 d a e (Aa d a e n) c b
end DJ
section
open DJ
def DJ (i:Int) (a:List AH) (d e:Int):ABd (Int×(List AH)):=
Aa d a e BW (-1) 0
theorem UN {i:Int} {a:List AH} {d e:Int} {r:Int×(List AH)} (h:DJ i a d e=some r):BD Tryz.prog 196 [.agg [.dead,si i,.dead,vO 3 An a],si d,si e] (si r.1) [.agg [.dead,si i,.dead,vO 3 An r.2],.dead,.dead]:=by refine kL mix Tryz.func196 (hn [(0,[3,10,11,16,34,35,37,38])] (E:=[(0,(.Yu [.bxv ⟨3,[],[0]⟩ 4 0,.o (iK 6 0)]))])) ?_;have a1:= @OS;have l1:=λn1 n2 n3 n4:Nat=>A3 λn τ=>∃(c b:Int) (us1:List Value),(τ 0= .agg [.dead,si i,.dead,vO 3 An a]/\τ 1=si d/\τ 2=si e/\τ 3= .vb 0 0 us1/\τ 7=si c/\τ 11= .al 0 [(0,3,0)]/\τ 12=si (a.length:Int)/\τ 13=si b)/\Aa d a e n c b=some r;unfold DJ at h;exact walk
end
end Go.Abs
