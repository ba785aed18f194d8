/- Typed programs of Go functions, and that the functions do what these say. -/
import Derived.Test.YtdojkofgkcmagaaGreatDoorWalkA
import Derived.Test.YtdojkofgkcmagaaGreatDoorWalkB
set_option linter.defProp false
set_option linter.unusedSimpArgs false
set_option linter.unusedVariables false
namespace Go.Abs
open Go.Proofs Tryz
set_option maxRecDepth 1000000
set_option maxHeartbeats 4000000
def f142c:Y3:=(.seq (.ic (Rc 0 [.B 2 false]))
(.seq (.ic (vY (Rc 5 [.C 0,.o (.Zc (.t 5)),.P .lss 6 1,.C 7,.G 8 false,.C 0,.o (.Zc (.t 9)),.P .gtr 10 12,.e,.V 8 11,.C 12,.G 13 false,.C 0,.c 190 [14] 0,.e,.V 13 15])
(Ci 16 (Rb 0 [.B 2 false]))))
(iM (.seq (.ZQ [.x (.o ⟨some ⟨17,[],[]⟩,.cp (.t 0),none⟩),.rng ⟨18,[],[]⟩ (.t 17)])
(.block 0 (.loop (.seq (.ZQ [.nxt ⟨19,[],[]⟩ (.t 18),.x (.o ⟨some ⟨20,[],[]⟩,.ext (.t 19) 0,none⟩)])
(.ic (Sq (cX 20 0)
(Bk 1 (Ra 21 [.o (.ext (.t 19) 1),.o (.ext (.t 19) 2),.M 3 21,.M 4 22]
(Bk 2 (vY (Rc 24 [.C 4,.o (.bin .leq (.c (.sc (.int .i32 97))) (.t 24)),.C 25,.G 26 true,.C 4,.o (.bin .leq (.t 27) (.c (.sc (.int .i32 122)))),.e,.W 26 28,.C 29,.G 30 false,.C 4,.o (.bin .leq (.c (.sc (.int .i32 65))) (.t 31)),.C 32,.G 33 true,.C 4,.o (.bin .leq (.t 34) (.c (.sc (.int .i32 90)))),.G 30 false,.o (.pick (.t 33) (.t 35) (.c (sb false))),.e,.V 30 36,.M 23 37])
(Cn 23 .skip (vY (Rc 39 [.C 3,.P .gtr 39 0,.C 40,.G 41 true,.C 4,.o (.bin .eql (.t 42) (.c (.sc (.int .i32 95)))),.C 43,.G 44 false,.C 4,.o (.bin .leq (.c (.sc (.int .i32 48))) (.t 45)),.C 46,.G 47 true,.C 4,.o (.bin .leq (.t 48) (.c (.sc (.int .i32 57)))),.G 44 false,.o (.pick (.t 47) (.t 49) (.c (sb false))),.G 41 true,.o (.pick (.t 44) (.c (sb true)) (.t 50)),.e,.W 41 51,.M 38 52])
(Cn 38 .skip (Rb 0 [.B 2 false]))))))))))))))
(.ic (Rb 0 [.B 2 true])))))
def f142g:Gi:=⟨[]⟩
def f142r:List RV:=[.tmp 2]
def f142:FIM:=⟨f142c,f142g,f142r⟩
def chk142:rT prog Tryz.f142 f142=true:=by kernel_rfl
namespace Cx
def J4:=
some true
def J3(L1:iz)(pos:Nat)(s:ABe)(t38v:Bool):=
if t38v then
L1 (pos+(Utf8.decode s pos).2)
else
some false
def J2(L1:iz)(pos:Nat)(s:ABe)(t23v:Bool):=
if t23v then
L1 (pos+(Utf8.decode s pos).2)
else
if decide ((pos:Int)>0)then
if((Utf8.decode s pos).1:Int)==95 then
J3 L1 pos s true
else
if decide (48<=((Utf8.decode s pos).1:Int))then
J3 L1 pos s (decide (((Utf8.decode s pos).1:Int)<=57))
else
J3 L1 pos s false
else
J3 L1 pos s false
def L1(s:ABe)(L1:iz)(pos:Nat):=
if decide (pos<s.size)then
if decide (97<=((Utf8.decode s pos).1:Int))then
if decide (((Utf8.decode s pos).1:Int)<=122)then
J2 L1 pos s true
else
if decide (65<=((Utf8.decode s pos).1:Int))then
J2 L1 pos s (decide (((Utf8.decode s pos).1:Int)<=90))
else
J2 L1 pos s false
else
if decide (65<=((Utf8.decode s pos).1:Int))then
J2 L1 pos s (decide (((Utf8.decode s pos).1:Int)<=90))
else
J2 L1 pos s false
else
J4
def Aa(s:ABe):Nat->Nat->ABd Bool
|0,_=>none
|n+1,pos=>L1 s (Aa s n) pos
def J1(s:ABe)(t16v:Bool):=
if t16v then
some false
else
Aa s BW 0
end Cx
variable{c:ABe}{d:Bool}
section
open Cx
def Cx(s:ABe):=
if decide ((s.size:Int)<1)then
J1 s true
else
if decide ((s.size:Int)>12)then
J1 s true
else
(Dn s).bind λv=>
J1 s v
theorem V4(h:Cx c=some d):Says prog 142 [BZ c] (sb d):=by
 refine lN mix func142 chk142 (AAO (by kernel_rfl)) rfl ?_;simp only[f142,f142c,f142g,f142r]
 try simp +decide only[go_sem, *]
 refine cutH (λi=>∃t16v:Bool,(i 0=BZ c/\i 16=sb t16v)/\J1 c t16v=some d) λM1 hM1=>⟨?_,?_⟩
 . try simp +decide only[go_sem, *]
   refine gI h (λ_ h=> ?_) λ_ h=> ?_
   . try simp +decide only[go_sem, *]
     refine hM1 _ ⟨_,?_,h⟩;simp +decide only[go_sem, *]
   try simp +decide only[go_sem, *]
   refine gI h (λ_ h=> ?_) λ_ h=> ?_
   . try simp +decide only[go_sem, *]
     refine hM1 _ ⟨_,?_,h⟩;simp +decide only[go_sem, *]
   obtain⟨v,g1,h⟩:=bS h
   try simp +decide only[go_sem, *]
   refine⟨_,Rx g1,?_⟩
   try simp +decide only[go_sem, *]
   refine hM1 _ ⟨_,?_,h⟩;simp +decide only[go_sem, *]
 rintro τ1 ⟨t16v,s1,h⟩
 try simp +decide only[go_sem, *]
 refine cI h (λ_ h=> ?_) λ_ h=> ?_
 . obtain rfl:=AAG h;simp +decide only[go_sem, *]
 try simp +decide only[go_sem, *]
 refine iN (λi j=>(True)/\J4=some d) λM4 hM4=>⟨?_,?_⟩
 . try simp +decide only[go_sem, *]
   intro b1 hb1
   try simp +decide only[go_sem, *]
   refine loopMH (λn i j=>∃pos:Nat,(i 18= .sc (.pointer (some ⟨b1,0,none⟩))/\j b1=some (.it c pos))/\Aa c n pos=some d) ⟨_,?_,h⟩ λn1 τ1 ν1 N1=> ?_
   . simp +decide only[go_sem, *]
   rintro⟨pos,s1,h⟩ hN1;cases n1 with
   |zero=>exact ET h
   |succ n1=>
    rw[Aa]at h;generalize hL1:Aa c n1=L1 at h
    try simp +decide only[go_sem, *]
    rcases bool_sp (decide (pos<c.size))with e4|e4
    . replace h:=ifT e4 h
      try simp +decide only[go_sem,(AAO e4),G4,Fw, *]
      refine cutH (λi=>∃t23v:Bool,(i 3=si (pos:Int)/\i 4= .sc (.int .i32 ((Utf8.decode c pos).1:Int))/\i 18= .sc (.pointer (some ⟨b1,0,none⟩))/\i 23=sb t23v)/\J2 L1 pos c t23v=some d) λM2 hM2=>⟨?_,?_⟩
      . try simp +decide only[go_sem,(AAO e4),G4,Fw, *]
        refine gI h (λ_ h=> ?_) λ_ h=> ?_
        . try simp +decide only[go_sem,(AAO e4),G4,Fw, *]
          refine gI h (λ_ h=> ?_) λ_ h=> ?_
          . try simp +decide only[go_sem,(AAO e4),G4,Fw, *]
            refine hM2 _ ⟨_,?_,h⟩;simp +decide only[go_sem,(AAO e4),G4,Fw, *]
          try simp +decide only[go_sem,(AAO e4),G4,Fw, *]
          refine gI h (λ_ h=> ?_) λ_ h=> ?_
          . try simp +decide only[go_sem,(AAO e4),G4,Fw, *]
            refine hM2 _ ⟨_,?_,h⟩;simp +decide only[go_sem,(AAO e4),G4,Fw, *]
          try simp +decide only[go_sem,(AAO e4),G4,Fw, *]
          refine hM2 _ ⟨_,?_,h⟩;simp +decide only[go_sem,(AAO e4),G4,Fw, *]
        try simp +decide only[go_sem,(AAO e4),G4,Fw, *]
        refine gI h (λ_ h=> ?_) λ_ h=> ?_
        . try simp +decide only[go_sem,(AAO e4),G4,Fw, *]
          refine hM2 _ ⟨_,?_,h⟩;simp +decide only[go_sem,(AAO e4),G4,Fw, *]
        try simp +decide only[go_sem,(AAO e4),G4,Fw, *]
        refine hM2 _ ⟨_,?_,h⟩;simp +decide only[go_sem,(AAO e4),G4,Fw, *]
      rintro τ2 ⟨t23v,s2,h⟩
      try simp +decide only[go_sem, *]
      refine cI h (λ_ h=> ?_) λ_ h=> ?_
      . try simp +decide only[go_sem, *]
        refine hN1 n1 (Nat.lt_succ_self _) _ _ ⟨_,?_,hL1.symm▸h⟩;simp +decide only[go_sem, *]
      try simp +decide only[go_sem, *]
      refine cutH (λi=>∃t38v:Bool,(i 18= .sc (.pointer (some ⟨b1,0,none⟩))/\i 38=sb t38v)/\J3 L1 pos c t38v=some d) λM3 hM3=>⟨?_,?_⟩
      . try simp +decide only[go_sem, *]
        refine gI h (λ_ h=> ?_) λ_ h=> ?_
        . try simp +decide only[go_sem, *]
          refine gI h (λ_ h=> ?_) λ_ h=> ?_
          . try simp +decide only[go_sem, *]
            refine hM3 _ ⟨_,?_,h⟩;simp +decide only[go_sem, *]
          try simp +decide only[go_sem, *]
          refine gI h (λ_ h=> ?_) λ_ h=> ?_
          . try simp +decide only[go_sem, *]
            refine hM3 _ ⟨_,?_,h⟩;simp +decide only[go_sem, *]
          try simp +decide only[go_sem, *]
          refine hM3 _ ⟨_,?_,h⟩;simp +decide only[go_sem, *]
        try simp +decide only[go_sem, *]
        refine hM3 _ ⟨_,?_,h⟩;simp +decide only[go_sem, *]
      rintro τ3 ⟨t38v,s3,h⟩
      try simp +decide only[go_sem, *]
      refine cI h (λ_ h=> ?_) λ_ h=> ?_
      . try simp +decide only[go_sem, *]
        refine hN1 n1 (Nat.lt_succ_self _) _ _ ⟨_,?_,hL1.symm▸h⟩;simp +decide only[go_sem, *]
      obtain rfl:=AAG h;simp +decide only[go_sem, *]
    . replace h:=ifF e4 h
      try simp +decide only[go_sem,(of_decide_eq_false e4),G4,Fw, *]
      refine hM4 _ _ ⟨?_,h⟩;simp +decide only[go_sem,(of_decide_eq_false e4),G4,Fw, *]
 rintro τ4 ν4 ⟨_,h⟩;obtain rfl:=AAG h;simp +decide only[go_sem, *]
end
namespace CM
def J5:ii:=
some (0,0)
def J4(L2:ew)(c:Int):=
L2 (BA (c+1))
def J3(L3:ew)(d:Int)(b:Cq)(l:Bool):=
if l then
some (4,b.FK)
else
L3 (BA (d+1))
def L3(L2:ew)(c:Int)(a:AR)(b:Cq)(L3:ew)(d:Int):=
if decide (d<(b.GA.length:Int))then
(gt b.GA d).bind λi=>
(Cv a.Decls i).bind λq=>
if decide (q>=0)then
J3 L3 d b true
else
(Cs a.AA i).bind λs=>
if decide (s>=0)then
J3 L3 d b true
else
if 0<=d/\d.toNat<=b.GA.length then
(CU (b.GA.take d.toNat) i).bind λt=>
J3 L3 d b (decide (t>=0))
else none
else
J4 L2 c
def Gg(L2:ew)(c:Int)(a:AR)(b:Cq):Nat->Int->ABd (Int×Int)
|0,_=>none
|n+1,d=>L3 L2 c a b (Gg L2 c a b n) d
def L2(a:AR)(L2:ew)(c:Int):=
if decide (c<(a.AA.length:Int))then
(gt a.AA c).bind λb=>
if decide ((b.GA.length:Int)>4)then
some (2,b.FK)
else
Gg L2 c a b BW 0
else
J5
def DF(a:AR):Nat->Int->ABd (Int×Int)
|0,_=>none
|n+1,c=>L2 a (DF a n) c
def J2(a:AR):=
DF a BW 0
def J1(L1:ew)(e:Int)(f:Cq)(j:Bool):=
if j then
some (4,f.FK)
else
L1 (BA (e+1))
def L1(a:AR)(L1:ew)(e:Int):=
if decide (e<(a.AA.length:Int))then
(gt a.AA e).bind λf=>
(Cv a.Decls f.Name).bind λo=>
if decide (o>=0)then
J1 L1 e f true
else
if 0<=e/\e.toNat<=a.AA.length then
(Cs (a.AA.take e.toNat) f.Name).bind λp=>
J1 L1 e f (decide (p>=0))
else none
else
J2 a
def Aa(a:AR):Nat->Int->ABd (Int×Int)
|0,_=>none
|n+1,e=>L1 a (Aa a n) e
end CM
section
open CM
def CM(a:AR):=
Aa a BW 0
theorem US{a:AR}{r:Int×Int}(h:CM a=some r):Says prog 217 [.agg (CS a)] (.BQ [si r.1,si r.2]):=by refine kO mix func217 (hn [(1,[11,17,22,29,41,47,70,76]),(5,[24,33,38]),(7,[52,56,59,65,83,91])]) ?_;have a1:= @JF;have a2:= @Jx;have a3:= @HY;have l2:=da λ_ _ _ _ n b=>∃c,(b 1=bA 2 (CS a)/\b 6=si c)/\DF a n c=some r;have l3:=da λ_ e _ _ n f=>∃c b d,(f 1=bA 2 (CS a)/\f 6=si c/\f 7=bA 4 (Ie b)/\f 8=si d)/\Gg (DF a e) c a b n d=some r;have l1:=da λ_ _ _ _ n b=>∃e,(b 1=bA 2 (CS a)/\b 4=si e)/\Aa a n e=some r;unfold CM at h;exact walk
end
def GL(R100:BB->BE->Int->ABd BB)(c:BB)(a:BE)(b:Int):ABd BB:=
if a.Op==1 then
(A6 c (Ad.mk 1 b 0 0 a.N 0)).bind λi=>
some i
else
if a.Op==2 then
(CU c.locals a.Name).bind λe=>
if decide (e>=0)then
(A6 c (Ad.mk 2 b e 0 0 0)).bind λo=>
some o
else
(Bh c.w a.Name).bind λp=>
(A6 c (Ad.mk 6 b p 0 0 0)).bind λq=>
some q
else
if a.Op==3 then
(gt a.L 0).bind λv=>
(R100 c v b).bind λd=>
(Bh d.w a.Name).bind λf=>
(gt d.w.Cells f).bind λw=>
(A6 d (Ad.mk 7 b f b w.Bq 0)).bind λs=>
some s
else
if(a.L.length:Int)==1 then
(gt a.L 0).bind λx=>
(R100 c x b).bind λt=>
(A6 t (Ad.mk 3 b b 0 a.Op 0)).bind λu=>
some u
else
(gt a.L 0).bind λy=>
(R100 c y b).bind λj=>
(gt a.L 1).bind λz=>
(R100 j z (BA (b+1))).bind λl=>
(A6 l (Ad.mk 4 b b (BA (b+1)) a.Op 0)).bind λaa=>
some aa
variable{g:BB->BE->Int->ABd BB}{a b:BB}{f:BE}{e:Int}
theorem Rp(H100:∀{x0 x1 x2 b},g x0 x1 x2=some b->BD prog 253 [bA 10 (EN x0),.agg [si x1.Op,si x1.N,BZ x1.Name,vS 4 BH x1.L],si x2] (.BQ []) [bA 10 (EN b),.dead,.dead])(h:GL g a f e=some b):BD prog 253 [bA 10 (EN a),.agg [si f.Op,si f.N,BZ f.Name,vS 4 BH f.L],si e] (.BQ []) [bA 10 (EN b),.dead,.dead]:=by refine kL mix func253 (hn [(0,[8,15,23,36,46,47,48,49,55,60,62,63,64,65,75,82,83,84,85,89,93,94,95,96,97,99,100,109,116]),(4,[9,16,28,33,38,43,50,66,72,76,86,105,110,119])]) ?_;have a1:= @Gl;have a2:= @HY;have a3:= @OX;have a4:= @H100;unfold GL at h;exact walk
def NS:Nat->(BB->BE->Int->ABd BB)
|0=>(λ_ _ _=>none)
|n+1=>GL ((NS n))
def Cp(n:Nat):BB->BE->Int->ABd BB:=(NS n)
theorem Ql(n:Nat):(∀{x0 x1 x2 r},(Cp n) x0 x1 x2=some r->BD prog 253 [bA 10 (EN x0),.agg [si x1.Op,si x1.N,BZ x1.Name,.sl false 4 (x1.L.map BH)],si x2] (.BQ []) [bA 10 (EN r),.dead,.dead]):=by
  induction n with
  |zero=>exactλh=>ET h
  |succ n ih=>exactλh=>Rp ih h
def I2{n:Nat}:∀{x0 x1 x2 r},(Cp n) x0 x1 x2=some r->BD prog 253 [bA 10 (EN x0),.agg [si x1.Op,si x1.N,BZ x1.Name,.sl false 4 (x1.L.map BH)],si x2] (.BQ []) [bA 10 (EN r),.dead,.dead]:=(Ql n)
namespace Er
def J3:=
some true
def J2(L1:df)(a:Int):=
L1 (BA (a+1))
def J1(L1:df)(a:Int)(l:Bool):=
if l then
some false
else
J2 L1 a
def L1(c:dc)(d:Int)(b:AL)(L1:df)(a:Int):=
if decide (a<(c.length:Int))then
(gt c a).bind λf=>
(gt b.Init.Count d).bind λi=>
if decide (f<i)then
J2 L1 a
else
(HQ b d (BA (f-i))).bind λe=>
if decide (e<0)then
J1 L1 a true
else
(gt b.AE e).bind λj=>
if j.Kind != 3 then
J1 L1 a (j.Kind != 23)
else
J1 L1 a false
else
J3
def Aa(c:dc)(d:Int)(b:AL):Nat->Int->ABd Bool
|0,_=>none
|n+1,a=>L1 c d b (Aa c d b n) a
end Er
section
open Er
def Er(b:AL)(d:Int)(c:dc):=
Aa c d b BW 0
theorem YR{b:AL}{d:Int}{c:dc}{r:Bool}(h:Er b d c=some r):Says prog 56 [.agg (B0 b),si d,vS 1 eI c] (sb r):=by refine kO mix func56 (hn [(3,[19,20,32,33,43,51])]) ?_;have a1:= @eE;have l1:=da λ_ _ _ _ n e=>∃a,(e 1=si d/\e 2=vS 1 eI c/\e 3=bA 15 (B0 b)/\e 7=si a)/\Aa c d b n a=some r;unfold Er at h;exact walk
end
namespace Fg
def J1(d:Al):ABd Al:=
some d
def L1(a:Al)(L1:iq)(b:Al)(c:Int):=
if decide (c<(a.AA.length:Int))then
(gt a.AA c).bind λi=>
(E6 i).bind λf=>
if Ap (b.AA.length+1) 64=true then
L1 (Al.mk b.Sync b.Cells b.AK (b.AA++[f])) (BA (c+1))
else none
else
J1 b
def Aa(a:Al):Nat->Al->Int->ABd Al
|0,_,_=>none
|n+1,b,c=>L1 a (Aa a n) b c
end Fg
section
open Fg
def Fg(a:Al):=
(GM a.Sync).bind λe=>
if Ap (a.Cells.length) 8=true then
if Ap (a.AK.length) 8=true then
Aa a BW (Al.mk e a.Cells a.AK []) 0
else none
else none
theorem ZU{a r:Al}(h:Fg a=some r):Says prog 213 [.agg (KQ a)] (.agg (MI r)):=by refine kO mix func213 (hn [(1,[5,9,13,18,26]),(3,[24,25,34,35])]) ?_;have a1:= @Q4;have a2:= @Q3;have l1:=da λ_ _ _ _ n d=>∃b c,(d 1=bA 7 (KQ a)/\d 2=bA 7 z4/\d 3=bA 7 (MI b)/\d 4=si c)/\Aa a n b c=some r;unfold Fg at h;exact walk
end
namespace CJ
def J3:=
some false
def J2(L1:d7)(b f:Int):=
L1 f (BA (b+1))
def J1(L1:d7)(c:Int)(a:fq)(b:Int)(i:Bool):=
if i then
some false
else
(gt a c).bind λe=>
(Fp e.Op).bind λj=>
if !j then
some true
else
if e.Op==5 then
J2 L1 b e.A
else
J2 L1 b (BA (c+1))
def L1(a:fq)(L1:d7)(c b:Int):=
if decide (b<=(a.length:Int))then
if decide (c<0)then
J1 L1 c a b true
else
J1 L1 c a b (decide (c>=(a.length:Int)))
else
J3
def Aa(a:fq):Nat->Int->Int->ABd Bool
|0,_,_=>none
|n+1,c,b=>L1 a (Aa a n) c b
end CJ
section
open CJ
def CJ(a:fq)(d:Int):=
Aa a BW d 0
theorem YE{a:fq}{d:Int}{r:Bool}(h:CJ a d=some r):Says prog 210 [vS 6 EF a,si d] (sb r):=by refine kO mix func210 hn ?_;have a1:= @OY;have l1:=da λ_ _ _ _ n d=>∃c b,(d 0=vS 6 EF a/\d 1=si c/\d 5=si b)/\Aa a n c b=some r;unfold CJ at h;exact walk
end
namespace Hq
def J2:=
some true
def J1(L1:df)(c:Int)(f:Bool):=
if f then
some false
else
L1 (BA (c+1))
def L1(a b:gb)(L1:df)(c:Int):=
if decide (c<(a.length:Int))then
(gt a c).bind λd=>
(gt b c).bind λe=>
(Ha d.Hb e.Hb).bind λi=>
if !i then
J1 L1 c true
else
(Ha d.M9 e.M9).bind λj=>
J1 L1 c (!j)
else
J2
def Aa(a b:gb):Nat->Int->ABd Bool
|0,_=>none
|n+1,c=>L1 a b (Aa a b n) c
end Hq
section
open Hq
def Hq(a b:gb):=
if(a.length:Int) != (b.length:Int)then
some false
else
Aa a b BW 0
theorem tF{a b:gb}{r:Bool}(h:Hq a b=some r):Says prog 19 [vS 2 MH a,vS 2 MH b] (sb r):=by refine kO mix func19 hn ?_;have a1:= @kV;have l1:=da λ_ _ _ _ n d=>∃c,(d 0=vS 2 MH a/\d 1=vS 2 MH b/\d 12=si (a.length:Int)/\d 13=si c)/\Aa a b n c=some r;unfold Hq at h;exact walk
end
namespace Ac
def J8:=
some true
def J7(L3:df)(d:Int)(p:Bool):=
if p then
some false
else
L3 (BA (d+1))
def L3(a:AL)(L3:df)(d:Int):=
if decide (d<(a.Init.Sync.AA.length:Int))then
(gt a.Init.Sync.AA d).bind λx=>
if x.Atomic then
(Bv d a).bind λv=>
J7 L3 d (!v)
else
J7 L3 d false
else
J8
def Gg(a:AL):Nat->Int->ABd Bool
|0,_=>none
|n+1,d=>L3 a (Gg a n) d
def J6(a:AL)(o:Bool):=
if o then
some false
else
Gg a BW 0
def J5(a:AL):=
if a.Init.Sync.Tx != (-1)then
(Bv a.Init.Sync.Tx a).bind λu=>
J6 a (!u)
else
J6 a false
def J4(L1:df)(b:Int):=
L1 (BA (b+1))
def J3(L2:d7)(e i:Int)(q:Bool):=
if q then
some false
else
L2 i (BA (e+1))
def L2(L1:df)(b:Int)(a:AL)(c:AW)(L2:d7)(f e:Int):=
if decide (e<(c.Ak.length:Int))then
(gt c.Ak e).bind λi=>
if decide (i<=f)then
J3 L2 e i true
else
(Bv i a).bind λt=>
J3 L2 e i (!t)
else
J4 L1 b
def DF(L1:df)(b:Int)(a:AL)(c:AW):Nat->Int->Int->ABd Bool
|0,_,_=>none
|n+1,f,e=>L2 L1 b a c (DF L1 b a c n) f e
def J2(L1:df)(b:Int)(a:AL)(c:AW)(l:Bool):=
if l then
some false
else
DF L1 b a c BW (-1) 0
def J1(L1:df)(b:Int)(a:AL)(c:AW)(j:Bool):=
if j then
some false
else
if decide ((c.Ak.length:Int)>0)then
(gt a.World.AF b).bind λw=>
if !w.RW then
J2 L1 b a c true
else
J2 L1 b a c (c.CG != (-1))
else
J2 L1 b a c false
def L1(a:AL)(L1:df)(b:Int):=
if decide (b<(a.Init.Sync.AF.length:Int))then
(gt a.Init.Sync.AF b).bind λc=>
if c.CG != (-1)then
(Bv c.CG a).bind λs=>
J1 L1 b a c (!s)
else
J1 L1 b a c false
else
J5 a
def Aa(a:AL):Nat->Int->ABd Bool
|0,_=>none
|n+1,b=>L1 a (Aa a n) b
end Ac
section
open Ac
def Ac(a:AL):=
Aa a BW 0
theorem OH{a:AL}{r:Bool}(h:Ac a=some r):Says prog 47 [.agg (B0 a)] (sb r):=by refine kO mix func47 (hn [(1,[3,11,12,13,14,26,37,38,62,70,71,72,76,77,78,79,84,85,86,97]),(5,[22,27,32,46,51]),(10,[94])] [(9,1),(12,2),(24,6)] (E:=[(1,(Rc 11 [.y 1 (.mkf 95 [.t 1]),.w 3,.y 1 (.cp (.t 11))])),(5,(.Yu [.o (LU 22 5 0 5),.o (iL 23 22),.o (iP 24 .neq 23 (-1)),.o (iC 25 24),.o (j1 26 1 (.cp (.t 3)) 25 true),.o (jFr 27 5 0 5 25 true),.o (jL 28 27 25 true),.clo (some ⟨29,[],[]⟩) 95 (.t 26) [.t 28] (some (25,true)),.o (jN 30 29 25 true),.o (iAn 31 25 30)])),(13,(.Yu [.o (iC 58 8),.o (iC 59 6),.o (iO 60 .leq 58 59),.o (iC 61 60),.o (j1 62 1 (.cp (.t 3)) 61 false),.o (jC 63 8 61 false),.clo (some ⟨64,[],[]⟩) 95 (.t 62) [.t 63] (some (61,false)),.o (jN 65 64 61 false),.o (iOr 66 61 65)])),(18,(.Yu [.o (LU 70 1 7 1),.o (LU 71 1 0 70),.o (LU 72 1 1 71),.o (iL 73 72),.o (iP 74 .neq 73 (-1)),.o (iC 75 74),.o (j1 76 1 (.cp (.t 3)) 75 true),.o (jFr 77 1 7 1 75 true),.o (jFr 78 1 0 77 75 true),.o (jFr 79 1 1 78 75 true),.o (jL 80 79 75 true),.clo (some ⟨81,[],[]⟩) 95 (.t 76) [.t 80] (some (75,true)),.o (jN 82 81 75 true),.o (iAn 83 75 82)])),(23,(.Yu [.o (LU 94 10 2 10),.o (iL 95 94),.o (iC 96 95),.o (j1 97 1 (.cp (.t 3)) 96 true),.o (jC 98 9 96 true),.clo (some ⟨99,[],[]⟩) 95 (.t 97) [.t 98] (some (96,true)),.o (jN 100 99 96 true),.o (iAn 101 96 100)]))])) ?_;have a1:= @Mz;have l3:=da λ_ _ _ _ n b=>∃d,(b 1=bA 15 (B0 a)/\b 3= .cl 95 [(1,[])]/\b 87=vS 3 An a.Init.Sync.AA/\b 88=si (a.Init.Sync.AA.length:Int)/\b 89=si d)/\Gg a n d=some r;have l1:=da λ_ _ _ _ n c=>∃b,(c 1=bA 15 (B0 a)/\c 3= .cl 95 [(1,[])]/\c 15=vS 2 DS a.Init.Sync.AF/\c 16=si (a.Init.Sync.AF.length:Int)/\c 17=si b)/\Aa a n b=some r;have l2:=da λd _ _ _ n g=>∃(b:Int)(c:AW)(f e:Int),(g 1=bA 15 (B0 a)/\g 3= .cl 95 [(1,[])]/\g 6=si f/\g 15=vS 2 DS a.Init.Sync.AF/\g 16=si (a.Init.Sync.AF.length:Int)/\g 17=si b/\g 52=vS 1 eI c.Ak/\g 53=si (c.Ak.length:Int)/\g 54=si e)/\DF (Aa a d) b a c n f e=some r;have c6:=db 6 λ_ _ _ _ b=>∃o,(b 1=bA 15 (B0 a)/\b 3= .cl 95 [(1,[])]/\b 83=sb o)/\J6 a o=some r;have c2:=db 2 λd _ _ _ e=>∃b c l,(e 1=bA 15 (B0 a)/\e 3= .cl 95 [(1,[])]/\e 5=bA 2 (DS c)/\e 15=vS 2 DS a.Init.Sync.AF/\e 16=si (a.Init.Sync.AF.length:Int)/\e 17=si b/\e 50=sb l)/\J2 (Aa a d) b a c l=some r;have c1:=db 1 λd _ _ _ e=>∃b c j,(e 1=bA 15 (B0 a)/\e 3= .cl 95 [(1,[])]/\e 4=si b/\e 5=bA 2 (DS c)/\e 15=vS 2 DS a.Init.Sync.AF/\e 16=si (a.Init.Sync.AF.length:Int)/\e 17=si b/\e 31=sb j)/\J1 (Aa a d) b a c j=some r;unfold Ac at h;exact walk
end
namespace HZ
def J6:ii:=
some (0,0)
def J5(L1:d8)(b t:Int)(w u v:Int):=
L1 t w u v (BA (b+1))
def J4(L1:d8)(j l:Int)(o b:Int)(c:gq)(p:Int)(a:EX)(q:Bool):=
if q then
some (2,a.FK)
else
if a.Kind==5 then
if 0<=b/\b.toNat<=c.length then
(Cv (c.take b.toNat) a.On).bind λs=>
if decide (s<0)then
some (5,a.FK)
else
(gt c s).bind λaa=>
if aa.Kind != 3 then
some (6,a.FK)
else
J5 L1 b j p l o
else none
else
J5 L1 b j p l o
def J3(L1:d8)(b:Int)(c:gq)(a:EX)(j p:Int)(l o:Int):=
if decide (j>12)then
J4 L1 j l o b c p a true
else
if decide (p>4)then
J4 L1 j l o b c p a true
else
if decide (l>2)then
J4 L1 j l o b c p a true
else
J4 L1 j l o b c p a (decide (o>2))
def J2(L1:d8)(d e:Int)(f b:Int)(c:gq)(i:Int)(a:EX)(y:Bool):=
if y then
J3 L1 b c a d (BA (i+1)) e f
else
if a.Kind==5 then
J3 L1 b c a d i (BA (e+1)) f
else
J3 L1 b c a d i e (BA (f+1))
def J1(L1:d8)(d e:Int)(f b:Int)(c:gq)(i:Int)(a:EX)(x:Bool):=
if x then
J3 L1 b c a (BA (d+(if 1>a.Bq then 1 else a.Bq))) i e f
else
if a.Kind==3 then
J2 L1 d e f b c i a (a.Kind==3)
else
J2 L1 d e f b c i a (a.Kind==4)
def L1(c:gq)(L1:d8)(d i:Int)(e f b:Int):=
if decide (b<(c.length:Int))then
(gt c b).bind λa=>
if 0<=b/\b.toNat<=c.length then
(Cv (c.take b.toNat) a.Name).bind λz=>
if decide (z>=0)then
some (4,a.FK)
else
if decide (a.Bq>4)then
some (2,a.FK)
else
if a.Kind==1 then
J1 L1 d e f b c i a (a.Kind==1)
else
J1 L1 d e f b c i a (a.Kind==2)
else none
else
J6
def Aa(c:gq):Nat->Int->Int->Int->Int->Int->ABd (Int×Int)
|0,_,_,_,_,_=>none
|n+1,d,i,e,f,b=>L1 c (Aa c n) d i e f b
end HZ
section
open HZ
def HZ(c:gq):=
Aa c BW 0 0 0 0 0
theorem X8{c:gq}{r:Int×Int}(h:HZ c=some r):Says prog 216 [vS 6 Jj c] (.BQ [si r.1,si r.2]):=by refine kO mix func216 (hn [(9,[24,28,30,33,35,43,70,72,78,83,91])] [(14,3),(22,4)]) ?_;have a1:= @JF;have l1:=da λ_ _ _ _ n a=>∃d i e f b,(a 0=vS 6 Jj c/\a 4=si d/\a 5=si i/\a 6=si e/\a 7=si f/\a 8=si b)/\Aa c n d i e f b=some r;have c4:=db 4 λd _ _ _ e=>∃j l o b p a q,(e 0=vS 6 Jj c/\e 4=si j/\e 5=si p/\e 6=si l/\e 7=si o/\e 8=si b/\e 9=bA 6 (Jj a)/\e 69=sb q)/\J4 (Aa c d) j l o b c p a q=some r;have c3:=db 3 λd _ _ _ e=>∃b a j p l o,(e 0=vS 6 Jj c/\e 4=si j/\e 5=si p/\e 6=si l/\e 7=si o/\e 8=si b/\e 9=bA 6 (Jj a))/\J3 (Aa c d) b c a j p l o=some r;unfold HZ at h;exact walk
end
namespace G7
def J4(o q:dc):ABd ((List Int)×(List Int)):=
some (o,q)
def J3(L1:dG)(c:Int)(l p:dc):=
L1 l p (BA (c+1))
def J2(L1:dG)(d:dc)(c:Int)(a:AP)(b:Int)(j:dc):=
(gt a.AF c).bind λw=>
(GP w.Ak b).bind λu=>
if u then
if Ap (d.length+1) 8=true then
J3 L1 c j (d++[c])
else none
else
J3 L1 c j d
def L1(a:AP)(b:Int)(L1:dG)(e d:dc)(c:Int):=
if decide (c<(a.AF.length:Int))then
(gt a.AF c).bind λv=>
if v.CG==b then
if Ap (e.length+1) 8=true then
J2 L1 d c a b (e++[c])
else none
else
J2 L1 d c a b e
else
J4 e d
def Aa(a:AP)(b:Int):Nat->(List Int)->(List Int)->Int->ABd ((List Int)×(List Int))
|0,_,_,_=>none
|n+1,e,d,c=>L1 a b (Aa a b n) e d c
def J1(a:AP)(b:Int)(i:Bool):=
if i then
some ([],[])
else
Aa a b BW [] [] 0
end G7
section
open G7
def G7(f:AD)(a:AP)(b:Int):=
(Ea f a).bind λs=>
if !s then
J1 a b true
else
(HH b (f.AA.length:Int)).bind λt=>
J1 a b (!t)
theorem ref08_Holds_ok{f:AD}{a:AP}{b:Int}{r:(List Int)×(List Int)}(h:G7 f a b=some r):Says prog 60 [.agg (Aq f),.agg (F8 a),si b] (.BQ [vO 1 eI r.1,vO 1 eI r.2]):=by refine kO mix func60 (hn [(3,[17]),(4,[26,32,44]),(8,[23,40,56]),(9,[24,52,57])] [(3,1)]) ?_;have a1:= @Mc;have a2:= @LO;have a3:= @SD;have l1:=da λ_ _ _ _ n f=>∃e d c,(f 2=si b/\f 4=bA 4 (F8 a)/\f 8=vO 1 eI e/\f 9=vO 1 eI d/\f 10=si c)/\Aa a b n e d c=some r;have c1:=db 1 λ_ _ _ _ c=>∃i,(c 2=si b/\c 4=bA 4 (F8 a)/\c 8= .own false 1 []/\c 9= .own false 1 []/\c 22=sb i)/\J1 a b i=some r;unfold G7 at h;exact walk
end
namespace DJ
def J4(f:Int)(o:ep):ABd (Int×(List AH)):=
some (f,o)
def J3(a:ep)(f:Int):=
if decide (f>=0)then
(gt a f).bind λj=>
J4 f (a.set f.toNat (AH.mk 4 j.Dg j.Atomic))
else
J4 f a
def J2(L1:gd)(b l:Int):=
L1 l (BA (b+1))
def J1(L1:gd)(c b:Int)(p:Bool):=
if p then
J2 L1 b b
else
J2 L1 b c
def L1(d:Int)(a:ep)(e:Int)(L1:gd)(c b:Int):=
if decide (b<(a.length:Int))then
(gt a b).bind λs=>
(Fk s d).bind λq=>
if q then
if decide (c<0)then
J1 L1 c b true
else
J1 L1 c b (b==e)
else
J1 L1 c b false
else
J3 a c
def Aa(d:Int)(a:ep)(e:Int):Nat->Int->Int->ABd (Int×(List AH))
|0,_,_=>none
|n+1,c,b=>L1 d a e (Aa d a e n) c b
end DJ
section
open DJ
def DJ(i:Int)(a:ep)(d e:Int):=
Aa d a e BW (-1) 0
theorem UN{i:Int}{a:ep}{d e:Int}{r:Int×(List AH)}(h:DJ i a d e=some r):BD prog 196 [.agg [.dead,si i,.dead,vO 3 An a],si d,si e] (si r.1) [.agg [.dead,si i,.dead,vO 3 An r.2],.dead,.dead]:=by refine kL mix func196 (hn [(0,[3,10,11,16,34,35,37,38])] (E:=[(0,(.Yu [.bxv ⟨3,[],[0]⟩ 4 0,.o (iK 6 0)]))])) ?_;have a1:= @OS;have l1:=da λ_ _ _ _ n f=>∃c b us1,(f 0= .agg [.dead,si i,.dead,vO 3 An a]/\f 1=si d/\f 2=si e/\f 3= .vb 0 0 us1/\f 7=si c/\f 11= .al 0 [(0,3,0)]/\f 12=si (a.length:Int)/\f 13=si b)/\Aa d a e n c b=some r;unfold DJ at h;exact walk
end
namespace DO
def J6(aa:AU)(w:AG):ABd (AG×AU):=
some (w,aa)
def J5(e:AG)(b:du)(p:AU)(a:d4)(z:Bool):=
if z then
(gt b a.1).bind λae=>
(Ek p ae).bind λv=>
J6 v.2 (AG.mk e.Thread e.Kind e.Obj e.Value e.Site e.Dw v.1)
else
J6 p e
def J4(b:du)(a:d4)(p:AU)(e:AG):=
if e.Kind==4 then
J5 e b p a true
else
J5 e b p a (e.Kind==22)
def J3(c:AG)(b:du)(a j l:d4)(y:Bool):=
if y then
(gt b a.1).bind λad=>
(Ek l.2 ad).bind λu=>
J4 b a u.2 (AG.mk c.Thread c.Kind j.1 l.1 c.Site u.1 c.DM)
else
J4 b a l.2 (AG.mk c.Thread c.Kind j.1 l.1 c.Site c.Dw c.DM)
def J2(b:du)(f:AB)(a i:d4)(d:AD)(c:AG):=
(Cw i.2 c.Kind a.1).bind λj=>
(Gf j.2 f c.Kind j.1).bind λl=>
if c.Kind==5 then
J3 c b a j l true
else
if c.Kind==3 then
(gt d.Cells j.1).bind λab=>
J3 c b a j l (decide (ab.Bq>0))
else
if c.Kind==4 then
(gt d.Cells j.1).bind λac=>
J3 c b a j l (decide (ac.Bq>0))
else
J3 c b a j l false
def J1(b:du)(f:AB)(a i:d4)(d:AD)(o:Int)(x:Bool):=
if x then
J2 b f a i d (AG.mk a.1 o 0 0 (-1) [] [])
else
J2 b f a i d (AG.mk a.1 o 0 0 (BA ((BA (a.1*6))+i.1)) [] [])
end DO
section
open DO
def DO(q:AU)(f:AB)(d:AD)(b:du):=
(Ah q 4).bind λa=>
(Me).bind λs=>
(Ah a.2 (s.length:Int)).bind λt=>
(gt s t.1).bind λo=>
(Ah t.2 6).bind λi=>
if o==1 then
J1 b f a i d o true
else
J1 b f a i d o (o==2)
theorem Yc{q:AU}{f:AB}{d:AD}{b:du}{r:AG×AU}(h:DO q f d b=some r):BD prog 134 [bA 2 (FO q),.agg (BI f),.agg (Aq d),vO 1 NC b] (.agg (Ic r.1)) [bA 2 (FO r.2),.dead,.dead,vO 1 NC b]:=by refine kL mix func134 (hn [(0,[12,17,38,44,75,90]),(3,[76,78,79,91,93,94]),(6,[65]),(10,[16,18,21]),(11,[29,33,37,39,43,46,48,51,52,56,60,67,81,82,86,96,97])] [(4,2)] (E:=[(3,(.bY [(0,10,11,25)] [iC 15 9,i1 16 10 (.cp (.t 10)),i1 17 0 (.cp (.t 0)),i1 18 10 (.cp (.t 10)),iZ 19 18,i0 20 (.Uv 132 [] (.t 17) none [.t 19]),xG 21 10 1 16 20,iL 22 21,iC 23 9,iP 24 .mul 23 6,i0 25 .fl,i0 26 (.Uv 132 [] (.t 0) none [.c (si 6)]),iO 27 .add 24 26,i0 28 (.T2 z3 [(0,1,.t 15),(1,1,.t 22),(4,1,.t 27)]),⟨some ⟨11,[29,33,37,39,43,46,48,51,52,56,60,67,81,82,86,96,97],[]⟩,.bx 7 (.c (.agg z3)),none⟩,iS 7 11 28])),(9,(.Yu [.o (i1 75 0 (.cp (.t 0))),.o (i1 76 3 (.cp (.t 3))),.o (iC 77 9),.o (xG 78 3 1 76 77),.o (Zk 79 3 78),.lb (some ⟨80,[],[]⟩) 178 (.t 75) [] (.t 79),.o (LU 81 11 5 11),.o (iS 1 81 80)])),(11,(.Yu [.o (i1 90 0 (.cp (.t 0))),.o (i1 91 3 (.cp (.t 3))),.o (iC 92 9),.o (xG 93 3 1 91 92),.o (Zk 94 3 93),.lb (some ⟨95,[],[]⟩) 178 (.t 90) [] (.t 94),.o (LU 96 11 6 11),.o (iS 1 96 95)]))])) ?_;have a1:= @DD;have a2:= @Yd;have a3:= @Vz;have a4:= @Ye;have a5:= @Zb;have c2:=db 2 λ_ _ _ _ e=>∃(a i:d4)(c:AG),(e 0=bA 2 (FO i.2)/\e 3=vO 1 NC b/\e 5=bA 7 (BI f)/\e 6=bA 6 (Aq d)/\e 8=bA 7 z3/\e 9=si a.1/\e 11=bA 7 (Ic c))/\J2 b f a i d c=some r;unfold DO at h;exact walk
end
namespace AN
def J1(i:Bool):ABd Bool:=
some i
def J2(j:Bool):ABd Bool:=
some j
def J4(l:Bool):ABd Bool:=
some l
def J6(o:Bool):ABd Bool:=
some o
def J9(p:Bool):ABd Bool:=
some p
def Oz(q:Bool):ABd Bool:=
some q
def J8(a:Ad)(b:AD)(c:Bool):=
if c then
(Da a.A (b.AA.length:Int)).bind λz=>
some z
else
if a.Op==26 then
(Da a.A (b.AK.length:Int)).bind λaa=>
some aa
else
if a.Op==27 then
(Da a.B (b.AK.length:Int)).bind λab=>
some ab
else
if a.Op==3 then
if a.N==4 then
J9 true
else
J9 (a.N==5)
else
if a.Op==4 then
if decide (a.N>=6)then
Oz (decide (a.N<=18))
else
Oz false
else
some true
def J7(a:Ad)(b:AD)(f:Bool):=
if f then
(Da a.A (b.Ai.length:Int)).bind λy=>
some y
else
if a.Op==24 then
J8 a b (a.Op==24)
else
J8 a b (a.Op==25)
def J5(a:Ad)(b:AD)(e:Bool):=
if e then
(Da a.A (b.AF.length:Int)).bind λx=>
if x then
(gt b.AF a.A).bind λaf=>
J6 af.RW
else
J6 false
else
if a.Op==21 then
J7 a b (a.Op==21)
else
if a.Op==22 then
J7 a b (a.Op==22)
else
J7 a b (a.Op==23)
def J3(a:Ad)(b:AD)(d:Bool):=
if d then
(Da a.A (b.AF.length:Int)).bind λw=>
if w then
(gt b.AF a.A).bind λae=>
J4 (!ae.RW)
else
J4 false
else
if a.Op==13 then
J5 a b (a.Op==13)
else
if a.Op==14 then
J5 a b (a.Op==14)
else
if a.Op==15 then
J5 a b (a.Op==15)
else
J5 a b (a.Op==16)
end AN
section
open AN
def AN(b:AD)(a:Ad):=
if a.Op==6 then
(Da a.B (b.Cells.length:Int)).bind λs=>
if s then
(gt b.Cells a.B).bind λac=>
J1 (ac.Bq==0)
else
J1 false
else
if a.Op==8 then
(Da a.A (b.Cells.length:Int)).bind λt=>
if t then
(gt b.Cells a.A).bind λad=>
J2 (ad.Bq==0)
else
J2 false
else
if a.Op==7 then
(Eo b a.B a.N).bind λu=>
some u
else
if a.Op==9 then
(Eo b a.A a.N).bind λv=>
some v
else
if a.Op==11 then
J3 a b (a.Op==11)
else
J3 a b (a.Op==12)
theorem UU{b:AD}{a:Ad}{r:Bool}(h:AN b a=some r):Says prog 209 [.agg (Aq b),.agg (EF a)] (sb r):=by refine kO mix func209 (hn [(2,[11,16,29,34,64,69,85,90,104,113,121,129]),(3,[5,9,18,27,36,46,48,54,56,62,71,83,92,102,111,119,127,135,139,145,149])] [(11,3),(14,5),(19,7),(23,8)]) ?_;have a1:= @Pm;have a2:= @YD;have c8:=db 8 λ_ _ _ _ d=>∃c,(d 2=bA 6 (Aq b)/\d 3=bA 6 (EF a)/\d 6=si a.Op/\d 108=sb c)/\J8 a b c=some r;have c7:=db 7 λ_ _ _ _ c=>∃f,(c 2=bA 6 (Aq b)/\c 3=bA 6 (EF a)/\c 6=si a.Op/\c 98=sb f)/\J7 a b f=some r;have c5:=db 5 λ_ _ _ _ c=>∃e,(c 2=bA 6 (Aq b)/\c 3=bA 6 (EF a)/\c 6=si a.Op/\c 78=sb e)/\J5 a b e=some r;have c3:=db 3 λ_ _ _ _ c=>∃d,(c 2=bA 6 (Aq b)/\c 3=bA 6 (EF a)/\c 6=si a.Op/\c 59=sb d)/\J3 a b d=some r;unfold AN at h;exact walk
end
namespace A1
def J8:=
some true
def J7(L3:df)(d:Int)(p:Bool):=
if p then
some false
else
L3 (BA (d+1))
def J6(L3:df)(d:Int)(a:AL)(f:AH)(o:Bool):=
if o then
some false
else
if f.Status==3 then
(gt a.World.Ai f.Dg).bind λz=>
(gt a.Init.Sync.AF z.Mutex).bind λaa=>
J7 L3 d (aa.CG==d)
else
if f.Status==4 then
(gt a.World.Ai f.Dg).bind λab=>
(gt a.Init.Sync.AF ab.Mutex).bind λac=>
J7 L3 d (ac.CG==d)
else
J7 L3 d false
def L3(a:AL)(L3:df)(d:Int):=
if decide (d<(a.Init.Sync.AA.length:Int))then
(gt a.Init.Sync.AA d).bind λf=>
if f.Atomic then
(FH a d).bind λv=>
J6 L3 d a f (!v)
else
J6 L3 d a f false
else
J8
def Gg(a:AL):Nat->Int->ABd Bool
|0,_=>none
|n+1,d=>L3 a (Gg a n) d
def J5(a:AL)(j:Bool):=
if j then
some false
else
Gg a BW 0
def J4(a:AL):=
if a.Init.Sync.Tx != (-1)then
(FH a a.Init.Sync.Tx).bind λu=>
J5 a (!u)
else
J5 a false
def J3(L1:df)(b:Int):=
L1 (BA (b+1))
def J2(L2:df)(e:Int)(q:Bool):=
if q then
some false
else
L2 (BA (e+1))
def L2(L1:df)(b:Int)(a:AL)(c:AW)(L2:df)(e:Int):=
if decide (e<(c.Ak.length:Int))then
(gt c.Ak e).bind λl=>
(FH a l).bind λt=>
if !t then
J2 L2 e true
else
if decide (e>0)then
(gt c.Ak (BA (e-1))).bind λy=>
J2 L2 e (decide (l<=y))
else
J2 L2 e false
else
J3 L1 b
def DF(L1:df)(b:Int)(a:AL)(c:AW):Nat->Int->ABd Bool
|0,_=>none
|n+1,e=>L2 L1 b a c (DF L1 b a c n) e
def J1(L1:df)(b:Int)(a:AL)(c:AW)(i:Bool):=
if i then
some false
else
DF L1 b a c BW 0
def L1(a:AL)(L1:df)(b:Int):=
if decide (b<(a.Init.Sync.AF.length:Int))then
(gt a.Init.Sync.AF b).bind λc=>
if c.CG != (-1)then
(FH a c.CG).bind λs=>
if !s then
J1 L1 b a c true
else
if decide ((c.Ak.length:Int)>0)then
(gt a.World.AF b).bind λw=>
if !w.RW then
J1 L1 b a c true
else
J1 L1 b a c (c.CG != (-1))
else
J1 L1 b a c false
else
if decide ((c.Ak.length:Int)>0)then
(gt a.World.AF b).bind λx=>
if !x.RW then
J1 L1 b a c true
else
J1 L1 b a c (c.CG != (-1))
else
J1 L1 b a c false
else
J4 a
def Aa(a:AL):Nat->Int->ABd Bool
|0,_=>none
|n+1,b=>L1 a (Aa a n) b
end A1
section
open A1
def A1(a:AL):=
Aa a BW 0
theorem UZ{a:AL}{r:Bool}(h:A1 a=some r):Says prog 54 [.agg (B0 a)] (sb r):=by refine kO mix func54 (hn [(1,[9,10,40,41,129,130]),(3,[13,19,88,93,99,105,127]),(5,[24,29,35,49,56,63,74,79]),(8,[110,118,122,132])] [(9,1),(18,5)]) ?_;have a1:= @YQ;have l3:=da λ_ _ _ _ n b=>∃d,(b 1=bA 15 (B0 a)/\b 3=bA 4 (F8 a.Init.Sync)/\b 7=si d)/\Gg a n d=some r;have l1:=da λ_ _ _ _ n c=>∃b,(c 1=bA 15 (B0 a)/\c 3=bA 4 (F8 a.Init.Sync)/\c 4=si b)/\Aa a n b=some r;have l2:=da λd _ _ _ n f=>∃b c e,(f 1=bA 15 (B0 a)/\f 3=bA 4 (F8 a.Init.Sync)/\f 4=si b/\f 5=bA 2 (DS c)/\f 6=si e)/\DF (Aa a d) b a c n e=some r;have c5:=db 5 λ_ _ _ _ b=>∃j,(b 1=bA 15 (B0 a)/\b 3=bA 4 (F8 a.Init.Sync)/\b 97=sb j)/\J5 a j=some r;have c1:=db 1 λd _ _ _ e=>∃b c i,(e 1=bA 15 (B0 a)/\e 3=bA 4 (F8 a.Init.Sync)/\e 4=si b/\e 5=bA 2 (DS c)/\e 54=sb i)/\J1 (Aa a d) b a c i=some r;unfold A1 at h;exact walk
end
namespace Ch
def J2(q:Bool):ABd Bool:=
some q
def J3(s:Bool):ABd Bool:=
some s
def J4(t:Bool):ABd Bool:=
some t
def J7(u:Bool):ABd Bool:=
some u
def J8(v:Bool):ABd Bool:=
some v
def J6(a b:Int)(c:AP)(d:Int)(e:AD)(j:Bool):=
if j then
(gt e.Ai b).bind λap=>
(gt c.AF ap.Mutex).bind λaq=>
some (aq.CG==d)
else
if a==20 then
if b != d then
(gt c.AA b).bind λac=>
J7 (ac.Status==0)
else
J7 false
else
if a==21 then
if b != d then
(gt c.AA b).bind λad=>
J8 (ad.Status==5)
else
J8 false
else
if a==22 then
(gt c.Bn b).bind λae=>
some (!ae)
else
if a==23 then
(gt c.Bn b).bind λaf=>
some af
else
some true
def J5(a b:Int)(c:AP)(d:Int)(e:AD)(f:AH)(i:Bool):=
if i then
(gt c.AF b).bind λal=>
some (al.CG==d)
else
if a==9 then
(gt c.AF b).bind λao=>
(GP ao.Ak d).bind λaa=>
some aa
else
if a==12 then
some (c.Tx==(-1))
else
if a==13 then
some (c.Tx==d)
else
if a==14 then
some (!f.Atomic)
else
if a==15 then
some f.Atomic
else
if a==16 then
J6 a b c d e (a==16)
else
if a==18 then
J6 a b c d e (a==18)
else
J6 a b c d e (a==19)
def J1(a b:Int)(c:AP)(d:Int)(e:AD)(l:Bool):=
if l then
some false
else
(gt c.AA d).bind λf=>
if a==1 then
some (f.Status==1)
else
if a==17 then
if f.Status==4 then
if f.Dg==b then
(gt e.Ai b).bind λab=>
(gt c.AF ab.Mutex).bind λai=>
J2 (ai.CG==(-1))
else
J2 false
else
J2 false
else
if f.Status != 2 then
some false
else
if a==6 then
(gt c.AF b).bind λaj=>
some (aj.CG==(-1))
else
if a==10 then
(gt c.AF b).bind λo=>
if o.CG==(-1)then
J3 ((o.Ak.length:Int)==0)
else
J3 false
else
if a==8 then
(gt c.AF b).bind λp=>
if p.CG==(-1)then
(GP p.Ak d).bind λz=>
J4 (!z)
else
J4 false
else
if a==7 then
J5 a b c d e f (a==7)
else
J5 a b c d e f (a==11)
end Ch
section
open Ch
def Ch(e:AD)(c:AP)(d a b:Int):=
(Ea e c).bind λw=>
if !w then
J1 a b c d e true
else
(HH d (e.AA.length:Int)).bind λx=>
if !x then
J1 a b c d e true
else
(IP e a b).bind λy=>
J1 a b c d e (!y)
theorem NW{e:AD}{c:AP}{d a b:Int}{r:Bool}(h:Ch e c d a b=some r):Says prog 66 [.agg (Aq e),.agg (F8 c),si d,si a,si b] (sb r):=by refine kO mix func66 (hn [(5,[18,56,166]),(6,[31,54,73,82,90,101,109,122,132,142,147,164,183,197,207,215]),(11,[39,44,48,67,153,158])] [(2,1),(22,5),(35,6)]) ?_;have a1:= @Mc;have a2:= @LO;have a3:= @SD;have a4:= @YJ;have c6:=db 6 λ_ _ _ _ f=>∃j,(f 2=si d/\f 4=si b/\f 5=bA 6 (Aq e)/\f 6=bA 4 (F8 c)/\f 70=si a/\f 160=sb j)/\J6 a b c d e j=some r;have c5:=db 5 λ_ _ _ _ g=>∃f i,(g 2=si d/\g 4=si b/\g 5=bA 6 (Aq e)/\g 6=bA 4 (F8 c)/\g 11=bA 3 (An f)/\g 70=si a/\g 119=sb i)/\J5 a b c d e f i=some r;have c1:=db 1 λ_ _ _ _ f=>∃l,(f 2=si d/\f 3=si a/\f 4=si b/\f 5=bA 6 (Aq e)/\f 6=bA 4 (F8 c)/\f 30=sb l)/\J1 a b c d e l=some r;unfold Ch at h;exact walk
end
namespace GX
def J4(p s:dc):ABd ((List Int)×(List Int)):=
some (p,s)
def J3(L1:dG)(c:Int)(o q:dc):=
L1 o q (BA (c+1))
def J2(L1:dG)(d:dc)(c a:Int)(i:AW)(l:dc):=
(Gn i.Ak a).bind λv=>
if v then
if Ap (d.length+1) 8=true then
J3 L1 c l (d++[c])
else none
else
J3 L1 c l d
def L1(b:AP)(a:Int)(L1:dG)(e d:dc)(c:Int):=
if decide (c<(b.AF.length:Int))then
(gt b.AF c).bind λi=>
if i.CG==a then
if Ap (e.length+1) 8=true then
J2 L1 d c a i (e++[c])
else none
else
J2 L1 d c a i e
else
J4 e d
def Aa(b:AP)(a:Int):Nat->(List Int)->(List Int)->Int->ABd ((List Int)×(List Int))
|0,_,_,_=>none
|n+1,e,d,c=>L1 b a (Aa b a n) e d c
def J1(b:AP)(a:Int)(j:Bool):=
if j then
some ([],[])
else
Aa b a BW [] [] 0
end GX
section
open GX
def GX(f:AD)(b:AP)(a:Int):=
(EM f b).bind λt=>
if !t then
J1 b a true
else
(DP a (f.AA.length:Int)).bind λu=>
J1 b a (!u)
theorem object_Holds_ok{f:AD}{b:AP}{a:Int}{r:(List Int)×(List Int)}(h:GX f b a=some r):Says prog 113 [.agg (Aq f),.agg (F8 b),si a] (.BQ [vO 1 eI r.1,vO 1 eI r.2]):=by refine kO mix func113 (hn [(3,[18]),(4,[24]),(8,[36,49]),(9,[44,50]),(11,[32,40])] [(2,1)]) ?_;have a1:= @OD;have a2:= @Ku;have a3:= @JY;have l1:=da λ_ _ _ _ n f=>∃e d c,(f 2=si a/\f 8=vO 1 eI e/\f 9=vO 1 eI d/\f 25=vS 2 DS b.AF/\f 26=si (b.AF.length:Int)/\f 27=si c)/\Aa b a n e d c=some r;have c1:=db 1 λ_ _ _ _ c=>∃j,(c 2=si a/\c 4=bA 4 (F8 b)/\c 23=sb j)/\J1 b a j=some r;unfold GX at h;exact walk
end
def Fe(b:BB)(a:AQ):ABd BB:=
if decide ((a.Index.length:Int)>0)then
(gt a.Index 0).bind λp=>
(Cp BW b p (b.locals.length:Int)).bind λi=>
(Cp BW i a.Expr (BA ((b.locals.length:Int)+1))).bind λd=>
(Bh d.w a.Name).bind λe=>
(gt d.w.Cells e).bind λq=>
(A6 d (Ad.mk 9 e (BA ((b.locals.length:Int)+1)) (b.locals.length:Int) q.Bq 0)).bind λj=>
some j
else
(Cp BW b a.Expr (b.locals.length:Int)).bind λc=>
(CU c.locals a.Name).bind λf=>
if decide (f>=0)then
(A6 c (Ad.mk 2 f (b.locals.length:Int) 0 0 0)).bind λl=>
some l
else
(Bh c.w a.Name).bind λo=>
(A6 c (Ad.mk 8 o (b.locals.length:Int) 0 0 0)).bind λs=>
some s
theorem Qh{b:BB}{a:AQ}{r:BB}(h:Fe b a=some r):BD prog 249 [bA 10 (EN b),.agg [si a.Op,si a.FK,BZ a.Name,BZ a.Arg,vS 4 BH a.Index,si a.Expr.Op,si a.Expr.N,BZ a.Expr.Name,vS 4 BH a.Expr.L,vS 11 A7 a.Body,vS 11 A7 a.Else]] (.BQ []) [bA 10 (EN r),.dead]:=by refine kL mix func249 (hn [(0,[7,8,9,10,16,23,29,30,31,32,36,41,42,43,44,45,47,48,52,57,58,59,60,66,71,72,73,74,75]),(3,[12,17,24,33,53,61,76])]) ?_;have a1:= @I2;have a2:= @OX;have a3:= @Gl;have a4:= @HY;unfold Fe at h;exact walk
namespace Ka
def J2(l:dc):ABd (List Int):=
some l
def J1(L1:dz)(a:Int)(j:dc):=
L1 j (BA (a+1))
def L1(d b:dc)(L1:dz)(c:dc)(a:Int):=
if decide (a<(b.length:Int))then
(gt b a).bind λi=>
(M7 d i).bind λo=>
if o.2 then
if Ap (c.length+1) 8=true then
J1 L1 a (c++[i])
else none
else
J1 L1 a c
else
J2 c
def Aa(d b:dc):Nat->(List Int)->Int->ABd (List Int)
|0,_,_=>none
|n+1,c,a=>L1 d b (Aa d b n) c a
end Ka
section
open Ka
def Ka(e f:dc):=
(OR f).bind λd=>
(OR e).bind λb=>
Aa d b BW [] 0
theorem fN{e f r:dc}(h:Ka e f=some r):Says prog 117 [vS 1 eI e,vS 1 eI f] (vO 1 eI r):=by refine kO mix func117 (hn [(5,[27,32]),(6,[21]),(14,[18])]) ?_;have a1:= @Xp;have a2:= @Tq;have l1:=da λ_ _ _ _ n e=>∃(d b c:dc)(a:Int),(e 5=vO 1 eI c/\e 6=vO 1 eI d/\e 14=vO 1 eI b/\e 15=si (b.length:Int)/\e 16=si a)/\Aa d b n c a=some r;unfold Ka at h;exact walk
end
namespace B5
def J2:=
some true
def L1(a:ABe)(L1:df)(b:Int):=
if decide (b<(a.size:Int))then
(sgt a b).bind λe=>
(G6 (e.toNat:Int)).bind λi=>
if !i then
some false
else
L1 (BA (b+1))
else
J2
def Aa(a:ABe):Nat->Int->ABd Bool
|0,_=>none
|n+1,b=>L1 a (Aa a n) b
def J1(a:ABe)(c:Bool):=
if c then
some false
else
Aa a BW 0
end B5
section
open B5
def B5(a:ABe):=
if decide ((a.size:Int)<1)then
J1 a true
else
if decide ((a.size:Int)>12)then
J1 a true
else
(sgt a 0).bind λd=>
(Fl (d.toNat:Int)).bind λf=>
if !f then
J1 a true
else
(DQ a).bind λj=>
J1 a j
theorem Hp{a:ABe}{r:Bool}(h:B5 a=some r):Says prog 98 [BZ a] (sb r):=by refine kO mix func98 (hn (Q:=[(2,1)])) ?_;have a1:= @X4;have a2:= @OV;have a3:= @Rl;have l1:=da λ_ _ _ _ n c=>∃b,(c 0=BZ a/\c 3=si b)/\Aa a n b=some r;have c1:=db 1 λ_ _ _ _ b=>∃c,(b 0=BZ a/\b 21=sb c)/\J1 a c=some r;unfold B5 at h;exact walk
end
namespace Ee
def J1(c:Bool):ABd Bool:=
some c
end Ee
section
open Ee
def Ee(b:AD)(a:AB):=
(EM b a.Sync).bind λd=>
if d then
if(a.Cells.length:Int)==(b.Cells.length:Int)then
if(a.AK.length:Int)==(b.AK.length:Int)then
J1 ((a.Count.length:Int)==(b.AA.length:Int))
else
J1 false
else
J1 false
else
J1 false
theorem Rz{b:AD}{a:AB}{r:Bool}(h:Ee b a=some r):Says prog 145 [.agg (Aq b),.agg (BI a)] (sb r):=by refine kO mix func145 (hn [(2,[13,22,31]),(3,[6,10,19,28])]) ?_;have a1:= @Ku;unfold Ee at h;exact walk
end
def f91c:Y3:=(.seq (.ic (Rc 0 [.b 2 [16,29,43,47] (.bx 6 (.t 0)),.B 4 false]))
(.seq (.ic (Rc 0 [.b 5 [13,23,36,42,46,51,55] (.mv (.c (.own false 1 [])))]))
(.seq (.ic (Rc 13 [.y 5 (.cp (.t 5)),.C 1,.o (.app 1 16 (.t 13) (.t 14)),.b 5 [13,23,36,42,46,51,55] (.mv (.t 15))]))
(iM (.ic (Ra 16 [.f 1 2,.Z 17,.Y 0]
(Bl 0 (Ra 20 [.O .lss 19 18]
(Sq (cX 20 0)
(Sq (Bk 1 (Ra 21 [.I 2 17 19,.A 2 21,.b 7 [24] (.bx 2 (.c (.agg [BZ ⟨#[]⟩,sb false]))),.S 2 7 22]
(Rc 23 [.y 5 (.cp (.t 5)),.f 0 7,.o (.Nk 1 [[BZ ⟨#[]⟩]] [(0,.t 25)]),.o (.app 1 16 (.t 23) (.t 26)),.b 5 [13,23,36,42,46,51,55] (.mv (.t 27))])))
(Rc 28 [.P .add 19 1,.w 19,.C 28])))))))
(iM (.ic (Ra 29 [.f 2 2,.Z 30,.Y 0]
(Bl 2 (Ra 33 [.O .lss 32 31]
(Sq (cX 33 2)
(Sq (Bk 3 (Ra 34 [.I 2 30 32,.A 2 34,.b 9 [37] (.bx 2 (.c (.agg [BZ ⟨#[]⟩,si 0]))),.S 2 9 35]
(Rc 36 [.y 5 (.cp (.t 5)),.f 0 9,.o (.Nk 1 [[BZ ⟨#[]⟩]] [(0,.t 38)]),.o (.app 1 16 (.t 36) (.t 39)),.b 5 [13,23,36,42,46,51,55] (.mv (.t 40))])))
(Rc 41 [.P .add 32 1,.w 32,.C 41])))))))
(.seq (.ic (Rc 42 [.y 5 (.cp (.t 5)),.f 3 2,.o (.app 1 16 (.t 42) (.t 44)),.b 5 [13,23,36,42,46,51,55] (.mv (.t 45))]))
(.seq (.ic (Rc 46 [.y 5 (.cp (.t 5)),.f 4 2,.o (.app 1 16 (.t 46) (.t 48)),.b 5 [13,23,36,42,46,51,55] (.mv (.t 49))]))
(.seq (.ZQ [.mkm ⟨50,[],[]⟩,.x (.o ⟨some ⟨10,[],[]⟩,.mv (.t 50),none⟩)])
(iM (.seq (.ic (Rc 51 [.y 5 (.cp (.t 5)),.Z 51,.Y 0]))
(.block 4 (.loop (.seq (.ic (Rc 54 [.O .lss 53 52]))
(.seq (.ic (cX 54 4))
(.seq (.block 5 (.seq (.ic (Rc 55 [.J 5 1 51 53,.L 55,.M 12 56]))
(.seq (iM (.ZQ [.x (.o ⟨some ⟨57,[],[]⟩,.cp (.t 12),none⟩),.x (.o ⟨some ⟨58,[],[]⟩,.call 142 [.t 57] 0,none⟩),.x (.o ⟨some ⟨59,[],[]⟩,.un .not (.t 58),none⟩),.x (.o ⟨some ⟨60,[],[]⟩,.cp (.t 59),none⟩),.x (.o ⟨some ⟨61,[],[]⟩,.cp (.t 10),some (60,false)⟩),.x (.o ⟨some ⟨62,[],[]⟩,.cp (.t 12),some (60,false)⟩),.lkp (some (60,false)) ⟨63,[],[]⟩ (.t 61) (.t 62),.x (.o ⟨some ⟨64,[],[]⟩,.pick (.t 60) (.c (sb true)) (.t 63),none⟩)])
(.ic (Ci 64 (Rb 0 [.B 4 false]))))
(.ZQ [.x (.o ⟨some ⟨65,[],[]⟩,.cp (.t 10),none⟩),.x (.o ⟨some ⟨66,[],[]⟩,.cp (.t 12),none⟩),.mup (.t 65) (.t 66) (.c (sb true))]))))
(.ic (Rc 67 [.P .add 53 1,.w 53,.C 67]))))))))
(.ic (Rb 0 [.B 4 true])))))))))))
def f91g:Gi:=⟨[(13,[5]),(16,[2]),(23,[5]),(24,[7]),(29,[2]),(36,[5]),(37,[9]),(42,[5]),(43,[2]),(46,[5]),(47,[2]),(51,[5]),(55,[5])]⟩
def f91r:List RV:=[.tmp 4]
def f91:FIM:=⟨f91c,f91g,f91r⟩
theorem chk91:rT prog Tryz.f91 f91=true:=by kernel_rfl
namespace BK
def J4(seen:dv):=
some true
def J3(L3:Int->(List ABe)->ABd Bool)(seen:dv)(Tt:Int)(x_2:ABe)(t64v:Bool):=
if t64v then
some false
else
if(seen.any λh=>h==x_2)=false then
L3 (BA (Tt+1)) (seen++[x_2])
else none
def L3(Jf:dv)(wv:AD)(L3:Int->(List ABe)->ABd Bool)(Tt:Int)(seen:dv):=
if decide (Tt<(((Jf++wv.AK)++wv.AA).length:Int))then
(gt ((Jf++wv.AK)++wv.AA) Tt).bind λx_2=>
(Cx x_2).bind λv=>
if !v then
J3 L3 seen Tt x_2 true
else
J3 L3 seen Tt x_2 (seen.any λh=>h==x_2)
else
J4 seen
def Gg(Jf:dv)(wv:AD):Nat->Int->(List ABe)->ABd Bool
|0,_,_=>none
|n+1,Tt,seen=>L3 Jf wv (Gg Jf wv n) Tt seen
def J2(wv:AD)(Jf:dv):=
if Ap (Jf.length+wv.AK.length) 16=true then
if Ap ((Jf++wv.AK).length+wv.AA.length) 16=true then
Gg Jf wv BW 0 []
else none
else none
def L2(wv:AD)(L2:(List ABe)->Int->ABd Bool)(SK:dv)(eY:Int):=
if decide (eY<(wv.Ai.length:Int))then
(gt wv.Ai eY).bind λx_1=>
if Ap (SK.length+1) 16=true then
L2 (SK++[x_1.Name]) (BA (eY+1))
else none
else
J2 wv SK
def DF(wv:AD):Nat->(List ABe)->Int->ABd Bool
|0,_,_=>none
|n+1,SK,eY=>L2 wv (DF wv n) SK eY
def J1(wv:AD)(gF:dv):=
DF wv BW gF 0
def L1(wv:AD)(L1:(List ABe)->Int->ABd Bool)(all:dv)(eX:Int):=
if decide (eX<(wv.AF.length:Int))then
(gt wv.AF eX).bind λx=>
if Ap (all.length+1) 16=true then
L1 (all++[x.Name]) (BA (eX+1))
else none
else
J1 wv all
def Aa(wv:AD):Nat->(List ABe)->Int->ABd Bool
|0,_,_=>none
|n+1,all,eX=>L1 wv (Aa wv n) all eX
end BK
section
open BK
def BK(wv:AD)(variables:dv):=
if Ap (variables.length) 16=true then
Aa wv BW variables 0
else none
theorem Oi{wv:AD}{variables:dv}{r:Bool}(h:BK wv variables=some r):Says prog 91 [.agg (Aq wv),vS 1 eS variables] (sb r):=by
 refine lN mix func91 chk91 (AAO (by kernel_rfl)) rfl ?_;simp only[f91,f91c,f91g,f91r];obtain⟨_,h⟩:=cS h
 try simp +decide only[go_sem, *]
 refine iN (λi j=>∃gF:List ABe,(i 2=bA 6 (Aq wv)/\i 5=vO 1 eS gF)/\J1 wv gF=some r) λM1 hM1=>⟨?_,?_⟩
 . try simp +decide only[go_sem, *]
   refine kC (λn i=>∃all:List ABe,∃eX:Int,(i 2=bA 6 (Aq wv)/\i 5=vO 1 eS all/\i 17=vS 2 Hy wv.AF/\i 18=si (wv.AF.length:Int)/\i 19=si eX)/\Aa wv n all eX=some r) ⟨_,_,?_,h⟩ λn1 τ1 N1=> ?_
   . simp +decide only[go_sem, *]
   rintro⟨all,eX,s1,h⟩ hN1;cases n1 with
   |zero=>exact ET h
   |succ n1=>
    rw[Aa]at h;generalize hL1:Aa wv n1=L1 at h
    try simp +decide only[go_sem, *]
    refine cI h (λ_ h=> ?_) λ_ h=> ?_
    . obtain⟨x,_,h⟩:=gB h;obtain⟨_,h⟩:=cS h
      try simp +decide only[go_sem, *]
      refine hN1 n1 (Nat.lt_succ_self _) _ ⟨_,_,?_,hL1.symm▸h⟩;simp +decide only[go_sem, *]
    try simp +decide only[go_sem, *]
    refine hM1 _ _ ⟨_,?_,h⟩;simp +decide only[go_sem, *]
 rintro τ1 ν1 ⟨gF,s1,h⟩
 try simp +decide only[go_sem, *]
 refine iN (λi j=>∃Jf:List ABe,(i 2=bA 6 (Aq wv)/\i 5=vO 1 eS Jf)/\J2 wv Jf=some r) λM2 hM2=>⟨?_,?_⟩
 . try simp +decide only[go_sem, *]
   refine kC (λn i=>∃SK:List ABe,∃eY:Int,(i 2=bA 6 (Aq wv)/\i 5=vO 1 eS SK/\i 30=vS 2 Hx wv.Ai/\i 31=si (wv.Ai.length:Int)/\i 32=si eY)/\DF wv n SK eY=some r) ⟨_,_,?_,h⟩ λn2 τ2 N2=> ?_
   . simp +decide only[go_sem, *]
   rintro⟨SK,eY,s2,h⟩ hN2;cases n2 with
   |zero=>exact ET h
   |succ n2=>
    rw[DF]at h;generalize sD:DF wv n2=L2 at h
    try simp +decide only[go_sem, *]
    refine cI h (λ_ h=> ?_) λ_ h=> ?_
    . obtain⟨x_1,_,h⟩:=gB h;obtain⟨_,h⟩:=cS h
      try simp +decide only[go_sem, *]
      refine hN2 n2 (Nat.lt_succ_self _) _ ⟨_,_,?_,sD.symm▸h⟩;simp +decide only[go_sem, *]
    try simp +decide only[go_sem, *]
    refine hM2 _ _ ⟨_,?_,h⟩;simp +decide only[go_sem, *]
 rintro τ2 ν2 ⟨Jf,s2,h⟩;obtain⟨_,h⟩:=cS h;obtain⟨_,h⟩:=cS h
 try simp +decide only[go_sem, *]
 intro b1 hb1
 try simp +decide only[go_sem, *]
 refine iN (λi j=>∃seen:List ABe,(j b1=some (.mp (seen.map tv)))/\J4 seen=some r) λM4 hM4=>⟨?_,?_⟩
 . try simp +decide only[go_sem, *]
   refine loopMH (λn i j=>∃Tt:Int,∃seen:List ABe,(i 5= .own false 1 (((Jf++wv.AK)++wv.AA).map eS)/\i 10= .sc (.map (some b1))/\i 51= .al 5 []/\i 52=si (((Jf++wv.AK)++wv.AA).length:Int)/\i 53=si Tt/\j b1=some (.mp (seen.map tv)))/\Gg Jf wv n Tt seen=some r) ⟨_,_,?_,h⟩ λn3 τ3 ν3 N3=> ?_
   . simp +decide only[go_sem, *]
   rintro⟨Tt,seen,s3,h⟩ hN3;cases n3 with
   |zero=>exact ET h
   |succ n3=>
    rw[Gg]at h;generalize hL3:Gg Jf wv n3=L3 at h
    try simp +decide only[go_sem, *]
    refine cI h (λ_ h=> ?_) λ_ h=> ?_
    . obtain⟨x_2,_,h⟩:=gB h
      try simp +decide only[go_sem, *]
      refine iN (λi j=>∃t64v:Bool,(i 5= .own false 1 (((Jf++wv.AK)++wv.AA).map eS)/\i 10= .sc (.map (some b1))/\i 12=BZ x_2/\i 51= .al 5 []/\i 52=si (((Jf++wv.AK)++wv.AA).length:Int)/\i 53=si Tt/\i 64=sb t64v/\j b1=some (.mp (seen.map tv)))/\J3 L3 seen Tt x_2 t64v=some r) λM3 hM3=>⟨?_,?_⟩
      . obtain⟨v,g9,h⟩:=bS h
        try simp +decide only[go_sem, *]
        refine⟨_,V4 g9,?_⟩
        try simp +decide only[go_sem, *]
        refine gI h (λ_ h=> ?_) λ_ h=> ?_
        . try simp +decide only[go_sem, *]
          refine hM3 _ _ ⟨_,?_,h⟩;simp +decide only[go_sem, *]
        try simp +decide only[go_sem, *]
        refine hM3 _ _ ⟨_,?_,h⟩;simp +decide only[go_sem, *]
      rintro τ3 ν3 ⟨t64v,s3,h⟩
      try simp +decide only[go_sem, *]
      refine cI h (λ_ h=> ?_) λ_ h=> ?_
      . obtain rfl:=AAG h;simp +decide only[go_sem, *]
      obtain⟨_,h⟩:=cS h
      try simp +decide only[go_sem, *]
      refine hN3 n3 (Nat.lt_succ_self _) _ _ ⟨_,_,?_,hL3.symm▸h⟩;simp +decide only[go_sem, *]
    try simp +decide only[go_sem, *]
    refine hM4 _ _ ⟨_,?_,h⟩;simp +decide only[go_sem, *]
 rintro τ4 ν4 ⟨seen,s4,h⟩;obtain rfl:=AAG h;simp +decide only[go_sem, *]
end
namespace IX
def J1(c:Bool):ABd Bool:=
some c
end IX
section
open IX
def IX(b:AD)(a:AB):=
(EM b a.Sync).bind λd=>
if d then
if(a.Cells.length:Int)==(b.Cells.length:Int)then
if(a.AK.length:Int)==(b.AK.length:Int)then
J1 ((a.Count.length:Int)==(b.AA.length:Int))
else
J1 false
else
J1 false
else
J1 false
theorem Ys{b:AD}{a:AB}{r:Bool}(h:IX b a=some r):Says prog 44 [.agg (Aq b),.agg (BI a)] (sb r):=by refine kO mix func44 (hn [(2,[13,22,31]),(3,[6,10,19,28])]) ?_;have a1:= @Ku;unfold IX at h;exact walk
end
namespace DT
def J1(i:Bool):ABd Int:=
if i then
some 6
else
some 0
end DT
section
open DT
def DT(c:AR)(e:Int)(d:ABe)(a b:Int):=
(Ec c e d).bind λf=>
if f==0 then
some 5
else
if f != a then
J1 (f != b)
else
J1 false
theorem Q0{c:AR}{e:Int}{d:ABe}{a b r:Int}(h:DT c e d a b=some r):Says prog 271 [.agg (CS c),si e,BZ d,si a,si b] (si r):=by refine kO mix func271 hn ?_;have a1:= @Vn;unfold DT at h;exact walk
end
namespace ER
def J3(a:Ad)(b:AM)(t:Int)(l:Bool)(e:dc):ABd (AM×Bool):=
if Ap (e.length) 8=true then
(gt b.Ck a.A).bind λad=>
(gt b.Cd a.A).bind λac=>
some ((AM.mk (BA (b.PC+1)) (b.Ck.set a.A.toNat t) (b.Cd.set a.A.toNat e) b.AE),l)
else none
def J2(a:Ad)(b:AM):=
if a.Op==5 then
some ((AM.mk a.A b.Ck b.Cd b.AE),true)
else
if a.Op==1 then
J3 a b a.N true []
else
if a.Op==2 then
(gt b.Ck a.B).bind λu=>
(gt b.Cd a.B).bind λv=>
J3 a b u true v
else
if a.Op==3 then
(EZ a.N).bind λp=>
(gt b.Ck a.B).bind λw=>
(Kx p w).bind λf=>
(gt b.Cd a.B).bind λx=>
J3 a b f.1 f.2 x
else
(EZ a.N).bind λq=>
(gt b.Ck a.B).bind λy=>
(gt b.Ck a.C).bind λz=>
(Fm q y z).bind λi=>
(gt b.Cd a.B).bind λaa=>
(gt b.Cd a.C).bind λab=>
(D8 aa ab).bind λs=>
J3 a b i.1 i.2 s
def J1(L1:Int->ABd (AM×Bool))(c:Int)(o:Bool):=
if o then
some ((AM.mk 0 [] [] 0),false)
else
L1 (BA (c+1))
def L1(a:Ad)(b:AM)(d:dc)(L1:Int->ABd (AM×Bool))(c:Int):=
if decide (c<(d.length:Int))then
(gt d c).bind λj=>
if decide (j<0)then
J1 L1 c true
else
J1 L1 c (decide (j>=(b.Ck.length:Int)))
else
J2 a b
def Aa(a:Ad)(b:AM)(d:dc):Nat->Int->ABd (AM×Bool)
|0,_=>none
|n+1,c=>L1 a b d (Aa a b d n) c
end ER
section
open ER
def ER(a:Ad)(b:AM):=
(AZ a).bind λd=>
Aa a b d BW 0
theorem ZT{a:Ad}{b:AM}{r:AM×Bool}(h:ER a b=some r):Says prog 243 [.agg (EF a),.agg (B2 b)] (.BQ [.agg (B2 r.1),sb r.2]):=by refine kO mix func243 (hn [(2,[35,38,43,49,58,64,71,77,83,89,96,101,110,116,120]),(3,[29,30,41,42,45,47,48,51,56,57,60,61,62,63,66,67,73,74,81,82,85,87,88,91,92,99,100,103,108,109,112,113,114,115,118,119,126,127,128,131,132]),(6,[14,19,21,25,27]),(10,[124])] (F:=[10]) (E:=[(22,(.pg true 3 [(0,2,0)] (Rc 114 [.F 1 3,.y 3 (.Xn (.t 114)),.f 1 2,.F 2 3,.y 3 (.Xn (.t 118)),.f 1 2,.C 8,.o (.Nk 1 [] []),.y 10 (.cp (.t 10)),.o (.app 1 8 (.t 123) (.t 124)),.J 3 1 115 117,.x ⟨none,.WU (.t 126) (.t 122),none⟩,.J 3 1 119 121,.S 1 127 125])))])) ?_;have a1:= @JO;have a2:= @Tb;have a3:= @YB;have a4:= @Vs;have a5:= @Po;have l1:=da λ_ _ _ _ n e=>∃d c,(e 2=bA 6 (EF a)/\e 3=bA 4 (B2 b)/\e 4=bA 4 z9/\e 6=vO 1 eI d/\e 7=si c)/\Aa a b d n c=some r;unfold ER at h;exact walk
end
namespace EK
def J1(o:Bool):ABd Bool:=
some o
def J2(p:Bool):ABd Bool:=
some p
def J5(q:Bool):ABd Bool:=
some q
def J6(s:Bool):ABd Bool:=
some s
def J4(a c:Int)(b:AP)(d:Int)(e:AD)(f:Bool):=
if f then
(gt e.Ai c).bind λad=>
(gt b.AF ad.Mutex).bind λae=>
some (ae.CG==d)
else
if a==20 then
if c != d then
(gt b.AA c).bind λaf=>
J5 (af.Status==0)
else
J5 false
else
if a==21 then
if c != d then
(gt b.AA c).bind λw=>
J6 (w.Status==5)
else
J6 false
else
if a==22 then
(gt b.Bn c).bind λx=>
some (!x)
else
if a==23 then
(gt b.Bn c).bind λy=>
some y
else
some true
def J3(a c:Int)(b:AP)(d:Int)(e:AD)(i:Bool):=
if i then
(gt b.AF c).bind λz=>
some (z.CG==d)
else
if a==9 then
(gt b.AF c).bind λaa=>
(Gn aa.Ak d).bind λu=>
some u
else
if a==12 then
some (b.Tx==(-1))
else
if a==13 then
some (b.Tx==d)
else
if a==14 then
(gt b.AA d).bind λab=>
some (!ab.Atomic)
else
if a==15 then
(gt b.AA d).bind λac=>
some ac.Atomic
else
if a==16 then
J4 a c b d e (a==16)
else
if a==18 then
J4 a c b d e (a==18)
else
J4 a c b d e (a==19)
end EK
section
open EK
def EK(e:AD)(b:AP)(d a c:Int):=
if a==6 then
(gt b.AF c).bind λv=>
some (v.CG==(-1))
else
if a==10 then
(gt b.AF c).bind λj=>
if j.CG==(-1)then
J1 ((j.Ak.length:Int)==0)
else
J1 false
else
if a==8 then
(gt b.AF c).bind λl=>
if l.CG==(-1)then
(Gn l.Ak d).bind λt=>
J2 (!t)
else
J2 false
else
if a==7 then
J3 a c b d e (a==7)
else
J3 a c b d e (a==11)
theorem Vg{e:AD}{b:AP}{d a c:Int}{r:Bool}(h:EK e b d a c=some r):Says prog 192 [.agg (Aq e),.agg (F8 b),si d,si a,si c] (sb r):=by refine kO mix func192 (hn [(5,[115]),(6,[14,23,31,42,50,63,73,83,88,94,103,113,132,146,156,164])] [(9,3),(22,4)]) ?_;have a1:= @OD;have c4:=db 4 λ_ _ _ _ g=>∃f,(g 2=si d/\g 4=si c/\g 5=bA 6 (Aq e)/\g 6=bA 4 (F8 b)/\g 11=si a/\g 109=sb f)/\J4 a c b d e f=some r;have c3:=db 3 λ_ _ _ _ f=>∃i,(f 2=si d/\f 4=si c/\f 5=bA 6 (Aq e)/\f 6=bA 4 (F8 b)/\f 11=si a/\f 60=sb i)/\J3 a c b d e i=some r;unfold EK at h;exact walk
end
end Go.Abs
