/- Go functions do what typed programs say. -/
import Derived.Test.YtdojkofgkcmagaaGreatDoorWalkB
import Derived.Test.YtdojkofgkcmagaaGreatDoorWalkC
import Derived.Shelf.Slices.SearchI
set_option linter.all false
namespace Go.Abs
open Go.Proofs Tryz
set_option maxRecDepth 1000000
set_option maxHeartbeats 4000000
def f142c:cB:=(.seq (.ic (Rc 0 [.B 2 false]))
(.seq (.ic (AAF (Rc 5 [.C 0,.o (.dV (.t 5)),.P .lss 6 1,.C 7,.G 8 false,.C 0,.o (.dV (.t 9)),.P .gtr 10 12,.e,.V 8 11,.C 12,.G 13 false,.C 0,.c 190 [14] 0,.e,.V 13 15])
(Ci 16 (Rb 0 [.B 2 false]))))
(mO (.seq (.dB [.x (.o ⟨some ⟨17,[],[]⟩,.cp (.t 0),none⟩),.rng ⟨18,[],[]⟩ (.t 17)])
(.block 0 (.loop (.seq (.dB [.nxt ⟨19,[],[]⟩ (.t 18),.x (.o ⟨some ⟨20,[],[]⟩,.ext (.t 19) 0,none⟩)])
(.ic (Sq (cX 20 0)
(Bk 1 (Ra 21 [.o (.ext (.t 19) 1),.o (.ext (.t 19) 2),.M 3 21,.M 4 22]
(Bk 2 (AAF (Rc 24 [.C 4,.o (.bin .leq (.c (.sc (.int .i32 97))) (.t 24)),.C 25,.G 26 true,.C 4,.o (.bin .leq (.t 27) (.c (.sc (.int .i32 122)))),.e,.W 26 28,.C 29,.G 30 false,.C 4,.o (.bin .leq (.c (.sc (.int .i32 65))) (.t 31)),.C 32,.G 33 true,.C 4,.o (.bin .leq (.t 34) (.c (.sc (.int .i32 90)))),.G 30 false,.o (.pick (.t 33) (.t 35) (.c (sb false))),.e,.V 30 36,.M 23 37])
(Cn 23 .skip (AAF (Rc 39 [.C 3,.P .gtr 39 0,.C 40,.G 41 true,.C 4,.o (.bin .eql (.t 42) (.c (.sc (.int .i32 95)))),.C 43,.G 44 false,.C 4,.o (.bin .leq (.c (.sc (.int .i32 48))) (.t 45)),.C 46,.G 47 true,.C 4,.o (.bin .leq (.t 48) (.c (.sc (.int .i32 57)))),.G 44 false,.o (.pick (.t 47) (.t 49) (.c (sb false))),.G 41 true,.o (.pick (.t 44) (.c (sb true)) (.t 50)),.e,.W 41 51,.M 38 52])
(Cn 38 .skip (Rb 0 [.B 2 false]))))))))))))))
(.ic (Rb 0 [.B 2 true])))))
def f142g:Gi:=⟨[]⟩
def f142r:List RV:=[.tmp 2]
def f142:FIM:=⟨f142c,f142g,f142r⟩
def chk142:wN prog Tryz.f142 f142:=by kernel_rfl
namespace C0
def J4:=some true
def J3(L1:Nat->ABm Bool)(pos:Nat)(s:ABn)(t38v:Bool):=if t38v then
L1 (pos+(Utf8.decode s pos).2)
else
some false
def J2(L1:Nat->ABm Bool)(pos:Nat)(s:ABn)(t23v:Bool):=if t23v then
L1 (pos+(Utf8.decode s pos).2)
else
if decide ((pos:Int)>0)then
if((Utf8.decode s pos).1:Int)==95 then
J3 L1 pos s true
else
if decide (48<=((Utf8.decode s pos).1:Int))then
J3 L1 pos s (decide (((Utf8.decode s pos).1:Int)<=57))
else
J3 L1 pos s false
else
J3 L1 pos s false
def L1(s:ABn)(L1:Nat->ABm Bool)(pos:Nat):=if decide (pos<s.size)then
if decide (97<=((Utf8.decode s pos).1:Int))then
if decide (((Utf8.decode s pos).1:Int)<=122)then
J2 L1 pos s true
else
if decide (65<=((Utf8.decode s pos).1:Int))then
J2 L1 pos s (decide (((Utf8.decode s pos).1:Int)<=90))
else
J2 L1 pos s false
else
if decide (65<=((Utf8.decode s pos).1:Int))then
J2 L1 pos s (decide (((Utf8.decode s pos).1:Int)<=90))
else
J2 L1 pos s false
else
J4
def AU(s:ABn):Nat->Nat->ABm Bool
|0,_=>none
|n+1,pos=>L1 s (AU s n) pos
def J1(s:ABn)(t16v:Bool):=if t16v then
some false
else
AU s BQ 0
end C0
variable{d:ABn}{e:Bool}
section
open C0
def C0(s:ABn):=if decide ((s.size:Int)<1)then
J1 s true
else
if decide ((s.size:Int)>12)then
J1 s true
else(D2 s).bind λv=>J1 s v
theorem YG(h:C0 d=some e):Says prog 142 [B0 d] (sb e):=by
 refine pF mix func142 chk142 (AAV (by kernel_rfl)) rfl ?_;simp only[f142,f142c,f142g,f142r];try simp +decide only[go_sem, *]
 refine cutH (λl=>∃t16v:Bool,(l 0=B0 d/\l 16=sb t16v)/\J1 d t16v=some e) λM1 hM1=>⟨?_,?_⟩
 . (try simp +decide only[go_sem, *]);refine gI h (λ_ h=>?_) λ_ h=>?_;(. (try simp +decide only[go_sem, *]);refine hM1 _ ⟨_,?_,h⟩;simp +decide only[go_sem, *]);(try simp +decide only[go_sem, *]);refine gI h (λ_ h=>?_) λ_ h=>?_;(. (try simp +decide only[go_sem, *]);refine hM1 _ ⟨_,?_,h⟩;simp +decide only[go_sem, *]);obtain⟨v,g1,h⟩:=bS h;(try simp +decide only[go_sem, *]);refine⟨_,T6 g1,?_⟩;(try simp +decide only[go_sem, *]);refine hM1 _ ⟨_,?_,h⟩;simp +decide only[go_sem, *]
 rintro τ1 ⟨t16v,s1,h⟩;try simp +decide only[go_sem, *]
 refine cI h (λ_ h=>?_) λ_ h=>?_;obtain rfl:=AAO h;simp +decide only[go_sem, *];try simp +decide only[go_sem, *]
 refine mP (λl m=>(True)/\J4=some e) λM4 hM4=>⟨?_,?_⟩
 . (try simp +decide only[go_sem, *]);intro b1 hb1;(try simp +decide only[go_sem, *]);refine loopMH (λn l m=>∃pos:Nat,(l 18=.sc (.pointer (some ⟨b1,0,none⟩))/\m b1=some (.it d pos))/\AU d n pos=some e) ⟨_,?_,h⟩ λn1 τ1 ν1 N1=>?_;simp +decide only[go_sem, *];rintro⟨pos,s1,h⟩ hN1;cases n1 with
   |zero=>exact Cy h
   |succ n1=>
    rw[AU]at h;generalize hL1:AU d n1=L1 at h;(try simp +decide only[go_sem, *]);rcases bool_sp (decide (pos<d.size))with e4|e4
    . replace h:=ifT e4 h;(try simp +decide only[go_sem,(AAV e4),Hi,GZ, *]);refine cutH (λl=>∃t23v:Bool,(l 3=si (pos:Int)/\l 4=.sc (.int .i32 ((Utf8.decode d pos).1:Int))/\l 18=.sc (.pointer (some ⟨b1,0,none⟩))/\l 23=sb t23v)/\J2 L1 pos d t23v=some e) λM2 hM2=>⟨?_,?_⟩;(. (try simp +decide only[go_sem,(AAV e4),Hi,GZ, *]);refine gI h (λ_ h=>?_) λ_ h=>?_;(. (try simp +decide only[go_sem,(AAV e4),Hi,GZ, *]);refine gI h (λ_ h=>?_) λ_ h=>?_;(. (try simp +decide only[go_sem,(AAV e4),Hi,GZ, *]);refine hM2 _ ⟨_,?_,h⟩;simp +decide only[go_sem,(AAV e4),Hi,GZ, *]);(try simp +decide only[go_sem,(AAV e4),Hi,GZ, *]);refine gI h (λ_ h=>?_) λ_ h=>?_;(. (try simp +decide only[go_sem,(AAV e4),Hi,GZ, *]);refine hM2 _ ⟨_,?_,h⟩;simp +decide only[go_sem,(AAV e4),Hi,GZ, *]);(try simp +decide only[go_sem,(AAV e4),Hi,GZ, *]);refine hM2 _ ⟨_,?_,h⟩;simp +decide only[go_sem,(AAV e4),Hi,GZ, *]);(try simp +decide only[go_sem,(AAV e4),Hi,GZ, *]);refine gI h (λ_ h=>?_) λ_ h=>?_;(. (try simp +decide only[go_sem,(AAV e4),Hi,GZ, *]);refine hM2 _ ⟨_,?_,h⟩;simp +decide only[go_sem,(AAV e4),Hi,GZ, *]);(try simp +decide only[go_sem,(AAV e4),Hi,GZ, *]);refine hM2 _ ⟨_,?_,h⟩;simp +decide only[go_sem,(AAV e4),Hi,GZ, *]);rintro τ2 ⟨t23v,s2,h⟩;(try simp +decide only[go_sem, *]);refine cI h (λ_ h=>?_) λ_ h=>?_;(. (try simp +decide only[go_sem, *]);refine hN1 n1 (Nat.lt_succ_self _) _ _ ⟨_,?_,hL1.symm▸h⟩;simp +decide only[go_sem, *]);(try simp +decide only[go_sem, *]);refine cutH (λl=>∃t38v:Bool,(l 18=.sc (.pointer (some ⟨b1,0,none⟩))/\l 38=sb t38v)/\J3 L1 pos d t38v=some e) λM3 hM3=>⟨?_,?_⟩;(. (try simp +decide only[go_sem, *]);refine gI h (λ_ h=>?_) λ_ h=>?_;(. (try simp +decide only[go_sem, *]);refine gI h (λ_ h=>?_) λ_ h=>?_;(. (try simp +decide only[go_sem, *]);refine hM3 _ ⟨_,?_,h⟩;simp +decide only[go_sem, *]);(try simp +decide only[go_sem, *]);refine gI h (λ_ h=>?_) λ_ h=>?_;(. (try simp +decide only[go_sem, *]);refine hM3 _ ⟨_,?_,h⟩;simp +decide only[go_sem, *]);(try simp +decide only[go_sem, *]);refine hM3 _ ⟨_,?_,h⟩;simp +decide only[go_sem, *]);(try simp +decide only[go_sem, *]);refine hM3 _ ⟨_,?_,h⟩;simp +decide only[go_sem, *]);rintro τ3 ⟨t38v,s3,h⟩;(try simp +decide only[go_sem, *]);refine cI h (λ_ h=>?_) λ_ h=>?_;(. (try simp +decide only[go_sem, *]);refine hN1 n1 (Nat.lt_succ_self _) _ _ ⟨_,?_,hL1.symm▸h⟩;simp +decide only[go_sem, *]);obtain rfl:=AAO h;simp +decide only[go_sem, *]
    . replace h:=ifF e4 h;(try simp +decide only[go_sem,(ABO e4),Hi,GZ, *]);refine hM4 _ _ ⟨?_,h⟩;simp +decide only[go_sem,(ABO e4),Hi,GZ, *]
 rintro τ4 ν4 ⟨_,h⟩;obtain rfl:=AAO h;simp +decide only[go_sem, *]
end
namespace Ai
def J8:=some true
def J7(L3:i6)(d:Int)(p:Bool):=if p then
some false
else
L3 (A9 (d+1))
def L3(a:AF)(L3:i6)(d:Int):=if decide (d<(a.de.dc.AB.length:Int))then(gt a.de.dc.AB d).bind λx=>if x.dy then(CM d a).bind λv=>J7 L3 d (!v)
else
J7 L3 d false
else
J8
def Fw(a:AF):Nat->Int->ABm Bool
|0,_=>none
|n+1,d=>L3 a (Fw a n) d
def J6(a:AF)(o:Bool):=if o then
some false
else
Fw a BQ 0
def J5(a:AF):=if a.de.dc.Tx != (-1)then(CM a.de.dc.Tx a).bind λu=>J6 a (!u)
else
J6 a false
def J4(L1:i6)(b:Int):=L1 (A9 (b+1))
def J3(L2:ka)(e i:Int)(q:Bool):=if q then
some false
else
L2 i (A9 (e+1))
def L2(L1:i6)(b:Int)(a:AF)(c:AQ)(L2:ka)(f e:Int):=if decide (e<(c.Ae.length:Int))then(gt c.Ae e).bind λi=>if decide (i<=f)then
J3 L2 e i true
else(CM i a).bind λt=>J3 L2 e i (!t)
else
J4 L1 b
def B9(L1:i6)(b:Int)(a:AF)(c:AQ):Nat->Int->Int->ABm Bool
|0,_,_=>none
|n+1,f,e=>L2 L1 b a c (B9 L1 b a c n) f e
def J2(L1:i6)(b:Int)(a:AF)(c:AQ)(l:Bool):=if l then
some false
else
B9 L1 b a c BQ (-1) 0
def J1(L1:i6)(b:Int)(a:AF)(c:AQ)(j:Bool):=if j then
some false
else
if decide ((c.Ae.length:Int)>0)then(gt a.db.AK b).bind λw=>if !w.RW then
J2 L1 b a c true
else
J2 L1 b a c (c.Bw != (-1))
else
J2 L1 b a c false
def L1(a:AF)(L1:i6)(b:Int):=if decide (b<(a.de.dc.AK.length:Int))then(gt a.de.dc.AK b).bind λc=>if c.Bw != (-1)then(CM c.Bw a).bind λs=>J1 L1 b a c (!s)
else
J1 L1 b a c false
else
J5 a
def AU(a:AF):Nat->Int->ABm Bool
|0,_=>none
|n+1,b=>L1 a (AU a n) b
end Ai
section
open Ai
def Ai(a:AF):=AU a BQ 0
theorem Pl{a:AF}{r:Bool}(h:Ai a=some r):Says prog 47 [.agg (A5 a)] (sb r):=by refine kO mix func47 (hn [(1,[3,11,12,13,14,26,37,38,62,70,71,72,76,77,78,79,84,85,86,97]),(5,[22,27,32,46,51]),(10,[94])] [(9,1),(12,2),(24,6)] (E:=[(1,(Rc 11 [.y 1 (.mkf 95 [.t 1]),.w 3,.y 1 (.cp (.t 11))])),(5,(.dP [.o (KK 22 5 0 5),.o (iL 23 22),.o (iP 24 .neq 23 (-1)),.o (iC 25 24),.o (j1 26 1 (.cp (.t 3)) 25 true),.o (jFr 27 5 0 5 25 true),.o (jL 28 27 25 true),.clo (some ⟨29,[],[]⟩) 95 (.t 26) [.t 28] (some (25,true)),.o (jN 30 29 25 true),.o (iAn 31 25 30)])),(13,(.dP [.o (iC 58 8),.o (iC 59 6),.o (iO 60 .leq 58 59),.o (iC 61 60),.o (j1 62 1 (.cp (.t 3)) 61 false),.o (jC 63 8 61 false),.clo (some ⟨64,[],[]⟩) 95 (.t 62) [.t 63] (some (61,false)),.o (jN 65 64 61 false),.o (iOr 66 61 65)])),(18,(.dP [.o (KK 70 1 7 1),.o (KK 71 1 0 70),.o (KK 72 1 1 71),.o (iL 73 72),.o (iP 74 .neq 73 (-1)),.o (iC 75 74),.o (j1 76 1 (.cp (.t 3)) 75 true),.o (jFr 77 1 7 1 75 true),.o (jFr 78 1 0 77 75 true),.o (jFr 79 1 1 78 75 true),.o (jL 80 79 75 true),.clo (some ⟨81,[],[]⟩) 95 (.t 76) [.t 80] (some (75,true)),.o (jN 82 81 75 true),.o (iAn 83 75 82)])),(23,(.dP [.o (KK 94 10 2 10),.o (iL 95 94),.o (iC 96 95),.o (j1 97 1 (.cp (.t 3)) 96 true),.o (jC 98 9 96 true),.clo (some ⟨99,[],[]⟩) 95 (.t 97) [.t 98] (some (96,true)),.o (jN 100 99 96 true),.o (iAn 101 96 100)]))])) ?_;have a1:=@OB;have l3:=iJ λn b=>∃d,(b 1=bA 15 (A5 a)/\b 3=.cl 95 [(1,[])]/\b 87=vS 3 Ax a.de.dc.AB/\b 88=si (a.de.dc.AB.length:Int)/\b 89=si d)/\Fw a n d=some r;have l1:=iJ λn c=>∃b,(c 1=bA 15 (A5 a)/\c 3=.cl 95 [(1,[])]/\c 15=vS 2 C5 a.de.dc.AK/\c 16=si (a.de.dc.AK.length:Int)/\c 17=si b)/\AU a n b=some r;have l2:=iy λd _ _ _ n g=>∃(b:Int)(c:AQ)(f e:Int),(g 1=bA 15 (A5 a)/\g 3=.cl 95 [(1,[])]/\g 6=si f/\g 15=vS 2 C5 a.de.dc.AK/\g 16=si (a.de.dc.AK.length:Int)/\g 17=si b/\g 52=vS 1 eI c.Ae/\g 53=si (c.Ae.length:Int)/\g 54=si e)/\B9 (AU a d) b a c n f e=some r;have c6:=iR 6 λb=>∃o,(b 1=bA 15 (A5 a)/\b 3=.cl 95 [(1,[])]/\b 83=sb o)/\J6 a o=some r;have c2:=iz 2 λd _ _ _ e=>∃b c l,(e 1=bA 15 (A5 a)/\e 3=.cl 95 [(1,[])]/\e 5=bA 2 (C5 c)/\e 15=vS 2 C5 a.de.dc.AK/\e 16=si (a.de.dc.AK.length:Int)/\e 17=si b/\e 50=sb l)/\J2 (AU a d) b a c l=some r;have c1:=iz 1 λd _ _ _ e=>∃b c j,(e 1=bA 15 (A5 a)/\e 3=.cl 95 [(1,[])]/\e 4=si b/\e 5=bA 2 (C5 c)/\e 15=vS 2 C5 a.de.dc.AK/\e 16=si (a.de.dc.AK.length:Int)/\e 17=si b/\e 31=sb j)/\J1 (AU a d) b a c j=some r;unfold Ai at h;exact walk
end
namespace EB
def J1(R100:m0)(c:Int)(a:AO)(b:j7)(d:Bool):ABm (BU×AO):=if d then(Ao b.2 4).bind λe=>(Lc e.1).bind λp=>some (p,(AO.mk e.2 a.CA a.left a.Ik a.tx a.d9 a.ej a.eb))
else
if decide (b.1<7)then(Ao b.2 7).bind λf=>(gt [(⟨#[97]⟩:ABn),(⟨#[98]⟩:ABn),(⟨#[120]⟩:ABn),(⟨#[121]⟩:ABn),(⟨#[118]⟩:ABn),(⟨#[120]⟩:ABn),(⟨#[121]⟩:ABn)] f.1).bind λt=>(KM t).bind λq=>some (q,(AO.mk f.2 a.CA a.left a.Ik a.tx a.d9 a.ej a.eb))
else
if b.1==7 then(R100 (AO.mk b.2 a.CA a.left a.Ik a.tx a.d9 a.ej a.eb) 0).bind λi=>some ((BU.mk 3 0 (⟨#[113]⟩:ABn) [i.1]),i.2)
else(Ao b.2 6).bind λj=>(gt [6,7,8,11,13,17] j.1).bind λu=>(R100 (AO.mk j.2 a.CA a.left a.Ik a.tx a.d9 a.ej a.eb) (A9 (c-1))).bind λl=>(R100 l.2 (A9 (c-1))).bind λo=>(Jm u l.1 o.1).bind λs=>some (s,o.2)
end EB
variable{j:m0}{i:AO}{c:Int}{f:BU×AO}
section
open EB
def EB(R100:m0)(a:AO)(c:Int):=(Ao a.t 10).bind λb=>if decide (b.1<2)then
J1 R100 c a b true
else
if c==0 then
J1 R100 c a b (decide (b.1>=7))
else
J1 R100 c a b false
theorem Th(H100:∀{x0 x1 f},j x0 x1=some f->BF prog 254 [bA 8 (Ch x0),si x1] (.agg [si f.1.Op,si f.1.N,B0 f.1.dq,vS 4 BT f.1.L]) [bA 8 (Ch f.2),.dead])(h:EB j i c=some f):BF prog 254 [bA 8 (Ch i),si c] (.agg [si f.1.Op,si f.1.N,B0 f.1.dq,vS 4 BT f.1.L]) [bA 8 (Ch f.2),.dead]:=by refine kP mix func254 (hn [(0,[9,10,11,12,25,26,27,28,35,36,37,38,48,54,55,56,57]),(5,[34,39,42]),(7,[53,58,61])] [(4,1)] (E:=[(10,(.iH [(0,10,13,63),(0,14,17,67)] [i1 53 7 (.cp (.t 7)),i1 54 0 (.cp (.t 0)),i1 55 0 (.I6 (.t 54)),KK 56 0 0 55,Un 57 0 56,i1 58 7 (.cp (.t 7)),iZ 59 58,i0 60 (.YR 132 [] (.t 57) none [.t 59]),qK 61 7 1 53 60,iL 62 61,i0 63 .fl,iC 64 1,iP 65 .sub 64 1,i0 66 (.YR 254 [] (.t 0) none [.t 65]),i0 67 .fl,iC 68 1,iP 69 .sub 68 1,i0 70 (.YR 254 [] (.t 0) none [.t 69]),i0 71 (.call 255 [.t 62,.t 66,.t 70] 1),iS 4 4 71]))])) ?_;have a1:=@DD;have a2:=@Qx;have a3:=@Ux;have a4:=@H100;have a5:=@Qu;have c1:=iR 1 λe=>∃(b:j7)(d:Bool),(e 0=bA 8 [bA 2 (Ft b.2),si i.CA,si i.left,sb i.Ik,sb i.tx,sb i.d9,sb i.ej,vO 1 eS i.eb]/\e 1=si c/\e 4=bA 4 z20/\e 5=.own false 1 ([[B0 ⟨#[97]⟩],[B0 ⟨#[98]⟩],[B0 ⟨#[120]⟩],[B0 ⟨#[121]⟩],[B0 ⟨#[118]⟩],[B0 ⟨#[120]⟩],[B0 ⟨#[121]⟩]])/\e 6=si b.1/\e 14=sb d)/\J1 j c i b d=some f;unfold EB at h;exact walk
end
def OY:Nat->(AO->Int->ABm (BU×AO))
|0=>(λ_ _=>none)
|n+1=>EB ((OY n))
def Cv(n:Nat):AO->Int->ABm (BU×AO):=(OY n)
theorem SQ(n:Nat):(∀{x0 x1 r},(Cv n) x0 x1=some r->BF prog 254 [bA 8 (Ch x0),si x1] (.agg [si r.1.Op,si r.1.N,B0 r.1.dq,vS 4 BT r.1.L]) [bA 8 (Ch r.2),.dead]):=by induction n with|zero=>exactλh=>Cy h|succ n ih=>exactλh=>Th ih h
def SS{n:Nat}:∀{x0 x1 r},(Cv n) x0 x1=some r->BF prog 254 [bA 8 (Ch x0),si x1] (.agg [si r.1.Op,si r.1.N,B0 r.1.dq,vS 4 BT r.1.L]) [bA 8 (Ch r.2),.dead]:=(SQ n)
namespace BO
def J4(a:AE)(o:je):ABm ((List (List Int))×AE):=some (o,a)
def J3(L1:(List (List Int))->Int->ABm ((List (List Int))×AE))(b:Int)(l:je):=L1 l (A9 (b+1))
def J2(L1:(List (List Int))->Int->ABm ((List (List Int))×AE))(c:je)(b:Int)(e:AH)(j:iT):=(FK j e.cT).bind λq=>(gt c b).bind λv=>J3 L1 b (c.set b.toNat q)
def J1(L2:(List Int)->Int->ABm ((List (List Int))×AE))(d:Int)(i:iT):=L2 i (A9 (d+1))
def L2(L1:(List (List Int))->Int->ABm ((List (List Int))×AE))(c:je)(a:AE)(b:Int)(e:AH)(L2:(List Int)->Int->ABm ((List (List Int))×AE))(f:iT)(d:Int):=if decide (d<(a.d7.length:Int))then(gt a.d7 d).bind λs=>(gt s b).bind λt=>if t then(gt a.w.AA d).bind λu=>(FK f u.cT).bind λp=>J1 L2 d p
else
J1 L2 d f
else
J2 L1 c b e f
def B9(L1:(List (List Int))->Int->ABm ((List (List Int))×AE))(c:je)(a:AE)(b:Int)(e:AH):Nat->(List Int)->Int->ABm ((List (List Int))×AE)
|0,_,_=>none
|n+1,f,d=>L2 L1 c a b e (B9 L1 c a b e n) f d
def L1(a:AE)(L1:(List (List Int))->Int->ABm ((List (List Int))×AE))(c:je)(b:Int):=if decide (b<(a.w.AA.length:Int))then(gt a.w.AA b).bind λe=>if 0<=(a.ef.length:Int)/\(a.ef.length:Int)<=(a.ef.length:Int)/\Aq a.ef.length 8=true then
B9 L1 c a b e BQ (List.replicate a.ef.length (0:Int)) 0
else none
else
J4 a c
def AU(a:AE):Nat->(List (List Int))->Int->ABm ((List (List Int))×AE)
|0,_,_=>none
|n+1,c,b=>L1 a (AU a n) c b
end BO
section
open BO
def BO(a:AE):=if 0<=(a.d7.length:Int)/\(a.d7.length:Int)<=(a.d7.length:Int)/\Aq a.d7.length 24=true then
AU a BQ (List.replicate a.d7.length ([]:List Int)) 0
else none
theorem OZ{a:AE}{r:(List (List Int))×AE}(h:BO a=some r):BF prog 79 [bA 18 (Bf a)] (vO 1 KS r.1) [bA 18 (Bf r.2)]:=by refine kL mix func79 (hn [(0,[8,9,10,11,14,15,16,17,18,23,24,25,26,27,28,31,32,33,34,39,40,41,42,44,45,47,50,51,52,53,54,56,57]),(3,[61,67,69]),(5,[64]),(6,[49,63])]) ?_;have a1:=@cK;have l1:=iJ λn d=>∃c b,(d 0=bA 18 (Bf a)/\d 3=vO 1 KS c/\d 18=vS 7 Am a.w.AA/\d 19=si (a.w.AA.length:Int)/\d 20=si b)/\AU a n c b=some r;have l2:=iy λg _ _ _ n h=>∃c b e f d,(h 0=bA 18 (Bf a)/\h 3=vO 1 KS c/\h 4=si b/\h 5=bA 7 (Am e)/\h 6=vO 1 eI f/\h 18=vS 7 Am a.w.AA/\h 19=si (a.w.AA.length:Int)/\h 20=si b/\h 35=si (a.d7.length:Int)/\h 36=si d)/\B9 (AU a g) c a b e n f d=some r;unfold BO at h;exact walk
end
namespace I0
def J6:np:=some (0,0)
def J5(L1:ke)(b t w u v:Int):=L1 t w u v (A9 (b+1))
def J4(L1:ke)(j l o b:Int)(c:m9)(p:Int)(a:E1)(q:Bool):=if q then
some (2,a.Fq)
else
if a.da==5 then
if 0<=b/\b.toNat<=c.length then(DZ (c.take b.toNat) a.On).bind λs=>if decide (s<0)then
some (5,a.Fq)
else(gt c s).bind λaa=>if aa.da != 3 then
some (6,a.Fq)
else
J5 L1 b j p l o
else none
else
J5 L1 b j p l o
def J3(L1:ke)(b:Int)(c:m9)(a:E1)(j p l o:Int):=if decide (j>12)then
J4 L1 j l o b c p a true
else
if decide (p>4)then
J4 L1 j l o b c p a true
else
if decide (l>2)then
J4 L1 j l o b c p a true
else
J4 L1 j l o b c p a (decide (o>2))
def J2(L1:ke)(d e f b:Int)(c:m9)(i:Int)(a:E1)(y:Bool):=if y then
J3 L1 b c a d (A9 (i+1)) e f
else
if a.da==5 then
J3 L1 b c a d i (A9 (e+1)) f
else
J3 L1 b c a d i e (A9 (f+1))
def J1(L1:ke)(d e f b:Int)(c:m9)(i:Int)(a:E1)(x:Bool):=if x then
J3 L1 b c a (A9 (d+(if 1>a.Ca then 1 else a.Ca))) i e f
else
if a.da==3 then
J2 L1 d e f b c i a (a.da==3)
else
J2 L1 d e f b c i a (a.da==4)
def L1(c:m9)(L1:ke)(d i e f b:Int):=if decide (b<(c.length:Int))then(gt c b).bind λa=>if 0<=b/\b.toNat<=c.length then(DZ (c.take b.toNat) a.dq).bind λz=>if decide (z>=0)then
some (4,a.Fq)
else
if decide (a.Ca>4)then
some (2,a.Fq)
else
if a.da==1 then
J1 L1 d e f b c i a (a.da==1)
else
J1 L1 d e f b c i a (a.da==2)
else none
else
J6
def AU(c:m9):Nat->Int->Int->Int->Int->Int->ABm (Int×Int)
|0,_,_,_,_,_=>none
|n+1,d,i,e,f,b=>L1 c (AU c n) d i e f b
end I0
section
open I0
def I0(c:m9):=AU c BQ 0 0 0 0 0
theorem Zt{c:m9}{r:Int×Int}(h:I0 c=some r):Says prog 216 [vS 6 Kb c] (.Bp [si r.1,si r.2]):=by refine kO mix func216 (hn [(9,[24,28,30,33,35,43,70,72,78,83,91])] [(14,3),(22,4)]) ?_;have a1:=@Jx;have l1:=iJ λn a=>∃d i e f b,(a 0=vS 6 Kb c/\a 4=si d/\a 5=si i/\a 6=si e/\a 7=si f/\a 8=si b)/\AU c n d i e f b=some r;have c4:=iz 4 λd _ _ _ e=>∃j l o b p a q,(e 0=vS 6 Kb c/\e 4=si j/\e 5=si p/\e 6=si l/\e 7=si o/\e 8=si b/\e 9=bA 6 (Kb a)/\e 69=sb q)/\J4 (AU c d) j l o b c p a q=some r;have c3:=iz 3 λd _ _ _ e=>∃b a j p l o,(e 0=vS 6 Kb c/\e 4=si j/\e 5=si p/\e 6=si l/\e 7=si o/\e 8=si b/\e 9=bA 6 (Kb a))/\J3 (AU c d) b c a j p l o=some r;unfold I0 at h;exact walk
end
namespace Ak
def J4(L2:jp)(i:Int)(s:AE):=L2 s (A9 (i+1))
def J3(L2:jp)(e:Int)(f:AE)(i:Int)(u:Bool):=if u then(gt f.d7 e).bind λq=>(gt q i).bind λz=>J4 L2 i (AE.mk f.w f.ef f.ep (f.d7.set e.toNat (q.set i.toNat true)))
else
J4 L2 i f
def J2(L2:jp)(e:Int)(f:AE)(b:Bool)(i:Int)(o:AH)(t:Bool):=if t then
J4 L2 i f
else
if !b then
J3 L2 e f i true
else
J3 L2 e f i (o.da != 8)
def L2(e d:Int)(a:AE)(b:Bool)(c:Int)(L2:jp)(f:AE)(i:Int):=if decide (i<(a.w.AA.length:Int))then(gt a.w.AA i).bind λo=>if o.cT==c then
J2 L2 e f b i o true
else(GD f.w.db o).bind λw=>J2 L2 e f b i o (w != d)
else
some f
def B9(e d:Int)(a:AE)(b:Bool)(c:Int):Nat->AE->Int->ABm AE
|0,_,_=>none
|n+1,f,i=>L2 e d a b c (B9 e d a b c n) f i
def J1(d:Int)(a:AE)(b:Bool)(c e:Int):=if decide (e<0)then
some a
else
B9 e d a b c BQ a 0
def L1(d:Int)(a:AE)(b:Bool)(c:Int)(j:iT)(L1:Int->ABm AE)(l:Int):=if decide (l<(j.length:Int))then(gt a.ef c).bind λx=>(gt x l).bind λp=>(gt a.w.AA p).bind λy=>(GF a.w.db y).bind λv=>if v==d then
J1 d a b c p
else
L1 (A9 (l+1))
else
J1 d a b c (-1)
def AU(d:Int)(a:AE)(b:Bool)(c:Int)(j:iT):Nat->Int->ABm AE
|0,_=>none
|n+1,l=>L1 d a b c j (AU d a b c j n) l
end Ak
section
open Ak
def Ak(a:AE)(c d:Int)(b:Bool):=(gt a.ef c).bind λj=>AU d a b c j BQ 0
theorem Nz{a:AE}{c d:Int}{b:Bool}{r:AE}(h:Ak a c d b=some r):BF prog 174 [bA 18 (Bf a),si c,si d,sb b] (.Bp []) [bA 18 (Bf r),.dead,.dead,.dead]:=by refine kL mix func174 (hn [(0,[13,14,15,16,18,19,23,25,26,27,28,29,30,31,32,33,34,36,37,45,46,47,48,49,54,55,61,62,63,64,65,78,79,80,81,83,84,86]),(12,[56,66,74])] [(1,1)]) ?_;have a1:=@WY;have a2:=@WZ;have l2:=iJ λn g=>∃e f i,(g 0=bA 18 (Bf f)/\g 1=si c/\g 2=si d/\g 3=sb b/\g 8=si e/\g 49=vS 7 Am a.w.AA/\g 50=si (a.w.AA.length:Int)/\g 51=si i)/\B9 e d a b c n f i=some r;have l1:=iJ λn e=>∃(j:iT)(l:Int),(e 0=bA 18 (Bf a)/\e 1=si c/\e 2=si d/\e 3=sb b/\e 8=si (-1)/\e 19=.al 0 [(0,15,18),(c.toNat,0,1)]/\e 20=si (j.length:Int)/\e 21=si l)/\AU d a b c j n l=some r;have c1:=iR 1 λf=>∃e,(f 0=bA 18 (Bf a)/\f 1=si c/\f 2=si d/\f 3=sb b/\f 8=si e)/\J1 d a b c e=some r;unfold Ak at h;exact walk
end
namespace Cg
def J4(l:Bool):ABm Bool:=some l
def J6(o:Bool):ABm Bool:=some o
def J9(b:Int)(c:AG)(q:Bool):ABm Bool:=if q then(De b (c.AM.length:Int)).bind λx=>some x
else
some false
def J8(a b:Int)(c:AG)(p:Bool):=if p then(De b (c.AB.length:Int)).bind λw=>some w
else
if a==22 then
J9 b c (a==22)
else
J9 b c (a==23)
def J7(a b:Int)(c:AG)(i:Bool):=if i then(De b (c.Aj.length:Int)).bind λv=>some v
else
if a==20 then
J8 a b c (a==20)
else
J8 a b c (a==21)
def J5(a b:Int)(c:AG)(f:Bool):=if f then(De b (c.AK.length:Int)).bind λu=>if u then(gt c.AK b).bind λz=>J6 z.RW
else
J6 false
else
if a==16 then
J7 a b c (a==16)
else
if a==17 then
J7 a b c (a==17)
else
if a==18 then
J7 a b c (a==18)
else
J7 a b c (a==19)
def J3(a b:Int)(c:AG)(e:Bool):=if e then(De b (c.AK.length:Int)).bind λt=>if t then(gt c.AK b).bind λy=>J4 (!y.RW)
else
J4 false
else
if a==8 then
J5 a b c (a==8)
else
if a==9 then
J5 a b c (a==9)
else
if a==10 then
J5 a b c (a==10)
else
J5 a b c (a==11)
def J2(a b:Int)(c:AG)(d:Bool):=if d then(De b (c.dg.length:Int)).bind λs=>some s
else
if a==6 then
J3 a b c (a==6)
else
J3 a b c (a==7)
def J1(a b:Int)(c:AG)(j:Bool):=if j then
some (b==(-1))
else
if a==3 then
J2 a b c (a==3)
else
J2 a b c (a==4)
end Cg
section
open Cg
def Cg(c:AG)(a b:Int):=if a==1 then
J1 a b c (a==1)
else
if a==2 then
J1 a b c (a==2)
else
if a==5 then
J1 a b c (a==5)
else
if a==12 then
J1 a b c (a==12)
else
if a==13 then
J1 a b c (a==13)
else
if a==14 then
J1 a b c (a==14)
else
J1 a b c (a==15)
theorem U7{c:AG}{a b:Int}{r:Bool}(h:Cg c a b=some r):Says prog 191 [.agg (A0 c),si a,si b] (sb r):=by refine kO mix func191 (hn [(3,[22,30,35,49,54,67,75,83])] [(3,1),(11,2),(14,3),(17,5),(22,7)]) ?_;have a1:=@LF;have c7:=iR 7 λd=>∃i,(d 2=si b/\d 3=bA 6 (A0 c)/\d 7=si a/\d 61=sb i)/\J7 a b c i=some r;have c5:=iR 5 λd=>∃f,(d 2=si b/\d 3=bA 6 (A0 c)/\d 7=si a/\d 43=sb f)/\J5 a b c f=some r;have c3:=iR 3 λd=>∃e,(d 2=si b/\d 3=bA 6 (A0 c)/\d 7=si a/\d 26=sb e)/\J3 a b c e=some r;have c2:=iR 2 λe=>∃d,(e 2=si b/\e 3=bA 6 (A0 c)/\e 7=si a/\e 18=sb d)/\J2 a b c d=some r;have c1:=iR 1 λd=>∃j,(d 2=si b/\d 3=bA 6 (A0 c)/\d 7=si a/\d 8=sb j)/\J1 a b c j=some r;unfold Cg at h;exact walk
end
namespace JD
def J4(l:Bool):ABm Bool:=some l
def J6(o:Bool):ABm Bool:=some o
def J9(b:Int)(c:AG)(q:Bool):ABm Bool:=if q then(IL b (c.AM.length:Int)).bind λx=>some x
else
some false
def J8(a b:Int)(c:AG)(p:Bool):=if p then(IL b (c.AB.length:Int)).bind λw=>some w
else
if a==22 then
J9 b c (a==22)
else
J9 b c (a==23)
def J7(a b:Int)(c:AG)(i:Bool):=if i then(IL b (c.Aj.length:Int)).bind λv=>some v
else
if a==20 then
J8 a b c (a==20)
else
J8 a b c (a==21)
def J5(a b:Int)(c:AG)(f:Bool):=if f then(IL b (c.AK.length:Int)).bind λu=>if u then(gt c.AK b).bind λz=>J6 z.RW
else
J6 false
else
if a==16 then
J7 a b c (a==16)
else
if a==17 then
J7 a b c (a==17)
else
if a==18 then
J7 a b c (a==18)
else
J7 a b c (a==19)
def J3(a b:Int)(c:AG)(e:Bool):=if e then(IL b (c.AK.length:Int)).bind λt=>if t then(gt c.AK b).bind λy=>J4 (!y.RW)
else
J4 false
else
if a==8 then
J5 a b c (a==8)
else
if a==9 then
J5 a b c (a==9)
else
if a==10 then
J5 a b c (a==10)
else
J5 a b c (a==11)
def J2(a b:Int)(c:AG)(d:Bool):=if d then(IL b (c.dg.length:Int)).bind λs=>some s
else
if a==6 then
J3 a b c (a==6)
else
J3 a b c (a==7)
def J1(a b:Int)(c:AG)(j:Bool):=if j then
some (b==(-1))
else
if a==3 then
J2 a b c (a==3)
else
J2 a b c (a==4)
end JD
section
open JD
def JD(c:AG)(a b:Int):=if a==1 then
J1 a b c (a==1)
else
if a==2 then
J1 a b c (a==2)
else
if a==5 then
J1 a b c (a==5)
else
if a==12 then
J1 a b c (a==12)
else
if a==13 then
J1 a b c (a==13)
else
if a==14 then
J1 a b c (a==14)
else
J1 a b c (a==15)
theorem Z4{c:AG}{a b:Int}{r:Bool}(h:JD c a b=some r):Says prog 121 [.agg (A0 c),si a,si b] (sb r):=by refine kO mix func121 (hn [(3,[22,30,35,49,54,67,75,83])] [(3,1),(11,2),(14,3),(17,5),(22,7)]) ?_;have a1:=@XH;have c7:=iR 7 λd=>∃i,(d 2=si b/\d 3=bA 6 (A0 c)/\d 7=si a/\d 61=sb i)/\J7 a b c i=some r;have c5:=iR 5 λd=>∃f,(d 2=si b/\d 3=bA 6 (A0 c)/\d 7=si a/\d 43=sb f)/\J5 a b c f=some r;have c3:=iR 3 λd=>∃e,(d 2=si b/\d 3=bA 6 (A0 c)/\d 7=si a/\d 26=sb e)/\J3 a b c e=some r;have c2:=iR 2 λe=>∃d,(e 2=si b/\e 3=bA 6 (A0 c)/\e 7=si a/\e 18=sb d)/\J2 a b c d=some r;have c1:=iR 1 λd=>∃j,(d 2=si b/\d 3=bA 6 (A0 c)/\d 7=si a/\d 8=sb j)/\J1 a b c j=some r;unfold JD at h;exact walk
end
namespace DF
def J5:np:=some (0,0)
def J4(L2:ky)(c:Int):=L2 (A9 (c+1))
def J3(L3:ky)(d:Int)(b:DB)(l:Bool):=if l then
some (4,b.Fq)
else
L3 (A9 (d+1))
def L3(L2:ky)(c:Int)(a:Aa)(b:DB)(L3:ky)(d:Int):=if decide (d<(b.Hp.length:Int))then(gt b.Hp d).bind λi=>(DZ a.ek i).bind λq=>if decide (q>=0)then
J3 L3 d b true
else(DO a.AB i).bind λs=>if decide (s>=0)then
J3 L3 d b true
else
if 0<=d/\d.toNat<=b.Hp.length then(Cz (b.Hp.take d.toNat) i).bind λt=>J3 L3 d b (decide (t>=0))
else none
else
J4 L2 c
def Fw(L2:ky)(c:Int)(a:Aa)(b:DB):Nat->Int->ABm (Int×Int)
|0,_=>none
|n+1,d=>L3 L2 c a b (Fw L2 c a b n) d
def L2(a:Aa)(L2:ky)(c:Int):=if decide (c<(a.AB.length:Int))then(gt a.AB c).bind λb=>if decide ((b.Hp.length:Int)>4)then
some (2,b.Fq)
else
Fw L2 c a b BQ 0
else
J5
def B9(a:Aa):Nat->Int->ABm (Int×Int)
|0,_=>none
|n+1,c=>L2 a (B9 a n) c
def J2(a:Aa):=B9 a BQ 0
def J1(L1:ky)(e:Int)(f:DB)(j:Bool):=if j then
some (4,f.Fq)
else
L1 (A9 (e+1))
def L1(a:Aa)(L1:ky)(e:Int):=if decide (e<(a.AB.length:Int))then(gt a.AB e).bind λf=>(DZ a.ek f.dq).bind λo=>if decide (o>=0)then
J1 L1 e f true
else
if 0<=e/\e.toNat<=a.AB.length then(DO (a.AB.take e.toNat) f.dq).bind λp=>J1 L1 e f (decide (p>=0))
else none
else
J2 a
def AU(a:Aa):Nat->Int->ABm (Int×Int)
|0,_=>none
|n+1,e=>L1 a (AU a n) e
end DF
section
open DF
def DF(a:Aa):=AU a BQ 0
theorem Wg{a:Aa}{r:Int×Int}(h:DF a=some r):Says prog 217 [.agg (Cf a)] (.Bp [si r.1,si r.2]):=by refine kO mix func217 (hn [(1,[11,17,22,29,41,47,70,76]),(5,[24,33,38]),(7,[52,56,59,65,83,91])]) ?_;have a1:=@Jx;have a2:=@Kg;have a3:=@IX;have l2:=iJ λn b=>∃c,(b 1=bA 2 (Cf a)/\b 6=si c)/\B9 a n c=some r;have l3:=iy λ_ e _ _ n f=>∃c b d,(f 1=bA 2 (Cf a)/\f 6=si c/\f 7=bA 4 (JO b)/\f 8=si d)/\Fw (B9 a e) c a b n d=some r;have l1:=iJ λn b=>∃e,(b 1=bA 2 (Cf a)/\b 4=si e)/\AU a n e=some r;unfold DF at h;exact walk
end
def Hy(R100:BX->BU->Int->ABm BX)(c:BX)(a:BU)(b:Int):ABm BX:=if a.Op==1 then(BV c (An.mk 1 b 0 0 a.N 0)).bind λi=>some i
else
if a.Op==2 then(Cz c.dr a.dq).bind λe=>if decide (e>=0)then(BV c (An.mk 2 b e 0 0 0)).bind λo=>some o
else(Ce c.w a.dq).bind λp=>(BV c (An.mk 6 b p 0 0 0)).bind λq=>some q
else
if a.Op==3 then(gt a.L 0).bind λv=>(R100 c v b).bind λd=>(Ce d.w a.dq).bind λf=>(gt d.w.dg f).bind λw=>(BV d (An.mk 7 b f b w.Ca 0)).bind λs=>some s
else
if(a.L.length:Int)==1 then(gt a.L 0).bind λx=>(R100 c x b).bind λt=>(BV t (An.mk 3 b b 0 a.Op 0)).bind λu=>some u
else(gt a.L 0).bind λy=>(R100 c y b).bind λj=>(gt a.L 1).bind λz=>(R100 j z (A9 (b+1))).bind λl=>(BV l (An.mk 4 b b (A9 (b+1)) a.Op 0)).bind λaa=>some aa
variable{k:BX->BU->Int->ABm BX}{a b:BX}{g:BU}
theorem Ty(H100:∀{x0 x1 x2 b},k x0 x1 x2=some b->BF prog 253 [bA 10 (Ee x0),.agg [si x1.Op,si x1.N,B0 x1.dq,vS 4 BT x1.L],si x2] (.Bp []) [bA 10 (Ee b),.dead,.dead])(h:Hy k a g c=some b):BF prog 253 [bA 10 (Ee a),.agg [si g.Op,si g.N,B0 g.dq,vS 4 BT g.L],si c] (.Bp []) [bA 10 (Ee b),.dead,.dead]:=by refine kL mix func253 (hn [(0,[8,15,23,36,46,47,48,49,55,60,62,63,64,65,75,82,83,84,85,89,93,94,95,96,97,99,100,109,116]),(4,[9,16,28,33,38,43,50,66,72,76,86,105,110,119])]) ?_;have a1:=@HK;have a2:=@IX;have a3:=@P0;have a4:=@H100;unfold Hy at h;exact walk
def Od:Nat->(BX->BU->Int->ABm BX)
|0=>(λ_ _ _=>none)
|n+1=>Hy ((Od n))
def DU(n:Nat):BX->BU->Int->ABm BX:=(Od n)
theorem Sf(n:Nat):(∀{x0 x1 x2 r},(DU n) x0 x1 x2=some r->BF prog 253 [bA 10 (Ee x0),.agg [si x1.Op,si x1.N,B0 x1.dq,vS 4 BT x1.L],si x2] (.Bp []) [bA 10 (Ee r),.dead,.dead]):=by induction n with|zero=>exactλh=>Cy h|succ n ih=>exactλh=>Ty ih h
def Jf{n:Nat}:∀{x0 x1 x2 r},(DU n) x0 x1 x2=some r->BF prog 253 [bA 10 (Ee x0),.agg [si x1.Op,si x1.N,B0 x1.dq,vS 4 BT x1.L],si x2] (.Bp []) [bA 10 (Ee r),.dead,.dead]:=(Sf n)
end Go.Abs
