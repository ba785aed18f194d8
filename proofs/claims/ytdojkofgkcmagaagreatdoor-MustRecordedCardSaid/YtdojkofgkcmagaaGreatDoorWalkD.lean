/- Go functions do what typed programs say. -/
import Derived.Test.YtdojkofgkcmagaaGreatDoorWalkB
import Derived.Test.YtdojkofgkcmagaaGreatDoorWalkC
import Derived.Shelf.Slices.SearchI
set_option linter.all false
namespace Go.Abs
open Go.Proofs Tryz
set_option maxRecDepth 1000000
set_option maxHeartbeats 4000000
def f142c:eN:=(.seq (.ic (Rc 0 [.B 2 false]))
(.seq (.ic (cutS (Rc 5 [.C 0,.o (.gE (.t 5)),.P .lss 6 1,.C 7,.G 8 false,.C 0,.o (.gE (.t 9)),.P .gtr 10 12,.e,.V 8 11,.C 12,.G 13 false,.C 0,.c 190 [14] 0,.e,.V 13 15])
(Ci 16 (Rb 0 [.B 2 false]))))
(qB (.seq (.fK [.x (.o ⟨some ⟨17,[],[]⟩,.cp (.t 0),none⟩),.rng ⟨18,[],[]⟩ (.t 17)])
(.block 0 (.loop (.seq (.fK [.nxt ⟨19,[],[]⟩ (.t 18),.x (.o ⟨some ⟨20,[],[]⟩,.ext (.t 19) 0,none⟩)])
(.ic (Sq (cX 20 0)
(Bk 1 (Ra 21 [.o (.ext (.t 19) 1),.o (.ext (.t 19) 2),.M 3 21,.M 4 22]
(Bk 2 (cutS (Rc 24 [.C 4,.o (.bin .leq (.c (.sc (.int .i32 97))) (.t 24)),.C 25,.G 26 true,.C 4,.o (.bin .leq (.t 27) (.c (.sc (.int .i32 122)))),.e,.W 26 28,.C 29,.G 30 false,.C 4,.o (.bin .leq (.c (.sc (.int .i32 65))) (.t 31)),.C 32,.G 33 true,.C 4,.o (.bin .leq (.t 34) (.c (.sc (.int .i32 90)))),.G 30 false,.o (.pick (.t 33) (.t 35) (.c (sb false))),.e,.V 30 36,.M 23 37])
(Cn 23 .skip (cutS (Rc 39 [.C 3,.P .gtr 39 0,.C 40,.G 41 true,.C 4,.o (.bin .eql (.t 42) (.c (.sc (.int .i32 95)))),.C 43,.G 44 false,.C 4,.o (.bin .leq (.c (.sc (.int .i32 48))) (.t 45)),.C 46,.G 47 true,.C 4,.o (.bin .leq (.t 48) (.c (.sc (.int .i32 57)))),.G 44 false,.o (.pick (.t 47) (.t 49) (.c (sb false))),.G 41 true,.o (.pick (.t 44) (.c (sb true)) (.t 50)),.e,.W 41 51,.M 38 52])
(Cn 38 .skip (Rb 0 [.B 2 false]))))))))))))))
(.ic (Rb 0 [.B 2 true])))))
def f142g:Gi:=⟨[]⟩
def f142r:List RV:=[.tmp 2]
def f142:FIM:=⟨f142c,f142g,f142r⟩
def chk142:zR prog Tryz.f142 f142:=by kernel_rfl
namespace DX
def J4:=some true
def J3(L1:Nat->ABi Bool)(pos:Nat)(s:ABj)(t38v:Bool):=if t38v then
L1 (pos+(Utf8.decode s pos).2)
else
some false
def J2(L1:Nat->ABi Bool)(pos:Nat)(s:ABj)(t23v:Bool):=if t23v then
L1 (pos+(Utf8.decode s pos).2)
else
if decide ((pos:Int)>0)then
if((Utf8.decode s pos).1:Int)==95 then
J3 L1 pos s true
else
if decide (48<=((Utf8.decode s pos).1:Int))then
J3 L1 pos s (decide (((Utf8.decode s pos).1:Int)<=57))
else
J3 L1 pos s false
else
J3 L1 pos s false
def L1(s:ABj)(L1:Nat->ABi Bool)(pos:Nat):=if decide (pos<s.size)then
if decide (97<=((Utf8.decode s pos).1:Int))then
if decide (((Utf8.decode s pos).1:Int)<=122)then
J2 L1 pos s true
else
if decide (65<=((Utf8.decode s pos).1:Int))then
J2 L1 pos s (decide (((Utf8.decode s pos).1:Int)<=90))
else
J2 L1 pos s false
else
if decide (65<=((Utf8.decode s pos).1:Int))then
J2 L1 pos s (decide (((Utf8.decode s pos).1:Int)<=90))
else
J2 L1 pos s false
else
J4
def AR(s:ABj):Nat->Nat->ABi Bool
|0,_=>none
|n+1,pos=>L1 s (AR s n) pos
def J1(s:ABj)(t16v:Bool):=if t16v then
some false
else
AR s BQ 0
end DX
variable{d:ABj}{e:Bool}
section
open DX
def DX(s:ABj):=if decide ((s.size:Int)<1)then
J1 s true
else
if decide ((s.size:Int)>12)then
J1 s true
else(ET s).bind λv=>J1 s v
theorem Yx(h:DX d=some e):Says prog 142 [B4 d] (sb e):=by
 refine sJ mix func142 chk142 (AAQ (by kernel_rfl)) rfl ?_;simp only[f142,f142c,f142g,f142r];try simp +decide only[go_sem, *]
 refine cutH (λl=>∃t16v:Bool,(l 0=B4 d/\l 16=sb t16v)/\J1 d t16v=some e) λM1 hM1=>⟨?_,?_⟩
 . (try simp +decide only[go_sem, *]);refine gI h (λ_ h=>?_) λ_ h=>?_;(. (try simp +decide only[go_sem, *]);refine hM1 _ ⟨_,?_,h⟩;simp +decide only[go_sem, *]);(try simp +decide only[go_sem, *]);refine gI h (λ_ h=>?_) λ_ h=>?_;(. (try simp +decide only[go_sem, *]);refine hM1 _ ⟨_,?_,h⟩;simp +decide only[go_sem, *]);obtain⟨v,g1,h⟩:=bS h;(try simp +decide only[go_sem, *]);refine⟨_,UX g1,?_⟩;(try simp +decide only[go_sem, *]);refine hM1 _ ⟨_,?_,h⟩;simp +decide only[go_sem, *]
 rintro τ1 ⟨t16v,s1,h⟩;try simp +decide only[go_sem, *]
 refine cI h (λ_ h=>?_) λ_ h=>?_;obtain rfl:=AAK h;simp +decide only[go_sem, *];try simp +decide only[go_sem, *]
 refine qC (λl m=>(True)/\J4=some e) λM4 hM4=>⟨?_,?_⟩
 . (try simp +decide only[go_sem, *]);intro b1 hb1;(try simp +decide only[go_sem, *]);refine loopMH (λn l m=>∃pos:Nat,(l 18=.sc (.pointer (some ⟨b1,0,none⟩))/\m b1=some (.it d pos))/\AR d n pos=some e) ⟨_,?_,h⟩ λn1 τ1 ν1 N1=>?_;simp +decide only[go_sem, *];rintro⟨pos,s1,h⟩ hN1;cases n1 with
   |zero=>exact DT h
   |succ n1=>
    rw[AR]at h;generalize hL1:AR d n1=L1 at h;(try simp +decide only[go_sem, *]);rcases bool_sp (decide (pos<d.size))with e4|e4
    . replace h:=ifT e4 h;(try simp +decide only[go_sem,(AAQ e4),IP,G3, *]);refine cutH (λl=>∃t23v:Bool,(l 3=si (pos:Int)/\l 4=.sc (.int .i32 ((Utf8.decode d pos).1:Int))/\l 18=.sc (.pointer (some ⟨b1,0,none⟩))/\l 23=sb t23v)/\J2 L1 pos d t23v=some e) λM2 hM2=>⟨?_,?_⟩;(. (try simp +decide only[go_sem,(AAQ e4),IP,G3, *]);refine gI h (λ_ h=>?_) λ_ h=>?_;(. (try simp +decide only[go_sem,(AAQ e4),IP,G3, *]);refine gI h (λ_ h=>?_) λ_ h=>?_;(. (try simp +decide only[go_sem,(AAQ e4),IP,G3, *]);refine hM2 _ ⟨_,?_,h⟩;simp +decide only[go_sem,(AAQ e4),IP,G3, *]);(try simp +decide only[go_sem,(AAQ e4),IP,G3, *]);refine gI h (λ_ h=>?_) λ_ h=>?_;(. (try simp +decide only[go_sem,(AAQ e4),IP,G3, *]);refine hM2 _ ⟨_,?_,h⟩;simp +decide only[go_sem,(AAQ e4),IP,G3, *]);(try simp +decide only[go_sem,(AAQ e4),IP,G3, *]);refine hM2 _ ⟨_,?_,h⟩;simp +decide only[go_sem,(AAQ e4),IP,G3, *]);(try simp +decide only[go_sem,(AAQ e4),IP,G3, *]);refine gI h (λ_ h=>?_) λ_ h=>?_;(. (try simp +decide only[go_sem,(AAQ e4),IP,G3, *]);refine hM2 _ ⟨_,?_,h⟩;simp +decide only[go_sem,(AAQ e4),IP,G3, *]);(try simp +decide only[go_sem,(AAQ e4),IP,G3, *]);refine hM2 _ ⟨_,?_,h⟩;simp +decide only[go_sem,(AAQ e4),IP,G3, *]);rintro τ2 ⟨t23v,s2,h⟩;(try simp +decide only[go_sem, *]);refine cI h (λ_ h=>?_) λ_ h=>?_;(. (try simp +decide only[go_sem, *]);refine hN1 n1 (Nat.lt_succ_self _) _ _ ⟨_,?_,hL1.symm▸h⟩;simp +decide only[go_sem, *]);(try simp +decide only[go_sem, *]);refine cutH (λl=>∃t38v:Bool,(l 18=.sc (.pointer (some ⟨b1,0,none⟩))/\l 38=sb t38v)/\J3 L1 pos d t38v=some e) λM3 hM3=>⟨?_,?_⟩;(. (try simp +decide only[go_sem, *]);refine gI h (λ_ h=>?_) λ_ h=>?_;(. (try simp +decide only[go_sem, *]);refine gI h (λ_ h=>?_) λ_ h=>?_;(. (try simp +decide only[go_sem, *]);refine hM3 _ ⟨_,?_,h⟩;simp +decide only[go_sem, *]);(try simp +decide only[go_sem, *]);refine gI h (λ_ h=>?_) λ_ h=>?_;(. (try simp +decide only[go_sem, *]);refine hM3 _ ⟨_,?_,h⟩;simp +decide only[go_sem, *]);(try simp +decide only[go_sem, *]);refine hM3 _ ⟨_,?_,h⟩;simp +decide only[go_sem, *]);(try simp +decide only[go_sem, *]);refine hM3 _ ⟨_,?_,h⟩;simp +decide only[go_sem, *]);rintro τ3 ⟨t38v,s3,h⟩;(try simp +decide only[go_sem, *]);refine cI h (λ_ h=>?_) λ_ h=>?_;(. (try simp +decide only[go_sem, *]);refine hN1 n1 (Nat.lt_succ_self _) _ _ ⟨_,?_,hL1.symm▸h⟩;simp +decide only[go_sem, *]);obtain rfl:=AAK h;simp +decide only[go_sem, *]
    . replace h:=ifF e4 h;(try simp +decide only[go_sem,(ABK e4),IP,G3, *]);refine hM4 _ _ ⟨?_,h⟩;simp +decide only[go_sem,(ABK e4),IP,G3, *]
 rintro τ4 ν4 ⟨_,h⟩;obtain rfl:=AAK h;simp +decide only[go_sem, *]
end
namespace Aj
def J8:=some true
def J7(L3:ja)(d:Int)(p:Bool):=if p then
some false
else
L3 (A8 (d+1))
def L3(a:AE)(L3:ja)(d:Int):=if decide (d<(a.dg.df.AA.length:Int))then(gt a.dg.df.AA d).bind λx=>if x.d6 then(CU d a).bind λv=>J7 L3 d (!v)
else
J7 L3 d false
else
J8
def E3(a:AE):Nat->Int->ABi Bool
|0,_=>none
|n+1,d=>L3 a (E3 a n) d
def J6(a:AE)(o:Bool):=if o then
some false
else
E3 a BQ 0
def J5(a:AE):=if a.dg.df.Tx != (-1)then(CU a.dg.df.Tx a).bind λu=>J6 a (!u)
else
J6 a false
def J4(L1:ja)(b:Int):=L1 (A8 (b+1))
def J3(L2:ka)(e i:Int)(q:Bool):=if q then
some false
else
L2 i (A8 (e+1))
def L2(L1:ja)(b:Int)(a:AE)(c:AW)(L2:ka)(f e:Int):=if decide (e<(c.Am.length:Int))then(gt c.Am e).bind λi=>if decide (i<=f)then
J3 L2 e i true
else(CU i a).bind λt=>J3 L2 e i (!t)
else
J4 L1 b
def Bs(L1:ja)(b:Int)(a:AE)(c:AW):Nat->Int->Int->ABi Bool
|0,_,_=>none
|n+1,f,e=>L2 L1 b a c (Bs L1 b a c n) f e
def J2(L1:ja)(b:Int)(a:AE)(c:AW)(l:Bool):=if l then
some false
else
Bs L1 b a c BQ (-1) 0
def J1(L1:ja)(b:Int)(a:AE)(c:AW)(j:Bool):=if j then
some false
else
if decide ((c.Am.length:Int)>0)then(gt a.dc.AK b).bind λw=>if !w.RW then
J2 L1 b a c true
else
J2 L1 b a c (c.B6 != (-1))
else
J2 L1 b a c false
def L1(a:AE)(L1:ja)(b:Int):=if decide (b<(a.dg.df.AK.length:Int))then(gt a.dg.df.AK b).bind λc=>if c.B6 != (-1)then(CU c.B6 a).bind λs=>J1 L1 b a c (!s)
else
J1 L1 b a c false
else
J5 a
def AR(a:AE):Nat->Int->ABi Bool
|0,_=>none
|n+1,b=>L1 a (AR a n) b
end Aj
section
open Aj
def Aj(a:AE):=AR a BQ 0
theorem QC{a:AE}{r:Bool}(h:Aj a=some r):Says prog 47 [.agg (Av a)] (sb r):=by refine kO mix func47 (hn [(1,[3,11,12,13,14,26,37,38,62,70,71,72,76,77,78,79,84,85,86,97]),(5,[22,27,32,46,51]),(10,[94])] [(9,1),(12,2),(24,6)] (E:=[(1,(Rc 11 [.y 1 (.mkf 95 [.t 1]),.w 3,.y 1 (.cp (.t 11))])),(5,(.kH [.o (Ko 22 5 0 5),.o (iL 23 22),.o (iP 24 .neq 23 (-1)),.o (iC 25 24),.o (j1 26 1 (.cp (.t 3)) 25 true),.o (jFr 27 5 0 5 25 true),.o (jL 28 27 25 true),.clo (some ⟨29,[],[]⟩) 95 (.t 26) [.t 28] (some (25,true)),.o (jN 30 29 25 true),.o (iAn 31 25 30)])),(13,(.kH [.o (iC 58 8),.o (iC 59 6),.o (iO 60 .leq 58 59),.o (iC 61 60),.o (j1 62 1 (.cp (.t 3)) 61 false),.o (jC 63 8 61 false),.clo (some ⟨64,[],[]⟩) 95 (.t 62) [.t 63] (some (61,false)),.o (jN 65 64 61 false),.o (iOr 66 61 65)])),(18,(.kH [.o (Ko 70 1 7 1),.o (Ko 71 1 0 70),.o (Ko 72 1 1 71),.o (iL 73 72),.o (iP 74 .neq 73 (-1)),.o (iC 75 74),.o (j1 76 1 (.cp (.t 3)) 75 true),.o (jFr 77 1 7 1 75 true),.o (jFr 78 1 0 77 75 true),.o (jFr 79 1 1 78 75 true),.o (jL 80 79 75 true),.clo (some ⟨81,[],[]⟩) 95 (.t 76) [.t 80] (some (75,true)),.o (jN 82 81 75 true),.o (iAn 83 75 82)])),(23,(.kH [.o (Ko 94 10 2 10),.o (iL 95 94),.o (iC 96 95),.o (j1 97 1 (.cp (.t 3)) 96 true),.o (jC 98 9 96 true),.clo (some ⟨99,[],[]⟩) 95 (.t 97) [.t 98] (some (96,true)),.o (jN 100 99 96 true),.o (iAn 101 96 100)]))])) ?_;have a1:=@Om;have l3:=i4 λn b=>∃d,(b 1=bA 15 (Av a)/\b 3=.cl 95 [(1,[])]/\b 87=vS 3 Ay a.dg.df.AA/\b 88=si (a.dg.df.AA.length:Int)/\b 89=si d)/\E3 a n d=some r;have l1:=i4 λn c=>∃b,(c 1=bA 15 (Av a)/\c 3=.cl 95 [(1,[])]/\c 15=vS 2 De a.dg.df.AK/\c 16=si (a.dg.df.AK.length:Int)/\c 17=si b)/\AR a n b=some r;have l2:=iy λd _ _ _ n g=>∃(b:Int)(c:AW)(f e:Int),(g 1=bA 15 (Av a)/\g 3=.cl 95 [(1,[])]/\g 6=si f/\g 15=vS 2 De a.dg.df.AK/\g 16=si (a.dg.df.AK.length:Int)/\g 17=si b/\g 52=vS 1 eI c.Am/\g 53=si (c.Am.length:Int)/\g 54=si e)/\Bs (AR a d) b a c n f e=some r;have c6:=i5 6 λb=>∃o,(b 1=bA 15 (Av a)/\b 3=.cl 95 [(1,[])]/\b 83=sb o)/\J6 a o=some r;have c2:=iz 2 λd _ _ _ e=>∃b c l,(e 1=bA 15 (Av a)/\e 3=.cl 95 [(1,[])]/\e 5=bA 2 (De c)/\e 15=vS 2 De a.dg.df.AK/\e 16=si (a.dg.df.AK.length:Int)/\e 17=si b/\e 50=sb l)/\J2 (AR a d) b a c l=some r;have c1:=iz 1 λd _ _ _ e=>∃b c j,(e 1=bA 15 (Av a)/\e 3=.cl 95 [(1,[])]/\e 4=si b/\e 5=bA 2 (De c)/\e 15=vS 2 De a.dg.df.AK/\e 16=si (a.dg.df.AK.length:Int)/\e 17=si b/\e 31=sb j)/\J1 (AR a d) b a c j=some r;unfold Aj at h;exact walk
end
namespace Dg
def J1(R100:mA)(c:Int)(a:AP)(b:j9)(d:Bool):ABi (Ba×AP):=if d then(Aq b.2 4).bind λe=>(K5 e.1).bind λp=>some (p,(AP.mk e.2 a.B7 a.left a.Ir a.tx a.ea a.eu a.eb))
else
if decide (b.1<7)then(Aq b.2 7).bind λf=>(gt [(⟨#[97]⟩:ABj),(⟨#[98]⟩:ABj),(⟨#[120]⟩:ABj),(⟨#[121]⟩:ABj),(⟨#[118]⟩:ABj),(⟨#[120]⟩:ABj),(⟨#[121]⟩:ABj)] f.1).bind λt=>(Jn t).bind λq=>some (q,(AP.mk f.2 a.B7 a.left a.Ir a.tx a.ea a.eu a.eb))
else
if b.1==7 then(R100 (AP.mk b.2 a.B7 a.left a.Ir a.tx a.ea a.eu a.eb) 0).bind λi=>some ((Ba.mk 3 0 (⟨#[113]⟩:ABj) [i.1]),i.2)
else(Aq b.2 6).bind λj=>(gt [6,7,8,11,13,17] j.1).bind λu=>(R100 (AP.mk j.2 a.B7 a.left a.Ir a.tx a.ea a.eu a.eb) (A8 (c-1))).bind λl=>(R100 l.2 (A8 (c-1))).bind λo=>(JZ u l.1 o.1).bind λs=>some (s,o.2)
end Dg
variable{j:mA}{i:AP}{c:Int}{f:Ba×AP}
section
open Dg
def Dg(R100:mA)(a:AP)(c:Int):=(Aq a.t 10).bind λb=>if decide (b.1<2)then
J1 R100 c a b true
else
if c==0 then
J1 R100 c a b (decide (b.1>=7))
else
J1 R100 c a b false
theorem UE(H100:∀{x0 x1 f},j x0 x1=some f->BM prog 254 [bA 8 (Cy x0),si x1] (.agg [si f.1.Op,si f.1.N,B4 f.1.dv,vS 4 Bc f.1.L]) [bA 8 (Cy f.2),.dead])(h:Dg j i c=some f):BM prog 254 [bA 8 (Cy i),si c] (.agg [si f.1.Op,si f.1.N,B4 f.1.dv,vS 4 Bc f.1.L]) [bA 8 (Cy f.2),.dead]:=by refine kP mix func254 (hn [(0,[9,10,11,12,25,26,27,28,35,36,37,38,48,54,55,56,57]),(5,[34,39,42]),(7,[53,58,61])] [(4,1)] (E:=[(10,(.l7 [(0,10,13,63),(0,14,17,67)] [i1 53 7 (.cp (.t 7)),i1 54 0 (.cp (.t 0)),i1 55 0 (.JQ (.t 54)),Ko 56 0 0 55,We 57 0 56,i1 58 7 (.cp (.t 7)),iZ 59 58,i0 60 (.W0 132 [] (.t 57) none [.t 59]),xN 61 7 1 53 60,iL 62 61,i0 63 .fl,iC 64 1,iP 65 .sub 64 1,i0 66 (.W0 254 [] (.t 0) none [.t 65]),i0 67 .fl,iC 68 1,iP 69 .sub 68 1,i0 70 (.W0 254 [] (.t 0) none [.t 69]),i0 71 (.call 255 [.t 62,.t 66,.t 70] 1),iS 4 4 71]))])) ?_;have a1:=@Dj;have a2:=@RJ;have a3:=@VP;have a4:=@H100;have a5:=@RG;have c1:=i5 1 λe=>∃(b:j9)(d:Bool),(e 0=bA 8 [bA 2 (Gg b.2),si i.B7,si i.left,sb i.Ir,sb i.tx,sb i.ea,sb i.eu,vO 1 eS i.eb]/\e 1=si c/\e 4=bA 4 z20/\e 5=.own false 1 ([[B4 ⟨#[97]⟩],[B4 ⟨#[98]⟩],[B4 ⟨#[120]⟩],[B4 ⟨#[121]⟩],[B4 ⟨#[118]⟩],[B4 ⟨#[120]⟩],[B4 ⟨#[121]⟩]])/\e 6=si b.1/\e 14=sb d)/\J1 j c i b d=some f;unfold Dg at h;exact walk
end
def O9:Nat->(AP->Int->ABi (Ba×AP))
|0=>(λ_ _=>none)
|n+1=>Dg ((O9 n))
def Cm(n:Nat):AP->Int->ABi (Ba×AP):=(O9 n)
theorem Sv(n:Nat):(∀{x0 x1 r},(Cm n) x0 x1=some r->BM prog 254 [bA 8 (Cy x0),si x1] (.agg [si r.1.Op,si r.1.N,B4 r.1.dv,vS 4 Bc r.1.L]) [bA 8 (Cy r.2),.dead]):=by induction n with|zero=>exactλh=>DT h|succ n ih=>exactλh=>UE ih h
def Sw{n:Nat}:∀{x0 x1 r},(Cm n) x0 x1=some r->BM prog 254 [bA 8 (Cy x0),si x1] (.agg [si r.1.Op,si r.1.N,B4 r.1.dv,vS 4 Bc r.1.L]) [bA 8 (Cy r.2),.dead]:=(Sv n)
namespace IM
def J4(a:AF)(o:jl):ABi ((List (List Int))×AF):=some (o,a)
def J3(L1:(List (List Int))->Int->ABi ((List (List Int))×AF))(b:Int)(l:jl):=L1 l (A8 (b+1))
def J2(L1:(List (List Int))->Int->ABi ((List (List Int))×AF))(c:jl)(b:Int)(e:AH)(j:i6):=(ND j e.db).bind λq=>(gt c b).bind λv=>J3 L1 b (c.set b.toNat q)
def J1(L2:(List Int)->Int->ABi ((List (List Int))×AF))(d:Int)(i:i6):=L2 i (A8 (d+1))
def L2(L1:(List (List Int))->Int->ABi ((List (List Int))×AF))(c:jl)(a:AF)(b:Int)(e:AH)(L2:(List Int)->Int->ABi ((List (List Int))×AF))(f:i6)(d:Int):=if decide (d<(a.d9.length:Int))then(gt a.d9 d).bind λs=>(gt s b).bind λt=>if t then(gt a.w.AB d).bind λu=>(ND f u.db).bind λp=>J1 L2 d p
else
J1 L2 d f
else
J2 L1 c b e f
def Bs(L1:(List (List Int))->Int->ABi ((List (List Int))×AF))(c:jl)(a:AF)(b:Int)(e:AH):Nat->(List Int)->Int->ABi ((List (List Int))×AF)
|0,_,_=>none
|n+1,f,d=>L2 L1 c a b e (Bs L1 c a b e n) f d
def L1(a:AF)(L1:(List (List Int))->Int->ABi ((List (List Int))×AF))(c:jl)(b:Int):=if decide (b<(a.w.AB.length:Int))then(gt a.w.AB b).bind λe=>if 0<=(a.ej.length:Int)/\(a.ej.length:Int)<=(a.ej.length:Int)/\Ap a.ej.length 8=true then
Bs L1 c a b e BQ (List.replicate a.ej.length (0:Int)) 0
else none
else
J4 a c
def AR(a:AF):Nat->(List (List Int))->Int->ABi ((List (List Int))×AF)
|0,_,_=>none
|n+1,c,b=>L1 a (AR a n) c b
end IM
section
open IM
def IM(a:AF):=if 0<=(a.d9.length:Int)/\(a.d9.length:Int)<=(a.d9.length:Int)/\Ap a.d9.length 24=true then
AR a BQ (List.replicate a.d9.length ([]:List Int)) 0
else none
end
namespace I1
def J6:nw:=some (0,0)
def J5(L1:kj)(b t w u v:Int):=L1 t w u v (A8 (b+1))
def J4(L1:kj)(j l o b:Int)(c:nf)(p:Int)(a:FF)(q:Bool):=if q then
some (2,a.Gd)
else
if a.de==5 then
if 0<=b/\b.toNat<=c.length then(DU (c.take b.toNat) a.On).bind λs=>if decide (s<0)then
some (5,a.Gd)
else(gt c s).bind λaa=>if aa.de != 3 then
some (6,a.Gd)
else
J5 L1 b j p l o
else none
else
J5 L1 b j p l o
def J3(L1:kj)(b:Int)(c:nf)(a:FF)(j p l o:Int):=if decide (j>12)then
J4 L1 j l o b c p a true
else
if decide (p>4)then
J4 L1 j l o b c p a true
else
if decide (l>2)then
J4 L1 j l o b c p a true
else
J4 L1 j l o b c p a (decide (o>2))
def J2(L1:kj)(d e f b:Int)(c:nf)(i:Int)(a:FF)(y:Bool):=if y then
J3 L1 b c a d (A8 (i+1)) e f
else
if a.de==5 then
J3 L1 b c a d i (A8 (e+1)) f
else
J3 L1 b c a d i e (A8 (f+1))
def J1(L1:kj)(d e f b:Int)(c:nf)(i:Int)(a:FF)(x:Bool):=if x then
J3 L1 b c a (A8 (d+(if 1>a.CM then 1 else a.CM))) i e f
else
if a.de==3 then
J2 L1 d e f b c i a (a.de==3)
else
J2 L1 d e f b c i a (a.de==4)
def L1(c:nf)(L1:kj)(d i e f b:Int):=if decide (b<(c.length:Int))then(gt c b).bind λa=>if 0<=b/\b.toNat<=c.length then(DU (c.take b.toNat) a.dv).bind λz=>if decide (z>=0)then
some (4,a.Gd)
else
if decide (a.CM>4)then
some (2,a.Gd)
else
if a.de==1 then
J1 L1 d e f b c i a (a.de==1)
else
J1 L1 d e f b c i a (a.de==2)
else none
else
J6
def AR(c:nf):Nat->Int->Int->Int->Int->Int->ABi (Int×Int)
|0,_,_,_,_,_=>none
|n+1,d,i,e,f,b=>L1 c (AR c n) d i e f b
end I1
section
open I1
def I1(c:nf):=AR c BQ 0 0 0 0 0
theorem bP{c:nf}{r:Int×Int}(h:I1 c=some r):Says prog 216 [vS 6 Ky c] (.Bo [si r.1,si r.2]):=by refine kO mix func216 (hn [(9,[24,28,30,33,35,43,70,72,78,83,91])] [(14,3),(22,4)]) ?_;have a1:=@KU;have l1:=i4 λn a=>∃d i e f b,(a 0=vS 6 Ky c/\a 4=si d/\a 5=si i/\a 6=si e/\a 7=si f/\a 8=si b)/\AR c n d i e f b=some r;have c4:=iz 4 λd _ _ _ e=>∃j l o b p a q,(e 0=vS 6 Ky c/\e 4=si j/\e 5=si p/\e 6=si l/\e 7=si o/\e 8=si b/\e 9=bA 6 (Ky a)/\e 69=sb q)/\J4 (AR c d) j l o b c p a q=some r;have c3:=iz 3 λd _ _ _ e=>∃b a j p l o,(e 0=vS 6 Ky c/\e 4=si j/\e 5=si p/\e 6=si l/\e 7=si o/\e 8=si b/\e 9=bA 6 (Ky a))/\J3 (AR c d) b c a j p l o=some r;unfold I1 at h;exact walk
end
namespace As
def J4(L2:jr)(i:Int)(s:AF):=L2 s (A8 (i+1))
def J3(L2:jr)(e:Int)(f:AF)(i:Int)(u:Bool):=if u then(gt f.d9 e).bind λq=>(gt q i).bind λz=>J4 L2 i (AF.mk f.w f.ej f.ew (f.d9.set e.toNat (q.set i.toNat true)))
else
J4 L2 i f
def J2(L2:jr)(e:Int)(f:AF)(b:Bool)(i:Int)(o:AH)(t:Bool):=if t then
J4 L2 i f
else
if !b then
J3 L2 e f i true
else
J3 L2 e f i (o.de != 8)
def L2(e d:Int)(a:AF)(b:Bool)(c:Int)(L2:jr)(f:AF)(i:Int):=if decide (i<(a.w.AB.length:Int))then(gt a.w.AB i).bind λo=>if o.db==c then
J2 L2 e f b i o true
else(Gs f.w.dc o).bind λw=>J2 L2 e f b i o (w != d)
else
some f
def Bs(e d:Int)(a:AF)(b:Bool)(c:Int):Nat->AF->Int->ABi AF
|0,_,_=>none
|n+1,f,i=>L2 e d a b c (Bs e d a b c n) f i
def J1(d:Int)(a:AF)(b:Bool)(c e:Int):=if decide (e<0)then
some a
else
Bs e d a b c BQ a 0
def L1(d:Int)(a:AF)(b:Bool)(c:Int)(j:i6)(L1:Int->ABi AF)(l:Int):=if decide (l<(j.length:Int))then(gt a.ej c).bind λx=>(gt x l).bind λp=>(gt a.w.AB p).bind λy=>(Gt a.w.dc y).bind λv=>if v==d then
J1 d a b c p
else
L1 (A8 (l+1))
else
J1 d a b c (-1)
def AR(d:Int)(a:AF)(b:Bool)(c:Int)(j:i6):Nat->Int->ABi AF
|0,_=>none
|n+1,l=>L1 d a b c j (AR d a b c j n) l
end As
section
open As
def As(a:AF)(c d:Int)(b:Bool):=(gt a.ej c).bind λj=>AR d a b c j BQ 0
theorem Ob{a:AF}{c d:Int}{b:Bool}{r:AF}(h:As a c d b=some r):BM prog 174 [bA 18 (Bw a),si c,si d,sb b] (.Bo []) [bA 18 (Bw r),.dead,.dead,.dead]:=by refine kL mix func174 (hn [(0,[13,14,15,16,18,19,23,25,26,27,28,29,30,31,32,33,34,36,37,45,46,47,48,49,54,55,61,62,63,64,65,78,79,80,81,83,84,86]),(12,[56,66,74])] [(1,1)]) ?_;have a1:=@W4;have a2:=@W5;have l2:=i4 λn g=>∃e f i,(g 0=bA 18 (Bw f)/\g 1=si c/\g 2=si d/\g 3=sb b/\g 8=si e/\g 49=vS 7 Aw a.w.AB/\g 50=si (a.w.AB.length:Int)/\g 51=si i)/\Bs e d a b c n f i=some r;have l1:=i4 λn e=>∃(j:i6)(l:Int),(e 0=bA 18 (Bw a)/\e 1=si c/\e 2=si d/\e 3=sb b/\e 8=si (-1)/\e 19=.al 0 [(0,15,18),(c.toNat,0,1)]/\e 20=si (j.length:Int)/\e 21=si l)/\AR d a b c j n l=some r;have c1:=i5 1 λf=>∃e,(f 0=bA 18 (Bw a)/\f 1=si c/\f 2=si d/\f 3=sb b/\f 8=si e)/\J1 d a b c e=some r;unfold As at h;exact walk
end
namespace Cu
def J4(l:Bool):ABi Bool:=some l
def J6(o:Bool):ABi Bool:=some o
def J9(b:Int)(c:AG)(q:Bool):ABi Bool:=if q then(D9 b (c.AL.length:Int)).bind λx=>some x
else
some false
def J8(a b:Int)(c:AG)(p:Bool):=if p then(D9 b (c.AA.length:Int)).bind λw=>some w
else
if a==22 then
J9 b c (a==22)
else
J9 b c (a==23)
def J7(a b:Int)(c:AG)(i:Bool):=if i then(D9 b (c.Al.length:Int)).bind λv=>some v
else
if a==20 then
J8 a b c (a==20)
else
J8 a b c (a==21)
def J5(a b:Int)(c:AG)(f:Bool):=if f then(D9 b (c.AK.length:Int)).bind λu=>if u then(gt c.AK b).bind λz=>J6 z.RW
else
J6 false
else
if a==16 then
J7 a b c (a==16)
else
if a==17 then
J7 a b c (a==17)
else
if a==18 then
J7 a b c (a==18)
else
J7 a b c (a==19)
def J3(a b:Int)(c:AG)(e:Bool):=if e then(D9 b (c.AK.length:Int)).bind λt=>if t then(gt c.AK b).bind λy=>J4 (!y.RW)
else
J4 false
else
if a==8 then
J5 a b c (a==8)
else
if a==9 then
J5 a b c (a==9)
else
if a==10 then
J5 a b c (a==10)
else
J5 a b c (a==11)
def J2(a b:Int)(c:AG)(d:Bool):=if d then(D9 b (c.di.length:Int)).bind λs=>some s
else
if a==6 then
J3 a b c (a==6)
else
J3 a b c (a==7)
def J1(a b:Int)(c:AG)(j:Bool):=if j then
some (b==(-1))
else
if a==3 then
J2 a b c (a==3)
else
J2 a b c (a==4)
end Cu
section
open Cu
def Cu(c:AG)(a b:Int):=if a==1 then
J1 a b c (a==1)
else
if a==2 then
J1 a b c (a==2)
else
if a==5 then
J1 a b c (a==5)
else
if a==12 then
J1 a b c (a==12)
else
if a==13 then
J1 a b c (a==13)
else
if a==14 then
J1 a b c (a==14)
else
J1 a b c (a==15)
theorem VX{c:AG}{a b:Int}{r:Bool}(h:Cu c a b=some r):Says prog 191 [.agg (A5 c),si a,si b] (sb r):=by refine kO mix func191 (hn [(3,[22,30,35,49,54,67,75,83])] [(3,1),(11,2),(14,3),(17,5),(22,7)]) ?_;have a1:=@Li;have c7:=i5 7 λd=>∃i,(d 2=si b/\d 3=bA 6 (A5 c)/\d 7=si a/\d 61=sb i)/\J7 a b c i=some r;have c5:=i5 5 λd=>∃f,(d 2=si b/\d 3=bA 6 (A5 c)/\d 7=si a/\d 43=sb f)/\J5 a b c f=some r;have c3:=i5 3 λd=>∃e,(d 2=si b/\d 3=bA 6 (A5 c)/\d 7=si a/\d 26=sb e)/\J3 a b c e=some r;have c2:=i5 2 λe=>∃d,(e 2=si b/\e 3=bA 6 (A5 c)/\e 7=si a/\e 18=sb d)/\J2 a b c d=some r;have c1:=i5 1 λd=>∃j,(d 2=si b/\d 3=bA 6 (A5 c)/\d 7=si a/\d 8=sb j)/\J1 a b c j=some r;unfold Cu at h;exact walk
end
namespace Jd
def J4(l:Bool):ABi Bool:=some l
def J6(o:Bool):ABi Bool:=some o
def J9(b:Int)(c:AG)(q:Bool):ABi Bool:=if q then(Ip b (c.AL.length:Int)).bind λx=>some x
else
some false
def J8(a b:Int)(c:AG)(p:Bool):=if p then(Ip b (c.AA.length:Int)).bind λw=>some w
else
if a==22 then
J9 b c (a==22)
else
J9 b c (a==23)
def J7(a b:Int)(c:AG)(i:Bool):=if i then(Ip b (c.Al.length:Int)).bind λv=>some v
else
if a==20 then
J8 a b c (a==20)
else
J8 a b c (a==21)
def J5(a b:Int)(c:AG)(f:Bool):=if f then(Ip b (c.AK.length:Int)).bind λu=>if u then(gt c.AK b).bind λz=>J6 z.RW
else
J6 false
else
if a==16 then
J7 a b c (a==16)
else
if a==17 then
J7 a b c (a==17)
else
if a==18 then
J7 a b c (a==18)
else
J7 a b c (a==19)
def J3(a b:Int)(c:AG)(e:Bool):=if e then(Ip b (c.AK.length:Int)).bind λt=>if t then(gt c.AK b).bind λy=>J4 (!y.RW)
else
J4 false
else
if a==8 then
J5 a b c (a==8)
else
if a==9 then
J5 a b c (a==9)
else
if a==10 then
J5 a b c (a==10)
else
J5 a b c (a==11)
def J2(a b:Int)(c:AG)(d:Bool):=if d then(Ip b (c.di.length:Int)).bind λs=>some s
else
if a==6 then
J3 a b c (a==6)
else
J3 a b c (a==7)
def J1(a b:Int)(c:AG)(j:Bool):=if j then
some (b==(-1))
else
if a==3 then
J2 a b c (a==3)
else
J2 a b c (a==4)
end Jd
section
open Jd
def Jd(c:AG)(a b:Int):=if a==1 then
J1 a b c (a==1)
else
if a==2 then
J1 a b c (a==2)
else
if a==5 then
J1 a b c (a==5)
else
if a==12 then
J1 a b c (a==12)
else
if a==13 then
J1 a b c (a==13)
else
if a==14 then
J1 a b c (a==14)
else
J1 a b c (a==15)
theorem b6{c:AG}{a b:Int}{r:Bool}(h:Jd c a b=some r):Says prog 121 [.agg (A5 c),si a,si b] (sb r):=by refine kO mix func121 (hn [(3,[22,30,35,49,54,67,75,83])] [(3,1),(11,2),(14,3),(17,5),(22,7)]) ?_;have a1:=@Xw;have c7:=i5 7 λd=>∃i,(d 2=si b/\d 3=bA 6 (A5 c)/\d 7=si a/\d 61=sb i)/\J7 a b c i=some r;have c5:=i5 5 λd=>∃f,(d 2=si b/\d 3=bA 6 (A5 c)/\d 7=si a/\d 43=sb f)/\J5 a b c f=some r;have c3:=i5 3 λd=>∃e,(d 2=si b/\d 3=bA 6 (A5 c)/\d 7=si a/\d 26=sb e)/\J3 a b c e=some r;have c2:=i5 2 λe=>∃d,(e 2=si b/\e 3=bA 6 (A5 c)/\e 7=si a/\e 18=sb d)/\J2 a b c d=some r;have c1:=i5 1 λd=>∃j,(d 2=si b/\d 3=bA 6 (A5 c)/\d 7=si a/\d 8=sb j)/\J1 a b c j=some r;unfold Jd at h;exact walk
end
namespace Ch
def J5:nw:=some (0,0)
def J4(L2:kz)(c:Int):=L2 (A8 (c+1))
def J3(L3:kz)(d:Int)(b:DM)(l:Bool):=if l then
some (4,b.Gd)
else
L3 (A8 (d+1))
def L3(L2:kz)(c:Int)(a:AY)(b:DM)(L3:kz)(d:Int):=if decide (d<(b.HE.length:Int))then(gt b.HE d).bind λi=>(DU a.ep i).bind λq=>if decide (q>=0)then
J3 L3 d b true
else(DQ a.AA i).bind λs=>if decide (s>=0)then
J3 L3 d b true
else
if 0<=d/\d.toNat<=b.HE.length then(Cv (b.HE.take d.toNat) i).bind λt=>J3 L3 d b (decide (t>=0))
else none
else
J4 L2 c
def E3(L2:kz)(c:Int)(a:AY)(b:DM):Nat->Int->ABi (Int×Int)
|0,_=>none
|n+1,d=>L3 L2 c a b (E3 L2 c a b n) d
def L2(a:AY)(L2:kz)(c:Int):=if decide (c<(a.AA.length:Int))then(gt a.AA c).bind λb=>if decide ((b.HE.length:Int)>4)then
some (2,b.Gd)
else
E3 L2 c a b BQ 0
else
J5
def Bs(a:AY):Nat->Int->ABi (Int×Int)
|0,_=>none
|n+1,c=>L2 a (Bs a n) c
def J2(a:AY):=Bs a BQ 0
def J1(L1:kz)(e:Int)(f:DM)(j:Bool):=if j then
some (4,f.Gd)
else
L1 (A8 (e+1))
def L1(a:AY)(L1:kz)(e:Int):=if decide (e<(a.AA.length:Int))then(gt a.AA e).bind λf=>(DU a.ep f.dv).bind λo=>if decide (o>=0)then
J1 L1 e f true
else
if 0<=e/\e.toNat<=a.AA.length then(DQ (a.AA.take e.toNat) f.dv).bind λp=>J1 L1 e f (decide (p>=0))
else none
else
J2 a
def AR(a:AY):Nat->Int->ABi (Int×Int)
|0,_=>none
|n+1,e=>L1 a (AR a n) e
end Ch
section
open Ch
def Ch(a:AY):=AR a BQ 0
theorem XE{a:AY}{r:Int×Int}(h:Ch a=some r):Says prog 217 [.agg (Ct a)] (.Bo [si r.1,si r.2]):=by refine kO mix func217 (hn [(1,[11,17,22,29,41,47,70,76]),(5,[24,33,38]),(7,[52,56,59,65,83,91])]) ?_;have a1:=@KU;have a2:=@LF;have a3:=@I0;have l2:=i4 λn b=>∃c,(b 1=bA 2 (Ct a)/\b 6=si c)/\Bs a n c=some r;have l3:=iy λ_ e _ _ n f=>∃c b d,(f 1=bA 2 (Ct a)/\f 6=si c/\f 7=bA 4 (Jl b)/\f 8=si d)/\E3 (Bs a e) c a b n d=some r;have l1:=i4 λn b=>∃e,(b 1=bA 2 (Ct a)/\b 4=si e)/\AR a n e=some r;unfold Ch at h;exact walk
end
def HJ(R100:BW->Ba->Int->ABi BW)(c:BW)(a:Ba)(b:Int):ABi BW:=if a.Op==1 then(BU c (Ak.mk 1 b 0 0 a.N 0)).bind λi=>some i
else
if a.Op==2 then(Cv c.du a.dv).bind λe=>if decide (e>=0)then(BU c (Ak.mk 2 b e 0 0 0)).bind λo=>some o
else(CB c.w a.dv).bind λp=>(BU c (Ak.mk 6 b p 0 0 0)).bind λq=>some q
else
if a.Op==3 then(gt a.L 0).bind λv=>(R100 c v b).bind λd=>(CB d.w a.dv).bind λf=>(gt d.w.di f).bind λw=>(BU d (Ak.mk 7 b f b w.CM 0)).bind λs=>some s
else
if(a.L.length:Int)==1 then(gt a.L 0).bind λx=>(R100 c x b).bind λt=>(BU t (Ak.mk 3 b b 0 a.Op 0)).bind λu=>some u
else(gt a.L 0).bind λy=>(R100 c y b).bind λj=>(gt a.L 1).bind λz=>(R100 j z (A8 (b+1))).bind λl=>(BU l (Ak.mk 4 b b (A8 (b+1)) a.Op 0)).bind λaa=>some aa
variable{k:BW->Ba->Int->ABi BW}{a b:BW}{g:Ba}
theorem UQ(H100:∀{x0 x1 x2 b},k x0 x1 x2=some b->BM prog 253 [bA 10 (E2 x0),.agg [si x1.Op,si x1.N,B4 x1.dv,vS 4 Bc x1.L],si x2] (.Bo []) [bA 10 (E2 b),.dead,.dead])(h:HJ k a g c=some b):BM prog 253 [bA 10 (E2 a),.agg [si g.Op,si g.N,B4 g.dv,vS 4 Bc g.L],si c] (.Bo []) [bA 10 (E2 b),.dead,.dead]:=by refine kL mix func253 (hn [(0,[8,15,23,36,46,47,48,49,55,60,62,63,64,65,75,82,83,84,85,89,93,94,95,96,97,99,100,109,116]),(4,[9,16,28,33,38,43,50,66,72,76,86,105,110,119])]) ?_;have a1:=@Hk;have a2:=@I0;have a3:=@QS;have a4:=@H100;unfold HJ at h;exact walk
def PF:Nat->(BW->Ba->Int->ABi BW)
|0=>(λ_ _ _=>none)
|n+1=>HJ ((PF n))
def DL(n:Nat):BW->Ba->Int->ABi BW:=(PF n)
theorem TE(n:Nat):(∀{x0 x1 x2 r},(DL n) x0 x1 x2=some r->BM prog 253 [bA 10 (E2 x0),.agg [si x1.Op,si x1.N,B4 x1.dv,vS 4 Bc x1.L],si x2] (.Bo []) [bA 10 (E2 r),.dead,.dead]):=by induction n with|zero=>exactλh=>DT h|succ n ih=>exactλh=>UQ ih h
def KG{n:Nat}:∀{x0 x1 x2 r},(DL n) x0 x1 x2=some r->BM prog 253 [bA 10 (E2 x0),.agg [si x1.Op,si x1.N,B4 x1.dv,vS 4 Bc x1.L],si x2] (.Bo []) [bA 10 (E2 r),.dead,.dead]:=(TE n)
end Go.Abs
