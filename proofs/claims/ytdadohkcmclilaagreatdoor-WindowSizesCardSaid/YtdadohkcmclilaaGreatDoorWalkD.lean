/- Typed programs of Go functions, and that the functions do what these say. -/
import Derived.Test.YtdadohkcmclilaaGreatDoorWalkA
import Derived.Test.YtdadohkcmclilaaGreatDoorWalkB
import Derived.Shelf.Slices.SearchI
set_option linter.unusedSimpArgs false
set_option linter.unusedVariables false
namespace Go.Abs
open Go.Proofs
set_option maxRecDepth 1000000
set_option maxHeartbeats 4000000
namespace ED
def J1 (R100:AM->Int->ABp (A4×AM)) (c:Int) (a:AM) (b:Int×EH) (d:Bool):ABp (A4×AM):=
if d then
(BU b.2 4).bind λe=>
(Kh e.1).bind λp=>
some (p,(AM.mk e.2 a.BV a.left a.HY a.tx a.atomic a.loop a.held))
else
if decide (b.1<7)then
(BU b.2 7).bind λf=>
(gt [(⟨#[97]⟩:ABq),(⟨#[98]⟩:ABq),(⟨#[120]⟩:ABq),(⟨#[121]⟩:ABq),(⟨#[118]⟩:ABq),(⟨#[120]⟩:ABq),(⟨#[121]⟩:ABq)] f.1).bind λt=>
(Ja t).bind λq=>
some (q,(AM.mk f.2 a.BV a.left a.HY a.tx a.atomic a.loop a.held))
else
if b.1==7 then
(R100 (AM.mk b.2 a.BV a.left a.HY a.tx a.atomic a.loop a.held) 0).bind λi=>
some ((A4.mk 3 0 (⟨#[113]⟩:ABq) [i.1]),i.2)
else
(BU b.2 6).bind λj=>
(gt [6,7,8,11,13,17] j.1).bind λu=>
(R100 (AM.mk j.2 a.BV a.left a.HY a.tx a.atomic a.loop a.held) (Ap (c-1))).bind λl=>
(R100 l.2 (Ap (c-1))).bind λo=>
(JB u l.1 o.1).bind λs=>
some (s,o.2)
end ED
section
open ED
def ED (R100:AM->Int->ABp (A4×AM)) (a:AM) (c:Int):ABp (A4×AM):=
(BU a.t 10).bind λb=>
if decide (b.1<2)then
J1 R100 c a b true
else
if c==0 then
J1 R100 c a b (decide (b.1≥7))
else
J1 R100 c a b false
theorem Qk {R100:AM->Int->ABp (A4×AM)} (H100:∀{x0 x1 r},R100 x0 x1=some r->BD Tryz.prog 154 [bA 8 (Bw x0),si x1] (.agg [si r.1.Op,si r.1.N,BM r.1.Name,vS 4 A0 r.1.L]) [bA 8 (Bw r.2),.dead]) {a:AM} {c:Int} {r:A4×AM} (h:ED R100 a c=some r):BD Tryz.prog 154 [bA 8 (Bw a),si c] (.agg [si r.1.Op,si r.1.N,BM r.1.Name,vS 4 A0 r.1.L]) [bA 8 (Bw r.2),.dead]:=by
 refine kP mix Tryz.func154 (hn [(0,[9,10,11,12,25,26,27,28,35,36,37,38,48,54,55,56,57]),(5,[34,39,42]),(7,[53,58,61])] [(4,1)] (E:=[(10,(.Zq [(0,10,13,63),(0,14,17,67)] [i1 53 7 (.cp (.t 7)),i1 54 0 (.cp (.t 0)),i1 55 0 (.JT (.t 54)),Lt 56 0 0 55,Zu 57 0 56,i1 58 7 (.cp (.t 7)),iZ 59 58,i0 60 (.WN 63 [] (.t 57) none [.t 59]),iIr 61 7 1 53 60,iL 62 61,i0 63 .fl,iC 64 1,iP 65 .sub 64 1,i0 66 (.WN 154 [] (.t 0) none [.t 65]),i0 67 .fl,iC 68 1,iP 69 .sub 68 1,i0 70 (.WN 154 [] (.t 0) none [.t 69]),i0 71 (.call 155 [.t 62,.t 66,.t 70] 1),iS 4 4 71]))])) ?_
 have a1:= @Hh
 have a2:= @Og
 have a3:= @Rv
 have a4:= @H100
 have a5:= @Od
 have c1:=λn1 n2 n3 n4:Nat=>Bh 1 λτ=>∃(b:Int×EH) (d:Bool),(τ 0=bA 8 [bA 2 (Tt b.2),si a.BV,si a.left,sb a.HY,sb a.tx,sb a.atomic,sb a.loop,vO 1 eS a.held]/\τ 1=si c/\τ 4=bA 4 z17/\τ 5= .own false 1 ([[BM ⟨#[97]⟩],[BM ⟨#[98]⟩],[BM ⟨#[120]⟩],[BM ⟨#[121]⟩],[BM ⟨#[118]⟩],[BM ⟨#[120]⟩],[BM ⟨#[121]⟩]])/\τ 6=si b.1/\τ 14=sb d)/\J1 R100 c a b d=some r
 unfold ED at h
 exact walk
end
def Mb:Nat->(AM->Int->ABp (A4×AM))
|0=>(λ_ _=>none)
|n+1=>ED ((Mb n))
def CT (n:Nat):AM->Int->ABp (A4×AM):=(Mb n)
theorem Pq (n:Nat):(∀{x0 x1 r},(CT n) x0 x1=some r->BD Tryz.prog 154 [bA 8 (Bw x0),si x1] (.agg [si r.1.Op,si r.1.N,BM r.1.Name,.sl false 4 (r.1.L.map A0)]) [bA 8 (Bw r.2),.dead]):=by
  induction n with
  |zero=>exactλh=>Bi h
  |succ n ih=>exactλh=>Qk ih h
theorem Pr {n:Nat}:∀{x0 x1 r},(CT n) x0 x1=some r->BD Tryz.prog 154 [bA 8 (Bw x0),si x1] (.agg [si r.1.Op,si r.1.N,BM r.1.Name,.sl false 4 (r.1.L.map A0)]) [bA 8 (Bw r.2),.dead]:=(Pq n)
def Dw (a:AM) (b:ABq):ABp (Bool×AM):=
(Ca a.held b).bind λc=>
some (decide (c≥0),a)
theorem Ps {a:AM} {b:ABq} {r:Bool×AM} (h:Dw a b=some r):BD Tryz.prog 157 [bA 8 (Bw a),BM b] (sb r.1) [bA 8 (Bw r.2),.dead]:=by
 refine kL mix Tryz.func157 (hn [(0,[5,6,7,8])]) ?_
 have a1:= @HJ
 unfold Dw at h
 exact walk
namespace Ce
def J1:ABp Bool:=
some false
def L1 (a:ABq) (b:List ABq) (L1:Int->ABp Bool) (c:Int):ABp Bool:=
if decide (c<(b.length:Int))then
(gt b c).bind λd=>
if d.toList==a.toList then
some true
else
L1 (Ap (c+1))
else
J1
def Aa (a:ABq) (b:List ABq):Nat->Int->ABp Bool
|0,_=>none
|n+1,c=>L1 a b (Aa a b n) c
end Ce
section
open Ce
def Ce (a:ABq):ABp Bool:=
(JV).bind λb=>
Aa a b BT 0
theorem Qr {a:ABq} {r:Bool} (h:Ce a=some r):Says Tryz.prog 135 [BM a] (sb r):=by
 refine kO mix Tryz.func135 (hn [(3,[7,12,14])]) ?_
 have a1:= @SP
 have l1:=λn1 n2 n3 n4:Nat=>Ax λn τ=>∃(b:List ABq) (c:Int),(τ 0=BM a/\τ 3=vO 1 eS b/\τ 4=si c)/\Aa a b n c=some r
 unfold Ce at h
 exact walk
end
namespace Ge
def J1 (b:Bool):ABp Bool:=
some b
end Ge
section
open Ge
def Ge (a:Int):ABp Bool:=
(FC a).bind λc=>
if c then
J1 true
else
(HI a).bind λd=>
if d then
J1 true
else
J1 (a==95)
theorem WZ {a:Int} {r:Bool} (h:Ge a=some r):Says Tryz.prog 136 [.sc (.int .u8 a)] (sb r):=by
 refine kO mix Tryz.func136 hn ?_
 have a1:= @Nd
 have a2:= @WX
 unfold Ge at h
 exact walk
end
namespace Hp
def J6:ABp (Int×Int):=
some (0,0)
def J5 (L1:Int->Int->Int->Int->Int->ABp (Int×Int)) (b t:Int) (w u v:Int):ABp (Int×Int):=
L1 t w u v (Ap (b+1))
def J4 (L1:Int->Int->Int->Int->Int->ABp (Int×Int)) (j l:Int) (o b:Int) (c:List EM) (p:Int) (a:EM) (q:Bool):ABp (Int×Int):=
if q then
some (2,a.Ep)
else
if a.Kind==5 then
if 0≤b/\b.toNat≤c.length then
(DJ (c.take b.toNat) a.On).bind λs=>
if decide (s<0)then
some (5,a.Ep)
else
(gt c s).bind λaa=>
if aa.Kind != 3 then
some (6,a.Ep)
else
J5 L1 b j p l o
else none
else
J5 L1 b j p l o
def J3 (L1:Int->Int->Int->Int->Int->ABp (Int×Int)) (b:Int) (c:List EM) (a:EM) (j p:Int) (l o:Int):ABp (Int×Int):=
if decide (j>12)then
J4 L1 j l o b c p a true
else
if decide (p>4)then
J4 L1 j l o b c p a true
else
if decide (l>2)then
J4 L1 j l o b c p a true
else
J4 L1 j l o b c p a (decide (o>2))
def J2 (L1:Int->Int->Int->Int->Int->ABp (Int×Int)) (d e:Int) (f b:Int) (c:List EM) (i:Int) (a:EM) (y:Bool):ABp (Int×Int):=
if y then
J3 L1 b c a d (Ap (i+1)) e f
else
if a.Kind==5 then
J3 L1 b c a d i (Ap (e+1)) f
else
J3 L1 b c a d i e (Ap (f+1))
def J1 (L1:Int->Int->Int->Int->Int->ABp (Int×Int)) (d e:Int) (f b:Int) (c:List EM) (i:Int) (a:EM) (x:Bool):ABp (Int×Int):=
if x then
J3 L1 b c a (Ap (d+(if 1>a.B0 then 1 else a.B0))) i e f
else
if a.Kind==3 then
J2 L1 d e f b c i a (a.Kind==3)
else
J2 L1 d e f b c i a (a.Kind==4)
def L1 (c:List EM) (L1:Int->Int->Int->Int->Int->ABp (Int×Int)) (d i:Int) (e f b:Int):ABp (Int×Int):=
if decide (b<(c.length:Int))then
(gt c b).bind λa=>
if 0≤b/\b.toNat≤c.length then
(DJ (c.take b.toNat) a.Name).bind λz=>
if decide (z≥0)then
some (4,a.Ep)
else
if decide (a.B0>4)then
some (2,a.Ep)
else
if a.Kind==1 then
J1 L1 d e f b c i a (a.Kind==1)
else
J1 L1 d e f b c i a (a.Kind==2)
else none
else
J6
def Aa (c:List EM):Nat->Int->Int->Int->Int->Int->ABp (Int×Int)
|0,_,_,_,_,_=>none
|n+1,d,i,e,f,b=>L1 c (Aa c n) d i e f b
end Hp
section
open Hp
def Hp (c:List EM):ABp (Int×Int):=
Aa c BT 0 0 0 0 0
theorem Wd {c:List EM} {r:Int×Int} (h:Hp c=some r):Says Tryz.prog 108 [vS 6 JQ c] (.BJ [si r.1,si r.2]):=by
 refine kO mix Tryz.func108 (hn [(9,[24,28,30,33,35,43,70,72,78,83,91])] [(14,3),(22,4)]) ?_
 have a1:= @Ix
 have l1:=λn1 n2 n3 n4:Nat=>Ax λn τ=>∃(d i e f b:Int),(τ 0=vS 6 JQ c/\τ 4=si d/\τ 5=si i/\τ 6=si e/\τ 7=si f/\τ 8=si b)/\Aa c n d i e f b=some r
 have c4:=λn1 n2 n3 n4:Nat=>Bh 4 λτ=>∃(j l o b p:Int) (a:EM) (q:Bool),(τ 0=vS 6 JQ c/\τ 4=si j/\τ 5=si p/\τ 6=si l/\τ 7=si o/\τ 8=si b/\τ 9=bA 6 (JQ a)/\τ 69=sb q)/\J4 (Aa c n1) j l o b c p a q=some r
 have c3:=λn1 n2 n3 n4:Nat=>Bh 3 λτ=>∃(b:Int) (a:EM) (j p l o:Int),(τ 0=vS 6 JQ c/\τ 4=si j/\τ 5=si p/\τ 6=si l/\τ 7=si o/\τ 8=si b/\τ 9=bA 6 (JQ a))/\J3 (Aa c n1) b c a j p l o=some r
 unfold Hp at h
 exact walk
end
namespace DO
def J5:ABp (Int×Int):=
some (0,0)
def J4 (L2:Int->ABp (Int×Int)) (c:Int):ABp (Int×Int):=
L2 (Ap (c+1))
def J3 (L3:Int->ABp (Int×Int)) (d:Int) (b:CZ) (l:Bool):ABp (Int×Int):=
if l then
some (4,b.Ep)
else
L3 (Ap (d+1))
def L3 (L2:Int->ABp (Int×Int)) (c:Int) (a:AQ) (b:CZ) (L3:Int->ABp (Int×Int)) (d:Int):ABp (Int×Int):=
if decide (d<(b.HB.length:Int))then
(gt b.HB d).bind λi=>
(DJ a.Decls i).bind λq=>
if decide (q≥0)then
J3 L3 d b true
else
(Cu a.AA i).bind λs=>
if decide (s≥0)then
J3 L3 d b true
else
if 0≤d/\d.toNat≤b.HB.length then
(Ca (b.HB.take d.toNat) i).bind λt=>
J3 L3 d b (decide (t≥0))
else none
else
J4 L2 c
def Gm (L2:Int->ABp (Int×Int)) (c:Int) (a:AQ) (b:CZ):Nat->Int->ABp (Int×Int)
|0,_=>none
|n+1,d=>L3 L2 c a b (Gm L2 c a b n) d
def L2 (a:AQ) (L2:Int->ABp (Int×Int)) (c:Int):ABp (Int×Int):=
if decide (c<(a.AA.length:Int))then
(gt a.AA c).bind λb=>
if decide ((b.HB.length:Int)>4)then
some (2,b.Ep)
else
Gm L2 c a b BT 0
else
J5
def C2 (a:AQ):Nat->Int->ABp (Int×Int)
|0,_=>none
|n+1,c=>L2 a (C2 a n) c
def J2 (a:AQ):ABp (Int×Int):=
C2 a BT 0
def J1 (L1:Int->ABp (Int×Int)) (e:Int) (f:CZ) (j:Bool):ABp (Int×Int):=
if j then
some (4,f.Ep)
else
L1 (Ap (e+1))
def L1 (a:AQ) (L1:Int->ABp (Int×Int)) (e:Int):ABp (Int×Int):=
if decide (e<(a.AA.length:Int))then
(gt a.AA e).bind λf=>
(DJ a.Decls f.Name).bind λo=>
if decide (o≥0)then
J1 L1 e f true
else
if 0≤e/\e.toNat≤a.AA.length then
(Cu (a.AA.take e.toNat) f.Name).bind λp=>
J1 L1 e f (decide (p≥0))
else none
else
J2 a
def Aa (a:AQ):Nat->Int->ABp (Int×Int)
|0,_=>none
|n+1,e=>L1 a (Aa a n) e
end DO
section
open DO
def DO (a:AQ):ABp (Int×Int):=
Aa a BT 0
theorem TW {a:AQ} {r:Int×Int} (h:DO a=some r):Says Tryz.prog 109 [.agg (Bu a)] (.BJ [si r.1,si r.2]):=by
 refine kO mix Tryz.func109 (hn [(1,[11,17,22,29,41,47,70,76]),(5,[24,33,38]),(7,[52,56,59,65,83,91])]) ?_
 have a1:= @Ix
 have a2:= @JW
 have a3:= @HJ
 have l2:=λn1 n2 n3 n4:Nat=>Ax λn τ=>∃(c:Int),(τ 1=bA 2 (Bu a)/\τ 6=si c)/\C2 a n c=some r
 have l3:=λn1 n2 n3 n4:Nat=>Ax λn τ=>∃(c:Int) (b:CZ) (d:Int),(τ 1=bA 2 (Bu a)/\τ 6=si c/\τ 7=bA 4 (Hz b)/\τ 8=si d)/\Gm (C2 a n2) c a b n d=some r
 have l1:=λn1 n2 n3 n4:Nat=>Ax λn τ=>∃(e:Int),(τ 1=bA 2 (Bu a)/\τ 4=si e)/\Aa a n e=some r
 unfold DO at h
 exact walk
end
namespace Ft
def J2 (a:AQ) (d:Int) (i:Bool):ABp Int:=
if i then
(gt a.Decls d).bind λp=>
some p.Kind
else
some 9
def J1 (a:AQ) (b:ABq) (f:Bool):ABp Int:=
if f then
some 8
else
(DJ a.Decls b).bind λd=>
if decide (d<0)then
(Cu a.AA b).bind λl=>
if decide (l≥0)then
some 7
else
some 0
else
(gt a.Decls d).bind λc=>
if c.Kind==1 then
if c.B0 != 0 then
some 2
else
some 1
else
if c.Kind==2 then
some 1
else
if c.Kind==3 then
J2 a d (c.Kind==3)
else
if c.Kind==4 then
J2 a d (c.Kind==4)
else
if c.Kind==5 then
J2 a d (c.Kind==5)
else
J2 a d (c.Kind==6)
end Ft
section
open Ft
def Ft (a:AQ) (e:Int) (b:ABq):ABp Int:=
if decide (e≥0)then
if decide (e<(a.AA.length:Int))then
(gt a.AA e).bind λo=>
(Ca o.HB b).bind λj=>
J1 a b (decide (j≥0))
else
J1 a b false
else
J1 a b false
theorem Ue {a:AQ} {e:Int} {b:ABq} {r:Int} (h:Ft a e b=some r):Says Tryz.prog 200 [.agg (Bu a),si e,BM b] (si r):=by
 refine kO mix Tryz.func200 (hn [(3,[12,18,28,34,39,47,61])] [(2,1)]) ?_
 have a1:= @Ix
 have a2:= @JW
 have a3:= @HJ
 have c1:=λn1 n2 n3 n4:Nat=>Bh 1 λτ=>∃(f:Bool),(τ 2=BM b/\τ 3=bA 2 (Bu a)/\τ 27=sb f)/\J1 a b f=some r
 unfold Ft at h
 exact walk
end
def HW (R100:A5->A4->Int->ABp A5) (c:A5) (a:A4) (b:Int):ABp A5:=
if a.Op==1 then
(A8 c (Ab.mk 1 b 0 0 a.N 0)).bind λi=>
some i
else
if a.Op==2 then
(Ca c.locals a.Name).bind λe=>
if decide (e≥0)then
(A8 c (Ab.mk 2 b e 0 0 0)).bind λo=>
some o
else
(CJ c.w a.Name).bind λp=>
(A8 c (Ab.mk 6 b p 0 0 0)).bind λq=>
some q
else
if a.Op==3 then
(gt a.L 0).bind λv=>
(R100 c v b).bind λd=>
(CJ d.w a.Name).bind λf=>
(gt d.w.Cells f).bind λw=>
(A8 d (Ab.mk 7 b f b w.B0 0)).bind λs=>
some s
else
if(a.L.length:Int)==1 then
(gt a.L 0).bind λx=>
(R100 c x b).bind λt=>
(A8 t (Ab.mk 3 b b 0 a.Op 0)).bind λu=>
some u
else
(gt a.L 0).bind λy=>
(R100 c y b).bind λj=>
(gt a.L 1).bind λz=>
(R100 j z (Ap (b+1))).bind λl=>
(A8 l (Ab.mk 4 b b (Ap (b+1)) a.Op 0)).bind λaa=>
some aa
theorem Qw {R100:A5->A4->Int->ABp A5} (H100:∀{x0 x1 x2 r},R100 x0 x1 x2=some r->BD Tryz.prog 153 [bA 10 (EA x0),.agg [si x1.Op,si x1.N,BM x1.Name,vS 4 A0 x1.L],si x2] (.BJ []) [bA 10 (EA r),.dead,.dead]) {c:A5} {a:A4} {b:Int} {r:A5} (h:HW R100 c a b=some r):BD Tryz.prog 153 [bA 10 (EA c),.agg [si a.Op,si a.N,BM a.Name,vS 4 A0 a.L],si b] (.BJ []) [bA 10 (EA r),.dead,.dead]:=by
 refine kL mix Tryz.func153 (hn [(0,[8,15,23,36,46,47,48,49,55,60,62,63,64,65,75,82,83,84,85,89,93,94,95,96,97,99,100,109,116]),(4,[9,16,28,33,38,43,50,66,72,76,86,105,110,119])]) ?_
 have a1:= @F9
 have a2:= @HJ
 have a3:= @Ng
 have a4:= @H100
 unfold HW at h
 exact walk
def Mf:Nat->(A5->A4->Int->ABp A5)
|0=>(λ_ _ _=>none)
|n+1=>HW ((Mf n))
def DP (n:Nat):A5->A4->Int->ABp A5:=(Mf n)
theorem P3 (n:Nat):(∀{x0 x1 x2 r},(DP n) x0 x1 x2=some r->BD Tryz.prog 153 [bA 10 (EA x0),.agg [si x1.Op,si x1.N,BM x1.Name,.sl false 4 (x1.L.map A0)],si x2] (.BJ []) [bA 10 (EA r),.dead,.dead]):=by
  induction n with
  |zero=>exactλh=>Bi h
  |succ n ih=>exactλh=>Qw ih h
theorem IZ {n:Nat}:∀{x0 x1 x2 r},(DP n) x0 x1 x2=some r->BD Tryz.prog 153 [bA 10 (EA x0),.agg [si x1.Op,si x1.N,BM x1.Name,.sl false 4 (x1.L.map A0)],si x2] (.BJ []) [bA 10 (EA r),.dead,.dead]:=(P3 n)
namespace E3
def J1 (e:Bool):ABp Bool:=
some e
end E3
section
open E3
def E3 (b:AD) (a c:Int):ABp Bool:=
(DS a (b.Cells.length:Int)).bind λf=>
if f then
(gt b.Cells a).bind λd=>
if d.Index==0 then
if d.B0 != 0 then
J1 (d.B0==c)
else
J1 false
else
J1 false
else
J1 false
theorem Wi {b:AD} {a c:Int} {r:Bool} (h:E3 b a c=some r):Says Tryz.prog 164 [.agg (Ai b),si a,si c] (sb r):=by
 refine kO mix Tryz.func164 (hn [(3,[8,13,22,31])]) ?_
 have a1:= @Oy
 unfold E3 at h
 exact walk
end
namespace CP
def J3:ABp Bool:=
some false
def J2 (L1:Int->Int->ABp Bool) (b f:Int):ABp Bool:=
L1 f (Ap (b+1))
def J1 (L1:Int->Int->ABp Bool) (c:Int) (a:List Ab) (b:Int) (i:Bool):ABp Bool:=
if i then
some false
else
(gt a c).bind λe=>
(FE e.Op).bind λj=>
if !j then
some true
else
if e.Op==5 then
J2 L1 b e.A
else
J2 L1 b (Ap (c+1))
def L1 (a:List Ab) (L1:Int->Int->ABp Bool) (c b:Int):ABp Bool:=
if decide (b≤(a.length:Int))then
if decide (c<0)then
J1 L1 c a b true
else
J1 L1 c a b (decide (c≥(a.length:Int)))
else
J3
def Aa (a:List Ab):Nat->Int->Int->ABp Bool
|0,_,_=>none
|n+1,c,b=>L1 a (Aa a n) c b
end CP
section
open CP
def CP (a:List Ab) (d:Int):ABp Bool:=
Aa a BT d 0
theorem Wj {a:List Ab} {d:Int} {r:Bool} (h:CP a d=some r):Says Tryz.prog 127 [vS 6 Du a,si d] (sb r):=by
 refine kO mix Tryz.func127 hn ?_
 have a1:= @Nh
 have l1:=λn1 n2 n3 n4:Nat=>Ax λn τ=>∃(c b:Int),(τ 0=vS 6 Du a/\τ 1=si c/\τ 5=si b)/\Aa a n c b=some r
 unfold CP at h
 exact walk
end
namespace En
def J2 (a:Ab) (c:Bool):ABp Int:=
if c then
some (-1)
else
some a.A
def J1 (a:Ab) (b:AL) (d:Bool):ABp Int:=
if d then
some a.B
else
if a.Op==7 then
(gt b.Br a.C).bind λi=>
(F7 i a.N).bind λe=>
some (Ap (a.B+e))
else
if a.Op==9 then
(gt b.Br a.C).bind λj=>
(F7 j a.N).bind λf=>
some (Ap (a.A+f))
else
if a.Op==10 then
J2 a (a.Op==10)
else
if a.Op==17 then
J2 a (a.Op==17)
else
if a.Op==18 then
J2 a (a.Op==18)
else
if a.Op==19 then
J2 a (a.Op==19)
else
if a.Op==20 then
J2 a (a.Op==20)
else
J2 a (a.Op==28)
end En
section
open En
def En (a:Ab) (b:AL):ABp Int:=
if a.Op==6 then
J1 a b (a.Op==6)
else
J1 a b (a.Op==27)
theorem Un {a:Ab} {b:AL} {r:Int} (h:En a b=some r):Says Tryz.prog 168 [.agg (Du a),.agg (Ej b)] (si r):=by
 refine kO mix Tryz.func168 (hn [(2,[5,10,14,18,22,28,32,36,47]),(3,[16,30])] [(3,1),(10,2)]) ?_
 have a1:= @Wf
 have c2:=λn1 n2 n3 n4:Nat=>Bh 2 λτ=>∃(c:Bool),(τ 2=bA 6 (Du a)/\τ 40=sb c)/\J2 a c=some r
 have c1:=λn1 n2 n3 n4:Nat=>Bh 1 λτ=>∃(d:Bool),(τ 2=bA 6 (Du a)/\τ 3=bA 4 (Ej b)/\τ 6=si a.Op/\τ 7=sb d)/\J1 a b d=some r
 unfold En at h
 exact walk
end
namespace Hr
def J4 (l:Bool):ABp Bool:=
some l
def J6 (o:Bool):ABp Bool:=
some o
def J9 (b:Int) (c:AD) (q:Bool):ABp Bool:=
if q then
(G4 b (c.AK.length:Int)).bind λx=>
some x
else
some false
def J8 (a b:Int) (c:AD) (p:Bool):ABp Bool:=
if p then
(G4 b (c.AA.length:Int)).bind λw=>
some w
else
if a==22 then
J9 b c (a==22)
else
J9 b c (a==23)
def J7 (a b:Int) (c:AD) (i:Bool):ABp Bool:=
if i then
(G4 b (c.Af.length:Int)).bind λv=>
some v
else
if a==20 then
J8 a b c (a==20)
else
J8 a b c (a==21)
def J5 (a b:Int) (c:AD) (f:Bool):ABp Bool:=
if f then
(G4 b (c.AG.length:Int)).bind λu=>
if u then
(gt c.AG b).bind λz=>
J6 z.RW
else
J6 false
else
if a==16 then
J7 a b c (a==16)
else
if a==17 then
J7 a b c (a==17)
else
if a==18 then
J7 a b c (a==18)
else
J7 a b c (a==19)
def J3 (a b:Int) (c:AD) (e:Bool):ABp Bool:=
if e then
(G4 b (c.AG.length:Int)).bind λt=>
if t then
(gt c.AG b).bind λy=>
J4 (!y.RW)
else
J4 false
else
if a==8 then
J5 a b c (a==8)
else
if a==9 then
J5 a b c (a==9)
else
if a==10 then
J5 a b c (a==10)
else
J5 a b c (a==11)
def J2 (a b:Int) (c:AD) (d:Bool):ABp Bool:=
if d then
(G4 b (c.Cells.length:Int)).bind λs=>
some s
else
if a==6 then
J3 a b c (a==6)
else
J3 a b c (a==7)
def J1 (a b:Int) (c:AD) (j:Bool):ABp Bool:=
if j then
some (b==(-1))
else
if a==3 then
J2 a b c (a==3)
else
J2 a b c (a==4)
end Hr
section
open Hr
def Hr (c:AD) (a b:Int):ABp Bool:=
if a==1 then
J1 a b c (a==1)
else
if a==2 then
J1 a b c (a==2)
else
if a==5 then
J1 a b c (a==5)
else
if a==12 then
J1 a b c (a==12)
else
if a==13 then
J1 a b c (a==13)
else
if a==14 then
J1 a b c (a==14)
else
J1 a b c (a==15)
theorem Wn {c:AD} {a b:Int} {r:Bool} (h:Hr c a b=some r):Says Tryz.prog 138 [.agg (Ai c),si a,si b] (sb r):=by
 refine kO mix Tryz.func138 (hn [(3,[22,30,35,49,54,67,75,83])] [(3,1),(11,2),(14,3),(17,5),(22,7)]) ?_
 have a1:= @T9
 have c7:=λn1 n2 n3 n4:Nat=>Bh 7 λτ=>∃(i:Bool),(τ 2=si b/\τ 3=bA 6 (Ai c)/\τ 7=si a/\τ 61=sb i)/\J7 a b c i=some r
 have c5:=λn1 n2 n3 n4:Nat=>Bh 5 λτ=>∃(f:Bool),(τ 2=si b/\τ 3=bA 6 (Ai c)/\τ 7=si a/\τ 43=sb f)/\J5 a b c f=some r
 have c3:=λn1 n2 n3 n4:Nat=>Bh 3 λτ=>∃(e:Bool),(τ 2=si b/\τ 3=bA 6 (Ai c)/\τ 7=si a/\τ 26=sb e)/\J3 a b c e=some r
 have c2:=λn1 n2 n3 n4:Nat=>Bh 2 λτ=>∃(d:Bool),(τ 2=si b/\τ 3=bA 6 (Ai c)/\τ 7=si a/\τ 18=sb d)/\J2 a b c d=some r
 have c1:=λn1 n2 n3 n4:Nat=>Bh 1 λτ=>∃(j:Bool),(τ 2=si b/\τ 3=bA 6 (Ai c)/\τ 7=si a/\τ 8=sb j)/\J1 a b c j=some r
 unfold Hr at h
 exact walk
end
namespace Dk
def J2 (j:List Int):ABp (List Int):=
some j
def L2 (a:List Int) (L2:(List Int)->Int->ABp (List Int)) (f:List Int) (d:Int):ABp (List Int):=
if decide (d<(a.length:Int))then
(gt a d).bind λq=>
(EK f q).bind λo=>
L2 o (Ap (d+1))
else
J2 f
def C2 (a:List Int):Nat->(List Int)->Int->ABp (List Int)
|0,_,_=>none
|n+1,f,d=>L2 a (C2 a n) f d
def J1 (a i:List Int):ABp (List Int):=
C2 a BT i 0
def L1 (b a:List Int) (L1:(List Int)->Int->ABp (List Int)) (e:List Int) (c:Int):ABp (List Int):=
if decide (c<(b.length:Int))then
(gt b c).bind λp=>
(EK e p).bind λl=>
L1 l (Ap (c+1))
else
J1 a e
def Aa (b a:List Int):Nat->(List Int)->Int->ABp (List Int)
|0,_,_=>none
|n+1,e,c=>L1 b a (Aa b a n) e c
end Dk
section
open Dk
def Dk (b a:List Int):ABp (List Int):=
Aa b a BT [] 0
theorem O0 {b a r:List Int} (h:Dk b a=some r):Says Tryz.prog 142 [vS 1 eI b,vS 1 eI a] (vO 1 eI r):=by
 refine kO mix Tryz.func142 (hn [(5,[14,26,32])]) ?_
 have a1:= @ZR
 have l2:=λn1 n2 n3 n4:Nat=>Ax λn τ=>∃(f:List Int) (d:Int),(τ 1=vS 1 eI a/\τ 5=vO 1 eI f/\τ 7=si d)/\C2 a n f d=some r
 have l1:=λn1 n2 n3 n4:Nat=>Ax λn τ=>∃(e:List Int) (c:Int),(τ 0=vS 1 eI b/\τ 1=vS 1 eI a/\τ 5=vO 1 eI e/\τ 6=si c)/\Aa b a n e c=some r
 unfold Dk at h
 exact walk
end
namespace E5
def J1 (d:Ad):ABp Ad:=
some d
def L1 (a:Ad) (L1:Ad->Int->ABp Ad) (b:Ad) (c:Int):ABp Ad:=
if decide (c<(a.AA.length:Int))then
(gt a.AA c).bind λi=>
(Ch i).bind λf=>
if Al (b.AA.length+1) 64=true then
L1 (Ad.mk b.Sync b.Cells b.AK (b.AA++[f])) (Ap (c+1))
else none
else
J1 b
def Aa (a:Ad):Nat->Ad->Int->ABp Ad
|0,_,_=>none
|n+1,b,c=>L1 a (Aa a n) b c
end E5
section
open E5
def E5 (a:Ad):ABp Ad:=
(Fe a.Sync).bind λe=>
if Al (a.Cells.length) 8=true then
if Al (a.AK.length) 8=true then
Aa a BT (Ad.mk e a.Cells a.AK []) 0
else none
else none
theorem Xw {a r:Ad} (h:E5 a=some r):Says Tryz.prog 130 [.agg (Jp a)] (.agg (LS r)):=by
 refine kO mix Tryz.func130 (hn [(1,[5,9,13,18,26]),(3,[24,25,34,35])]) ?_
 have a1:= @QK
 have a2:= @QJ
 have l1:=λn1 n2 n3 n4:Nat=>Ax λn τ=>∃(b:Ad) (c:Int),(τ 1=bA 7 (Jp a)/\τ 2=bA 7 z4/\τ 3=bA 7 (LS b)/\τ 4=si c)/\Aa a n b c=some r
 unfold E5 at h
 exact walk
end
def Hq (b a:Int):ABp (Int×Bool):=
if b==4 then
some (Ap (0-a),true)
else
if b==5 then
(Di (a==0)).bind λc=>
some (c,true)
else
some (0,false)
theorem Wg {b a:Int} {r:Int×Bool} (h:Hq b a=some r):Says Tryz.prog 195 [si b,si a] (.BJ [si r.1,sb r.2]):=by
 refine kO mix Tryz.func195 hn ?_
 have a1:= @Ox
 unfold Hq at h
 exact walk
namespace DW
def J1 (d:Int):ABp (Int×Bool):=
some (d,true)
def J2 (e:Int):ABp (Int×Bool):=
some (e,true)
end DW
section
open DW
def DW (c b a:Int):ABp (Int×Bool):=
if c==6 then
some (Ap (b+a),true)
else
if c==7 then
some (Ap (b-a),true)
else
if c==8 then
some (Ap (b*a),true)
else
if c==9 then
if a==0 then
some (0,true)
else
if¬a=0 then
some (Ap (b.tdiv a),true)
else none
else
if c==10 then
if a==0 then
some (0,true)
else
if¬a=0 then
some (b.tmod a,true)
else none
else
if c==11 then
(Di (b==a)).bind λf=>
some (f,true)
else
if c==12 then
(Di (b != a)).bind λi=>
some (i,true)
else
if c==13 then
(Di (decide (b<a))).bind λj=>
some (j,true)
else
if c==14 then
(Di (decide (b≤a))).bind λl=>
some (l,true)
else
if c==15 then
(Di (decide (b>a))).bind λo=>
some (o,true)
else
if c==16 then
(Di (decide (b≥a))).bind λp=>
some (p,true)
else
if c==17 then
if b != 0 then
(Di (a != 0)).bind λq=>
J1 q
else
(Di false).bind λs=>
J1 s
else
if c==18 then
if b != 0 then
(Di true).bind λt=>
J2 t
else
(Di (a != 0)).bind λu=>
J2 u
else
some (0,false)
theorem Uj {c b a:Int} {r:Int×Bool} (h:DW c b a=some r):Says Tryz.prog 197 [si c,si b,si a] (.BJ [si r.1,sb r.2]):=by
 refine kO mix Tryz.func197 hn ?_
 have a1:= @Ox
 unfold DW at h
 exact walk
end
def f132c:XZ:=(.seq (.ic (Rc 0 [.B 2 false]))
(.seq (.ic (Ip (Rc 5 [.C 0,.o (.Te (.t 5)),.P .lss 6 1,.C 7,.G 8 false,.C 0,.o (.Te (.t 9)),.P .gtr 10 12,.e,.V 8 11,.C 12,.G 13 false,.C 0,.c 171 [14] 0,.e,.V 13 15])
(Ci 16 (Rb 0 [.B 2 false]))))
(aQ (.seq (.Xq [.x (.o ⟨some ⟨17,[],[]⟩,.cp (.t 0),none⟩),.rng ⟨18,[],[]⟩ (.t 17)])
(.block 0 (.loop (.seq (.Xq [.nxt ⟨19,[],[]⟩ (.t 18),.x (.o ⟨some ⟨20,[],[]⟩,.ext (.t 19) 0,none⟩)])
(.ic (Sq (cX 20 0)
(Bk 1 (Ra 21 [.o (.ext (.t 19) 1),.o (.ext (.t 19) 2),.M 3 21,.M 4 22]
(Bk 2 (Ip (Rc 24 [.C 4,.o (.bin .leq (.c (.sc (.int .i32 97))) (.t 24)),.C 25,.G 26 true,.C 4,.o (.bin .leq (.t 27) (.c (.sc (.int .i32 122)))),.e,.W 26 28,.C 29,.G 30 false,.C 4,.o (.bin .leq (.c (.sc (.int .i32 65))) (.t 31)),.C 32,.G 33 true,.C 4,.o (.bin .leq (.t 34) (.c (.sc (.int .i32 90)))),.G 30 false,.o (.pick (.t 33) (.t 35) (.c (sb false))),.e,.V 30 36,.M 23 37])
(Cn 23 .skip (Ip (Rc 39 [.C 3,.P .gtr 39 0,.C 40,.G 41 true,.C 4,.o (.bin .eql (.t 42) (.c (.sc (.int .i32 95)))),.C 43,.G 44 false,.C 4,.o (.bin .leq (.c (.sc (.int .i32 48))) (.t 45)),.C 46,.G 47 true,.C 4,.o (.bin .leq (.t 48) (.c (.sc (.int .i32 57)))),.G 44 false,.o (.pick (.t 47) (.t 49) (.c (sb false))),.G 41 true,.o (.pick (.t 44) (.c (sb true)) (.t 50)),.e,.W 41 51,.M 38 52])
(Cn 38 .skip (Rb 0 [.B 2 false]))))))))))))))
(.ic (Rb 0 [.B 2 true])))))
def f132g:Gi:=⟨[]⟩
def f132r:List RV:=[.tmp 2]
def f132:FIM:=⟨f132c,f132g,f132r⟩
theorem chk132:kB Tryz.prog Tryz.f132 f132=true:=by kernel_rfl
namespace CL
def J4:ABp Bool:=
some true
def J3 (L1:Nat->ABp Bool) (pos:Nat) (s:ABq) (AAE:Bool):ABp Bool:=
if AAE then
L1 (pos+(Utf8.decode s pos).2)
else
some false
def J2 (L1:Nat->ABp Bool) (pos:Nat) (s:ABq) (HD:Bool):ABp Bool:=
if HD then
L1 (pos+(Utf8.decode s pos).2)
else
if decide ((pos:Int)>0)then
if((Utf8.decode s pos).1:Int)==95 then
J3 L1 pos s true
else
if decide (48≤((Utf8.decode s pos).1:Int))then
J3 L1 pos s (decide (((Utf8.decode s pos).1:Int)≤57))
else
J3 L1 pos s false
else
J3 L1 pos s false
def L1 (s:ABq) (L1:Nat->ABp Bool) (pos:Nat):ABp Bool:=
if decide (pos<s.size)then
if decide (97≤((Utf8.decode s pos).1:Int))then
if decide (((Utf8.decode s pos).1:Int)≤122)then
J2 L1 pos s true
else
if decide (65≤((Utf8.decode s pos).1:Int))then
J2 L1 pos s (decide (((Utf8.decode s pos).1:Int)≤90))
else
J2 L1 pos s false
else
if decide (65≤((Utf8.decode s pos).1:Int))then
J2 L1 pos s (decide (((Utf8.decode s pos).1:Int)≤90))
else
J2 L1 pos s false
else
J4
def Aa (s:ABq):Nat->Nat->ABp Bool
|0,_=>none
|n+1,pos=>L1 s (Aa s n) pos
def J1 (s:ABq) (AAA:Bool):ABp Bool:=
if AAA then
some false
else
Aa s BT 0
end CL
section
open CL
def CL (s:ABq):ABp Bool:=
if decide ((s.size:Int)<1)then
J1 s true
else
if decide ((s.size:Int)>12)then
J1 s true
else
(DI s).bind λv=>
J1 s v
theorem Uu {s:ABq} {r:Bool} (h:CL s=some r):Says Tryz.prog 132 [BM s] (sb r):=by
 refine cV mix Tryz.func132 chk132 (AAa (by kernel_rfl)) rfl ?_
 simp only[f132,f132c,f132g,f132r]
 try simp +decide only[go_sem, *]
 refine JH (λτ=>∃AAA:Bool,(τ 0=BM s/\τ 16=sb AAA)/\J1 s AAA=some r) λM1 TG=>⟨?_,?_⟩
 . try simp +decide only[go_sem, *]
   refine gI h (λ_ h=> ?_) λ_ h=> ?_
   . try simp +decide only[go_sem, *]
     refine TG _ ⟨_,?_,h⟩
     simp +decide only[go_sem, *]
   try simp +decide only[go_sem, *]
   refine gI h (λ_ h=> ?_) λ_ h=> ?_
   . try simp +decide only[go_sem, *]
     refine TG _ ⟨_,?_,h⟩
     simp +decide only[go_sem, *]
   obtain⟨v,g1,h⟩:=bS h
   try simp +decide only[go_sem, *]
   refine⟨_,Q8 g1,?_⟩
   try simp +decide only[go_sem, *]
   refine TG _ ⟨_,?_,h⟩
   simp +decide only[go_sem, *]
 rintro τ1 ⟨AAA,s1,h⟩
 try simp +decide only[go_sem, *]
 refine cI h (λ_ h=> ?_) λ_ h=> ?_
 . obtain rfl:=AAR h
   simp +decide only[go_sem, *]
 try simp +decide only[go_sem, *]
 refine aR (λτ ν=>(True)/\J4=some r) λM4 kQ=>⟨?_,?_⟩
 . try simp +decide only[go_sem, *]
   intro b1 hb1
   try simp +decide only[go_sem, *]
   refine yF (λn τ ν=>∃pos:Nat,(τ 18= .sc (.pointer (some ⟨b1,0,none⟩))/\ν b1=some (.it s pos))/\Aa s n pos=some r) ⟨_,?_,h⟩ λn1 τ1 ν1 N1=> ?_
   . simp +decide only[go_sem, *]
   rintro⟨pos,s1,h⟩ dR
   cases n1 with
   |zero=>exact Bi h
   |succ n1=>
    rw[Aa]at h;generalize dP:Aa s n1=L1 at h
    try simp +decide only[go_sem, *]
    rcases bool_sp (decide (pos<s.size))with e4|e4
    . replace h:=ifT e4 h
      try simp +decide only[go_sem,(AAa e4),Gc,FL, *]
      refine JH (λτ=>∃HD:Bool,(τ 3=si (pos:Int)/\τ 4= .sc (.int .i32 ((Utf8.decode s pos).1:Int))/\τ 18= .sc (.pointer (some ⟨b1,0,none⟩))/\τ 23=sb HD)/\J2 L1 pos s HD=some r) λM2 TJ=>⟨?_,?_⟩
      . try simp +decide only[go_sem,(AAa e4),Gc,FL, *]
        refine gI h (λ_ h=> ?_) λ_ h=> ?_
        . try simp +decide only[go_sem,(AAa e4),Gc,FL, *]
          refine gI h (λ_ h=> ?_) λ_ h=> ?_
          . try simp +decide only[go_sem,(AAa e4),Gc,FL, *]
            refine TJ _ ⟨_,?_,h⟩
            simp +decide only[go_sem,(AAa e4),Gc,FL, *]
          try simp +decide only[go_sem,(AAa e4),Gc,FL, *]
          refine gI h (λ_ h=> ?_) λ_ h=> ?_
          . try simp +decide only[go_sem,(AAa e4),Gc,FL, *]
            refine TJ _ ⟨_,?_,h⟩
            simp +decide only[go_sem,(AAa e4),Gc,FL, *]
          try simp +decide only[go_sem,(AAa e4),Gc,FL, *]
          refine TJ _ ⟨_,?_,h⟩
          simp +decide only[go_sem,(AAa e4),Gc,FL, *]
        try simp +decide only[go_sem,(AAa e4),Gc,FL, *]
        refine gI h (λ_ h=> ?_) λ_ h=> ?_
        . try simp +decide only[go_sem,(AAa e4),Gc,FL, *]
          refine TJ _ ⟨_,?_,h⟩
          simp +decide only[go_sem,(AAa e4),Gc,FL, *]
        try simp +decide only[go_sem,(AAa e4),Gc,FL, *]
        refine TJ _ ⟨_,?_,h⟩
        simp +decide only[go_sem,(AAa e4),Gc,FL, *]
      rintro τ2 ⟨HD,s2,h⟩
      try simp +decide only[go_sem, *]
      refine cI h (λ_ h=> ?_) λ_ h=> ?_
      . try simp +decide only[go_sem, *]
        refine dR n1 (AA8 _) _ _ ⟨_,?_,dP.symm▸h⟩
        simp +decide only[go_sem, *]
      try simp +decide only[go_sem, *]
      refine JH (λτ=>∃AAE:Bool,(τ 18= .sc (.pointer (some ⟨b1,0,none⟩))/\τ 38=sb AAE)/\J3 L1 pos s AAE=some r) λM3 dQ=>⟨?_,?_⟩
      . try simp +decide only[go_sem, *]
        refine gI h (λ_ h=> ?_) λ_ h=> ?_
        . try simp +decide only[go_sem, *]
          refine gI h (λ_ h=> ?_) λ_ h=> ?_
          . try simp +decide only[go_sem, *]
            refine dQ _ ⟨_,?_,h⟩
            simp +decide only[go_sem, *]
          try simp +decide only[go_sem, *]
          refine gI h (λ_ h=> ?_) λ_ h=> ?_
          . try simp +decide only[go_sem, *]
            refine dQ _ ⟨_,?_,h⟩
            simp +decide only[go_sem, *]
          try simp +decide only[go_sem, *]
          refine dQ _ ⟨_,?_,h⟩
          simp +decide only[go_sem, *]
        try simp +decide only[go_sem, *]
        refine dQ _ ⟨_,?_,h⟩
        simp +decide only[go_sem, *]
      rintro τ3 ⟨AAE,s3,h⟩
      try simp +decide only[go_sem, *]
      refine cI h (λ_ h=> ?_) λ_ h=> ?_
      . try simp +decide only[go_sem, *]
        refine dR n1 (AA8 _) _ _ ⟨_,?_,dP.symm▸h⟩
        simp +decide only[go_sem, *]
      obtain rfl:=AAR h
      simp +decide only[go_sem, *]
    . replace h:=ifF e4 h
      try simp +decide only[go_sem,(of_decide_eq_false e4),Gc,FL, *]
      refine kQ _ _ ⟨?_,h⟩
      simp +decide only[go_sem,(of_decide_eq_false e4),Gc,FL, *]
 rintro τ4 ν4 ⟨_,h⟩
 obtain rfl:=AAR h
 simp +decide only[go_sem, *]
end
namespace FH
def J1 (d:Bool):ABp Bool:=
some d
end FH
section
open FH
def FH (b:AD) (a:Int) (c:Bool):ABp Bool:=
(Ei a (b.AG.length:Int)).bind λe=>
if e then
(gt b.AG a).bind λf=>
J1 (f.RW==c)
else
J1 false
theorem RO {b:AD} {a:Int} {c r:Bool} (h:FH b a c=some r):Says Tryz.prog 89 [.agg (Ai b),si a,sb c] (sb r):=by
 refine kO mix Tryz.func89 (hn [(3,[8,13])]) ?_
 have a1:= @RP
 unfold FH at h
 exact walk
end
namespace CX
def J1 (d:AB):ABp AB:=
some d
def L1 (a:AD) (L1:AB->Int->ABp AB) (b:AB) (c:Int):ABp AB:=
if decide (c<(a.Cells.length:Int))then
(gt a.Cells c).bind λf=>
if Al (b.Cells.length+1) 8=true then
L1 (AB.mk b.Sync (b.Cells++[f.Init]) b.AK b.Count) (Ap (c+1))
else none
else
J1 b
def Aa (a:AD):Nat->AB->Int->ABp AB
|0,_,_=>none
|n+1,b,c=>L1 a (Aa a n) b c
end CX
section
open CX
def CX (a:AD):ABp AB:=
(Dy a).bind λe=>
if 0≤0/\0≤(a.Cells.length:Int)/\Al a.Cells.length 8=true then
if 0≤(a.AK.length:Int)/\(a.AK.length:Int)≤(a.AK.length:Int)/\Al a.AK.length 8=true then
if 0≤(a.AA.length:Int)/\(a.AA.length:Int)≤(a.AA.length:Int)/\Al a.AA.length 8=true then
Aa a BT (AB.mk e [] (List.replicate a.AK.length 0) (List.replicate a.AA.length 0)) 0
else none
else none
else none
theorem Ib {a:AD} {r:AB} (h:CX a=some r):Says Tryz.prog 31 [.agg (Ai a)] (.agg (CG r)):=by
 refine kO mix Tryz.func31 (hn [(1,[8,12,16,21]),(3,[28,29,34,36]),(5,[30])]) ?_
 have a1:= @UX
 have l1:=λn1 n2 n3 n4:Nat=>Ax λn τ=>∃(b:AB) (c:Int),(τ 2=bA 7 z0/\τ 3=bA 7 (CG b)/\τ 22=vS 5 Fw a.Cells/\τ 23=si (a.Cells.length:Int)/\τ 24=si c)/\Aa a n b c=some r
 unfold CX at h
 exact walk
end
namespace EI
def J2:ABp Bool:=
some true
def L1 (a:AD) (L1:Int->ABp Bool) (b:Int):ABp Bool:=
if decide (b<(a.Af.length:Int))then
(gt a.Af b).bind λf=>
(Co f.Mutex (a.AG.length:Int)).bind λe=>
if !e then
some false
else
L1 (Ap (b+1))
else
J2
def Aa (a:AD):Nat->Int->ABp Bool
|0,_=>none
|n+1,b=>L1 a (Aa a n) b
def J1 (a:AD) (d:Bool):ABp Bool:=
if d then
some false
else
Aa a BT 0
end EI
section
open EI
def EI (a:AD) (c:AN):ABp Bool:=
if(c.AG.length:Int) != (a.AG.length:Int)then
J1 a true
else
if(c.Bq.length:Int) != (a.AK.length:Int)then
J1 a true
else
J1 a ((c.AA.length:Int) != (a.AA.length:Int))
theorem K7 {a:AD} {c:AN} {r:Bool} (h:EI a c=some r):Says Tryz.prog 91 [.agg (Ai a),.agg (E1 c)] (sb r):=by
 refine kO mix Tryz.func91 (hn [(2,[10,18,27,32,41]),(3,[7,15,24]),(6,[39])] [(2,1)]) ?_
 have a1:= @Jx
 have l1:=λn1 n2 n3 n4:Nat=>Ax λn τ=>∃(b:Int),(τ 2=bA 6 (Ai a)/\τ 33=vS 2 HF a.Af/\τ 34=si (a.Af.length:Int)/\τ 35=si b)/\Aa a n b=some r
 have c1:=λn1 n2 n3 n4:Nat=>Bh 1 λτ=>∃(d:Bool),(τ 2=bA 6 (Ai a)/\τ 31=sb d)/\J1 a d=some r
 unfold EI at h
 exact walk
end
end Go.Abs
