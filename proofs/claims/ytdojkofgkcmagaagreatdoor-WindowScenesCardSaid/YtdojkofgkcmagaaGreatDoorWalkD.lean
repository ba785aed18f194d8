/- Typed programs of Go functions, and that the functions do what these say. -/
import Derived.Test.YtdojkofgkcmagaaGreatDoorWalkA
import Derived.Test.YtdojkofgkcmagaaGreatDoorWalkB
set_option linter.unusedSimpArgs false
set_option linter.unusedVariables false
namespace Go.Abs
open Go.Proofs
set_option maxRecDepth 1000000
set_option maxHeartbeats 4000000
namespace DA
def J1 (R100:AO->Int->ABd (BE×AO)) (c:Int) (a:AO) (b:Int×AU) (d:Bool):ABd (BE×AO):=
if d then
(Ah b.2 4).bind λe=>
(Jo e.1).bind λp=>
some (p,(AO.mk e.2 a.Bb a.left a.HR a.tx a.atomic a.loop a.held))
else
if decide (b.1<7)then
(Ah b.2 7).bind λf=>
(gt [(⟨#[97]⟩:ABe),(⟨#[98]⟩:ABe),(⟨#[120]⟩:ABe),(⟨#[121]⟩:ABe),(⟨#[118]⟩:ABe),(⟨#[120]⟩:ABe),(⟨#[121]⟩:ABe)] f.1).bind λt=>
(Ii t).bind λq=>
some (q,(AO.mk f.2 a.Bb a.left a.HR a.tx a.atomic a.loop a.held))
else
if b.1==7 then
(R100 (AO.mk b.2 a.Bb a.left a.HR a.tx a.atomic a.loop a.held) 0).bind λi=>
some ((BE.mk 3 0 (⟨#[113]⟩:ABe) [i.1]),i.2)
else
(Ah b.2 6).bind λj=>
(gt [6,7,8,11,13,17] j.1).bind λu=>
(R100 (AO.mk j.2 a.Bb a.left a.HR a.tx a.atomic a.loop a.held) (BA (c-1))).bind λl=>
(R100 l.2 (BA (c-1))).bind λo=>
(IJ u l.1 o.1).bind λs=>
some (s,o.2)
end DA
section
open DA
def DA (R100:AO->Int->ABd (BE×AO)) (a:AO) (c:Int):ABd (BE×AO):=
(Ah a.t 10).bind λb=>
if decide (b.1<2)then
J1 R100 c a b true
else
if c==0 then
J1 R100 c a b (decide (b.1≥7))
else
J1 R100 c a b false
theorem Re {R100:AO->Int->ABd (BE×AO)} (H100:∀{x0 x1 r},R100 x0 x1=some r->BD Tryz.prog 254 [bA 8 (CX x0),si x1] (.agg [si r.1.Op,si r.1.N,BZ r.1.Name,vS 4 BH r.1.L]) [bA 8 (CX r.2),.dead]) {a:AO} {c:Int} {r:BE×AO} (h:DA R100 a c=some r):BD Tryz.prog 254 [bA 8 (CX a),si c] (.agg [si r.1.Op,si r.1.N,BZ r.1.Name,vS 4 BH r.1.L]) [bA 8 (CX r.2),.dead]:=by refine kP mix Tryz.func254 (hn [(0,[9,10,11,12,25,26,27,28,35,36,37,38,48,54,55,56,57]),(5,[34,39,42]),(7,[53,58,61])] [(4,1)] (E:=[(10,(.bY [(0,10,13,63),(0,14,17,67)] [i1 53 7 (.cp (.t 7)),i1 54 0 (.cp (.t 0)),i1 55 0 (.Jp (.t 54)),LU 56 0 0 55,Zk 57 0 56,i1 58 7 (.cp (.t 7)),iZ 59 58,i0 60 (.Uv 132 [] (.t 57) none [.t 59]),xG 61 7 1 53 60,iL 62 61,i0 63 .fl,iC 64 1,iP 65 .sub 64 1,i0 66 (.Uv 254 [] (.t 0) none [.t 65]),i0 67 .fl,iC 68 1,iP 69 .sub 68 1,i0 70 (.Uv 254 [] (.t 0) none [.t 69]),i0 71 (.call 255 [.t 62,.t 66,.t 70] 1),iS 4 4 71]))])) ?_;have a1:= @DD;have a2:= @Pc;have a3:= @Sw;have a4:= @H100;have a5:= @PZ;have c1:=λn1 n2 n3 n4:Nat=>Bs 1 λτ=>∃(b:Int×AU) (d:Bool),(τ 0=bA 8 [bA 2 (FO b.2),si a.Bb,si a.left,sb a.HR,sb a.tx,sb a.atomic,sb a.loop,vO 1 eS a.held]/\τ 1=si c/\τ 4=bA 4 z20/\τ 5= .own false 1 ([[BZ ⟨#[97]⟩],[BZ ⟨#[98]⟩],[BZ ⟨#[120]⟩],[BZ ⟨#[121]⟩],[BZ ⟨#[118]⟩],[BZ ⟨#[120]⟩],[BZ ⟨#[121]⟩]])/\τ 6=si b.1/\τ 14=sb d)/\J1 R100 c a b d=some r;unfold DA at h;exact walk
end
def NN:Nat->(AO->Int->ABd (BE×AO))
|0=>(λ_ _=>none)
|n+1=>DA ((NN n))
def CO (n:Nat):AO->Int->ABd (BE×AO):=(NN n)
theorem QY (n:Nat):(∀{x0 x1 r},(CO n) x0 x1=some r->BD Tryz.prog 254 [bA 8 (CX x0),si x1] (.agg [si r.1.Op,si r.1.N,BZ r.1.Name,.sl false 4 (r.1.L.map BH)]) [bA 8 (CX r.2),.dead]):=by
  induction n with
  |zero=>exactλh=>ET h
  |succ n ih=>exactλh=>Re ih h
theorem QZ {n:Nat}:∀{x0 x1 r},(CO n) x0 x1=some r->BD Tryz.prog 254 [bA 8 (CX x0),si x1] (.agg [si r.1.Op,si r.1.N,BZ r.1.Name,.sl false 4 (r.1.L.map BH)]) [bA 8 (CX r.2),.dead]:=(QY n)
namespace Eo
def J1 (e:Bool):ABd Bool:=
some e
end Eo
section
open Eo
def Eo (b:AD) (a c:Int):ABd Bool:=
(Da a (b.Cells.length:Int)).bind λf=>
if f then
(gt b.Cells a).bind λd=>
if d.Index==0 then
if d.Bq != 0 then
J1 (d.Bq==c)
else
J1 false
else
J1 false
else
J1 false
theorem YD {b:AD} {a c:Int} {r:Bool} (h:Eo b a c=some r):Says Tryz.prog 237 [.agg (Aq b),si a,si c] (sb r):=by refine kO mix Tryz.func237 (hn [(3,[8,13,22,31])]) ?_;have a1:= @Pm;unfold Eo at h;exact walk
end
namespace Fu
def J1 (d:Bool):ABd Bool:=
some d
end Fu
section
open Fu
def Fu (b:AD) (a:Int) (c:Bool):ABd Bool:=
(Ey a (b.AF.length:Int)).bind λe=>
if e then
(gt b.AF a).bind λf=>
J1 (f.RW==c)
else
J1 false
theorem SU {b:AD} {a:Int} {c r:Bool} (h:Fu b a c=some r):Says Tryz.prog 92 [.agg (Aq b),si a,sb c] (sb r):=by refine kO mix Tryz.func92 (hn [(3,[8,13])]) ?_;have a1:= @SV;unfold Fu at h;exact walk
end
namespace FH
def J1 (c:Bool):ABd Bool:=
some c
end FH
section
open FH
def FH (b:AL) (a:Int):ABd Bool:=
(Kz a (b.Init.Count.length:Int)).bind λd=>
if d then
(gt b.Init.Count a).bind λe=>
J1 (decide (e≥1))
else
J1 false
theorem YQ {b:AL} {a:Int} {r:Bool} (h:FH b a=some r):Says Tryz.prog 102 [.agg (B0 b),si a] (sb r):=by refine kO mix Tryz.func102 (hn [(2,[6,7,12,13])]) ?_;have a1:= @U9;unfold FH at h;exact walk
end
namespace G6
def J1 (b:Bool):ABd Bool:=
some b
end G6
section
open G6
def G6 (a:Int):ABd Bool:=
(Fl a).bind λc=>
if c then
J1 true
else
(HW a).bind λd=>
if d then
J1 true
else
J1 (a==95)
theorem X4 {a:Int} {r:Bool} (h:G6 a=some r):Says Tryz.prog 155 [.sc (.int .u8 a)] (sb r):=by refine kO mix Tryz.func155 hn ?_;have a1:= @OV;have a2:= @X2;unfold G6 at h;exact walk
end
def Dq (a:AO) (b:ABe):ABd (Bool×AO):=
(CU a.held b).bind λc=>
some (decide (c≥0),a)
theorem Qa {a:AO} {b:ABe} {r:Bool×AO} (h:Dq a b=some r):BD Tryz.prog 257 [bA 8 (CX a),BZ b] (sb r.1) [bA 8 (CX r.2),.dead]:=by refine kL mix Tryz.func257 (hn [(0,[5,6,7,8])]) ?_;have a1:= @HY;unfold Dq at h;exact walk
def Kx (b a:Int):ABd (Int×Bool):=
if b==4 then
some (BA (0-a),true)
else
if b==5 then
(D7 (a==0)).bind λc=>
some (c,true)
else
some (0,false)
theorem YB {b a:Int} {r:Int×Bool} (h:Kx b a=some r):Says Tryz.prog 265 [si b,si a] (.BQ [si r.1,sb r.2]):=by refine kO mix Tryz.func265 hn ?_;have a1:= @Pl;unfold Kx at h;exact walk
def Gn (a:List Int) (b:Int):ABd Bool:=
(Fq a b).bind λc=>
some (decide (c≥0))
theorem OD {a:List Int} {b:Int} {r:Bool} (h:Gn a b=some r):Says Tryz.prog 167 [vS 1 eI a,si b] (sb r):=by refine kO mix Tryz.func167 hn ?_;have a1:= @V0;unfold Gn at h;exact walk
namespace B7
def J5:ABd Bool:=
some true
def J4 (L1:Int->ABd Bool) (b:Int) (l:Bool):ABd Bool:=
if l then
some false
else
L1 (BA (b+1))
def J3 (L1:Int->ABd Bool) (b:Int) (c:Bool) (a:AL) (e:Bool):ABd Bool:=
if e then
some false
else
if c then
(gt a.Init.Sync.AA b).bind λq=>
(Kz q.Dg (a.World.Ai.length:Int)).bind λo=>
if !o then
J4 L1 b true
else
J4 L1 b false
else
(gt a.Init.Sync.AA b).bind λs=>
J4 L1 b (s.Dg != 0)
def J2 (L1:Int->ABd Bool) (d:Bool) (b:Int) (a:AL) (c:Bool):ABd Bool:=
(gt a.Init.Sync.AA b).bind λf=>
if decide (f.Status<0)then
J3 L1 b c a true
else
if decide (f.Status>5)then
J3 L1 b c a true
else
(gt a.Init.Count b).bind λp=>
if !(d==(p==0))then
J3 L1 b c a true
else
if b==0 then
J3 L1 b c a (f.Status==0)
else
J3 L1 b c a false
def J1 (L1:Int->ABd Bool) (b:Int) (a:AL) (d:Bool):ABd Bool:=
(gt a.Init.Sync.AA b).bind λj=>
if j.Status==3 then
J2 L1 d b a true
else
J2 L1 d b a (j.Status==4)
def L1 (a:AL) (L1:Int->ABd Bool) (b:Int):ABd Bool:=
if decide (b<(a.Init.Sync.AA.length:Int))then
(gt a.Init.Sync.AA b).bind λi=>
if i.Status==0 then
J1 L1 b a true
else
J1 L1 b a (i.Status==1)
else
J5
def Aa (a:AL):Nat->Int->ABd Bool
|0,_=>none
|n+1,b=>L1 a (Aa a n) b
end B7
section
open B7
def B7 (a:AL):ABd Bool:=
Aa a BW 0
theorem Td {a:AL} {r:Bool} (h:B7 a=some r):Says Tryz.prog 53 [.agg (B0 a)] (sb r):=by refine kO mix Tryz.func53 (hn [(1,[7,8,9,61,62,89,90])] [(7,1),(8,2),(10,3)]) ?_;have a1:= @U9;have l1:=λn1 n2 n3 n4:Nat=>A3 λn τ=>∃(b:Int),(τ 1=bA 15 (B0 a)/\τ 3=vS 3 An a.Init.Sync.AA/\τ 4=si b)/\Aa a n b=some r;have c3:=λn1 n2 n3 n4:Nat=>Bs 3 λτ=>∃(b:Int) (c e:Bool),(τ 1=bA 15 (B0 a)/\τ 3=vS 3 An a.Init.Sync.AA/\τ 4=si b/\τ 6=sb c/\τ 81=sb e)/\J3 (Aa a n1) b c a e=some r;have c2:=λn1 n2 n3 n4:Nat=>Bs 2 λτ=>∃(d:Bool) (b:Int) (c:Bool),(τ 1=bA 15 (B0 a)/\τ 3=vS 3 An a.Init.Sync.AA/\τ 4=si b/\τ 5=sb d/\τ 6=sb c)/\J2 (Aa a n1) d b a c=some r;have c1:=λn1 n2 n3 n4:Nat=>Bs 1 λτ=>∃(b:Int) (d:Bool),(τ 1=bA 15 (B0 a)/\τ 3=vS 3 An a.Init.Sync.AA/\τ 4=si b/\τ 5=sb d)/\J1 (Aa a n1) b a d=some r;unfold B7 at h;exact walk
end
namespace Cw
def J5 (b:AU) (c:Int) (p:Bool):ABd (Int×AU):=
if p then
(Ah b 3).bind λo=>
some ((BA ((BA (c+1))+o.1)).tmod 4,o.2)
else
some ((-1),b)
def J4 (a:Int) (b:AU) (c:Int) (f:Bool):ABd (Int×AU):=
if f then
some (0,b)
else
if a==20 then
J5 b c (a==20)
else
J5 b c (a==21)
def J3 (a:Int) (b:AU) (c:Int) (e:Bool):ABd (Int×AU):=
if e then
some (2,b)
else
if a==16 then
J4 a b c (a==16)
else
if a==17 then
J4 a b c (a==17)
else
if a==18 then
J4 a b c (a==18)
else
if a==19 then
J4 a b c (a==19)
else
if a==22 then
J4 a b c (a==22)
else
J4 a b c (a==23)
def J2 (a:Int) (b:AU) (c:Int) (d:Bool):ABd (Int×AU):=
if d then
(Ah b 2).bind λl=>
some (l.1,l.2)
else
if a==8 then
J3 a b c (a==8)
else
if a==9 then
J3 a b c (a==9)
else
if a==10 then
J3 a b c (a==10)
else
J3 a b c (a==11)
def J1 (a:Int) (b:AU) (c:Int) (i:Bool):ABd (Int×AU):=
if i then
(Ah b 8).bind λj=>
(gt [0,0,0,1,1,2,3,4] j.1).bind λq=>
some (q,j.2)
else
if a==6 then
J2 a b c (a==6)
else
J2 a b c (a==7)
end Cw
section
open Cw
def Cw (b:AU) (a c:Int):ABd (Int×AU):=
if a==3 then
J1 a b c (a==3)
else
J1 a b c (a==4)
theorem Vz {b:AU} {a c:Int} {r:Int×AU} (h:Cw b a c=some r):BD Tryz.prog 176 [bA 2 (FO b),si a,si c] (si r.1) [bA 2 (FO r.2),.dead,.dead]:=by refine kL mix Tryz.func176 (hn [(0,[12,19,38]),(11,[14])] [(3,1),(6,2),(9,3),(14,4)]) ?_;have a1:= @DD;have c4:=λn1 n2 n3 n4:Nat=>Bs 4 λτ=>∃(f:Bool),(τ 0=bA 2 (FO b)/\τ 2=si c/\τ 7=si a/\τ 26=sb f)/\J4 a b c f=some r;have c3:=λn1 n2 n3 n4:Nat=>Bs 3 λτ=>∃(e:Bool),(τ 0=bA 2 (FO b)/\τ 2=si c/\τ 7=si a/\τ 21=sb e)/\J3 a b c e=some r;have c2:=λn1 n2 n3 n4:Nat=>Bs 2 λτ=>∃(d:Bool),(τ 0=bA 2 (FO b)/\τ 2=si c/\τ 7=si a/\τ 16=sb d)/\J2 a b c d=some r;have c1:=λn1 n2 n3 n4:Nat=>Bs 1 λτ=>∃(i:Bool),(τ 0=bA 2 (FO b)/\τ 2=si c/\τ 7=si a/\τ 8=sb i)/\J1 a b c i=some r;unfold Cw at h;exact walk
end
namespace D8
def J2 (j:List Int):ABd (List Int):=
some j
def L2 (a:List Int) (L2:(List Int)->Int->ABd (List Int)) (f:List Int) (d:Int):ABd (List Int):=
if decide (d<(a.length:Int))then
(gt a d).bind λq=>
(EW f q).bind λo=>
L2 o (BA (d+1))
else
J2 f
def DF (a:List Int):Nat->(List Int)->Int->ABd (List Int)
|0,_,_=>none
|n+1,f,d=>L2 a (DF a n) f d
def J1 (a i:List Int):ABd (List Int):=
DF a BW i 0
def L1 (b a:List Int) (L1:(List Int)->Int->ABd (List Int)) (e:List Int) (c:Int):ABd (List Int):=
if decide (c<(b.length:Int))then
(gt b c).bind λp=>
(EW e p).bind λl=>
L1 l (BA (c+1))
else
J1 a e
def Aa (b a:List Int):Nat->(List Int)->Int->ABd (List Int)
|0,_,_=>none
|n+1,e,c=>L1 b a (Aa b a n) e c
end D8
section
open D8
def D8 (b a:List Int):ABd (List Int):=
Aa b a BW [] 0
theorem Po {b a r:List Int} (h:D8 b a=some r):Says Tryz.prog 156 [vS 1 eI b,vS 1 eI a] (vO 1 eI r):=by refine kO mix Tryz.func156 (hn [(5,[14,26,32])]) ?_;have a1:= @eC;have l2:=λn1 n2 n3 n4:Nat=>A3 λn τ=>∃(f:List Int) (d:Int),(τ 1=vS 1 eI a/\τ 5=vO 1 eI f/\τ 7=si d)/\DF a n f d=some r;have l1:=λn1 n2 n3 n4:Nat=>A3 λn τ=>∃(e:List Int) (c:Int),(τ 0=vS 1 eI b/\τ 1=vS 1 eI a/\τ 5=vO 1 eI e/\τ 6=si c)/\Aa b a n e c=some r;unfold D8 at h;exact walk
end
namespace Gf
def J1 (a:Int) (c:AB) (b:AU) (e:Bool):ABd (Int×AU):=
if e then
(Ah b 3).bind λi=>
some (i.1,i.2)
else
if a==5 then
(Ah b 2).bind λj=>
some (j.1,j.2)
else
if a==18 then
(EB c).bind λf=>
if decide ((f.length:Int)>0)then
(Ah b (f.length:Int)).bind λl=>
(gt f l.1).bind λs=>
some (s,l.2)
else
some ((-1),b)
else
if a==19 then
(EB c).bind λo=>
some ((o.length:Int),b)
else
some (0,b)
end Gf
section
open Gf
def Gf (b:AU) (c:AB) (a d:Int):ABd (Int×AU):=
if a==3 then
(gt c.Cells d).bind λp=>
some (p,b)
else
if a==23 then
(gt c.AK 0).bind λq=>
some (q,b)
else
if a==4 then
J1 a c b (a==4)
else
J1 a c b (a==22)
theorem Ye {b:AU} {c:AB} {a d:Int} {r:Int×AU} (h:Gf b c a d=some r):BD Tryz.prog 177 [bA 2 (FO b),.agg (BI c),si a,si d] (si r.1) [bA 2 (FO r.2),.dead,.dead,.dead]:=by refine kL mix Tryz.func177 (hn [(0,[27,31,41]),(5,[13,20]),(9,[37,40,42,45])] [(7,1)]) ?_;have a1:= @DD;have a2:= @Ua;have c1:=λn1 n2 n3 n4:Nat=>Bs 1 λτ=>∃(e:Bool),(τ 0=bA 2 (FO b)/\τ 5=bA 7 (BI c)/\τ 10=si a/\τ 24=sb e)/\J1 a c b e=some r;unfold Gf at h;exact walk
end
namespace E8
def J2 (a:Ad) (c:Bool):ABd Int:=
if c then
some (-1)
else
some a.A
def J1 (a:Ad) (b:AM) (d:Bool):ABd Int:=
if d then
some a.B
else
if a.Op==7 then
(gt b.Ck a.C).bind λi=>
(Gc i a.N).bind λe=>
some (BA (a.B+e))
else
if a.Op==9 then
(gt b.Ck a.C).bind λj=>
(Gc j a.N).bind λf=>
some (BA (a.A+f))
else
if a.Op==10 then
J2 a (a.Op==10)
else
if a.Op==17 then
J2 a (a.Op==17)
else
if a.Op==18 then
J2 a (a.Op==18)
else
if a.Op==19 then
J2 a (a.Op==19)
else
if a.Op==20 then
J2 a (a.Op==20)
else
J2 a (a.Op==28)
end E8
section
open E8
def E8 (a:Ad) (b:AM):ABd Int:=
if a.Op==6 then
J1 a b (a.Op==6)
else
J1 a b (a.Op==27)
theorem Vw {a:Ad} {b:AM} {r:Int} (h:E8 a b=some r):Says Tryz.prog 241 [.agg (EF a),.agg (E0 b)] (si r):=by refine kO mix Tryz.func241 (hn [(2,[5,10,14,18,22,28,32,36,47]),(3,[16,30])] [(3,1),(10,2)]) ?_;have a1:= @YA;have c2:=λn1 n2 n3 n4:Nat=>Bs 2 λτ=>∃(c:Bool),(τ 2=bA 6 (EF a)/\τ 40=sb c)/\J2 a c=some r;have c1:=λn1 n2 n3 n4:Nat=>Bs 1 λτ=>∃(d:Bool),(τ 2=bA 6 (EF a)/\τ 3=bA 4 (E0 b)/\τ 6=si a.Op/\τ 7=sb d)/\J1 a b d=some r;unfold E8 at h;exact walk
end
namespace EU
def J1 (d:AB):ABd AB:=
some d
def L1 (a:AD) (L1:AB->Int->ABd AB) (b:AB) (c:Int):ABd AB:=
if decide (c<(a.Cells.length:Int))then
(gt a.Cells c).bind λf=>
if Ap (b.Cells.length+1) 8=true then
L1 (AB.mk b.Sync (b.Cells++[f.Init]) b.AK b.Count) (BA (c+1))
else none
else
J1 b
def Aa (a:AD):Nat->AB->Int->ABd AB
|0,_,_=>none
|n+1,b,c=>L1 a (Aa a n) b c
end EU
section
open EU
def EU (a:AD):ABd AB:=
(CW a).bind λe=>
if 0≤(a.AK.length:Int)/\(a.AK.length:Int)≤(a.AK.length:Int)/\Ap a.AK.length 8=true then
if 0≤(a.AA.length:Int)/\(a.AA.length:Int)≤(a.AA.length:Int)/\Ap a.AA.length 8=true then
Aa a BW (AB.mk e [] (List.replicate a.AK.length (0:Int)) (List.replicate a.AA.length (0:Int))) 0
else none
else none
theorem Jz {a:AD} {r:AB} (h:EU a=some r):Says Tryz.prog 84 [.agg (Aq a)] (.agg (GG r)):=by refine kO mix Tryz.func84 (hn [(1,[7,11,17,25]),(3,[23,24,33,34])]) ?_;have a1:= @Pq;have l1:=λn1 n2 n3 n4:Nat=>A3 λn τ=>∃(b:AB) (c:Int),(τ 1=bA 6 (Aq a)/\τ 2=bA 7 z0/\τ 3=bA 7 (GG b)/\τ 4=si c)/\Aa a n b c=some r;unfold EU at h;exact walk
end
namespace EM
def J2:ABd Bool:=
some true
def L1 (a:AD) (L1:Int->ABd Bool) (b:Int):ABd Bool:=
if decide (b<(a.Ai.length:Int))then
(gt a.Ai b).bind λf=>
(DP f.Mutex (a.AF.length:Int)).bind λe=>
if !e then
some false
else
L1 (BA (b+1))
else
J2
def Aa (a:AD):Nat->Int->ABd Bool
|0,_=>none
|n+1,b=>L1 a (Aa a n) b
def J1 (a:AD) (d:Bool):ABd Bool:=
if d then
some false
else
Aa a BW 0
end EM
section
open EM
def EM (a:AD) (c:AP):ABd Bool:=
if(c.AF.length:Int) != (a.AF.length:Int)then
J1 a true
else
if(c.Bn.length:Int) != (a.AK.length:Int)then
J1 a true
else
J1 a ((c.AA.length:Int) != (a.AA.length:Int))
theorem Ku {a:AD} {c:AP} {r:Bool} (h:EM a c=some r):Says Tryz.prog 94 [.agg (Aq a),.agg (F8 c)] (sb r):=by refine kO mix Tryz.func94 (hn [(2,[10,18,27,32,41]),(3,[7,15,24]),(6,[39])] [(2,1)]) ?_;have a1:= @JY;have l1:=λn1 n2 n3 n4:Nat=>A3 λn τ=>∃(b:Int),(τ 2=bA 6 (Aq a)/\τ 33=vS 2 Hx a.Ai/\τ 34=si (a.Ai.length:Int)/\τ 35=si b)/\Aa a n b=some r;have c1:=λn1 n2 n3 n4:Nat=>Bs 1 λτ=>∃(d:Bool),(τ 2=bA 6 (Aq a)/\τ 31=sb d)/\J1 a d=some r;unfold EM at h;exact walk
end
namespace DB
def J2 (p:List AH) (l:Int):ABd (Int×(List AH)):=
some (l,p)
def J1 (L1:(List AH)->Int->Int->ABd (Int×(List AH))) (a:Int) (o:List AH) (j:Int):ABd (Int×(List AH)):=
L1 o j (BA (a+1))
def L1 (c:Int) (b:List AH) (L1:(List AH)->Int->Int->ABd (Int×(List AH))) (d:List AH) (e a:Int):ABd (Int×(List AH)):=
if decide (a<(b.length:Int))then
(gt d a).bind λi=>
(Fk i c).bind λq=>
if q then
J1 L1 a (d.set a.toNat (AH.mk 4 i.Dg i.Atomic)) (BA (e+1))
else
J1 L1 a d e
else
J2 d e
def Aa (c:Int) (b:List AH):Nat->(List AH)->Int->Int->ABd (Int×(List AH))
|0,_,_,_=>none
|n+1,d,e,a=>L1 c b (Aa c b n) d e a
end DB
section
open DB
def DB (f:Int) (b:List AH) (c:Int):ABd (Int×(List AH)):=
Aa c b BW b 0 0
theorem Qc {f:Int} {b:List AH} {c:Int} {r:Int×(List AH)} (h:DB f b c=some r):BD Tryz.prog 197 [.agg [.dead,si f,.dead,vO 3 An b],si c] (si r.1) [.agg [.dead,si f,.dead,vO 3 An r.2],.dead]:=by refine kL mix Tryz.func197 (hn [(0,[2,8,9,14,19,20,22,23])] (E:=[(0,(.Yu [.bxv ⟨2,[],[0]⟩ 4 0,.o (iK 4 0)]))])) ?_;have a1:= @OS;have l1:=λn1 n2 n3 n4:Nat=>A3 λn τ=>∃(d:List AH) (e a:Int) (us1:List Value),(τ 0= .agg [.dead,si f,.dead,vO 3 An d]/\τ 1=si c/\τ 2= .vb 0 0 us1/\τ 5=si e/\τ 9= .al 0 [(0,3,0)]/\τ 10=si (b.length:Int)/\τ 11=si a)/\Aa c b n d e a=some r;unfold DB at h;exact walk
end
namespace KD
def J1 (e:AB):ABd AB:=
some e
def L1 (a:AB) (L1:AB->Int->ABd AB) (b:AB) (c:Int):ABd AB:=
if decide (c<(a.Sync.AF.length:Int))then
(gt a.Sync.AF c).bind λd=>
(slices_Clone_int d.Ak).bind λp=>
if Ap (b.Sync.AF.length+1) 32=true then
L1 (AB.mk (AP.mk (b.Sync.AF++[(AW.mk d.CG p)]) b.Sync.Tx b.Sync.Bn b.Sync.AA) b.Cells b.AK b.Count) (BA (c+1))
else none
else
J1 b
def Aa (a:AB):Nat->AB->Int->ABd AB
|0,_,_=>none
|n+1,b,c=>L1 a (Aa a n) b c
end KD
section
open KD
def KD (a:AB):ABd AB:=
(Gs a.Cells).bind λf=>
(Gs a.AK).bind λi=>
(slices_Clone_int a.Count).bind λj=>
(I4 a.Sync.Bn).bind λl=>
(FV a.Sync.AA).bind λo=>
Aa a BW (AB.mk (AP.mk [] a.Sync.Tx l o) f i j) 0
theorem fF {a r:AB} (h:KD a=some r):Says Tryz.prog 111 [.agg (BI a)] (.agg (GG r)):=by refine kO mix Tryz.func111 (hn [(1,[6,9,12,16,17,19,20,23,24,29,30]),(3,[28,37,38,39,48,49,51]),(5,[40,42])]) ?_;have a1:= @Ls;have a2:= @Hs;have a3:= @Mg;have a4:= @Ip;have l1:=λn1 n2 n3 n4:Nat=>A3 λn τ=>∃(b:AB) (c:Int),(τ 2=bA 7 z0/\τ 3=bA 7 (GG b)/\τ 31=vS 2 DS a.Sync.AF/\τ 32=si (a.Sync.AF.length:Int)/\τ 33=si c)/\Aa a n b c=some r;unfold KD at h;exact walk
end
namespace Ek
def J3 (s:AU) (o:List Int):ABd ((List Int)×AU):=
some (o,s)
def J2 (L1:AU->(List Int)->Int->ABd ((List Int)×AU)) (b:Int) (q:AU) (l:List Int):ABd ((List Int)×AU):=
L1 q l (BA (b+1))
def J1 (L1:AU->(List Int)->Int->ABd ((List Int)×AU)) (c:List Int) (b f:Int) (i:AU) (p:Bool):ABd ((List Int)×AU):=
if p then
if Ap (c.length+1) 8=true then
J2 L1 b i (c++[f])
else none
else
J2 L1 b i c
def L1 (a:List Int) (L1:AU->(List Int)->Int->ABd ((List Int)×AU)) (d:AU) (c:List Int) (b:Int):ABd ((List Int)×AU):=
if decide (b<(a.length:Int))then
(gt a b).bind λf=>
if decide ((BA (b+3))≥(a.length:Int))then
(Ah d 2).bind λj=>
J1 L1 c b f j.2 (j.1==1)
else
J1 L1 c b f d false
else
J3 d c
def Aa (a:List Int):Nat->AU->(List Int)->Int->ABd ((List Int)×AU)
|0,_,_,_=>none
|n+1,d,c,b=>L1 a (Aa a n) d c b
end Ek
section
open Ek
def Ek (e:AU) (a:List Int):ABd ((List Int)×AU):=
Aa a BW e [] 0
theorem Zb {e:AU} {a:List Int} {r:(List Int)×AU} (h:Ek e a=some r):BD Tryz.prog 178 [bA 2 (FO e),vO 1 eI a] (vO 1 eI r.1) [bA 2 (FO r.2),vO 1 eI a]:=by refine kL mix Tryz.func178 (hn [(0,[21]),(1,[8,13,17]),(5,[25,30])]) ?_;have a1:= @DD;have l1:=λn1 n2 n3 n4:Nat=>A3 λn τ=>∃(d:AU) (c:List Int) (b:Int),(τ 0=bA 2 (FO d)/\τ 1=vO 1 eI a/\τ 5=vO 1 eI c/\τ 8= .al 1 []/\τ 9=si (a.length:Int)/\τ 10=si b)/\Aa a n d c b=some r;unfold Ek at h;exact walk
end
namespace DQ
def J1:ABd Bool:=
some false
def L1 (a:ABe) (b:List ABe) (L1:Int->ABd Bool) (c:Int):ABd Bool:=
if decide (c<(b.length:Int))then
(gt b c).bind λd=>
if d.toList==a.toList then
some true
else
L1 (BA (c+1))
else
J1
def Aa (a:ABe) (b:List ABe):Nat->Int->ABd Bool
|0,_=>none
|n+1,c=>L1 a b (Aa a b n) c
end DQ
section
open DQ
def DQ (a:ABe):ABd Bool:=
(Ju).bind λb=>
Aa a b BW 0
theorem Rl {a:ABe} {r:Bool} (h:DQ a=some r):Says Tryz.prog 154 [BZ a] (sb r):=by refine kO mix Tryz.func154 (hn [(3,[7,12,14])]) ?_;have a1:= @TO;have l1:=λn1 n2 n3 n4:Nat=>A3 λn τ=>∃(b:List ABe) (c:Int),(τ 0=BZ a/\τ 3=vO 1 eS b/\τ 4=si c)/\Aa a b n c=some r;unfold DQ at h;exact walk
end
namespace Ge
def J1 (a:Int×AU) (e:Bool):ABd (Int×AU):=
if e then
some ((-1),a.2)
else
some (BA (a.1-2),a.2)
end Ge
section
open Ge
def Ge (c:AU) (d:Int) (b:List Int):ABd (Int×AU):=
(Ah c (BA ((b.length:Int)+2))).bind λa=>
if decide ((BA (a.1-2))<0)then
J1 a true
else
(gt b (BA (a.1-2))).bind λf=>
J1 a (f==0)
theorem Yb {c:AU} {d:Int} {b:List Int} {r:Int×AU} (h:Ge c d b=some r):BD Tryz.prog 133 [bA 2 (FO c),.agg [.dead,si d,.dead,.dead,.dead,.dead,vS 1 eI b]] (si r.1) [bA 2 (FO r.2),.dead]:=by refine kL mix Tryz.func133 (hn [(0,[6]),(1,[3,7,8,16,17,19])] (E:=[(0,(.Yu [.bxv ⟨3,[],[1]⟩ 7 1,.o (iK 4 0)]))])) ?_;have a1:= @DD;unfold Ge at h;exact walk
end
def Ud (a:AD):ABd AD:=
(T6 a.Cells).bind λb=>
(T8 a.AF).bind λc=>
(T7 a.Ai).bind λd=>
(slices_Clone_string a.AK).bind λe=>
(slices_Clone_string a.AA).bind λf=>
(T9 a.BU).bind λi=>
some (AD.mk b c d e f i)
theorem mK {a r:AD} (h:Ud a=some r):Says Tryz.prog 110 [.agg (Aq a)] (.agg (K5 r)):=by refine kO mix Tryz.func110 (hn [(1,[3,6,9,12,15,18])]) ?_;have a1:= @Zd;have a2:= @Zf;have a3:= @Ze;have a4:= @eP;have a5:= @Zg;unfold Ud at h;exact walk
namespace HB
def J1 (c:Bool):ABd Bool:=
some c
end HB
section
open HB
def HB (b:AD) (a:AB):ABd Bool:=
(Ea b a.Sync).bind λd=>
if d then
if(a.Cells.length:Int)==(b.Cells.length:Int)then
if(a.AK.length:Int)==(b.AK.length:Int)then
J1 ((a.Count.length:Int)==(b.AA.length:Int))
else
J1 false
else
J1 false
else
J1 false
theorem Q6 {b:AD} {a:AB} {r:Bool} (h:HB b a=some r):Says Tryz.prog 51 [.agg (Aq b),.agg (BI a)] (sb r):=by refine kO mix Tryz.func51 (hn [(2,[13,22,31]),(3,[6,10,19,28])]) ?_;have a1:= @LO;unfold HB at h;exact walk
end
namespace CT
def J4 (l:Bool):ABd Bool:=
some l
def J6 (o:Bool):ABd Bool:=
some o
def J9 (b:Int) (c:AD) (q:Bool):ABd Bool:=
if q then
(DP b (c.AK.length:Int)).bind λx=>
some x
else
some false
def J8 (a b:Int) (c:AD) (p:Bool):ABd Bool:=
if p then
(DP b (c.AA.length:Int)).bind λw=>
some w
else
if a==22 then
J9 b c (a==22)
else
J9 b c (a==23)
def J7 (a b:Int) (c:AD) (i:Bool):ABd Bool:=
if i then
(DP b (c.Ai.length:Int)).bind λv=>
some v
else
if a==20 then
J8 a b c (a==20)
else
J8 a b c (a==21)
def J5 (a b:Int) (c:AD) (f:Bool):ABd Bool:=
if f then
(DP b (c.AF.length:Int)).bind λu=>
if u then
(gt c.AF b).bind λz=>
J6 z.RW
else
J6 false
else
if a==16 then
J7 a b c (a==16)
else
if a==17 then
J7 a b c (a==17)
else
if a==18 then
J7 a b c (a==18)
else
J7 a b c (a==19)
def J3 (a b:Int) (c:AD) (e:Bool):ABd Bool:=
if e then
(DP b (c.AF.length:Int)).bind λt=>
if t then
(gt c.AF b).bind λy=>
J4 (!y.RW)
else
J4 false
else
if a==8 then
J5 a b c (a==8)
else
if a==9 then
J5 a b c (a==9)
else
if a==10 then
J5 a b c (a==10)
else
J5 a b c (a==11)
def J2 (a b:Int) (c:AD) (d:Bool):ABd Bool:=
if d then
(DP b (c.Cells.length:Int)).bind λs=>
some s
else
if a==6 then
J3 a b c (a==6)
else
J3 a b c (a==7)
def J1 (a b:Int) (c:AD) (j:Bool):ABd Bool:=
if j then
some (b==(-1))
else
if a==3 then
J2 a b c (a==3)
else
J2 a b c (a==4)
end CT
section
open CT
def CT (c:AD) (a b:Int):ABd Bool:=
if a==1 then
J1 a b c (a==1)
else
if a==2 then
J1 a b c (a==2)
else
if a==5 then
J1 a b c (a==5)
else
if a==12 then
J1 a b c (a==12)
else
if a==13 then
J1 a b c (a==13)
else
if a==14 then
J1 a b c (a==14)
else
J1 a b c (a==15)
theorem S6 {c:AD} {a b:Int} {r:Bool} (h:CT c a b=some r):Says Tryz.prog 191 [.agg (Aq c),si a,si b] (sb r):=by refine kO mix Tryz.func191 (hn [(3,[22,30,35,49,54,67,75,83])] [(3,1),(11,2),(14,3),(17,5),(22,7)]) ?_;have a1:= @JY;have c7:=λn1 n2 n3 n4:Nat=>Bs 7 λτ=>∃(i:Bool),(τ 2=si b/\τ 3=bA 6 (Aq c)/\τ 7=si a/\τ 61=sb i)/\J7 a b c i=some r;have c5:=λn1 n2 n3 n4:Nat=>Bs 5 λτ=>∃(f:Bool),(τ 2=si b/\τ 3=bA 6 (Aq c)/\τ 7=si a/\τ 43=sb f)/\J5 a b c f=some r;have c3:=λn1 n2 n3 n4:Nat=>Bs 3 λτ=>∃(e:Bool),(τ 2=si b/\τ 3=bA 6 (Aq c)/\τ 7=si a/\τ 26=sb e)/\J3 a b c e=some r;have c2:=λn1 n2 n3 n4:Nat=>Bs 2 λτ=>∃(d:Bool),(τ 2=si b/\τ 3=bA 6 (Aq c)/\τ 7=si a/\τ 18=sb d)/\J2 a b c d=some r;have c1:=λn1 n2 n3 n4:Nat=>Bs 1 λτ=>∃(j:Bool),(τ 2=si b/\τ 3=bA 6 (Aq c)/\τ 7=si a/\τ 8=sb j)/\J1 a b c j=some r;unfold CT at h;exact walk
end
namespace IP
def J4 (l:Bool):ABd Bool:=
some l
def J6 (o:Bool):ABd Bool:=
some o
def J9 (b:Int) (c:AD) (q:Bool):ABd Bool:=
if q then
(HH b (c.AK.length:Int)).bind λx=>
some x
else
some false
def J8 (a b:Int) (c:AD) (p:Bool):ABd Bool:=
if p then
(HH b (c.AA.length:Int)).bind λw=>
some w
else
if a==22 then
J9 b c (a==22)
else
J9 b c (a==23)
def J7 (a b:Int) (c:AD) (i:Bool):ABd Bool:=
if i then
(HH b (c.Ai.length:Int)).bind λv=>
some v
else
if a==20 then
J8 a b c (a==20)
else
J8 a b c (a==21)
def J5 (a b:Int) (c:AD) (f:Bool):ABd Bool:=
if f then
(HH b (c.AF.length:Int)).bind λu=>
if u then
(gt c.AF b).bind λz=>
J6 z.RW
else
J6 false
else
if a==16 then
J7 a b c (a==16)
else
if a==17 then
J7 a b c (a==17)
else
if a==18 then
J7 a b c (a==18)
else
J7 a b c (a==19)
def J3 (a b:Int) (c:AD) (e:Bool):ABd Bool:=
if e then
(HH b (c.AF.length:Int)).bind λt=>
if t then
(gt c.AF b).bind λy=>
J4 (!y.RW)
else
J4 false
else
if a==8 then
J5 a b c (a==8)
else
if a==9 then
J5 a b c (a==9)
else
if a==10 then
J5 a b c (a==10)
else
J5 a b c (a==11)
def J2 (a b:Int) (c:AD) (d:Bool):ABd Bool:=
if d then
(HH b (c.Cells.length:Int)).bind λs=>
some s
else
if a==6 then
J3 a b c (a==6)
else
J3 a b c (a==7)
def J1 (a b:Int) (c:AD) (j:Bool):ABd Bool:=
if j then
some (b==(-1))
else
if a==3 then
J2 a b c (a==3)
else
J2 a b c (a==4)
end IP
section
open IP
def IP (c:AD) (a b:Int):ABd Bool:=
if a==1 then
J1 a b c (a==1)
else
if a==2 then
J1 a b c (a==2)
else
if a==5 then
J1 a b c (a==5)
else
if a==12 then
J1 a b c (a==12)
else
if a==13 then
J1 a b c (a==13)
else
if a==14 then
J1 a b c (a==14)
else
J1 a b c (a==15)
theorem YJ {c:AD} {a b:Int} {r:Bool} (h:IP c a b=some r):Says Tryz.prog 121 [.agg (Aq c),si a,si b] (sb r):=by refine kO mix Tryz.func121 (hn [(3,[22,30,35,49,54,67,75,83])] [(3,1),(11,2),(14,3),(17,5),(22,7)]) ?_;have a1:= @SD;have c7:=λn1 n2 n3 n4:Nat=>Bs 7 λτ=>∃(i:Bool),(τ 2=si b/\τ 3=bA 6 (Aq c)/\τ 7=si a/\τ 61=sb i)/\J7 a b c i=some r;have c5:=λn1 n2 n3 n4:Nat=>Bs 5 λτ=>∃(f:Bool),(τ 2=si b/\τ 3=bA 6 (Aq c)/\τ 7=si a/\τ 43=sb f)/\J5 a b c f=some r;have c3:=λn1 n2 n3 n4:Nat=>Bs 3 λτ=>∃(e:Bool),(τ 2=si b/\τ 3=bA 6 (Aq c)/\τ 7=si a/\τ 26=sb e)/\J3 a b c e=some r;have c2:=λn1 n2 n3 n4:Nat=>Bs 2 λτ=>∃(d:Bool),(τ 2=si b/\τ 3=bA 6 (Aq c)/\τ 7=si a/\τ 18=sb d)/\J2 a b c d=some r;have c1:=λn1 n2 n3 n4:Nat=>Bs 1 λτ=>∃(j:Bool),(τ 2=si b/\τ 3=bA 6 (Aq c)/\τ 7=si a/\τ 8=sb j)/\J1 a b c j=some r;unfold IP at h;exact walk
end
namespace Fm
def J1 (d:Int):ABd (Int×Bool):=
some (d,true)
def J2 (e:Int):ABd (Int×Bool):=
some (e,true)
end Fm
section
open Fm
def Fm (c b a:Int):ABd (Int×Bool):=
if c==6 then
some (BA (b+a),true)
else
if c==7 then
some (BA (b-a),true)
else
if c==8 then
some (BA (b*a),true)
else
if c==9 then
if a==0 then
some (0,true)
else
if¬a=0 then
some (BA (b.tdiv a),true)
else none
else
if c==10 then
if a==0 then
some (0,true)
else
if¬a=0 then
some (b.tmod a,true)
else none
else
if c==11 then
(D7 (b==a)).bind λf=>
some (f,true)
else
if c==12 then
(D7 (b != a)).bind λi=>
some (i,true)
else
if c==13 then
(D7 (decide (b<a))).bind λj=>
some (j,true)
else
if c==14 then
(D7 (decide (b≤a))).bind λl=>
some (l,true)
else
if c==15 then
(D7 (decide (b>a))).bind λo=>
some (o,true)
else
if c==16 then
(D7 (decide (b≥a))).bind λp=>
some (p,true)
else
if c==17 then
if b != 0 then
(D7 (a != 0)).bind λq=>
J1 q
else
(D7 false).bind λs=>
J1 s
else
if c==18 then
if b != 0 then
(D7 true).bind λt=>
J2 t
else
(D7 (a != 0)).bind λu=>
J2 u
else
some (0,false)
theorem Vs {c b a:Int} {r:Int×Bool} (h:Fm c b a=some r):Says Tryz.prog 267 [si c,si b,si a] (.BQ [si r.1,sb r.2]):=by refine kO mix Tryz.func267 hn ?_;have a1:= @Pl;unfold Fm at h;exact walk
end
namespace F6
def J1 (e:Bool):ABd Bool:=
some e
def J3 (f:Bool):ABd Bool:=
some f
def J2 (a:AG) (b:AB) (c:Bool):ABd Bool:=
if c then
some true
else
if a.Kind==18 then
(C4 b.Sync a.Obj).bind λd=>
if(d.length:Int)==0 then
some (a.Value==(-1))
else
if decide (a.Value≥0)then
if decide (a.Value<(b.Sync.AA.length:Int))then
(GP d a.Value).bind λi=>
J3 i
else
J3 false
else
J3 false
else
if a.Kind==19 then
(C4 b.Sync a.Obj).bind λj=>
some (a.Value==(j.length:Int))
else
some (a.Value==0)
end F6
section
open F6
def F6 (b:AB) (a:AG):ABd Bool:=
if a.Kind==3 then
(gt b.Cells a.Obj).bind λl=>
some (a.Value==l)
else
if a.Kind==23 then
(gt b.AK a.Obj).bind λo=>
some (a.Value==o)
else
if a.Kind==5 then
if a.Value==0 then
J1 true
else
J1 (a.Value==1)
else
if a.Kind==4 then
J2 a b (a.Kind==4)
else
J2 a b (a.Kind==22)
theorem YN {b:AB} {a:AG} {r:Bool} (h:F6 b a=some r):Says Tryz.prog 105 [.agg (BI b),.agg (B1 a)] (sb r):=by refine kO mix Tryz.func105 (hn [(2,[12,23,45,62,63,78]),(3,[6,10,14,21,25,32,36,47,53,56,60,70,76,80,85]),(5,[50,69])] [(9,2)]) ?_;have a1:= @NX;have a2:= @Mc;have c2:=λn1 n2 n3 n4:Nat=>Bs 2 λτ=>∃(c:Bool),(τ 2=bA 7 (BI b)/\τ 3=bA 7 (B1 a)/\τ 7=si a.Kind/\τ 40=sb c)/\J2 a b c=some r;unfold F6 at h;exact walk
end
namespace Db
def J1 (d:AB):ABd AB:=
some d
def L1 (a:AD) (L1:AB->Int->ABd AB) (b:AB) (c:Int):ABd AB:=
if decide (c<(a.Cells.length:Int))then
(gt a.Cells c).bind λf=>
if Ap (b.Cells.length+1) 8=true then
L1 (AB.mk b.Sync (b.Cells++[f.Init]) b.AK b.Count) (BA (c+1))
else none
else
J1 b
def Aa (a:AD):Nat->AB->Int->ABd AB
|0,_,_=>none
|n+1,b,c=>L1 a (Aa a n) b c
end Db
section
open Db
def Db (a:AD):ABd AB:=
(EH a).bind λe=>
if 0≤0/\0≤(a.Cells.length:Int)/\Ap a.Cells.length 8=true then
if 0≤(a.AK.length:Int)/\(a.AK.length:Int)≤(a.AK.length:Int)/\Ap a.AK.length 8=true then
if 0≤(a.AA.length:Int)/\(a.AA.length:Int)≤(a.AA.length:Int)/\Ap a.AA.length 8=true then
Aa a BW (AB.mk e [] (List.replicate a.AK.length (0:Int)) (List.replicate a.AA.length (0:Int))) 0
else none
else none
else none
theorem V6 {a:AD} {r:AB} (h:Db a=some r):Says Tryz.prog 109 [.agg (Aq a)] (.agg (GG r)):=by refine kO mix Tryz.func109 (hn [(1,[8,12,16,21]),(3,[28,29,34,36]),(5,[30])]) ?_;have a1:= @object_Start_ok;have l1:=λn1 n2 n3 n4:Nat=>A3 λn τ=>∃(b:AB) (c:Int),(τ 2=bA 7 z0/\τ 3=bA 7 (GG b)/\τ 22=vS 5 Gy a.Cells/\τ 23=si (a.Cells.length:Int)/\τ 24=si c)/\Aa a n b c=some r;unfold Db at h;exact walk
end
namespace Ec
def J2 (a:AR) (d:Int) (i:Bool):ABd Int:=
if i then
(gt a.Decls d).bind λp=>
some p.Kind
else
some 9
def J1 (a:AR) (b:ABe) (f:Bool):ABd Int:=
if f then
some 8
else
(Cv a.Decls b).bind λd=>
if decide (d<0)then
(Cs a.AA b).bind λl=>
if decide (l≥0)then
some 7
else
some 0
else
(gt a.Decls d).bind λc=>
if c.Kind==1 then
if c.Bq != 0 then
some 2
else
some 1
else
if c.Kind==2 then
some 1
else
if c.Kind==3 then
J2 a d (c.Kind==3)
else
if c.Kind==4 then
J2 a d (c.Kind==4)
else
if c.Kind==5 then
J2 a d (c.Kind==5)
else
J2 a d (c.Kind==6)
end Ec
section
open Ec
def Ec (a:AR) (e:Int) (b:ABe):ABd Int:=
if decide (e≥0)then
if decide (e<(a.AA.length:Int))then
(gt a.AA e).bind λo=>
(CU o.GA b).bind λj=>
J1 a b (decide (j≥0))
else
J1 a b false
else
J1 a b false
theorem Vn {a:AR} {e:Int} {b:ABe} {r:Int} (h:Ec a e b=some r):Says Tryz.prog 279 [.agg (CS a),si e,BZ b] (si r):=by refine kO mix Tryz.func279 (hn [(3,[12,18,28,34,39,47,61])] [(2,1)]) ?_;have a1:= @JF;have a2:= @Jx;have a3:= @HY;have c1:=λn1 n2 n3 n4:Nat=>Bs 1 λτ=>∃(f:Bool),(τ 2=BZ b/\τ 3=bA 2 (CS a)/\τ 27=sb f)/\J1 a b f=some r;unfold Ec at h;exact walk
end
namespace EJ
def J1 (a:AP) (e:List AW):ABd AP:=
(I4 a.Bn).bind λi=>
(FV a.AA).bind λj=>
some (AP.mk e a.Tx i j)
def L1 (a:AP) (L1:(List AW)->Int->ABd AP) (c:List AW) (b:Int):ABd AP:=
if decide (b<(a.AF.length:Int))then
(gt a.AF b).bind λd=>
(slices_Clone_int d.Ak).bind λf=>
(gt c b).bind λl=>
L1 (c.set b.toNat (AW.mk d.CG f)) (BA (b+1))
else
J1 a c
def Aa (a:AP):Nat->(List AW)->Int->ABd AP
|0,_,_=>none
|n+1,c,b=>L1 a (Aa a n) c b
end EJ
section
open EJ
def EJ (a:AP):ABd AP:=
if 0≤(a.AF.length:Int)/\(a.AF.length:Int)≤(a.AF.length:Int)/\Ap a.AF.length 32=true then
Aa a BW (List.replicate a.AF.length (AW.mk 0 [])) 0
else none
theorem Vf {a r:AP} (h:EJ a=some r):Says Tryz.prog 193 [.agg (F8 a)] (.agg (Ht r)):=by refine kO mix Tryz.func193 (hn [(1,[6,7,10,11,16,17,29,30,31,33,34,35,37,38]),(3,[18,26,28]),(5,[20,22,23])]) ?_;have a1:= @Mg;have a2:= @Ip;have a3:= @Hs;have l1:=λn1 n2 n3 n4:Nat=>A3 λn τ=>∃(c:List AW) (b:Int),(τ 1=bA 4 (F8 a)/\τ 2=bA 4 z5/\τ 3=vO 2 Bo c/\τ 11=vS 2 DS a.AF/\τ 12=si (a.AF.length:Int)/\τ 13=si b)/\Aa a n c b=some r;unfold EJ at h;exact walk
end
end Go.Abs
