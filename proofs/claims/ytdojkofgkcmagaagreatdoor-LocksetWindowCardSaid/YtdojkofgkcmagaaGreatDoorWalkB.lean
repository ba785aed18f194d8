/- Typed programs of Go functions, and that the functions do what these say. -/
import Derived.Test.YtdojkofgkcmagaaGreatDoorBaseA
import Derived.Test.YtdojkofgkcmagaaGreatDoorWalkA
set_option linter.defProp false
set_option linter.unusedSimpArgs false
set_option linter.unusedVariables false
namespace Go.Abs
open Go.Proofs Tryz
set_option maxRecDepth 1000000
set_option maxHeartbeats 4000000
namespace Cz
def J1(q:gx)(p:Int):ABd ((List Dk)×Int):=
some (q,p)
def L1(R100:ef)(b:d5)(a:Int)(L1:(List Dk)->Int->Int->ABd ((List Dk)×Int))(e:gx)(d c:Int):=
if decide (c<(b.length:Int))then
(gt b c).bind λj=>
if Ap (e.length+1) 24=true then
(R100 (e++[(Dk.mk a d j.FK)]) a (BA (d+1)) j.Body).bind λl=>
(R100 l.1 a l.2 j.Else).bind λo=>
L1 o.1 o.2 (BA (c+1))
else none
else
J1 e d
def Aa(R100:ef)(b:d5)(a:Int):Nat->(List Dk)->Int->Int->ABd ((List Dk)×Int)
|0,_,_,_=>none
|n+1,e,d,c=>L1 R100 b a (Aa R100 b a n) e d c
end Cz
variable{j:ef}{d:gx}{c f:Int}{e:d5}{b:(List Dk)×Int}
section
open Cz
def Cz(R100:ef)(i:gx)(a f:Int)(b:d5):=
Aa R100 b a BW i f 0
theorem YG(H100:∀{x0 x1 x2 x3 b},j x0 x1 x2 x3=some b->Says prog 221 [vO 3 Gb x0,si x1,si x2,vS 11 A7 x3] (.BQ [vO 3 Gb b.1,si b.2]))(h:Cz j d c f e=some b):Says prog 221 [vO 3 Gb d,si c,si f,vS 11 A7 e] (.BQ [vO 3 Gb b.1,si b.2]):=by refine kO mix func221 (hn [(0,[17,31,43,54]),(2,[19,28,33,45,55]),(39,[30,40,41]),(51,[42,52,53])]) ?_;have a1:= @H100;have l1:=da λ_ _ _ _ n f=>∃r i a,(f 0=vO 3 Gb r/\f 1=si c/\f 2=si i/\f 3=vS 11 A7 e/\f 10=si a)/\Aa j e c n r i a=some b;unfold Cz at h;exact walk
end
def Ta:Nat->((List Dk)->Int->Int->(List AQ)->ABd ((List Dk)×Int))
|0=>(λ_ _ _ _=>none)
|n+1=>Cz ((Ta n))
def GZ(n:Nat):(List Dk)->Int->Int->(List AQ)->ABd ((List Dk)×Int):=(Ta n)
theorem Vt(n:Nat):(∀{x0 x1 x2 x3 r},(GZ n) x0 x1 x2 x3=some r->Says prog 221 [.own false 3 (x0.map Gb),si x1,si x2,.sl false 11 (x3.map A7)] (.BQ [.own false 3 (r.1.map Gb),si r.2])):=by
  induction n with
  |zero=>exactλh=>ET h
  |succ n ih=>exactλh=>YG ih h
def Vu{n:Nat}:∀{x0 x1 x2 x3 r},(GZ n) x0 x1 x2 x3=some r->Says prog 221 [.own false 3 (x0.map Gb),si x1,si x2,.sl false 11 (x3.map A7)] (.BQ [.own false 3 (r.1.map Gb),si r.2]):=(Vt n)
def f115c:IC:=(Ra 2 [.o (.mv (.c (.own false 1 [])))]
(Ra 0 [.K 3 0]
(Sq (Ra 9 [.C 0,.Z 9,.Y 0]
(Bl 0 (Ra 12 [.O .lss 11 10]
(Sq (cX 12 0)
(Sq (Bk 1 (Ra 13 [.I 1 9 11,.L 13,.M 5 14]
(Ra 15 [.C 3,.C 5,.Z 16,.O .add 15 17,.M 3 18]
(Ra 19 [.C 3,.P .lss 19 0]
(Ci 20 .bad)))))
(Rc 22 [.P .add 11 1,.w 11,.C 22]))))))
(Ra 23 [.C 3,.o (.call 168 [.c (.sc (.slice none 0 0)),.t 23] 2),.b 6 [31,35] (.mv (.t 24))]
(Sq (Ra 25 [.C 0,.Z 25,.Y 0]
(Bl 2 (Ra 28 [.O .lss 27 26]
(Sq (cX 28 2)
(Sq (Bk 3 (Ra 29 [.I 1 25 27,.L 29,.M 8 30]
(Rc 31 [.y 6 (.cp (.t 6)),.C 8,.o (.app 1 8 (.t 31) (.t 32)),.b 6 [31,35] (.mv (.t 33))])))
(Rc 34 [.P .add 27 1,.w 27,.C 34]))))))
(Rb 35 [.y 6 (.cp (.t 6)),.M 2 35]))))))
def f115g:Gi:=⟨[(31,[6]),(35,[6])]⟩
def f115r:List RV:=[.tmp 2]
namespace Of
def J2(j:dc):ABd (List Int):=
some j
def L2(a:du)(L2:dz)(b:dc)(e:Int):=
if decide (e<(a.length:Int))then
(gt a e).bind λi=>
if Ap (b.length+i.length) 8=true then
L2 (b++i) (BA (e+1))
else none
else
J2 b
def DF(a:du):Nat->(List Int)->Int->ABd (List Int)
|0,_,_=>none
|n+1,b,e=>L2 a (DF a n) b e
def J1(a:du)(l:Int):=
(Y0 l).bind λo=>
DF a BW o 0
def L1(a:du)(L1:Int->Int->ABd (List Int))(c d:Int):=
if decide (d<(a.length:Int))then
(gt a d).bind λf=>
if decide ((BA (c+(f.length:Int)))<0)then
none
else
L1 (BA (c+(f.length:Int))) (BA (d+1))
else
J1 a c
def Aa(a:du):Nat->Int->Int->ABd (List Int)
|0,_,_=>none
|n+1,c,d=>L1 a (Aa a n) c d
end Of
section
open Of
def Of(a:du):=
Aa a BW 0 0
theorem zC{a:du}{r:dc}(h:Of a=some r):Says prog 115 [vS 1 Z4 a] (vO 1 eI r):=by refine wO mix func115 (I:=⟨f115c,f115g,f115r⟩) ?_;simp only[f115c,f115g,f115r];have a1:= @lU;have l2:=da λ_ _ _ _ n c=>∃b e,(c 6=vO 1 eI b/\c 25=vS 1 Z4 a/\c 26=si (a.length:Int)/\c 27=si e)/\DF a n b e=some r;have l1:=da λ_ _ _ _ n b=>∃c d,(b 0=vS 1 Z4 a/\b 3=si c/\b 9=vS 1 Z4 a/\b 10=si (a.length:Int)/\b 11=si d)/\Aa a n c d=some r;unfold Of at h;exact walk
end
namespace Ab
def J7:=
some true
def J6(L1:df)(c:Int):=
L1 (BA (c+1))
def J5(L2:d7)(i l:Int)(s:Bool):=
if s then
some false
else
L2 l (BA (i+1))
def L2(L1:df)(a:AG)(f:dc)(b:AB)(c:Int)(L2:d7)(j i:Int):=
if decide (i<(f.length:Int))then
(gt f i).bind λl=>
if decide (l<=j)then
J5 L2 i l true
else
(gt b.Count a.Thread).bind λv=>
J5 L2 i l (decide (l>=v))
else
J6 L1 c
def DF(L1:df)(a:AG)(f:dc)(b:AB)(c:Int):Nat->Int->Int->ABd Bool
|0,_,_=>none
|n+1,j,i=>L2 L1 a f b c (DF L1 a f b c n) j i
def J4(L1:df)(a:AG)(f:dc)(b:AB)(c:Int)(q:Bool):=
if q then
some false
else
DF L1 a f b c BW 0 0
def J3(L1:df)(d e:Bool)(a:AG)(b:AB)(c:Int)(f:dc):=
if decide ((f.length:Int)>0)then
if c==0 then
J4 L1 a f b c (!d)
else
if c==1 then
J4 L1 a f b c (!e)
else
none
else
J4 L1 a f b c false
def L1(d e:Bool)(a:AG)(b:AB)(L1:df)(c:Int):=
if decide (c<2)then
if c==0 then
J3 L1 d e a b c a.Dw
else
if c==1 then
J3 L1 d e a b c a.DM
else
none
else
J7
def Aa(d e:Bool)(a:AG)(b:AB):Nat->Int->ABd Bool
|0,_=>none
|n+1,c=>L1 d e a b (Aa d e a b n) c
def J2(a:AG)(b:AB)(d e:Bool):=
Aa d e a b BW 0
def J1(a:AG)(b:AB)(o:Bool):=
if a.Kind==5 then
if a.Kind==4 then
J2 a b true true
else
J2 a b true (a.Kind==22)
else
if a.Kind==4 then
J2 a b o true
else
J2 a b o (a.Kind==22)
end Ab
section
open Ab
def Ab(p:AD)(b:AB)(a:AG):=
if a.Kind==3 then
(gt p.Cells a.Obj).bind λt=>
J1 a b (t.Bq != 0)
else
if a.Kind==4 then
(gt p.Cells a.Obj).bind λu=>
J1 a b (u.Bq != 0)
else
J1 a b false
theorem My{p:AD}{b:AB}{a:AG}{r:Bool}(h:Ab p b a=some r):Says prog 148 [.agg (Aq p),.agg (BI b),.agg (B1 a)] (sb r):=by refine kO mix func148 (hn [(3,[23]),(4,[76]),(5,[14,18,25,32,38,42,47,49,78]),(8,[61])] [(1,1),(2,2),(8,3),(10,4)]) ?_;have l1:=da λ_ _ _ _ n f=>∃d e c,(f 4=bA 7 (BI b)/\f 5=bA 7 (B1 a)/\f 8=bA 2 [sb d,sb e]/\f 51= .agg [vS 1 eI a.Dw,vS 1 eI a.DM]/\f 52=si c)/\Aa d e a b n c=some r;have l2:=da λg _ _ _ n h=>∃(d e:Bool)(f:dc)(c j i:Int),(h 4=bA 7 (BI b)/\h 5=bA 7 (B1 a)/\h 8=bA 2 [sb d,sb e]/\h 11=si j/\h 51= .agg [vS 1 eI a.Dw,vS 1 eI a.DM]/\h 52=si c/\h 65=vS 1 eI f/\h 66=si (f.length:Int)/\h 67=si i)/\DF (Aa d e a b g) a f b c n j i=some r;have c4:=db 4 λg _ _ _ h=>∃d e f c q,(h 4=bA 7 (BI b)/\h 5=bA 7 (B1 a)/\h 8=bA 2 [sb d,sb e]/\h 10=vS 1 eI f/\h 51= .agg [vS 1 eI a.Dw,vS 1 eI a.DM]/\h 52=si c/\h 64=sb q)/\J4 (Aa d e a b g) a f b c q=some r;have c3:=db 3 λg _ _ _ h=>∃d e c f,(h 4=bA 7 (BI b)/\h 5=bA 7 (B1 a)/\h 8=bA 2 [sb d,sb e]/\h 9=si c/\h 10=vS 1 eI f/\h 51= .agg [vS 1 eI a.Dw,vS 1 eI a.DM]/\h 52=si c)/\J3 (Aa d e a b g) d e a b c f=some r;have c2:=db 2 λ_ _ _ _ c=>∃d e,(c 4=bA 7 (BI b)/\c 5=bA 7 (B1 a)/\c 8=bA 2 [sb d,sb e])/\J2 a b d e=some r;have c1:=db 1 λ_ _ _ _ c=>∃o,(c 4=bA 7 (BI b)/\c 5=bA 7 (B1 a)/\c 7=sb o)/\J1 a b o=some r;unfold Ab at h;exact walk
end
namespace A4
def Oz(a:AG):ABd Bool:=
some (a.Value==0)
def J1(q:Bool):ABd Bool:=
some q
def J6(s:Bool):ABd Bool:=
some s
def J5(a:AG)(v:Int)(z:Bool):=
if z then
J6 true
else
if v==0 then
J6 (a.Value==(-1))
else
J6 false
def J4(L1:fc)(c u:Int)(y:Bool):=
L1 u y (BA (c+1))
def J3(L1:fc)(a:AG)(c e:Int)(i t:Bool):=
if t then
if i then
J4 L1 c (BA (e+1)) true
else
J4 L1 c (BA (e+1)) (a.Value==c)
else
J4 L1 c e i
def L1(a:AG)(b:AB)(L1:fc)(e:Int)(i:Bool)(c:Int):=
if decide (c<(b.Sync.AA.length:Int))then
(gt b.Sync.AA c).bind λl=>
if l.Status==3 then
J3 L1 a c e i (l.Dg==a.Obj)
else
J3 L1 a c e i false
else
J5 a e i
def Aa(a:AG)(b:AB):Nat->Int->Bool->Int->ABd Bool
|0,_,_,_=>none
|n+1,e,i,c=>L1 a b (Aa a b n) e i c
def J9(a:AG)(x:Int):ABd Bool:=
some (a.Value==x)
def J8(L2:d7)(d w:Int):=
L2 w (BA (d+1))
def J7(L2:d7)(d f:Int)(p:Bool):=
if p then
J8 L2 d (BA (f+1))
else
J8 L2 d f
def L2(a:AG)(b:AB)(L2:d7)(f d:Int):=
if decide (d<(b.Sync.AA.length:Int))then
(gt b.Sync.AA d).bind λo=>
if o.Status==3 then
J7 L2 d f (o.Dg==a.Obj)
else
J7 L2 d f false
else
J9 a f
def DF(a:AG)(b:AB):Nat->Int->Int->ABd Bool
|0,_,_=>none
|n+1,f,d=>L2 a b (DF a b n) f d
def J2(a:AG)(b:AB)(j:Bool):=
if j then
some true
else
if a.Kind==18 then
Aa a b BW 0 false 0
else
if a.Kind==19 then
DF a b BW 0 0
else
Oz a
end A4
section
open A4
def A4(b:AB)(a:AG):=
if a.Kind==3 then
(gt b.Cells a.Obj).bind λaa=>
some (a.Value==aa)
else
if a.Kind==23 then
(gt b.AK a.Obj).bind λab=>
some (a.Value==ab)
else
if a.Kind==5 then
if a.Value==0 then
J1 true
else
J1 (a.Value==1)
else
if a.Kind==4 then
J2 a b (a.Kind==4)
else
J2 a b (a.Kind==22)
theorem P1{b:AB}{a:AG}{r:Bool}(h:A4 b a=some r):Says prog 149 [.agg (BI b),.agg (B1 a)] (sb r):=by refine kO mix func149 (hn [(2,[18,29,51,52,92,93]),(3,[12,16,20,27,31,38,42,66,74,85,106,113,117]),(8,[60,64]),(11,[100,104])] [(9,2)]) ?_;have l1:=da λ_ _ _ _ n d=>∃e i c,(d 3=bA 7 (B1 a)/\d 5=si e/\d 6=sb i/\d 53=vS 3 An b.Sync.AA/\d 54=si (b.Sync.AA.length:Int)/\d 55=si c)/\Aa a b n e i c=some r;have l2:=da λ_ _ _ _ n c=>∃f d,(c 3=bA 7 (B1 a)/\c 9=si f/\c 94=vS 3 An b.Sync.AA/\c 95=si (b.Sync.AA.length:Int)/\c 96=si d)/\DF a b n f d=some r;have c2:=db 2 λ_ _ _ _ c=>∃j,(c 2=bA 7 (BI b)/\c 3=bA 7 (B1 a)/\c 13=si a.Kind/\c 46=sb j)/\J2 a b j=some r;unfold A4 at h;exact walk
end
namespace DA
def J1(R100:gi)(c:Int)(a:AO)(b:d4)(d:Bool):ABd (BE×AO):=
if d then
(Ah b.2 4).bind λe=>
(Jo e.1).bind λp=>
some (p,(AO.mk e.2 a.Bb a.left a.HR a.tx a.atomic a.loop a.held))
else
if decide (b.1<7)then
(Ah b.2 7).bind λf=>
(gt [(⟨#[97]⟩:ABe),(⟨#[98]⟩:ABe),(⟨#[120]⟩:ABe),(⟨#[121]⟩:ABe),(⟨#[118]⟩:ABe),(⟨#[120]⟩:ABe),(⟨#[121]⟩:ABe)] f.1).bind λt=>
(Ii t).bind λq=>
some (q,(AO.mk f.2 a.Bb a.left a.HR a.tx a.atomic a.loop a.held))
else
if b.1==7 then
(R100 (AO.mk b.2 a.Bb a.left a.HR a.tx a.atomic a.loop a.held) 0).bind λi=>
some ((BE.mk 3 0 (⟨#[113]⟩:ABe) [i.1]),i.2)
else
(Ah b.2 6).bind λj=>
(gt [6,7,8,11,13,17] j.1).bind λu=>
(R100 (AO.mk j.2 a.Bb a.left a.HR a.tx a.atomic a.loop a.held) (BA (c-1))).bind λl=>
(R100 l.2 (BA (c-1))).bind λo=>
(IJ u l.1 o.1).bind λs=>
some (s,o.2)
end DA
variable{i:gi}{g:AO}{a:BE×AO}
section
open DA
def DA(R100:gi)(a:AO)(c:Int):=
(Ah a.t 10).bind λb=>
if decide (b.1<2)then
J1 R100 c a b true
else
if c==0 then
J1 R100 c a b (decide (b.1>=7))
else
J1 R100 c a b false
theorem Re(H100:∀{x0 x1 a},i x0 x1=some a->BD prog 254 [bA 8 (CX x0),si x1] (.agg [si a.1.Op,si a.1.N,BZ a.1.Name,vS 4 BH a.1.L]) [bA 8 (CX a.2),.dead])(h:DA i g c=some a):BD prog 254 [bA 8 (CX g),si c] (.agg [si a.1.Op,si a.1.N,BZ a.1.Name,vS 4 BH a.1.L]) [bA 8 (CX a.2),.dead]:=by refine kP mix func254 (hn [(0,[9,10,11,12,25,26,27,28,35,36,37,38,48,54,55,56,57]),(5,[34,39,42]),(7,[53,58,61])] [(4,1)] (E:=[(10,(.bY [(0,10,13,63),(0,14,17,67)] [i1 53 7 (.cp (.t 7)),i1 54 0 (.cp (.t 0)),i1 55 0 (.Jp (.t 54)),LU 56 0 0 55,Zk 57 0 56,i1 58 7 (.cp (.t 7)),iZ 59 58,i0 60 (.Uv 132 [] (.t 57) none [.t 59]),xG 61 7 1 53 60,iL 62 61,i0 63 .fl,iC 64 1,iP 65 .sub 64 1,i0 66 (.Uv 254 [] (.t 0) none [.t 65]),i0 67 .fl,iC 68 1,iP 69 .sub 68 1,i0 70 (.Uv 254 [] (.t 0) none [.t 69]),i0 71 (.call 255 [.t 62,.t 66,.t 70] 1),iS 4 4 71]))])) ?_;have a1:= @DD;have a2:= @Pc;have a3:= @Sw;have a4:= @H100;have a5:= @PZ;have c1:=db 1 λ_ _ _ _ e=>∃(b:d4)(d:Bool),(e 0=bA 8 [bA 2 (FO b.2),si g.Bb,si g.left,sb g.HR,sb g.tx,sb g.atomic,sb g.loop,vO 1 eS g.held]/\e 1=si c/\e 4=bA 4 z20/\e 5= .own false 1 ([[BZ ⟨#[97]⟩],[BZ ⟨#[98]⟩],[BZ ⟨#[120]⟩],[BZ ⟨#[121]⟩],[BZ ⟨#[118]⟩],[BZ ⟨#[120]⟩],[BZ ⟨#[121]⟩]])/\e 6=si b.1/\e 14=sb d)/\J1 i c g b d=some a;unfold DA at h;exact walk
end
def NN:Nat->(AO->Int->ABd (BE×AO))
|0=>(λ_ _=>none)
|n+1=>DA ((NN n))
def CO(n:Nat):AO->Int->ABd (BE×AO):=(NN n)
theorem QY(n:Nat):(∀{x0 x1 r},(CO n) x0 x1=some r->BD prog 254 [bA 8 (CX x0),si x1] (.agg [si r.1.Op,si r.1.N,BZ r.1.Name,.sl false 4 (r.1.L.map BH)]) [bA 8 (CX r.2),.dead]):=by
  induction n with
  |zero=>exactλh=>ET h
  |succ n ih=>exactλh=>Re ih h
def QZ{n:Nat}:∀{x0 x1 r},(CO n) x0 x1=some r->BD prog 254 [bA 8 (CX x0),si x1] (.agg [si r.1.Op,si r.1.N,BZ r.1.Name,.sl false 4 (r.1.L.map BH)]) [bA 8 (CX r.2),.dead]:=(QY n)
namespace Eo
def J1(e:Bool):ABd Bool:=
some e
end Eo
section
open Eo
def Eo(b:AD)(a c:Int):=
(Da a (b.Cells.length:Int)).bind λf=>
if f then
(gt b.Cells a).bind λd=>
if d.Index==0 then
if d.Bq != 0 then
J1 (d.Bq==c)
else
J1 false
else
J1 false
else
J1 false
theorem YD{b:AD}{a c:Int}{r:Bool}(h:Eo b a c=some r):Says prog 237 [.agg (Aq b),si a,si c] (sb r):=by refine kO mix func237 (hn [(3,[8,13,22,31])]) ?_;have a1:= @Pm;unfold Eo at h;exact walk
end
namespace Fu
def J1(d:Bool):ABd Bool:=
some d
end Fu
section
open Fu
def Fu(b:AD)(a:Int)(c:Bool):=
(Ey a (b.AF.length:Int)).bind λe=>
if e then
(gt b.AF a).bind λf=>
J1 (f.RW==c)
else
J1 false
theorem SU{b:AD}{a:Int}{c r:Bool}(h:Fu b a c=some r):Says prog 92 [.agg (Aq b),si a,sb c] (sb r):=by refine kO mix func92 (hn [(3,[8,13])]) ?_;have a1:= @SV;unfold Fu at h;exact walk
end
namespace FH
def J1(c:Bool):ABd Bool:=
some c
end FH
section
open FH
def FH(b:AL)(a:Int):=
(Kz a (b.Init.Count.length:Int)).bind λd=>
if d then
(gt b.Init.Count a).bind λe=>
J1 (decide (e>=1))
else
J1 false
theorem YQ{b:AL}{a:Int}{r:Bool}(h:FH b a=some r):Says prog 102 [.agg (B0 b),si a] (sb r):=by refine kO mix func102 (hn [(2,[6,7,12,13])]) ?_;have a1:= @U9;unfold FH at h;exact walk
end
namespace G6
def J1(b:Bool):ABd Bool:=
some b
end G6
section
open G6
def G6(a:Int):=
(Fl a).bind λc=>
if c then
J1 true
else
(HW a).bind λd=>
if d then
J1 true
else
J1 (a==95)
theorem X4{a:Int}{r:Bool}(h:G6 a=some r):Says prog 155 [.sc (.int .u8 a)] (sb r):=by refine kO mix func155 hn ?_;have a1:= @OV;have a2:= @X2;unfold G6 at h;exact walk
end
def Dq(a:AO)(b:ABe):ABd (Bool×AO):=
(CU a.held b).bind λc=>
some (decide (c>=0),a)
theorem Qa{a:AO}{b:ABe}{r:Bool×AO}(h:Dq a b=some r):BD prog 257 [bA 8 (CX a),BZ b] (sb r.1) [bA 8 (CX r.2),.dead]:=by refine kL mix func257 (hn [(0,[5,6,7,8])]) ?_;have a1:= @HY;unfold Dq at h;exact walk
def OR(a:dc):ABd (List Int):=
(slices_Clone_int a).bind λb=>
(LP b).bind λc=>
(slices_Compact c).bind λd=>
some d
theorem Xp{a r:dc}(h:OR a=some r):Says prog 116 [vS 1 eI a] (vO 1 eI r):=by refine kO mix func116 (hn [(3,[6,8])]) ?_;have a1:= @Hs;have a2:= @Tr;have a3:= @Oy;unfold OR at h;exact walk
def Kx(b a:Int):ABd (Int×Bool):=
if b==4 then
some (BA (0-a),true)
else
if b==5 then
(D7 (a==0)).bind λc=>
some (c,true)
else
some (0,false)
theorem YB{b a:Int}{r:Int×Bool}(h:Kx b a=some r):Says prog 265 [si b,si a] (.BQ [si r.1,sb r.2]):=by refine kO mix func265 hn ?_;have a1:= @Pl;unfold Kx at h;exact walk
def Gn(a:dc)(b:Int):ABd Bool:=
(Fq a b).bind λc=>
some (decide (c>=0))
theorem OD{a:dc}{b:Int}{r:Bool}(h:Gn a b=some r):Says prog 167 [vS 1 eI a,si b] (sb r):=by refine kO mix func167 hn ?_;have a1:= @V0;unfold Gn at h;exact walk
namespace B7
def J5:=
some true
def J4(L1:df)(b:Int)(l:Bool):=
if l then
some false
else
L1 (BA (b+1))
def J3(L1:df)(b:Int)(c:Bool)(a:AL)(e:Bool):=
if e then
some false
else
if c then
(gt a.Init.Sync.AA b).bind λq=>
(Kz q.Dg (a.World.Ai.length:Int)).bind λo=>
if !o then
J4 L1 b true
else
J4 L1 b false
else
(gt a.Init.Sync.AA b).bind λs=>
J4 L1 b (s.Dg != 0)
def J2(L1:df)(d:Bool)(b:Int)(a:AL)(c:Bool):=
(gt a.Init.Sync.AA b).bind λf=>
if decide (f.Status<0)then
J3 L1 b c a true
else
if decide (f.Status>5)then
J3 L1 b c a true
else
(gt a.Init.Count b).bind λp=>
if !(d==(p==0))then
J3 L1 b c a true
else
if b==0 then
J3 L1 b c a (f.Status==0)
else
J3 L1 b c a false
def J1(L1:df)(b:Int)(a:AL)(d:Bool):=
(gt a.Init.Sync.AA b).bind λj=>
if j.Status==3 then
J2 L1 d b a true
else
J2 L1 d b a (j.Status==4)
def L1(a:AL)(L1:df)(b:Int):=
if decide (b<(a.Init.Sync.AA.length:Int))then
(gt a.Init.Sync.AA b).bind λi=>
if i.Status==0 then
J1 L1 b a true
else
J1 L1 b a (i.Status==1)
else
J5
def Aa(a:AL):Nat->Int->ABd Bool
|0,_=>none
|n+1,b=>L1 a (Aa a n) b
end B7
section
open B7
def B7(a:AL):=
Aa a BW 0
theorem Td{a:AL}{r:Bool}(h:B7 a=some r):Says prog 53 [.agg (B0 a)] (sb r):=by refine kO mix func53 (hn [(1,[7,8,9,61,62,89,90])] [(7,1),(8,2),(10,3)]) ?_;have a1:= @U9;have l1:=da λ_ _ _ _ n c=>∃b,(c 1=bA 15 (B0 a)/\c 3=vS 3 An a.Init.Sync.AA/\c 4=si b)/\Aa a n b=some r;have c3:=db 3 λd _ _ _ f=>∃b c e,(f 1=bA 15 (B0 a)/\f 3=vS 3 An a.Init.Sync.AA/\f 4=si b/\f 6=sb c/\f 81=sb e)/\J3 (Aa a d) b c a e=some r;have c2:=db 2 λe _ _ _ f=>∃d b c,(f 1=bA 15 (B0 a)/\f 3=vS 3 An a.Init.Sync.AA/\f 4=si b/\f 5=sb d/\f 6=sb c)/\J2 (Aa a e) d b a c=some r;have c1:=db 1 λc _ _ _ e=>∃b d,(e 1=bA 15 (B0 a)/\e 3=vS 3 An a.Init.Sync.AA/\e 4=si b/\e 5=sb d)/\J1 (Aa a c) b a d=some r;unfold B7 at h;exact walk
end
namespace Cw
def J5(b:AU)(c:Int)(p:Bool):ABd (Int×AU):=
if p then
(Ah b 3).bind λo=>
some ((BA ((BA (c+1))+o.1)).tmod 4,o.2)
else
some ((-1),b)
def J4(a:Int)(b:AU)(c:Int)(f:Bool):=
if f then
some (0,b)
else
if a==20 then
J5 b c (a==20)
else
J5 b c (a==21)
def J3(a:Int)(b:AU)(c:Int)(e:Bool):=
if e then
some (2,b)
else
if a==16 then
J4 a b c (a==16)
else
if a==17 then
J4 a b c (a==17)
else
if a==18 then
J4 a b c (a==18)
else
if a==19 then
J4 a b c (a==19)
else
if a==22 then
J4 a b c (a==22)
else
J4 a b c (a==23)
def J2(a:Int)(b:AU)(c:Int)(d:Bool):=
if d then
(Ah b 2).bind λl=>
some (l.1,l.2)
else
if a==8 then
J3 a b c (a==8)
else
if a==9 then
J3 a b c (a==9)
else
if a==10 then
J3 a b c (a==10)
else
J3 a b c (a==11)
def J1(a:Int)(b:AU)(c:Int)(i:Bool):=
if i then
(Ah b 8).bind λj=>
(gt [0,0,0,1,1,2,3,4] j.1).bind λq=>
some (q,j.2)
else
if a==6 then
J2 a b c (a==6)
else
J2 a b c (a==7)
end Cw
section
open Cw
def Cw(b:AU)(a c:Int):=
if a==3 then
J1 a b c (a==3)
else
J1 a b c (a==4)
theorem Vz{b:AU}{a c:Int}{r:d4}(h:Cw b a c=some r):BD prog 176 [bA 2 (FO b),si a,si c] (si r.1) [bA 2 (FO r.2),.dead,.dead]:=by refine kL mix func176 (hn [(0,[12,19,38]),(11,[14])] [(3,1),(6,2),(9,3),(14,4)]) ?_;have a1:= @DD;have c4:=db 4 λ_ _ _ _ d=>∃f,(d 0=bA 2 (FO b)/\d 2=si c/\d 7=si a/\d 26=sb f)/\J4 a b c f=some r;have c3:=db 3 λ_ _ _ _ d=>∃e,(d 0=bA 2 (FO b)/\d 2=si c/\d 7=si a/\d 21=sb e)/\J3 a b c e=some r;have c2:=db 2 λ_ _ _ _ e=>∃d,(e 0=bA 2 (FO b)/\e 2=si c/\e 7=si a/\e 16=sb d)/\J2 a b c d=some r;have c1:=db 1 λ_ _ _ _ d=>∃i,(d 0=bA 2 (FO b)/\d 2=si c/\d 7=si a/\d 8=sb i)/\J1 a b c i=some r;unfold Cw at h;exact walk
end
namespace D8
def J2(j:dc):ABd (List Int):=
some j
def L2(a:dc)(L2:dz)(f:dc)(d:Int):=
if decide (d<(a.length:Int))then
(gt a d).bind λq=>
(EW f q).bind λo=>
L2 o (BA (d+1))
else
J2 f
def DF(a:dc):Nat->(List Int)->Int->ABd (List Int)
|0,_,_=>none
|n+1,f,d=>L2 a (DF a n) f d
def J1(a i:dc):=
DF a BW i 0
def L1(b a:dc)(L1:dz)(e:dc)(c:Int):=
if decide (c<(b.length:Int))then
(gt b c).bind λp=>
(EW e p).bind λl=>
L1 l (BA (c+1))
else
J1 a e
def Aa(b a:dc):Nat->(List Int)->Int->ABd (List Int)
|0,_,_=>none
|n+1,e,c=>L1 b a (Aa b a n) e c
end D8
section
open D8
def D8(b a:dc):=
Aa b a BW [] 0
theorem Po{b a r:dc}(h:D8 b a=some r):Says prog 156 [vS 1 eI b,vS 1 eI a] (vO 1 eI r):=by refine kO mix func156 (hn [(5,[14,26,32])]) ?_;have a1:= @eC;have l2:=da λ_ _ _ _ n b=>∃f d,(b 1=vS 1 eI a/\b 5=vO 1 eI f/\b 7=si d)/\DF a n f d=some r;have l1:=da λ_ _ _ _ n d=>∃e c,(d 0=vS 1 eI b/\d 1=vS 1 eI a/\d 5=vO 1 eI e/\d 6=si c)/\Aa b a n e c=some r;unfold D8 at h;exact walk
end
namespace Gf
def J1(a:Int)(c:AB)(b:AU)(e:Bool):ABd (Int×AU):=
if e then
(Ah b 3).bind λi=>
some (i.1,i.2)
else
if a==5 then
(Ah b 2).bind λj=>
some (j.1,j.2)
else
if a==18 then
(EB c).bind λf=>
if decide ((f.length:Int)>0)then
(Ah b (f.length:Int)).bind λl=>
(gt f l.1).bind λs=>
some (s,l.2)
else
some ((-1),b)
else
if a==19 then
(EB c).bind λo=>
some ((o.length:Int),b)
else
some (0,b)
end Gf
section
open Gf
def Gf(b:AU)(c:AB)(a d:Int):=
if a==3 then
(gt c.Cells d).bind λp=>
some (p,b)
else
if a==23 then
(gt c.AK 0).bind λq=>
some (q,b)
else
if a==4 then
J1 a c b (a==4)
else
J1 a c b (a==22)
theorem Ye{b:AU}{c:AB}{a d:Int}{r:d4}(h:Gf b c a d=some r):BD prog 177 [bA 2 (FO b),.agg (BI c),si a,si d] (si r.1) [bA 2 (FO r.2),.dead,.dead,.dead]:=by refine kL mix func177 (hn [(0,[27,31,41]),(5,[13,20]),(9,[37,40,42,45])] [(7,1)]) ?_;have a1:= @DD;have a2:= @Ua;have c1:=db 1 λ_ _ _ _ d=>∃e,(d 0=bA 2 (FO b)/\d 5=bA 7 (BI c)/\d 10=si a/\d 24=sb e)/\J1 a c b e=some r;unfold Gf at h;exact walk
end
namespace E8
def J2(a:Ad)(c:Bool):ABd Int:=
if c then
some (-1)
else
some a.A
def J1(a:Ad)(b:AM)(d:Bool):=
if d then
some a.B
else
if a.Op==7 then
(gt b.Ck a.C).bind λi=>
(Gc i a.N).bind λe=>
some (BA (a.B+e))
else
if a.Op==9 then
(gt b.Ck a.C).bind λj=>
(Gc j a.N).bind λf=>
some (BA (a.A+f))
else
if a.Op==10 then
J2 a (a.Op==10)
else
if a.Op==17 then
J2 a (a.Op==17)
else
if a.Op==18 then
J2 a (a.Op==18)
else
if a.Op==19 then
J2 a (a.Op==19)
else
if a.Op==20 then
J2 a (a.Op==20)
else
J2 a (a.Op==28)
end E8
section
open E8
def E8(a:Ad)(b:AM):=
if a.Op==6 then
J1 a b (a.Op==6)
else
J1 a b (a.Op==27)
theorem Vw{a:Ad}{b:AM}{r:Int}(h:E8 a b=some r):Says prog 241 [.agg (EF a),.agg (E0 b)] (si r):=by refine kO mix func241 (hn [(2,[5,10,14,18,22,28,32,36,47]),(3,[16,30])] [(3,1),(10,2)]) ?_;have a1:= @YA;have c2:=db 2 λ_ _ _ _ b=>∃c,(b 2=bA 6 (EF a)/\b 40=sb c)/\J2 a c=some r;have c1:=db 1 λ_ _ _ _ c=>∃d,(c 2=bA 6 (EF a)/\c 3=bA 4 (E0 b)/\c 6=si a.Op/\c 7=sb d)/\J1 a b d=some r;unfold E8 at h;exact walk
end
namespace EU
def J1(d:AB):ABd AB:=
some d
def L1(a:AD)(L1:AB->Int->ABd AB)(b:AB)(c:Int):=
if decide (c<(a.Cells.length:Int))then
(gt a.Cells c).bind λf=>
if Ap (b.Cells.length+1) 8=true then
L1 (AB.mk b.Sync (b.Cells++[f.Init]) b.AK b.Count) (BA (c+1))
else none
else
J1 b
def Aa(a:AD):Nat->AB->Int->ABd AB
|0,_,_=>none
|n+1,b,c=>L1 a (Aa a n) b c
end EU
section
open EU
def EU(a:AD):=
(CW a).bind λe=>
if 0<=(a.AK.length:Int)/\(a.AK.length:Int)<=(a.AK.length:Int)/\Ap a.AK.length 8=true then
if 0<=(a.AA.length:Int)/\(a.AA.length:Int)<=(a.AA.length:Int)/\Ap a.AA.length 8=true then
Aa a BW (AB.mk e [] (List.replicate a.AK.length (0:Int)) (List.replicate a.AA.length (0:Int))) 0
else none
else none
theorem Jz{a:AD}{r:AB}(h:EU a=some r):Says prog 84 [.agg (Aq a)] (.agg (GG r)):=by refine kO mix func84 (hn [(1,[7,11,17,25]),(3,[23,24,33,34])]) ?_;have a1:= @Pq;have l1:=da λ_ _ _ _ n d=>∃b c,(d 1=bA 6 (Aq a)/\d 2=bA 7 z0/\d 3=bA 7 (GG b)/\d 4=si c)/\Aa a n b c=some r;unfold EU at h;exact walk
end
namespace EM
def J2:=
some true
def L1(a:AD)(L1:df)(b:Int):=
if decide (b<(a.Ai.length:Int))then
(gt a.Ai b).bind λf=>
(DP f.Mutex (a.AF.length:Int)).bind λe=>
if !e then
some false
else
L1 (BA (b+1))
else
J2
def Aa(a:AD):Nat->Int->ABd Bool
|0,_=>none
|n+1,b=>L1 a (Aa a n) b
def J1(a:AD)(d:Bool):=
if d then
some false
else
Aa a BW 0
end EM
section
open EM
def EM(a:AD)(c:AP):=
if(c.AF.length:Int) != (a.AF.length:Int)then
J1 a true
else
if(c.Bn.length:Int) != (a.AK.length:Int)then
J1 a true
else
J1 a ((c.AA.length:Int) != (a.AA.length:Int))
theorem Ku{a:AD}{c:AP}{r:Bool}(h:EM a c=some r):Says prog 94 [.agg (Aq a),.agg (F8 c)] (sb r):=by refine kO mix func94 (hn [(2,[10,18,27,32,41]),(3,[7,15,24]),(6,[39])] [(2,1)]) ?_;have a1:= @JY;have l1:=da λ_ _ _ _ n c=>∃b,(c 2=bA 6 (Aq a)/\c 33=vS 2 Hx a.Ai/\c 34=si (a.Ai.length:Int)/\c 35=si b)/\Aa a n b=some r;have c1:=db 1 λ_ _ _ _ b=>∃d,(b 2=bA 6 (Aq a)/\b 31=sb d)/\J1 a d=some r;unfold EM at h;exact walk
end
namespace DB
def J2(p:ep)(l:Int):ABd (Int×(List AH)):=
some (l,p)
def J1(L1:gh)(a:Int)(o:ep)(j:Int):=
L1 o j (BA (a+1))
def L1(c:Int)(b:ep)(L1:gh)(d:ep)(e a:Int):=
if decide (a<(b.length:Int))then
(gt d a).bind λi=>
(Fk i c).bind λq=>
if q then
J1 L1 a (d.set a.toNat (AH.mk 4 i.Dg i.Atomic)) (BA (e+1))
else
J1 L1 a d e
else
J2 d e
def Aa(c:Int)(b:ep):Nat->(List AH)->Int->Int->ABd (Int×(List AH))
|0,_,_,_=>none
|n+1,d,e,a=>L1 c b (Aa c b n) d e a
end DB
section
open DB
def DB(f:Int)(b:ep)(c:Int):=
Aa c b BW b 0 0
theorem Qc{f:Int}{b:ep}{c:Int}{r:Int×(List AH)}(h:DB f b c=some r):BD prog 197 [.agg [.dead,si f,.dead,vO 3 An b],si c] (si r.1) [.agg [.dead,si f,.dead,vO 3 An r.2],.dead]:=by refine kL mix func197 (hn [(0,[2,8,9,14,19,20,22,23])] (E:=[(0,(.Yu [.bxv ⟨2,[],[0]⟩ 4 0,.o (iK 4 0)]))])) ?_;have a1:= @OS;have l1:=da λ_ _ _ _ n g=>∃d e a us1,(g 0= .agg [.dead,si f,.dead,vO 3 An d]/\g 1=si c/\g 2= .vb 0 0 us1/\g 5=si e/\g 9= .al 0 [(0,3,0)]/\g 10=si (b.length:Int)/\g 11=si a)/\Aa c b n d e a=some r;unfold DB at h;exact walk
end
namespace Ek
def J3(s:AU)(o:dc):ABd ((List Int)×AU):=
some (o,s)
def J2(L1:fk)(b:Int)(q:AU)(l:dc):=
L1 q l (BA (b+1))
def J1(L1:fk)(c:dc)(b f:Int)(i:AU)(p:Bool):=
if p then
if Ap (c.length+1) 8=true then
J2 L1 b i (c++[f])
else none
else
J2 L1 b i c
def L1(a:dc)(L1:fk)(d:AU)(c:dc)(b:Int):=
if decide (b<(a.length:Int))then
(gt a b).bind λf=>
if decide ((BA (b+3))>=(a.length:Int))then
(Ah d 2).bind λj=>
J1 L1 c b f j.2 (j.1==1)
else
J1 L1 c b f d false
else
J3 d c
def Aa(a:dc):Nat->AU->(List Int)->Int->ABd ((List Int)×AU)
|0,_,_,_=>none
|n+1,d,c,b=>L1 a (Aa a n) d c b
end Ek
section
open Ek
def Ek(e:AU)(a:dc):=
Aa a BW e [] 0
theorem Zb{e:AU}{a:dc}{r:(List Int)×AU}(h:Ek e a=some r):BD prog 178 [bA 2 (FO e),vO 1 eI a] (vO 1 eI r.1) [bA 2 (FO r.2),vO 1 eI a]:=by refine kL mix func178 (hn [(0,[21]),(1,[8,13,17]),(5,[25,30])]) ?_;have a1:= @DD;have l1:=da λ_ _ _ _ n e=>∃d c b,(e 0=bA 2 (FO d)/\e 1=vO 1 eI a/\e 5=vO 1 eI c/\e 8= .al 1 []/\e 9=si (a.length:Int)/\e 10=si b)/\Aa a n d c b=some r;unfold Ek at h;exact walk
end
namespace DQ
def J1:=
some false
def L1(a:ABe)(b:dv)(L1:df)(c:Int):=
if decide (c<(b.length:Int))then
(gt b c).bind λd=>
if d.toList==a.toList then
some true
else
L1 (BA (c+1))
else
J1
def Aa(a:ABe)(b:dv):Nat->Int->ABd Bool
|0,_=>none
|n+1,c=>L1 a b (Aa a b n) c
end DQ
section
open DQ
def DQ(a:ABe):=
(Ju).bind λb=>
Aa a b BW 0
theorem Rl{a:ABe}{r:Bool}(h:DQ a=some r):Says prog 154 [BZ a] (sb r):=by refine kO mix func154 (hn [(3,[7,12,14])]) ?_;have a1:= @TO;have l1:=da λ_ _ _ _ n d=>∃b c,(d 0=BZ a/\d 3=vO 1 eS b/\d 4=si c)/\Aa a b n c=some r;unfold DQ at h;exact walk
end
namespace Ge
def J1(a:d4)(e:Bool):ABd (Int×AU):=
if e then
some ((-1),a.2)
else
some (BA (a.1-2),a.2)
end Ge
section
open Ge
def Ge(c:AU)(d:Int)(b:dc):=
(Ah c (BA ((b.length:Int)+2))).bind λa=>
if decide ((BA (a.1-2))<0)then
J1 a true
else
(gt b (BA (a.1-2))).bind λf=>
J1 a (f==0)
theorem Yb{c:AU}{d:Int}{b:dc}{r:d4}(h:Ge c d b=some r):BD prog 133 [bA 2 (FO c),.agg [.dead,si d,.dead,.dead,.dead,.dead,vS 1 eI b]] (si r.1) [bA 2 (FO r.2),.dead]:=by refine kL mix func133 (hn [(0,[6]),(1,[3,7,8,16,17,19])] (E:=[(0,(.Yu [.bxv ⟨3,[],[1]⟩ 7 1,.o (iK 4 0)]))])) ?_;have a1:= @DD;unfold Ge at h;exact walk
end
namespace HB
def J1(c:Bool):ABd Bool:=
some c
end HB
section
open HB
def HB(b:AD)(a:AB):=
(Ea b a.Sync).bind λd=>
if d then
if(a.Cells.length:Int)==(b.Cells.length:Int)then
if(a.AK.length:Int)==(b.AK.length:Int)then
J1 ((a.Count.length:Int)==(b.AA.length:Int))
else
J1 false
else
J1 false
else
J1 false
theorem Q6{b:AD}{a:AB}{r:Bool}(h:HB b a=some r):Says prog 51 [.agg (Aq b),.agg (BI a)] (sb r):=by refine kO mix func51 (hn [(2,[13,22,31]),(3,[6,10,19,28])]) ?_;have a1:= @LO;unfold HB at h;exact walk
end
namespace CT
def J4(l:Bool):ABd Bool:=
some l
def J6(o:Bool):ABd Bool:=
some o
def J9(b:Int)(c:AD)(q:Bool):ABd Bool:=
if q then
(DP b (c.AK.length:Int)).bind λx=>
some x
else
some false
def J8(a b:Int)(c:AD)(p:Bool):=
if p then
(DP b (c.AA.length:Int)).bind λw=>
some w
else
if a==22 then
J9 b c (a==22)
else
J9 b c (a==23)
def J7(a b:Int)(c:AD)(i:Bool):=
if i then
(DP b (c.Ai.length:Int)).bind λv=>
some v
else
if a==20 then
J8 a b c (a==20)
else
J8 a b c (a==21)
def J5(a b:Int)(c:AD)(f:Bool):=
if f then
(DP b (c.AF.length:Int)).bind λu=>
if u then
(gt c.AF b).bind λz=>
J6 z.RW
else
J6 false
else
if a==16 then
J7 a b c (a==16)
else
if a==17 then
J7 a b c (a==17)
else
if a==18 then
J7 a b c (a==18)
else
J7 a b c (a==19)
def J3(a b:Int)(c:AD)(e:Bool):=
if e then
(DP b (c.AF.length:Int)).bind λt=>
if t then
(gt c.AF b).bind λy=>
J4 (!y.RW)
else
J4 false
else
if a==8 then
J5 a b c (a==8)
else
if a==9 then
J5 a b c (a==9)
else
if a==10 then
J5 a b c (a==10)
else
J5 a b c (a==11)
def J2(a b:Int)(c:AD)(d:Bool):=
if d then
(DP b (c.Cells.length:Int)).bind λs=>
some s
else
if a==6 then
J3 a b c (a==6)
else
J3 a b c (a==7)
def J1(a b:Int)(c:AD)(j:Bool):=
if j then
some (b==(-1))
else
if a==3 then
J2 a b c (a==3)
else
J2 a b c (a==4)
end CT
section
open CT
def CT(c:AD)(a b:Int):=
if a==1 then
J1 a b c (a==1)
else
if a==2 then
J1 a b c (a==2)
else
if a==5 then
J1 a b c (a==5)
else
if a==12 then
J1 a b c (a==12)
else
if a==13 then
J1 a b c (a==13)
else
if a==14 then
J1 a b c (a==14)
else
J1 a b c (a==15)
theorem S6{c:AD}{a b:Int}{r:Bool}(h:CT c a b=some r):Says prog 191 [.agg (Aq c),si a,si b] (sb r):=by refine kO mix func191 (hn [(3,[22,30,35,49,54,67,75,83])] [(3,1),(11,2),(14,3),(17,5),(22,7)]) ?_;have a1:= @JY;have c7:=db 7 λ_ _ _ _ d=>∃i,(d 2=si b/\d 3=bA 6 (Aq c)/\d 7=si a/\d 61=sb i)/\J7 a b c i=some r;have c5:=db 5 λ_ _ _ _ d=>∃f,(d 2=si b/\d 3=bA 6 (Aq c)/\d 7=si a/\d 43=sb f)/\J5 a b c f=some r;have c3:=db 3 λ_ _ _ _ d=>∃e,(d 2=si b/\d 3=bA 6 (Aq c)/\d 7=si a/\d 26=sb e)/\J3 a b c e=some r;have c2:=db 2 λ_ _ _ _ e=>∃d,(e 2=si b/\e 3=bA 6 (Aq c)/\e 7=si a/\e 18=sb d)/\J2 a b c d=some r;have c1:=db 1 λ_ _ _ _ d=>∃j,(d 2=si b/\d 3=bA 6 (Aq c)/\d 7=si a/\d 8=sb j)/\J1 a b c j=some r;unfold CT at h;exact walk
end
namespace IP
def J4(l:Bool):ABd Bool:=
some l
def J6(o:Bool):ABd Bool:=
some o
def J9(b:Int)(c:AD)(q:Bool):ABd Bool:=
if q then
(HH b (c.AK.length:Int)).bind λx=>
some x
else
some false
def J8(a b:Int)(c:AD)(p:Bool):=
if p then
(HH b (c.AA.length:Int)).bind λw=>
some w
else
if a==22 then
J9 b c (a==22)
else
J9 b c (a==23)
def J7(a b:Int)(c:AD)(i:Bool):=
if i then
(HH b (c.Ai.length:Int)).bind λv=>
some v
else
if a==20 then
J8 a b c (a==20)
else
J8 a b c (a==21)
def J5(a b:Int)(c:AD)(f:Bool):=
if f then
(HH b (c.AF.length:Int)).bind λu=>
if u then
(gt c.AF b).bind λz=>
J6 z.RW
else
J6 false
else
if a==16 then
J7 a b c (a==16)
else
if a==17 then
J7 a b c (a==17)
else
if a==18 then
J7 a b c (a==18)
else
J7 a b c (a==19)
def J3(a b:Int)(c:AD)(e:Bool):=
if e then
(HH b (c.AF.length:Int)).bind λt=>
if t then
(gt c.AF b).bind λy=>
J4 (!y.RW)
else
J4 false
else
if a==8 then
J5 a b c (a==8)
else
if a==9 then
J5 a b c (a==9)
else
if a==10 then
J5 a b c (a==10)
else
J5 a b c (a==11)
def J2(a b:Int)(c:AD)(d:Bool):=
if d then
(HH b (c.Cells.length:Int)).bind λs=>
some s
else
if a==6 then
J3 a b c (a==6)
else
J3 a b c (a==7)
def J1(a b:Int)(c:AD)(j:Bool):=
if j then
some (b==(-1))
else
if a==3 then
J2 a b c (a==3)
else
J2 a b c (a==4)
end IP
section
open IP
def IP(c:AD)(a b:Int):=
if a==1 then
J1 a b c (a==1)
else
if a==2 then
J1 a b c (a==2)
else
if a==5 then
J1 a b c (a==5)
else
if a==12 then
J1 a b c (a==12)
else
if a==13 then
J1 a b c (a==13)
else
if a==14 then
J1 a b c (a==14)
else
J1 a b c (a==15)
theorem YJ{c:AD}{a b:Int}{r:Bool}(h:IP c a b=some r):Says prog 121 [.agg (Aq c),si a,si b] (sb r):=by refine kO mix func121 (hn [(3,[22,30,35,49,54,67,75,83])] [(3,1),(11,2),(14,3),(17,5),(22,7)]) ?_;have a1:= @SD;have c7:=db 7 λ_ _ _ _ d=>∃i,(d 2=si b/\d 3=bA 6 (Aq c)/\d 7=si a/\d 61=sb i)/\J7 a b c i=some r;have c5:=db 5 λ_ _ _ _ d=>∃f,(d 2=si b/\d 3=bA 6 (Aq c)/\d 7=si a/\d 43=sb f)/\J5 a b c f=some r;have c3:=db 3 λ_ _ _ _ d=>∃e,(d 2=si b/\d 3=bA 6 (Aq c)/\d 7=si a/\d 26=sb e)/\J3 a b c e=some r;have c2:=db 2 λ_ _ _ _ e=>∃d,(e 2=si b/\e 3=bA 6 (Aq c)/\e 7=si a/\e 18=sb d)/\J2 a b c d=some r;have c1:=db 1 λ_ _ _ _ d=>∃j,(d 2=si b/\d 3=bA 6 (Aq c)/\d 7=si a/\d 8=sb j)/\J1 a b c j=some r;unfold IP at h;exact walk
end
namespace Fm
def J1(d:Int):ABd (Int×Bool):=
some (d,true)
def J2(e:Int):ABd (Int×Bool):=
some (e,true)
end Fm
section
open Fm
def Fm(c b a:Int):=
if c==6 then
some (BA (b+a),true)
else
if c==7 then
some (BA (b-a),true)
else
if c==8 then
some (BA (b*a),true)
else
if c==9 then
if a==0 then
some (0,true)
else
if¬a=0 then
some (BA (b.tdiv a),true)
else none
else
if c==10 then
if a==0 then
some (0,true)
else
if¬a=0 then
some (b.tmod a,true)
else none
else
if c==11 then
(D7 (b==a)).bind λf=>
some (f,true)
else
if c==12 then
(D7 (b != a)).bind λi=>
some (i,true)
else
if c==13 then
(D7 (decide (b<a))).bind λj=>
some (j,true)
else
if c==14 then
(D7 (decide (b<=a))).bind λl=>
some (l,true)
else
if c==15 then
(D7 (decide (b>a))).bind λo=>
some (o,true)
else
if c==16 then
(D7 (decide (b>=a))).bind λp=>
some (p,true)
else
if c==17 then
if b != 0 then
(D7 (a != 0)).bind λq=>
J1 q
else
(D7 false).bind λs=>
J1 s
else
if c==18 then
if b != 0 then
(D7 true).bind λt=>
J2 t
else
(D7 (a != 0)).bind λu=>
J2 u
else
some (0,false)
theorem Vs{c b a:Int}{r:Int×Bool}(h:Fm c b a=some r):Says prog 267 [si c,si b,si a] (.BQ [si r.1,sb r.2]):=by refine kO mix func267 hn ?_;have a1:= @Pl;unfold Fm at h;exact walk
end
namespace F6
def J1(e:Bool):ABd Bool:=
some e
def J3(f:Bool):ABd Bool:=
some f
def J2(a:AG)(b:AB)(c:Bool):=
if c then
some true
else
if a.Kind==18 then
(C4 b.Sync a.Obj).bind λd=>
if(d.length:Int)==0 then
some (a.Value==(-1))
else
if decide (a.Value>=0)then
if decide (a.Value<(b.Sync.AA.length:Int))then
(GP d a.Value).bind λi=>
J3 i
else
J3 false
else
J3 false
else
if a.Kind==19 then
(C4 b.Sync a.Obj).bind λj=>
some (a.Value==(j.length:Int))
else
some (a.Value==0)
end F6
section
open F6
def F6(b:AB)(a:AG):=
if a.Kind==3 then
(gt b.Cells a.Obj).bind λl=>
some (a.Value==l)
else
if a.Kind==23 then
(gt b.AK a.Obj).bind λo=>
some (a.Value==o)
else
if a.Kind==5 then
if a.Value==0 then
J1 true
else
J1 (a.Value==1)
else
if a.Kind==4 then
J2 a b (a.Kind==4)
else
J2 a b (a.Kind==22)
theorem YN{b:AB}{a:AG}{r:Bool}(h:F6 b a=some r):Says prog 105 [.agg (BI b),.agg (B1 a)] (sb r):=by refine kO mix func105 (hn [(2,[12,23,45,62,63,78]),(3,[6,10,14,21,25,32,36,47,53,56,60,70,76,80,85]),(5,[50,69])] [(9,2)]) ?_;have a1:= @NX;have a2:= @Mc;have c2:=db 2 λ_ _ _ _ d=>∃c,(d 2=bA 7 (BI b)/\d 3=bA 7 (B1 a)/\d 7=si a.Kind/\d 40=sb c)/\J2 a b c=some r;unfold F6 at h;exact walk
end
namespace Db
def J1(d:AB):ABd AB:=
some d
def L1(a:AD)(L1:AB->Int->ABd AB)(b:AB)(c:Int):=
if decide (c<(a.Cells.length:Int))then
(gt a.Cells c).bind λf=>
if Ap (b.Cells.length+1) 8=true then
L1 (AB.mk b.Sync (b.Cells++[f.Init]) b.AK b.Count) (BA (c+1))
else none
else
J1 b
def Aa(a:AD):Nat->AB->Int->ABd AB
|0,_,_=>none
|n+1,b,c=>L1 a (Aa a n) b c
end Db
section
open Db
def Db(a:AD):=
(EH a).bind λe=>
if 0<=0/\0<=(a.Cells.length:Int)/\Ap a.Cells.length 8=true then
if 0<=(a.AK.length:Int)/\(a.AK.length:Int)<=(a.AK.length:Int)/\Ap a.AK.length 8=true then
if 0<=(a.AA.length:Int)/\(a.AA.length:Int)<=(a.AA.length:Int)/\Ap a.AA.length 8=true then
Aa a BW (AB.mk e [] (List.replicate a.AK.length (0:Int)) (List.replicate a.AA.length (0:Int))) 0
else none
else none
else none
end
namespace Ec
def J2(a:AR)(d:Int)(i:Bool):ABd Int:=
if i then
(gt a.Decls d).bind λp=>
some p.Kind
else
some 9
def J1(a:AR)(b:ABe)(f:Bool):=
if f then
some 8
else
(Cv a.Decls b).bind λd=>
if decide (d<0)then
(Cs a.AA b).bind λl=>
if decide (l>=0)then
some 7
else
some 0
else
(gt a.Decls d).bind λc=>
if c.Kind==1 then
if c.Bq != 0 then
some 2
else
some 1
else
if c.Kind==2 then
some 1
else
if c.Kind==3 then
J2 a d (c.Kind==3)
else
if c.Kind==4 then
J2 a d (c.Kind==4)
else
if c.Kind==5 then
J2 a d (c.Kind==5)
else
J2 a d (c.Kind==6)
end Ec
section
open Ec
def Ec(a:AR)(e:Int)(b:ABe):=
if decide (e>=0)then
if decide (e<(a.AA.length:Int))then
(gt a.AA e).bind λo=>
(CU o.GA b).bind λj=>
J1 a b (decide (j>=0))
else
J1 a b false
else
J1 a b false
theorem Vn{a:AR}{e:Int}{b:ABe}{r:Int}(h:Ec a e b=some r):Says prog 279 [.agg (CS a),si e,BZ b] (si r):=by refine kO mix func279 (hn [(3,[12,18,28,34,39,47,61])] [(2,1)]) ?_;have a1:= @JF;have a2:= @Jx;have a3:= @HY;have c1:=db 1 λ_ _ _ _ c=>∃f,(c 2=BZ b/\c 3=bA 2 (CS a)/\c 27=sb f)/\J1 a b f=some r;unfold Ec at h;exact walk
end
namespace EJ
def J1(a:AP)(e:gy):ABd AP:=
(I4 a.Bn).bind λi=>
(FV a.AA).bind λj=>
some (AP.mk e a.Tx i j)
def L1(a:AP)(L1:(List AW)->Int->ABd AP)(c:gy)(b:Int):=
if decide (b<(a.AF.length:Int))then
(gt a.AF b).bind λd=>
(slices_Clone_int d.Ak).bind λf=>
(gt c b).bind λl=>
L1 (c.set b.toNat (AW.mk d.CG f)) (BA (b+1))
else
J1 a c
def Aa(a:AP):Nat->(List AW)->Int->ABd AP
|0,_,_=>none
|n+1,c,b=>L1 a (Aa a n) c b
end EJ
section
open EJ
def EJ(a:AP):=
if 0<=(a.AF.length:Int)/\(a.AF.length:Int)<=(a.AF.length:Int)/\Ap a.AF.length 32=true then
Aa a BW (List.replicate a.AF.length (AW.mk 0 [])) 0
else none
theorem Vf{a r:AP}(h:EJ a=some r):Says prog 193 [.agg (F8 a)] (.agg (Ht r)):=by refine kO mix func193 (hn [(1,[6,7,10,11,16,17,29,30,31,33,34,35,37,38]),(3,[18,26,28]),(5,[20,22,23])]) ?_;have a1:= @Mg;have a2:= @Ip;have a3:= @Hs;have l1:=da λ_ _ _ _ n d=>∃c b,(d 1=bA 4 (F8 a)/\d 2=bA 4 z5/\d 3=vO 2 Bo c/\d 11=vS 2 DS a.AF/\d 12=si (a.AF.length:Int)/\d 13=si b)/\Aa a n c b=some r;unfold EJ at h;exact walk
end
end Go.Abs
