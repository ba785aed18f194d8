/- Typed programs of Go functions, and that the functions do what these say. -/
import Derived.Test.YtdojkofgkcmagaaGreatDoorBaseA
set_option linter.unusedSimpArgs false
set_option linter.unusedVariables false
namespace Go.Abs
open Go.Proofs
set_option maxRecDepth 1000000
set_option maxHeartbeats 4000000
namespace AY
def J3 (l:List ABe):ABd ((List ABe)×Bool):=
some (l,true)
def J2 (L1:(List ABe)->Int->ABd ((List ABe)×Bool)) (c:Int) (d:List ABe) (b o:DR):ABd ((List ABe)×Bool):=
L1 (d++[b.Name]) (BA (c+o.Bq))
def L2 (L1:(List ABe)->Int->ABd ((List ABe)×Bool)) (c:Int) (a:List DR) (d:List ABe) (b:DR) (L2:DR->Int->ABd ((List ABe)×Bool)) (e:DR) (f:Int):ABd ((List ABe)×Bool):=
if decide (f<b.Bq)then
(gt a (BA (c+f))).bind λi=>
if !(i.Name.toList==e.Name.toList&&(i.Index==f&&(i.Bq==e.Bq&&(i.Gz==e.Gz&&(i.Init==e.Init)))))then
some ([],false)
else
L2 (DR.mk e.Name f e.Bq e.Gz e.Init) (BA (f+1))
else
J2 L1 c d b e
def DF (L1:(List ABe)->Int->ABd ((List ABe)×Bool)) (c:Int) (a:List DR) (d:List ABe) (b:DR):Nat->DR->Int->ABd ((List ABe)×Bool)
|0,_,_=>none
|n+1,e,f=>L2 L1 c a d b (DF L1 c a d b n) e f
def J1 (L1:(List ABe)->Int->ABd ((List ABe)×Bool)) (c:Int) (a:List DR) (d:List ABe) (b:DR) (j:Bool):ABd ((List ABe)×Bool):=
if j then
some ([],false)
else
DF L1 c a d b BW b 0
def L1 (a:List DR) (L1:(List ABe)->Int->ABd ((List ABe)×Bool)) (d:List ABe) (c:Int):ABd ((List ABe)×Bool):=
if decide (c<(a.length:Int))then
(gt a c).bind λb=>
if Ap (d.length+1) 16=true then
if b.Bq==0 then
if b.Index != 0 then
some ([],false)
else
L1 (d++[b.Name]) (BA (c+1))
else
if decide (b.Bq<1)then
J1 L1 c a d b true
else
if decide (b.Bq>4)then
J1 L1 c a d b true
else
if b.Gz then
J1 L1 c a d b true
else
J1 L1 c a d b (decide (b.Bq>(BA ((a.length:Int)-c))))
else none
else
J3 d
def Aa (a:List DR):Nat->(List ABe)->Int->ABd ((List ABe)×Bool)
|0,_,_=>none
|n+1,d,c=>L1 a (Aa a n) d c
end AY
section
open AY
def AY (a:List DR):ABd ((List ABe)×Bool):=
Aa a BW [] 0
theorem Oh {a:List DR} {r:(List ABe)×Bool} (h:AY a=some r):Says Tryz.prog 90 [vS 5 Gy a] (.BQ [vO 1 eS r.1,sb r.2]):=by refine kO mix Tryz.func90 (hn [(4,[16,70]),(6,[17,21,24,29,33,38,42,50,56,67])] [(15,1)]) ?_;have l1:=λn1 n2 n3 n4:Nat=>A3 λn τ=>∃(d:List ABe) (c:Int),(τ 0=vS 5 Gy a/\τ 4=vO 1 eS d/\τ 5=si c)/\Aa a n d c=some r;have l2:=λn1 n2 n3 n4:Nat=>A3 λn τ=>∃(c:Int) (d:List ABe) (b e:DR) (f:Int),(τ 0=vS 5 Gy a/\τ 4= .own false 1 ((d++[b.Name]).map eS)/\τ 5=si c/\τ 6=bA 5 (Gy e)/\τ 51=si b.Bq/\τ 52=si f)/\DF (Aa a n1) c a d b n e f=some r;have c1:=λn1 n2 n3 n4:Nat=>Bs 1 λτ=>∃(c:Int) (d:List ABe) (b:DR) (j:Bool),(τ 0=vS 5 Gy a/\τ 4= .own false 1 ((d++[b.Name]).map eS)/\τ 5=si c/\τ 6=bA 5 (Gy b)/\τ 49=sb j)/\J1 (Aa a n1) c a d b j=some r;unfold AY at h;exact walk
end
namespace BC
def J6:ABd Bool:=
some true
def J5 (L1:Int->ABd Bool) (b:Int):ABd Bool:=
L1 (BA (b+1))
def J4 (L1:Int->ABd Bool) (b:Int) (a:AL) (c:AH) (i:Bool):ABd Bool:=
if i then
some false
else
(gt a.World.Ai c.Dg).bind λl=>
(gt a.Init.Sync.AF l.Mutex).bind λo=>
if o.CG==b then
some false
else
J5 L1 b
def J3 (L1:Int->ABd Bool) (b:Int) (a:AL) (c:AH) (f:Bool):ABd Bool:=
if f then
if c.Dg != 0 then
some false
else
J5 L1 b
else
if decide (c.Dg<0)then
J4 L1 b a c true
else
J4 L1 b a c (decide (c.Dg≥(a.World.Ai.length:Int)))
def J2 (L1:Int->ABd Bool) (b:Int) (a:AL) (c:AH) (d:Bool):ABd Bool:=
(gt a.Init.Count b).bind λj=>
if !((j==0)==d)then
some false
else
if c.Status != 3 then
J3 L1 b a c (c.Status != 4)
else
J3 L1 b a c false
def J1 (L1:Int->ABd Bool) (b:Int) (a:AL) (c:AH) (e:Bool):ABd Bool:=
if e then
some false
else
if c.Status==0 then
J2 L1 b a c true
else
J2 L1 b a c (c.Status==1)
def L1 (a:AL) (L1:Int->ABd Bool) (b:Int):ABd Bool:=
if decide (b<(a.Init.Sync.AA.length:Int))then
(gt a.Init.Sync.AA b).bind λc=>
if decide (c.Status<0)then
J1 L1 b a c true
else
if decide (c.Status>5)then
J1 L1 b a c true
else
if b==0 then
J1 L1 b a c (c.Status==0)
else
J1 L1 b a c false
else
J6
def Aa (a:AL):Nat->Int->ABd Bool
|0,_=>none
|n+1,b=>L1 a (Aa a n) b
end BC
section
open BC
def BC (a:AL):ABd Bool:=
Aa a BW 0
theorem OI {a:AL} {r:Bool} (h:BC a=some r):Says Tryz.prog 46 [.agg (B0 a)] (sb r):=by refine kO mix Tryz.func46 (hn [(1,[6,7,8,41,42,67,68,73,74,75,77,78]),(4,[16,20,28,33,37,50,54,58,61,65,80])] [(8,1),(10,2),(15,3)]) ?_;have l1:=λn1 n2 n3 n4:Nat=>A3 λn τ=>∃(b:Int),(τ 1=bA 15 (B0 a)/\τ 9=vS 3 An a.Init.Sync.AA/\τ 10=si (a.Init.Sync.AA.length:Int)/\τ 11=si b)/\Aa a n b=some r;have c3:=λn1 n2 n3 n4:Nat=>Bs 3 λτ=>∃(b:Int) (c:AH) (f:Bool),(τ 1=bA 15 (B0 a)/\τ 3=si b/\τ 4=bA 3 (An c)/\τ 9=vS 3 An a.Init.Sync.AA/\τ 10=si (a.Init.Sync.AA.length:Int)/\τ 11=si b/\τ 57=sb f)/\J3 (Aa a n1) b a c f=some r;have c2:=λn1 n2 n3 n4:Nat=>Bs 2 λτ=>∃(b:Int) (c:AH) (d:Bool),(τ 1=bA 15 (B0 a)/\τ 3=si b/\τ 4=bA 3 (An c)/\τ 5=sb d/\τ 9=vS 3 An a.Init.Sync.AA/\τ 10=si (a.Init.Sync.AA.length:Int)/\τ 11=si b)/\J2 (Aa a n1) b a c d=some r;have c1:=λn1 n2 n3 n4:Nat=>Bs 1 λτ=>∃(b:Int) (c:AH) (e:Bool),(τ 1=bA 15 (B0 a)/\τ 3=si b/\τ 4=bA 3 (An c)/\τ 9=vS 3 An a.Init.Sync.AA/\τ 10=si (a.Init.Sync.AA.length:Int)/\τ 11=si b/\τ 32=sb e)/\J1 (Aa a n1) b a c e=some r;unfold BC at h;exact walk
end
namespace Cz
def J1 (q:List Dk) (p:Int):ABd ((List Dk)×Int):=
some (q,p)
def L1 (R100:(List Dk)->Int->Int->(List AQ)->ABd ((List Dk)×Int)) (b:List AQ) (a:Int) (L1:(List Dk)->Int->Int->ABd ((List Dk)×Int)) (e:List Dk) (d c:Int):ABd ((List Dk)×Int):=
if decide (c<(b.length:Int))then
(gt b c).bind λj=>
if Ap (e.length+1) 24=true then
(R100 (e++[(Dk.mk a d j.FK)]) a (BA (d+1)) j.Body).bind λl=>
(R100 l.1 a l.2 j.Else).bind λo=>
L1 o.1 o.2 (BA (c+1))
else none
else
J1 e d
def Aa (R100:(List Dk)->Int->Int->(List AQ)->ABd ((List Dk)×Int)) (b:List AQ) (a:Int):Nat->(List Dk)->Int->Int->ABd ((List Dk)×Int)
|0,_,_,_=>none
|n+1,e,d,c=>L1 R100 b a (Aa R100 b a n) e d c
end Cz
section
open Cz
def Cz (R100:(List Dk)->Int->Int->(List AQ)->ABd ((List Dk)×Int)) (i:List Dk) (a f:Int) (b:List AQ):ABd ((List Dk)×Int):=
Aa R100 b a BW i f 0
theorem YG {R100:(List Dk)->Int->Int->(List AQ)->ABd ((List Dk)×Int)} (H100:∀{x0 x1 x2 x3 r},R100 x0 x1 x2 x3=some r->Says Tryz.prog 221 [vO 3 Gb x0,si x1,si x2,vS 11 A7 x3] (.BQ [vO 3 Gb r.1,si r.2])) {i:List Dk} {a f:Int} {b:List AQ} {r:(List Dk)×Int} (h:Cz R100 i a f b=some r):Says Tryz.prog 221 [vO 3 Gb i,si a,si f,vS 11 A7 b] (.BQ [vO 3 Gb r.1,si r.2]):=by refine kO mix Tryz.func221 (hn [(0,[17,31,43,54]),(2,[19,28,33,45,55]),(39,[30,40,41]),(51,[42,52,53])]) ?_;have a1:= @H100;have l1:=λn1 n2 n3 n4:Nat=>A3 λn τ=>∃(e:List Dk) (d c:Int),(τ 0=vO 3 Gb e/\τ 1=si a/\τ 2=si d/\τ 3=vS 11 A7 b/\τ 10=si c)/\Aa R100 b a n e d c=some r;unfold Cz at h;exact walk
end
def Ta:Nat->((List Dk)->Int->Int->(List AQ)->ABd ((List Dk)×Int))
|0=>(λ_ _ _ _=>none)
|n+1=>Cz ((Ta n))
def GZ (n:Nat):(List Dk)->Int->Int->(List AQ)->ABd ((List Dk)×Int):=(Ta n)
theorem Vt (n:Nat):(∀{x0 x1 x2 x3 r},(GZ n) x0 x1 x2 x3=some r->Says Tryz.prog 221 [.own false 3 (x0.map Gb),si x1,si x2,.sl false 11 (x3.map A7)] (.BQ [.own false 3 (r.1.map Gb),si r.2])):=by
  induction n with
  |zero=>exactλh=>ET h
  |succ n ih=>exactλh=>YG ih h
theorem Vu {n:Nat}:∀{x0 x1 x2 x3 r},(GZ n) x0 x1 x2 x3=some r->Says Tryz.prog 221 [.own false 3 (x0.map Gb),si x1,si x2,.sl false 11 (x3.map A7)] (.BQ [.own false 3 (r.1.map Gb),si r.2]):=(Vt n)
namespace Ab
def J7:ABd Bool:=
some true
def J6 (L1:Int->ABd Bool) (c:Int):ABd Bool:=
L1 (BA (c+1))
def J5 (L2:Int->Int->ABd Bool) (i l:Int) (s:Bool):ABd Bool:=
if s then
some false
else
L2 l (BA (i+1))
def L2 (L1:Int->ABd Bool) (a:AG) (f:List Int) (b:AB) (c:Int) (L2:Int->Int->ABd Bool) (j i:Int):ABd Bool:=
if decide (i<(f.length:Int))then
(gt f i).bind λl=>
if decide (l≤j)then
J5 L2 i l true
else
(gt b.Count a.Thread).bind λv=>
J5 L2 i l (decide (l≥v))
else
J6 L1 c
def DF (L1:Int->ABd Bool) (a:AG) (f:List Int) (b:AB) (c:Int):Nat->Int->Int->ABd Bool
|0,_,_=>none
|n+1,j,i=>L2 L1 a f b c (DF L1 a f b c n) j i
def J4 (L1:Int->ABd Bool) (a:AG) (f:List Int) (b:AB) (c:Int) (q:Bool):ABd Bool:=
if q then
some false
else
DF L1 a f b c BW 0 0
def J3 (L1:Int->ABd Bool) (d e:Bool) (a:AG) (b:AB) (c:Int) (f:List Int):ABd Bool:=
if decide ((f.length:Int)>0)then
if c==0 then
J4 L1 a f b c (!d)
else
if c==1 then
J4 L1 a f b c (!e)
else
none
else
J4 L1 a f b c false
def L1 (d e:Bool) (a:AG) (b:AB) (L1:Int->ABd Bool) (c:Int):ABd Bool:=
if decide (c<2)then
if c==0 then
J3 L1 d e a b c a.Dw
else
if c==1 then
J3 L1 d e a b c a.DM
else
none
else
J7
def Aa (d e:Bool) (a:AG) (b:AB):Nat->Int->ABd Bool
|0,_=>none
|n+1,c=>L1 d e a b (Aa d e a b n) c
def J2 (a:AG) (b:AB) (d e:Bool):ABd Bool:=
Aa d e a b BW 0
def J1 (a:AG) (b:AB) (o:Bool):ABd Bool:=
if a.Kind==5 then
if a.Kind==4 then
J2 a b true true
else
J2 a b true (a.Kind==22)
else
if a.Kind==4 then
J2 a b o true
else
J2 a b o (a.Kind==22)
end Ab
section
open Ab
def Ab (p:AD) (b:AB) (a:AG):ABd Bool:=
if a.Kind==3 then
(gt p.Cells a.Obj).bind λt=>
J1 a b (t.Bq != 0)
else
if a.Kind==4 then
(gt p.Cells a.Obj).bind λu=>
J1 a b (u.Bq != 0)
else
J1 a b false
theorem My {p:AD} {b:AB} {a:AG} {r:Bool} (h:Ab p b a=some r):Says Tryz.prog 148 [.agg (Aq p),.agg (BI b),.agg (B1 a)] (sb r):=by refine kO mix Tryz.func148 (hn [(3,[23]),(4,[76]),(5,[14,18,25,32,38,42,47,49,78]),(8,[61])] [(1,1),(2,2),(8,3),(10,4)]) ?_;have l1:=λn1 n2 n3 n4:Nat=>A3 λn τ=>∃(d e:Bool) (c:Int),(τ 4=bA 7 (BI b)/\τ 5=bA 7 (B1 a)/\τ 8=bA 2 [sb d,sb e]/\τ 51= .agg [vS 1 eI a.Dw,vS 1 eI a.DM]/\τ 52=si c)/\Aa d e a b n c=some r;have l2:=λn1 n2 n3 n4:Nat=>A3 λn τ=>∃(d e:Bool) (f:List Int) (c j i:Int),(τ 4=bA 7 (BI b)/\τ 5=bA 7 (B1 a)/\τ 8=bA 2 [sb d,sb e]/\τ 11=si j/\τ 51= .agg [vS 1 eI a.Dw,vS 1 eI a.DM]/\τ 52=si c/\τ 65=vS 1 eI f/\τ 66=si (f.length:Int)/\τ 67=si i)/\DF (Aa d e a b n1) a f b c n j i=some r;have c4:=λn1 n2 n3 n4:Nat=>Bs 4 λτ=>∃(d e:Bool) (f:List Int) (c:Int) (q:Bool),(τ 4=bA 7 (BI b)/\τ 5=bA 7 (B1 a)/\τ 8=bA 2 [sb d,sb e]/\τ 10=vS 1 eI f/\τ 51= .agg [vS 1 eI a.Dw,vS 1 eI a.DM]/\τ 52=si c/\τ 64=sb q)/\J4 (Aa d e a b n1) a f b c q=some r;have c3:=λn1 n2 n3 n4:Nat=>Bs 3 λτ=>∃(d e:Bool) (c:Int) (f:List Int),(τ 4=bA 7 (BI b)/\τ 5=bA 7 (B1 a)/\τ 8=bA 2 [sb d,sb e]/\τ 9=si c/\τ 10=vS 1 eI f/\τ 51= .agg [vS 1 eI a.Dw,vS 1 eI a.DM]/\τ 52=si c)/\J3 (Aa d e a b n1) d e a b c f=some r;have c2:=λn1 n2 n3 n4:Nat=>Bs 2 λτ=>∃(d e:Bool),(τ 4=bA 7 (BI b)/\τ 5=bA 7 (B1 a)/\τ 8=bA 2 [sb d,sb e])/\J2 a b d e=some r;have c1:=λn1 n2 n3 n4:Nat=>Bs 1 λτ=>∃(o:Bool),(τ 4=bA 7 (BI b)/\τ 5=bA 7 (B1 a)/\τ 7=sb o)/\J1 a b o=some r;unfold Ab at h;exact walk
end
namespace A4
def Oz (a:AG):ABd Bool:=
some (a.Value==0)
def J1 (q:Bool):ABd Bool:=
some q
def J6 (s:Bool):ABd Bool:=
some s
def J5 (a:AG) (v:Int) (z:Bool):ABd Bool:=
if z then
J6 true
else
if v==0 then
J6 (a.Value==(-1))
else
J6 false
def J4 (L1:Int->Bool->Int->ABd Bool) (c u:Int) (y:Bool):ABd Bool:=
L1 u y (BA (c+1))
def J3 (L1:Int->Bool->Int->ABd Bool) (a:AG) (c e:Int) (i t:Bool):ABd Bool:=
if t then
if i then
J4 L1 c (BA (e+1)) true
else
J4 L1 c (BA (e+1)) (a.Value==c)
else
J4 L1 c e i
def L1 (a:AG) (b:AB) (L1:Int->Bool->Int->ABd Bool) (e:Int) (i:Bool) (c:Int):ABd Bool:=
if decide (c<(b.Sync.AA.length:Int))then
(gt b.Sync.AA c).bind λl=>
if l.Status==3 then
J3 L1 a c e i (l.Dg==a.Obj)
else
J3 L1 a c e i false
else
J5 a e i
def Aa (a:AG) (b:AB):Nat->Int->Bool->Int->ABd Bool
|0,_,_,_=>none
|n+1,e,i,c=>L1 a b (Aa a b n) e i c
def J9 (a:AG) (x:Int):ABd Bool:=
some (a.Value==x)
def J8 (L2:Int->Int->ABd Bool) (d w:Int):ABd Bool:=
L2 w (BA (d+1))
def J7 (L2:Int->Int->ABd Bool) (d f:Int) (p:Bool):ABd Bool:=
if p then
J8 L2 d (BA (f+1))
else
J8 L2 d f
def L2 (a:AG) (b:AB) (L2:Int->Int->ABd Bool) (f d:Int):ABd Bool:=
if decide (d<(b.Sync.AA.length:Int))then
(gt b.Sync.AA d).bind λo=>
if o.Status==3 then
J7 L2 d f (o.Dg==a.Obj)
else
J7 L2 d f false
else
J9 a f
def DF (a:AG) (b:AB):Nat->Int->Int->ABd Bool
|0,_,_=>none
|n+1,f,d=>L2 a b (DF a b n) f d
def J2 (a:AG) (b:AB) (j:Bool):ABd Bool:=
if j then
some true
else
if a.Kind==18 then
Aa a b BW 0 false 0
else
if a.Kind==19 then
DF a b BW 0 0
else
Oz a
end A4
section
open A4
def A4 (b:AB) (a:AG):ABd Bool:=
if a.Kind==3 then
(gt b.Cells a.Obj).bind λaa=>
some (a.Value==aa)
else
if a.Kind==23 then
(gt b.AK a.Obj).bind λab=>
some (a.Value==ab)
else
if a.Kind==5 then
if a.Value==0 then
J1 true
else
J1 (a.Value==1)
else
if a.Kind==4 then
J2 a b (a.Kind==4)
else
J2 a b (a.Kind==22)
theorem P1 {b:AB} {a:AG} {r:Bool} (h:A4 b a=some r):Says Tryz.prog 149 [.agg (BI b),.agg (B1 a)] (sb r):=by refine kO mix Tryz.func149 (hn [(2,[18,29,51,52,92,93]),(3,[12,16,20,27,31,38,42,66,74,85,106,113,117]),(8,[60,64]),(11,[100,104])] [(9,2)]) ?_;have l1:=λn1 n2 n3 n4:Nat=>A3 λn τ=>∃(e:Int) (i:Bool) (c:Int),(τ 3=bA 7 (B1 a)/\τ 5=si e/\τ 6=sb i/\τ 53=vS 3 An b.Sync.AA/\τ 54=si (b.Sync.AA.length:Int)/\τ 55=si c)/\Aa a b n e i c=some r;have l2:=λn1 n2 n3 n4:Nat=>A3 λn τ=>∃(f d:Int),(τ 3=bA 7 (B1 a)/\τ 9=si f/\τ 94=vS 3 An b.Sync.AA/\τ 95=si (b.Sync.AA.length:Int)/\τ 96=si d)/\DF a b n f d=some r;have c2:=λn1 n2 n3 n4:Nat=>Bs 2 λτ=>∃(j:Bool),(τ 2=bA 7 (BI b)/\τ 3=bA 7 (B1 a)/\τ 13=si a.Kind/\τ 46=sb j)/\J2 a b j=some r;unfold A4 at h;exact walk
end
end Go.Abs
