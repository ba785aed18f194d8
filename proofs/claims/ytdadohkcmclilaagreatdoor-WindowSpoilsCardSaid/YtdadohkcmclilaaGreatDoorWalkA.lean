/- Typed programs of Go functions, and that the functions do what these say. -/
import Derived.Test.YtdadohkcmclilaaGreatDoorBaseA
import Derived.Shelf.Slices.SearchI
set_option linter.unusedSimpArgs false
set_option linter.unusedVariables false
namespace Go.Abs
open Go.Proofs
set_option maxRecDepth 1000000
set_option maxHeartbeats 4000000
namespace BR
def J6 (a:AD) (q:List ABi):ABh ((List ABi)×Bool):=
if Ap (q.length+a.AH.length) 16=true then
if Ap ((q++a.AH).length+a.AA.length) 16=true then
some ((q++a.AH)++a.AA,true)
else none
else none
def L4 (a:AD) (L4:(List ABi)->Int->ABh ((List ABi)×Bool)) (l:List ABi) (i:Int):ABh ((List ABi)×Bool):=
if decide (i<(a.Af.length:Int))then
(gt a.Af i).bind λw=>
if Ap (l.length+1) 16=true then
L4 (l++[w.Name]) (Aq (i+1))
else none
else
J6 a l
def L4r (a:AD):Nat->(List ABi)->Int->ABh ((List ABi)×Bool)
|0,_,_=>none
|n+1,l,i=>L4 a (L4r a n) l i
def J5 (a:AD) (t:List ABi):ABh ((List ABi)×Bool):=
L4r a Bg t 0
def L3 (a:AD) (L3:(List ABi)->Int->ABh ((List ABi)×Bool)) (j:List ABi) (f:Int):ABh ((List ABi)×Bool):=
if decide (f<(a.AG.length:Int))then
(gt a.AG f).bind λv=>
if Ap (j.length+1) 16=true then
L3 (j++[v.Name]) (Aq (f+1))
else none
else
J5 a j
def GL (a:AD):Nat->(List ABi)->Int->ABh ((List ABi)×Bool)
|0,_,_=>none
|n+1,j,f=>L3 a (GL a n) j f
def J4 (a:AD) (s:List ABi):ABh ((List ABi)×Bool):=
GL a Bg s 0
def J3 (L1:(List ABi)->Int->ABh ((List ABi)×Bool)) (c:Int) (d:List ABi) (b:DR):ABh ((List ABi)×Bool):=
L1 (d++[b.Name]) (Aq (c+b.CG))
def J2 (L2:Int->ABh ((List ABi)×Bool)) (e:Int) (u:Bool):ABh ((List ABi)×Bool):=
if u then
some ([],false)
else
L2 (Aq (e+1))
def L2 (L1:(List ABi)->Int->ABh ((List ABi)×Bool)) (c:Int) (d:List ABi) (a:AD) (b:DR) (L2:Int->ABh ((List ABi)×Bool)) (e:Int):ABh ((List ABi)×Bool):=
if decide (e<b.CG)then
(gt a.Cells (Aq (c+e))).bind λo=>
if o.Index != e then
J2 L2 e true
else
if !(o.Name.toList==b.Name.toList)then
J2 L2 e true
else
if o.CG != b.CG then
J2 L2 e true
else
if o.Init != b.Init then
J2 L2 e true
else
J2 L2 e o.G4
else
J3 L1 c d b
def DI (L1:(List ABi)->Int->ABh ((List ABi)×Bool)) (c:Int) (d:List ABi) (a:AD) (b:DR):Nat->Int->ABh ((List ABi)×Bool)
|0,_=>none
|n+1,e=>L2 L1 c d a b (DI L1 c d a b n) e
def J1 (L1:(List ABi)->Int->ABh ((List ABi)×Bool)) (c:Int) (d:List ABi) (a:AD) (b:DR) (p:Bool):ABh ((List ABi)×Bool):=
if p then
some ([],false)
else
DI L1 c d a b Bg 0
def L1 (a:AD) (L1:(List ABi)->Int->ABh ((List ABi)×Bool)) (d:List ABi) (c:Int):ABh ((List ABi)×Bool):=
if decide (c<(a.Cells.length:Int))then
(gt a.Cells c).bind λb=>
if Ap (d.length+1) 16=true then
if b.CG==0 then
if b.Index != 0 then
some ([],false)
else
L1 (d++[b.Name]) (Aq (c+1))
else
if decide (b.CG<1)then
J1 L1 c d a b true
else
if decide (b.CG>4)then
J1 L1 c d a b true
else
J1 L1 c d a b (decide (b.CG>(Aq ((a.Cells.length:Int)-c))))
else none
else
J4 a d
def AZ (a:AD):Nat->(List ABi)->Int->ABh ((List ABi)×Bool)
|0,_,_=>none
|n+1,d,c=>L1 a (AZ a n) d c
end BR
section
open BR
def BR (a:AD):ABh ((List ABi)×Bool):=
AZ a Bg [] 0
theorem XL {a:AD} {r:(List ABi)×Bool} (h:BR a=some r):Says Tryz.prog 93 [.agg (Az a)] (.BT [vO 1 eS r.1,sb r.2]):=by refine kO mix Tryz.func93 (hn [(1,[12,16,45,58,99,106,115,122,131,135]),(4,[21,105,121,130,134]),(6,[22,26,29,34,38,43,53,72,79,86,95]),(8,[65,70,77,84,91])] [(15,1)]) ?_;have l4:=λn1 n2 n3 n4:Nat=>A7 λn τ=>∃(l:List ABi) (i:Int),(τ 1=bA 6 (Az a)/\τ 4=vO 1 eS l/\τ 10=si i)/\L4r a n l i=some r;have l3:=λn1 n2 n3 n4:Nat=>A7 λn τ=>∃(j:List ABi) (f:Int),(τ 1=bA 6 (Az a)/\τ 4=vO 1 eS j/\τ 9=si f)/\GL a n j f=some r;have l1:=λn1 n2 n3 n4:Nat=>A7 λn τ=>∃(d:List ABi) (c:Int),(τ 1=bA 6 (Az a)/\τ 4=vO 1 eS d/\τ 5=si c)/\AZ a n d c=some r;have l2:=λn1 n2 n3 n4:Nat=>A7 λn τ=>∃(c:Int) (d:List ABi) (b:DR) (e:Int),(τ 1=bA 6 (Az a)/\τ 4= .own false 1 ((d++[b.Name]).map eS)/\τ 5=si c/\τ 6=bA 5 (Gd b)/\τ 7=si e)/\DI (AZ a n1) c d a b n e=some r;have c1:=λn1 n2 n3 n4:Nat=>Bu 1 λτ=>∃(c:Int) (d:List ABi) (b:DR) (p:Bool),(τ 1=bA 6 (Az a)/\τ 4= .own false 1 ((d++[b.Name]).map eS)/\τ 5=si c/\τ 6=bA 5 (Gd b)/\τ 51=sb p)/\J1 (AZ a n1) c d a b p=some r;unfold BR at h;exact walk
end
namespace Aa
def J7:ABh Bool:=
some true
def J6 (L1:Int->ABh Bool) (c:Int):ABh Bool:=
L1 (Aq (c+1))
def J5 (L2:Int->Int->ABh Bool) (i l:Int) (s:Bool):ABh Bool:=
if s then
some false
else
L2 l (Aq (i+1))
def L2 (L1:Int->ABh Bool) (a:AK) (f:List Int) (b:AB) (c:Int) (L2:Int->Int->ABh Bool) (j i:Int):ABh Bool:=
if decide (i<(f.length:Int))then
(gt f i).bind λl=>
if decide (l≤j)then
J5 L2 i l true
else
(gt b.Count a.Thread).bind λv=>
J5 L2 i l (decide (l≥v))
else
J6 L1 c
def DI (L1:Int->ABh Bool) (a:AK) (f:List Int) (b:AB) (c:Int):Nat->Int->Int->ABh Bool
|0,_,_=>none
|n+1,j,i=>L2 L1 a f b c (DI L1 a f b c n) j i
def J4 (L1:Int->ABh Bool) (a:AK) (f:List Int) (b:AB) (c:Int) (q:Bool):ABh Bool:=
if q then
some false
else
DI L1 a f b c Bg 0 0
def J3 (L1:Int->ABh Bool) (d e:Bool) (a:AK) (b:AB) (c:Int) (f:List Int):ABh Bool:=
if decide ((f.length:Int)>0)then
if c==0 then
J4 L1 a f b c (!d)
else
if c==1 then
J4 L1 a f b c (!e)
else
none
else
J4 L1 a f b c false
def L1 (d e:Bool) (a:AK) (b:AB) (L1:Int->ABh Bool) (c:Int):ABh Bool:=
if decide (c<2)then
if c==0 then
J3 L1 d e a b c a.EI
else
if c==1 then
J3 L1 d e a b c a.Dr
else
none
else
J7
def AZ (d e:Bool) (a:AK) (b:AB):Nat->Int->ABh Bool
|0,_=>none
|n+1,c=>L1 d e a b (AZ d e a b n) c
def J2 (a:AK) (b:AB) (d e:Bool):ABh Bool:=
AZ d e a b Bg 0
def J1 (a:AK) (b:AB) (o:Bool):ABh Bool:=
if a.Kind==5 then
if a.Kind==4 then
J2 a b true true
else
J2 a b true (a.Kind==22)
else
if a.Kind==4 then
J2 a b o true
else
J2 a b o (a.Kind==22)
end Aa
section
open Aa
def Aa (p:AD) (b:AB) (a:AK):ABh Bool:=
if a.Kind==3 then
(gt p.Cells a.Obj).bind λt=>
J1 a b (t.CG != 0)
else
if a.Kind==4 then
(gt p.Cells a.Obj).bind λu=>
J1 a b (u.CG != 0)
else
J1 a b false
theorem Ma {p:AD} {b:AB} {a:AK} {r:Bool} (h:Aa p b a=some r):Says Tryz.prog 81 [.agg (Az p),.agg (BH b),.agg (BQ a)] (sb r):=by refine kO mix Tryz.func81 (hn [(3,[23]),(4,[76]),(5,[14,18,25,32,38,42,47,49,78]),(8,[61])] [(1,1),(2,2),(8,3),(10,4)]) ?_;have l1:=λn1 n2 n3 n4:Nat=>A7 λn τ=>∃(d e:Bool) (c:Int),(τ 4=bA 7 (BH b)/\τ 5=bA 7 (BQ a)/\τ 8=bA 2 [sb d,sb e]/\τ 51= .agg [vS 1 eI a.EI,vS 1 eI a.Dr]/\τ 52=si c)/\AZ d e a b n c=some r;have l2:=λn1 n2 n3 n4:Nat=>A7 λn τ=>∃(d e:Bool) (f:List Int) (c j i:Int),(τ 4=bA 7 (BH b)/\τ 5=bA 7 (BQ a)/\τ 8=bA 2 [sb d,sb e]/\τ 11=si j/\τ 51= .agg [vS 1 eI a.EI,vS 1 eI a.Dr]/\τ 52=si c/\τ 65=vS 1 eI f/\τ 66=si (f.length:Int)/\τ 67=si i)/\DI (AZ d e a b n1) a f b c n j i=some r;have c4:=λn1 n2 n3 n4:Nat=>Bu 4 λτ=>∃(d e:Bool) (f:List Int) (c:Int) (q:Bool),(τ 4=bA 7 (BH b)/\τ 5=bA 7 (BQ a)/\τ 8=bA 2 [sb d,sb e]/\τ 10=vS 1 eI f/\τ 51= .agg [vS 1 eI a.EI,vS 1 eI a.Dr]/\τ 52=si c/\τ 64=sb q)/\J4 (AZ d e a b n1) a f b c q=some r;have c3:=λn1 n2 n3 n4:Nat=>Bu 3 λτ=>∃(d e:Bool) (c:Int) (f:List Int),(τ 4=bA 7 (BH b)/\τ 5=bA 7 (BQ a)/\τ 8=bA 2 [sb d,sb e]/\τ 9=si c/\τ 10=vS 1 eI f/\τ 51= .agg [vS 1 eI a.EI,vS 1 eI a.Dr]/\τ 52=si c)/\J3 (AZ d e a b n1) d e a b c f=some r;have c2:=λn1 n2 n3 n4:Nat=>Bu 2 λτ=>∃(d e:Bool),(τ 4=bA 7 (BH b)/\τ 5=bA 7 (BQ a)/\τ 8=bA 2 [sb d,sb e])/\J2 a b d e=some r;have c1:=λn1 n2 n3 n4:Nat=>Bu 1 λτ=>∃(o:Bool),(τ 4=bA 7 (BH b)/\τ 5=bA 7 (BQ a)/\τ 7=sb o)/\J1 a b o=some r;unfold Aa at h;exact walk
end
namespace A3
def RX (a:AK):ABh Bool:=
some (a.Value==0)
def J1 (q:Bool):ABh Bool:=
some q
def J6 (s:Bool):ABh Bool:=
some s
def J5 (a:AK) (v:Int) (z:Bool):ABh Bool:=
if z then
J6 true
else
if v==0 then
J6 (a.Value==(-1))
else
J6 false
def J4 (L1:Int->Bool->Int->ABh Bool) (c u:Int) (y:Bool):ABh Bool:=
L1 u y (Aq (c+1))
def J3 (L1:Int->Bool->Int->ABh Bool) (a:AK) (c e:Int) (i t:Bool):ABh Bool:=
if t then
if i then
J4 L1 c (Aq (e+1)) true
else
J4 L1 c (Aq (e+1)) (a.Value==c)
else
J4 L1 c e i
def L1 (a:AK) (b:AB) (L1:Int->Bool->Int->ABh Bool) (e:Int) (i:Bool) (c:Int):ABh Bool:=
if decide (c<(b.Sync.AA.length:Int))then
(gt b.Sync.AA c).bind λl=>
if l.Status==3 then
J3 L1 a c e i (l.DC==a.Obj)
else
J3 L1 a c e i false
else
J5 a e i
def AZ (a:AK) (b:AB):Nat->Int->Bool->Int->ABh Bool
|0,_,_,_=>none
|n+1,e,i,c=>L1 a b (AZ a b n) e i c
def J9 (a:AK) (x:Int):ABh Bool:=
some (a.Value==x)
def J8 (L2:Int->Int->ABh Bool) (d w:Int):ABh Bool:=
L2 w (Aq (d+1))
def J7 (L2:Int->Int->ABh Bool) (d f:Int) (p:Bool):ABh Bool:=
if p then
J8 L2 d (Aq (f+1))
else
J8 L2 d f
def L2 (a:AK) (b:AB) (L2:Int->Int->ABh Bool) (f d:Int):ABh Bool:=
if decide (d<(b.Sync.AA.length:Int))then
(gt b.Sync.AA d).bind λo=>
if o.Status==3 then
J7 L2 d f (o.DC==a.Obj)
else
J7 L2 d f false
else
J9 a f
def DI (a:AK) (b:AB):Nat->Int->Int->ABh Bool
|0,_,_=>none
|n+1,f,d=>L2 a b (DI a b n) f d
def J2 (a:AK) (b:AB) (j:Bool):ABh Bool:=
if j then
some true
else
if a.Kind==18 then
AZ a b Bg 0 false 0
else
if a.Kind==19 then
DI a b Bg 0 0
else
RX a
end A3
section
open A3
def A3 (b:AB) (a:AK):ABh Bool:=
if a.Kind==3 then
(gt b.Cells a.Obj).bind λaa=>
some (a.Value==aa)
else
if a.Kind==23 then
(gt b.AH a.Obj).bind λab=>
some (a.Value==ab)
else
if a.Kind==5 then
if a.Value==0 then
J1 true
else
J1 (a.Value==1)
else
if a.Kind==4 then
J2 a b (a.Kind==4)
else
J2 a b (a.Kind==22)
theorem PT {b:AB} {a:AK} {r:Bool} (h:A3 b a=some r):Says Tryz.prog 82 [.agg (BH b),.agg (BQ a)] (sb r):=by refine kO mix Tryz.func82 (hn [(2,[18,29,51,52,92,93]),(3,[12,16,20,27,31,38,42,66,74,85,106,113,117]),(8,[60,64]),(11,[100,104])] [(9,2)]) ?_;have l1:=λn1 n2 n3 n4:Nat=>A7 λn τ=>∃(e:Int) (i:Bool) (c:Int),(τ 3=bA 7 (BQ a)/\τ 5=si e/\τ 6=sb i/\τ 53=vS 3 Ax b.Sync.AA/\τ 54=si (b.Sync.AA.length:Int)/\τ 55=si c)/\AZ a b n e i c=some r;have l2:=λn1 n2 n3 n4:Nat=>A7 λn τ=>∃(f d:Int),(τ 3=bA 7 (BQ a)/\τ 9=si f/\τ 94=vS 3 Ax b.Sync.AA/\τ 95=si (b.Sync.AA.length:Int)/\τ 96=si d)/\DI a b n f d=some r;have c2:=λn1 n2 n3 n4:Nat=>Bu 2 λτ=>∃(j:Bool),(τ 2=bA 7 (BH b)/\τ 3=bA 7 (BQ a)/\τ 13=si a.Kind/\τ 46=sb j)/\J2 a b j=some r;unfold A3 at h;exact walk
end
namespace AW
def J3 (l:List ABi):ABh ((List ABi)×Bool):=
some (l,true)
def J2 (L1:(List ABi)->Int->ABh ((List ABi)×Bool)) (c:Int) (d:List ABi) (b o:DR):ABh ((List ABi)×Bool):=
L1 (d++[b.Name]) (Aq (c+o.CG))
def L2 (L1:(List ABi)->Int->ABh ((List ABi)×Bool)) (c:Int) (a:List DR) (d:List ABi) (b:DR) (L2:DR->Int->ABh ((List ABi)×Bool)) (e:DR) (f:Int):ABh ((List ABi)×Bool):=
if decide (f<b.CG)then
(gt a (Aq (c+f))).bind λi=>
if !(i.Name.toList==e.Name.toList&&(i.Index==f&&(i.CG==e.CG&&(i.G4==e.G4&&(i.Init==e.Init)))))then
some ([],false)
else
L2 (DR.mk e.Name f e.CG e.G4 e.Init) (Aq (f+1))
else
J2 L1 c d b e
def DI (L1:(List ABi)->Int->ABh ((List ABi)×Bool)) (c:Int) (a:List DR) (d:List ABi) (b:DR):Nat->DR->Int->ABh ((List ABi)×Bool)
|0,_,_=>none
|n+1,e,f=>L2 L1 c a d b (DI L1 c a d b n) e f
def J1 (L1:(List ABi)->Int->ABh ((List ABi)×Bool)) (c:Int) (a:List DR) (d:List ABi) (b:DR) (j:Bool):ABh ((List ABi)×Bool):=
if j then
some ([],false)
else
DI L1 c a d b Bg b 0
def L1 (a:List DR) (L1:(List ABi)->Int->ABh ((List ABi)×Bool)) (d:List ABi) (c:Int):ABh ((List ABi)×Bool):=
if decide (c<(a.length:Int))then
(gt a c).bind λb=>
if Ap (d.length+1) 16=true then
if b.CG==0 then
if b.Index != 0 then
some ([],false)
else
L1 (d++[b.Name]) (Aq (c+1))
else
if decide (b.CG<1)then
J1 L1 c a d b true
else
if decide (b.CG>4)then
J1 L1 c a d b true
else
if b.G4 then
J1 L1 c a d b true
else
J1 L1 c a d b (decide (b.CG>(Aq ((a.length:Int)-c))))
else none
else
J3 d
def AZ (a:List DR):Nat->(List ABi)->Int->ABh ((List ABi)×Bool)
|0,_,_=>none
|n+1,d,c=>L1 a (AZ a n) d c
end AW
section
open AW
def AW (a:List DR):ABh ((List ABi)×Bool):=
AZ a Bg [] 0
theorem OB {a:List DR} {r:(List ABi)×Bool} (h:AW a=some r):Says Tryz.prog 87 [vS 5 Gd a] (.BT [vO 1 eS r.1,sb r.2]):=by refine kO mix Tryz.func87 (hn [(4,[16,70]),(6,[17,21,24,29,33,38,42,50,56,67])] [(15,1)]) ?_;have l1:=λn1 n2 n3 n4:Nat=>A7 λn τ=>∃(d:List ABi) (c:Int),(τ 0=vS 5 Gd a/\τ 4=vO 1 eS d/\τ 5=si c)/\AZ a n d c=some r;have l2:=λn1 n2 n3 n4:Nat=>A7 λn τ=>∃(c:Int) (d:List ABi) (b e:DR) (f:Int),(τ 0=vS 5 Gd a/\τ 4= .own false 1 ((d++[b.Name]).map eS)/\τ 5=si c/\τ 6=bA 5 (Gd e)/\τ 51=si b.CG/\τ 52=si f)/\DI (AZ a n1) c a d b n e f=some r;have c1:=λn1 n2 n3 n4:Nat=>Bu 1 λτ=>∃(c:Int) (d:List ABi) (b:DR) (j:Bool),(τ 0=vS 5 Gd a/\τ 4= .own false 1 ((d++[b.Name]).map eS)/\τ 5=si c/\τ 6=bA 5 (Gd b)/\τ 49=sb j)/\J1 (AZ a n1) c a d b j=some r;unfold AW at h;exact walk
end
namespace A9
def J6:ABh Bool:=
some true
def J5 (L1:Int->ABh Bool) (b:Int):ABh Bool:=
L1 (Aq (b+1))
def J4 (L1:Int->ABh Bool) (b:Int) (a:AP) (c:AF) (i:Bool):ABh Bool:=
if i then
some false
else
(gt a.World.Af c.DC).bind λl=>
(gt a.Init.Sync.AG l.Mutex).bind λo=>
if o.CS==b then
some false
else
J5 L1 b
def J3 (L1:Int->ABh Bool) (b:Int) (a:AP) (c:AF) (f:Bool):ABh Bool:=
if f then
if c.DC != 0 then
some false
else
J5 L1 b
else
if decide (c.DC<0)then
J4 L1 b a c true
else
J4 L1 b a c (decide (c.DC≥(a.World.Af.length:Int)))
def J2 (L1:Int->ABh Bool) (b:Int) (a:AP) (c:AF) (d:Bool):ABh Bool:=
(gt a.Init.Count b).bind λj=>
if !((j==0)==d)then
some false
else
if c.Status != 3 then
J3 L1 b a c (c.Status != 4)
else
J3 L1 b a c false
def J1 (L1:Int->ABh Bool) (b:Int) (a:AP) (c:AF) (e:Bool):ABh Bool:=
if e then
some false
else
if c.Status==0 then
J2 L1 b a c true
else
J2 L1 b a c (c.Status==1)
def L1 (a:AP) (L1:Int->ABh Bool) (b:Int):ABh Bool:=
if decide (b<(a.Init.Sync.AA.length:Int))then
(gt a.Init.Sync.AA b).bind λc=>
if decide (c.Status<0)then
J1 L1 b a c true
else
if decide (c.Status>5)then
J1 L1 b a c true
else
if b==0 then
J1 L1 b a c (c.Status==0)
else
J1 L1 b a c false
else
J6
def AZ (a:AP):Nat->Int->ABh Bool
|0,_=>none
|n+1,b=>L1 a (AZ a n) b
end A9
section
open A9
def A9 (a:AP):ABh Bool:=
AZ a Bg 0
theorem Nh {a:AP} {r:Bool} (h:A9 a=some r):Says Tryz.prog 42 [.agg (BW a)] (sb r):=by refine kO mix Tryz.func42 (hn [(1,[6,7,8,41,42,67,68,73,74,75,77,78]),(4,[16,20,28,33,37,50,54,58,61,65,80])] [(8,1),(10,2),(15,3)]) ?_;have l1:=λn1 n2 n3 n4:Nat=>A7 λn τ=>∃(b:Int),(τ 1=bA 15 (BW a)/\τ 9=vS 3 Ax a.Init.Sync.AA/\τ 10=si (a.Init.Sync.AA.length:Int)/\τ 11=si b)/\AZ a n b=some r;have c3:=λn1 n2 n3 n4:Nat=>Bu 3 λτ=>∃(b:Int) (c:AF) (f:Bool),(τ 1=bA 15 (BW a)/\τ 3=si b/\τ 4=bA 3 (Ax c)/\τ 9=vS 3 Ax a.Init.Sync.AA/\τ 10=si (a.Init.Sync.AA.length:Int)/\τ 11=si b/\τ 57=sb f)/\J3 (AZ a n1) b a c f=some r;have c2:=λn1 n2 n3 n4:Nat=>Bu 2 λτ=>∃(b:Int) (c:AF) (d:Bool),(τ 1=bA 15 (BW a)/\τ 3=si b/\τ 4=bA 3 (Ax c)/\τ 5=sb d/\τ 9=vS 3 Ax a.Init.Sync.AA/\τ 10=si (a.Init.Sync.AA.length:Int)/\τ 11=si b)/\J2 (AZ a n1) b a c d=some r;have c1:=λn1 n2 n3 n4:Nat=>Bu 1 λτ=>∃(b:Int) (c:AF) (e:Bool),(τ 1=bA 15 (BW a)/\τ 3=si b/\τ 4=bA 3 (Ax c)/\τ 9=vS 3 Ax a.Init.Sync.AA/\τ 10=si (a.Init.Sync.AA.length:Int)/\τ 11=si b/\τ 32=sb e)/\J1 (AZ a n1) b a c e=some r;unfold A9 at h;exact walk
end
namespace Cv
def J1 (q:List DS) (p:Int):ABh ((List DS)×Int):=
some (q,p)
def L1 (R100:(List DS)->Int->Int->(List AR)->ABh ((List DS)×Int)) (b:List AR) (a:Int) (L1:(List DS)->Int->Int->ABh ((List DS)×Int)) (e:List DS) (d c:Int):ABh ((List DS)×Int):=
if decide (c<(b.length:Int))then
(gt b c).bind λj=>
if Ap (e.length+1) 24=true then
(R100 (e++[(DS.mk a d j.E8)]) a (Aq (d+1)) j.Body).bind λl=>
(R100 l.1 a l.2 j.Else).bind λo=>
L1 o.1 o.2 (Aq (c+1))
else none
else
J1 e d
def AZ (R100:(List DS)->Int->Int->(List AR)->ABh ((List DS)×Int)) (b:List AR) (a:Int):Nat->(List DS)->Int->Int->ABh ((List DS)×Int)
|0,_,_,_=>none
|n+1,e,d,c=>L1 R100 b a (AZ R100 b a n) e d c
end Cv
section
open Cv
def Cv (R100:(List DS)->Int->Int->(List AR)->ABh ((List DS)×Int)) (i:List DS) (a f:Int) (b:List AR):ABh ((List DS)×Int):=
AZ R100 b a Bg i f 0
theorem XM {R100:(List DS)->Int->Int->(List AR)->ABh ((List DS)×Int)} (H100:∀{x0 x1 x2 x3 r},R100 x0 x1 x2 x3=some r->Says Tryz.prog 113 [vO 3 GF x0,si x1,si x2,vS 11 A6 x3] (.BT [vO 3 GF r.1,si r.2])) {i:List DS} {a f:Int} {b:List AR} {r:(List DS)×Int} (h:Cv R100 i a f b=some r):Says Tryz.prog 113 [vO 3 GF i,si a,si f,vS 11 A6 b] (.BT [vO 3 GF r.1,si r.2]):=by refine kO mix Tryz.func113 (hn [(0,[17,31,43,54]),(2,[19,28,33,45,55]),(39,[30,40,41]),(51,[42,52,53])]) ?_;have a1:= @H100;have l1:=λn1 n2 n3 n4:Nat=>A7 λn τ=>∃(e:List DS) (d c:Int),(τ 0=vO 3 GF e/\τ 1=si a/\τ 2=si d/\τ 3=vS 11 A6 b/\τ 10=si c)/\AZ R100 b a n e d c=some r;unfold Cv at h;exact walk
end
def S4:Nat->((List DS)->Int->Int->(List AR)->ABh ((List DS)×Int))
|0=>(λ_ _ _ _=>none)
|n+1=>Cv ((S4 n))
def GC (n:Nat):(List DS)->Int->Int->(List AR)->ABh ((List DS)×Int):=(S4 n)
theorem VE (n:Nat):(∀{x0 x1 x2 x3 r},(GC n) x0 x1 x2 x3=some r->Says Tryz.prog 113 [.own false 3 (x0.map GF),si x1,si x2,.sl false 11 (x3.map A6)] (.BT [.own false 3 (r.1.map GF),si r.2])):=by
  induction n with
  |zero=>exactλh=>Dm h
  |succ n ih=>exactλh=>XM ih h
theorem VF {n:Nat}:∀{x0 x1 x2 x3 r},(GC n) x0 x1 x2 x3=some r->Says Tryz.prog 113 [.own false 3 (x0.map GF),si x1,si x2,.sl false 11 (x3.map A6)] (.BT [.own false 3 (r.1.map GF),si r.2]):=(VE n)
namespace CP
def J4 (o:AQ):ABh AQ:=
some o
def J3 (L3:AQ->Int->ABh AQ) (c:Int) (b:AQ) (p:AF):ABh AQ:=
if Ap (b.AA.length+1) 24=true then
L3 (AQ.mk b.AG b.Tx b.B4 (b.AA++[p])) (Aq (c+1))
else none
def L3 (a:AD) (L3:AQ->Int->ABh AQ) (b:AQ) (c:Int):ABh AQ:=
if decide (c<(a.AA.length:Int))then
if c==0 then
J3 L3 c b (AF.mk 1 0 false)
else
J3 L3 c b (AF.mk 0 0 false)
else
J4 b
def GL (a:AD):Nat->AQ->Int->ABh AQ
|0,_,_=>none
|n+1,b,c=>L3 a (GL a n) b c
def J2 (a:AD) (l:AQ):ABh AQ:=
GL a Bg l 0
def L2 (a:AD) (L2:AQ->Int->ABh AQ) (e:AQ) (i:Int):ABh AQ:=
if decide (i<(a.AH.length:Int))then
if Ap (e.B4.length+1) 1=true then
L2 (AQ.mk e.AG e.Tx (e.B4++[false]) e.AA) (Aq (i+1))
else none
else
J2 a e
def DI (a:AD):Nat->AQ->Int->ABh AQ
|0,_,_=>none
|n+1,e,i=>L2 a (DI a n) e i
def J1 (a:AD) (j:AQ):ABh AQ:=
DI a Bg j 0
def L1 (a:AD) (L1:AQ->Int->ABh AQ) (d:AQ) (f:Int):ABh AQ:=
if decide (f<(a.AG.length:Int))then
if Ap (d.AG.length+1) 32=true then
L1 (AQ.mk (d.AG++[(AX.mk (-1) [])]) d.Tx d.B4 d.AA) (Aq (f+1))
else none
else
J1 a d
def AZ (a:AD):Nat->AQ->Int->ABh AQ
|0,_,_=>none
|n+1,d,f=>L1 a (AZ a n) d f
end CP
section
open CP
def CP (a:AD):ABh AQ:=
AZ a Bg (AQ.mk [] (-1) [] []) 0
theorem PH {a:AD} {r:AQ} (h:CP a=some r):Says Tryz.prog 86 [.agg (Az a)] (.agg (HO r)):=by refine kO mix Tryz.func86 (hn [(1,[10,23,35]),(3,[16,17,21,29,30,33,45,46,50,51]),(7,[44])]) ?_;have l3:=λn1 n2 n3 n4:Nat=>A7 λn τ=>∃(b:AQ) (c:Int),(τ 1=bA 6 (Az a)/\τ 2=bA 4 z3/\τ 3=bA 4 (HO b)/\τ 6=si c)/\GL a n b c=some r;have l2:=λn1 n2 n3 n4:Nat=>A7 λn τ=>∃(e:AQ) (i:Int),(τ 1=bA 6 (Az a)/\τ 2=bA 4 z3/\τ 3=bA 4 (HO e)/\τ 5=si i)/\DI a n e i=some r;have l1:=λn1 n2 n3 n4:Nat=>A7 λn τ=>∃(d:AQ) (f:Int),(τ 1=bA 6 (Az a)/\τ 2=bA 4 z3/\τ 3=bA 4 (HO d)/\τ 4=si f)/\AZ a n d f=some r;unfold CP at h;exact walk
end
namespace DX
def J5:ABh Bool:=
some true
def J4 (L1:Int->ABh Bool) (a:Int):ABh Bool:=
L1 (Aq (a+1))
def J3 (L1:Int->ABh Bool) (a:Int) (s:Bool):ABh Bool:=
if !s then
some false
else
J4 L1 a
def J2 (L2:Int->Bool->Int->ABh Bool) (f o:Int) (q:Bool):ABh Bool:=
L2 o q (Aq (f+1))
def J1 (L2:Int->Bool->Int->ABh Bool) (f i:Int) (p:Bool):ABh Bool:=
J2 L2 f (Aq (i+1)) p
def L2 (L1:Int->ABh Bool) (c a:Int) (d:List AK) (b:List Int) (e:Int) (L2:Int->Bool->Int->ABh Bool) (i:Int) (j:Bool) (f:Int):ABh Bool:=
if decide (f<c)then
(gt d f).bind λl=>
if l.Thread != e then
J2 L2 f i j
else
if j then
J1 L2 f i true
else
(gt b a).bind λt=>
if i==t then
if l.Kind==3 then
J1 L2 f i true
else
J1 L2 f i (l.Kind==23)
else
J1 L2 f i false
else
J3 L1 a j
def DI (L1:Int->ABh Bool) (c a:Int) (d:List AK) (b:List Int) (e:Int):Nat->Int->Bool->Int->ABh Bool
|0,_,_,_=>none
|n+1,i,j,f=>L2 L1 c a d b e (DI L1 c a d b e n) i j f
def L1 (c:Int) (d:List AK) (b:List Int) (e:Int) (L1:Int->ABh Bool) (a:Int):ABh Bool:=
if decide (a<(b.length:Int))then
DI L1 c a d b e Bg 0 false 0
else
J5
def AZ (c:Int) (d:List AK) (b:List Int) (e:Int):Nat->Int->ABh Bool
|0,_=>none
|n+1,a=>L1 c d b e (AZ c d b e n) a
end DX
section
open DX
def DX (d:List AK) (c e:Int) (b:List Int):ABh Bool:=
AZ c d b e Bg 0
theorem XR {d:List AK} {c e:Int} {b:List Int} {r:Bool} (h:DX d c e b=some r):Says Tryz.prog 106 [vS 7 BQ d,si c,si e,vS 1 eI b] (sb r):=by refine kO mix Tryz.func106 hn ?_;have l1:=λn1 n2 n3 n4:Nat=>A7 λn τ=>∃(a:Int),(τ 0=vS 7 BQ d/\τ 1=si c/\τ 2=si e/\τ 3=vS 1 eI b/\τ 9=si a)/\AZ c d b e n a=some r;have l2:=λn1 n2 n3 n4:Nat=>A7 λn τ=>∃(a i:Int) (j:Bool) (f:Int),(τ 0=vS 7 BQ d/\τ 1=si c/\τ 2=si e/\τ 3=vS 1 eI b/\τ 9=si a/\τ 10=si i/\τ 11=sb j/\τ 12=si f)/\DI (AZ c d b e n1) c a d b e n i j f=some r;unfold DX at h;exact walk
end
namespace Am
def J4:ABh Bool:=
some true
def J3 (L1:Int->ABh Bool) (b:Int):ABh Bool:=
L1 (Aq (b+1))
def J2 (L2:Int->ABh Bool) (e:Int) (i:Bool):ABh Bool:=
if i then
some false
else
L2 (Aq (e+1))
def L2 (L1:Int->ABh Bool) (d:List Int) (a:List Bool) (b:Int) (L2:Int->ABh Bool) (e:Int):ABh Bool:=
if decide (e<(d.length:Int))then
(gt d e).bind λf=>
if decide (f<0)then
J2 L2 e true
else
if decide (f≥(a.length:Int))then
J2 L2 e true
else
(gt a f).bind λj=>
J2 L2 e (!j)
else
J3 L1 b
def DI (L1:Int->ABh Bool) (d:List Int) (a:List Bool) (b:Int):Nat->Int->ABh Bool
|0,_=>none
|n+1,e=>L2 L1 d a b (DI L1 d a b n) e
def J1 (L1:Int->ABh Bool) (a:List Bool) (b:Int) (d:List Int):ABh Bool:=
DI L1 d a b Bg 0
def L1 (c:AK) (a:List Bool) (L1:Int->ABh Bool) (b:Int):ABh Bool:=
if decide (b<2)then
if b==0 then
J1 L1 a b c.EI
else
if b==1 then
J1 L1 a b c.Dr
else
none
else
J4
def AZ (c:AK) (a:List Bool):Nat->Int->ABh Bool
|0,_=>none
|n+1,b=>L1 c a (AZ c a n) b
end Am
section
open Am
def Am (a:List Bool) (c:AK):ABh Bool:=
AZ c a Bg 0
theorem Nc {a:List Bool} {c:AK} {r:Bool} (h:Am a c=some r):Says Tryz.prog 67 [vS 1 eB a,.agg (BQ c)] (sb r):=by refine kO mix Tryz.func67 (hn [(3,[9,11])] [(6,1)]) ?_;have l1:=λn1 n2 n3 n4:Nat=>A7 λn τ=>∃(b:Int),(τ 0=vS 1 eB a/\τ 13= .agg [vS 1 eI c.EI,vS 1 eI c.Dr]/\τ 14=si b)/\AZ c a n b=some r;have l2:=λn1 n2 n3 n4:Nat=>A7 λn τ=>∃(d:List Int) (b e:Int),(τ 0=vS 1 eB a/\τ 13= .agg [vS 1 eI c.EI,vS 1 eI c.Dr]/\τ 14=si b/\τ 17=vS 1 eI d/\τ 18=si (d.length:Int)/\τ 19=si e)/\DI (AZ c a n1) d a b n e=some r;have c1:=λn1 n2 n3 n4:Nat=>Bu 1 λτ=>∃(b:Int) (d:List Int),(τ 0=vS 1 eB a/\τ 6=vS 1 eI d/\τ 13= .agg [vS 1 eI c.EI,vS 1 eI c.Dr]/\τ 14=si b)/\J1 (AZ c a n1) a b d=some r;unfold Am at h;exact walk
end
namespace E7
def J1 (i f:Int):ABh (Int×Int):=
some (i,Aq (f+1))
def L1 (R100:BA->ABh (Int×Int)) (a:BA) (L1:Int->Int->Int->ABh (Int×Int)) (d b c:Int):ABh (Int×Int):=
if decide (c<(a.L.length:Int))then
(gt a.L c).bind λj=>
(R100 j).bind λe=>
L1 (Aq (d+e.1)) (if e.2>b then e.2 else b) (Aq (c+1))
else
J1 d b
def AZ (R100:BA->ABh (Int×Int)) (a:BA):Nat->Int->Int->Int->ABh (Int×Int)
|0,_,_,_=>none
|n+1,d,b,c=>L1 R100 a (AZ R100 a n) d b c
end E7
section
open E7
def E7 (R100:BA->ABh (Int×Int)) (a:BA):ABh (Int×Int):=
AZ R100 a Bg 1 0 0
theorem XD {R100:BA->ABh (Int×Int)} (H100:∀{x0 r},R100 x0=some r->Says Tryz.prog 201 [.agg [si x0.Op,si x0.N,BZ x0.Name,vS 4 BC x0.L]] (.BT [si r.1,si r.2])) {a:BA} {r:Int×Int} (h:E7 R100 a=some r):Says Tryz.prog 201 [.agg [si a.Op,si a.N,BZ a.Name,vS 4 BC a.L]] (.BT [si r.1,si r.2]):=by refine kO mix Tryz.func201 (hn [(1,[10,17])]) ?_;have a1:= @H100;have l1:=λn1 n2 n3 n4:Nat=>A7 λn τ=>∃(d b c:Int),(τ 1=bA 4 [si a.Op,si a.N,BZ a.Name,vS 4 BC a.L]/\τ 4=si d/\τ 5=si b/\τ 6=si c)/\AZ R100 a n d b c=some r;unfold E7 at h;exact walk
end
def Ss:Nat->(BA->ABh (Int×Int))
|0=>(λ_=>none)
|n+1=>E7 ((Ss n))
def Ja (n:Nat):BA->ABh (Int×Int):=(Ss n)
theorem U8 (n:Nat):(∀{x0 r},(Ja n) x0=some r->Says Tryz.prog 201 [.agg [si x0.Op,si x0.N,BZ x0.Name,.sl false 4 (x0.L.map BC)]] (.BT [si r.1,si r.2])):=by
  induction n with
  |zero=>exactλh=>Dm h
  |succ n ih=>exactλh=>XD ih h
theorem U9 {n:Nat}:∀{x0 r},(Ja n) x0=some r->Says Tryz.prog 201 [.agg [si x0.Op,si x0.N,BZ x0.Name,.sl false 4 (x0.L.map BC)]] (.BT [si r.1,si r.2]):=(U8 n)
namespace Dn
def J2 (f:AQ):ABh AQ:=
some f
def J1 (d:AQ):ABh AQ:=
if decide ((d.AA.length:Int)>0)then
(gt d.AA 0).bind λe=>
J2 (AQ.mk d.AG d.Tx d.B4 (d.AA.set 0 (AF.mk 1 e.DC e.Atomic)))
else
J2 d
def L1 (a:AD) (L1:AQ->Int->ABh AQ) (b:AQ) (c:Int):ABh AQ:=
if decide (c<((List.replicate a.AG.length (AX.mk 0 [])).length:Int))then
(gt b.AG c).bind λi=>
L1 (AQ.mk (b.AG.set c.toNat (AX.mk (-1) i.Aj)) b.Tx b.B4 b.AA) (Aq (c+1))
else
J1 b
def AZ (a:AD):Nat->AQ->Int->ABh AQ
|0,_,_=>none
|n+1,b,c=>L1 a (AZ a n) b c
end Dn
section
open Dn
def Dn (a:AD):ABh AQ:=
if 0≤(a.AG.length:Int)/\(a.AG.length:Int)≤(a.AG.length:Int)/\Ap a.AG.length 32=true then
if 0≤(a.AH.length:Int)/\(a.AH.length:Int)≤(a.AH.length:Int)/\Ap a.AH.length 1=true then
if 0≤(a.AA.length:Int)/\(a.AA.length:Int)≤(a.AA.length:Int)/\Ap a.AA.length 24=true then
AZ a Bg (AQ.mk (List.replicate a.AG.length (AX.mk 0 [])) (-1) (List.replicate a.AH.length false) (List.replicate a.AA.length (AF.mk 0 0 false))) 0
else none
else none
else none
theorem Ux {a:AD} {r:AQ} (h:Dn a=some r):Says Tryz.prog 68 [.agg (Az a)] (.agg (HO r)):=by refine kO mix Tryz.func68 (hn [(1,[5,9,13]),(3,[18,19,24,25,27,28,30,31,34,35,36,37,38])]) ?_;have l1:=λn1 n2 n3 n4:Nat=>A7 λn τ=>∃(b:AQ) (c:Int),(τ 2=bA 4 z3/\τ 3=bA 4 (HO b)/\τ 20=si ((List.replicate a.AG.length (AX.mk 0 [])).length:Int)/\τ 21=si c)/\AZ a n b c=some r;unfold Dn at h;exact walk
end
namespace Cu
def J1 (e:Int):ABh Int:=
some e
def L1 (R100:(List AR)->ABh Int) (a:List AR) (L1:Int->Int->ABh Int) (c b:Int):ABh Int:=
if decide (b<(a.length:Int))then
(gt a b).bind λd=>
(R100 d.Body).bind λf=>
(R100 d.Else).bind λi=>
L1 (Aq ((Aq (c+f))+i)) (Aq (b+1))
else
J1 c
def AZ (R100:(List AR)->ABh Int) (a:List AR):Nat->Int->Int->ABh Int
|0,_,_=>none
|n+1,c,b=>L1 R100 a (AZ R100 a n) c b
end Cu
section
open Cu
def Cu (R100:(List AR)->ABh Int) (a:List AR):ABh Int:=
AZ R100 a Bg (a.length:Int) 0
theorem XC {R100:(List AR)->ABh Int} (H100:∀{x0 r},R100 x0=some r->Says Tryz.prog 110 [vS 11 A6 x0] (si r)) {a:List AR} {r:Int} (h:Cu R100 a=some r):Says Tryz.prog 110 [vS 11 A6 a] (si r):=by refine kO mix Tryz.func110 hn ?_;have a1:= @H100;have l1:=λn1 n2 n3 n4:Nat=>A7 λn τ=>∃(c b:Int),(τ 0=vS 11 A6 a/\τ 3=si c/\τ 4=si b)/\AZ R100 a n c b=some r;unfold Cu at h;exact walk
end
def Sr:Nat->((List AR)->ABh Int)
|0=>(λ_=>none)
|n+1=>Cu ((Sr n))
def GA (n:Nat):(List AR)->ABh Int:=(Sr n)
theorem U5 (n:Nat):(∀{x0 r},(GA n) x0=some r->Says Tryz.prog 110 [.sl false 11 (x0.map A6)] (si r)):=by
  induction n with
  |zero=>exactλh=>Dm h
  |succ n ih=>exactλh=>XC ih h
theorem U6 {n:Nat}:∀{x0 r},(GA n) x0=some r->Says Tryz.prog 110 [.sl false 11 (x0.map A6)] (si r):=(U5 n)
namespace ET
def J3 (c:Int) (a:List Int) (b:Int) (f:Bool):ABh (List Int):=
if f then
some a
else
if 0≤c/\c.toNat≤a.length then
if Ap ((a.take c.toNat).length) 8=true then
if Ap ((a.take c.toNat).length+1) 8=true then
if 0≤c/\c.toNat≤a.length then
if Ap (((a.take c.toNat)++[b]).length+((a.drop c.toNat).take (a.length-c.toNat)).length) 8=true then
some (((a.take c.toNat)++[b])++((a.drop c.toNat).take (a.length-c.toNat)))
else none
else none
else none
else none
else none
def J2 (a:List Int) (b c:Int):ABh (List Int):=
if decide (c<(a.length:Int))then
(gt a c).bind λj=>
J3 c a b (j==b)
else
J3 c a b false
def J1 (L1:Int->ABh (List Int)) (d:Int) (a:List Int) (b:Int) (e:Bool):ABh (List Int):=
if e then
L1 (Aq (d+1))
else
J2 a b d
def L1 (a:List Int) (b:Int) (L1:Int->ABh (List Int)) (d:Int):ABh (List Int):=
if decide (d<(a.length:Int))then
(gt a d).bind λi=>
J1 L1 d a b (decide (i<b))
else
J1 L1 d a b false
def AZ (a:List Int) (b:Int):Nat->Int->ABh (List Int)
|0,_=>none
|n+1,d=>L1 a b (AZ a b n) d
end ET
section
open ET
def ET (a:List Int) (b:Int):ABh (List Int):=
AZ a b Bg 0
theorem aC {a:List Int} {b:Int} {r:List Int} (h:ET a b=some r):Says Tryz.prog 174 [vO 1 eI a,si b] (vO 1 eI r):=by refine kO mix Tryz.func174 (hn [(0,[8,12,14,22,26,28,33,35,44]),(6,[39,43])]) ?_;have l1:=λn1 n2 n3 n4:Nat=>A7 λn τ=>∃(d:Int),(τ 0=vO 1 eI a/\τ 1=si b/\τ 5=si d)/\AZ a b n d=some r;unfold ET at h;exact walk
end
namespace BX
def J2 (a:BI):ABh (Bool×BI):=
some (false,a)
def J1 (L1:Int->ABh (Bool×BI)) (b:Int) (a:BI) (i:Bool):ABh (Bool×BI):=
if i then
some (true,a)
else
L1 (Aq (b+1))
def L1 (d e:Int) (c:ABi) (a:BI) (L1:Int->ABh (Bool×BI)) (b:Int):ABh (Bool×BI):=
if decide (b<(a.Fi.length:Int))then
(gt a.Fi b).bind λf=>
if f.Op==d then
if c.toList==(⟨#[]⟩:ABi).toList then
J1 L1 b a true
else
J1 L1 b a (f.Name.toList==c.toList)
else
if f.Op==e then
if c.toList==(⟨#[]⟩:ABi).toList then
J1 L1 b a true
else
J1 L1 b a (f.Name.toList==c.toList)
else
J1 L1 b a false
else
J2 a
def AZ (d e:Int) (c:ABi) (a:BI):Nat->Int->ABh (Bool×BI)
|0,_=>none
|n+1,b=>L1 d e c a (AZ d e c a n) b
end BX
section
open BX
def BX (a:BI) (d e:Int) (c:ABi):ABh (Bool×BI):=
AZ d e c a Bg 0
theorem O9 {a:BI} {d e:Int} {c:ABi} {r:Bool×BI} (h:BX a d e c=some r):BM Tryz.prog 176 [bA 6 (Gv a),si d,si e,BZ c] (sb r.1) [bA 6 (Gv r.2),.dead,.dead,.dead]:=by refine kL mix Tryz.func176 (hn [(0,[12,13,14,15,20,21,22,23,25,26]),(10,[27,32,41])]) ?_;have l1:=λn1 n2 n3 n4:Nat=>A7 λn τ=>∃(b:Int),(τ 0=bA 6 (Gv a)/\τ 1=si d/\τ 2=si e/\τ 3=BZ c/\τ 9=si b)/\AZ d e c a n b=some r;unfold BX at h;exact walk
end
namespace EW
def J3 (f:List BJ):ABh (List BJ):=
some f
def J2 (L1:(List BJ)->Int->ABh (List BJ)) (b:Int) (c:List BJ) (e:BJ):ABh (List BJ):=
if Ap (c.length+1) 16=true then
L1 (c++[e]) (Aq (b+1))
else none
def J1 (L1:(List BJ)->Int->ABh (List BJ)) (b:Int) (a:List AK) (c:List BJ) (d:AK) (i:Bool):ABh (List BJ):=
if i then
(gt a b).bind λj=>
J2 L1 b c (BJ.mk d.Thread j.Value)
else
J2 L1 b c (BJ.mk d.Thread (-1))
def L1 (a:List AK) (L1:(List BJ)->Int->ABh (List BJ)) (c:List BJ) (b:Int):ABh (List BJ):=
if decide (b<(a.length:Int))then
(gt a b).bind λd=>
if d.Kind==18 then
if decide (d.Value≥0)then
J1 L1 b a c d (decide (d.Value<4))
else
J1 L1 b a c d false
else
J1 L1 b a c d false
else
J3 c
def AZ (a:List AK):Nat->(List BJ)->Int->ABh (List BJ)
|0,_,_=>none
|n+1,c,b=>L1 a (AZ a n) c b
end EW
section
open EW
def EW (a:List AK):ABh (List BJ):=
AZ a Bg [] 0
theorem T0 {a:List AK} {r:List BJ} (h:EW a=some r):Says Tryz.prog 13 [vS 7 BQ a] (vO 2 Hc r):=by refine kO mix Tryz.func13 (hn [(3,[46,50]),(5,[45])]) ?_;have l1:=λn1 n2 n3 n4:Nat=>A7 λn τ=>∃(c:List BJ) (b:Int),(τ 0=vS 7 BQ a/\τ 3=vO 2 Hc c/\τ 4=si b)/\AZ a n c b=some r;unfold EW at h;exact walk
end
namespace CW
def J3:ABh Bool:=
some true
def J2 (L1:Int->Int->Int->ABh Bool) (b:Int) (d:DS) (j f:Int):ABh Bool:=
if d.Stmt != f then
some false
else
L1 j (Aq (f+1)) (Aq (b+1))
def J1 (L1:Int->Int->Int->ABh Bool) (e b c:Int) (d:DS) (i:Bool):ABh Bool:=
if i then
some false
else
if decide (d.Thread>c)then
J2 L1 b d d.Thread 0
else
J2 L1 b d c e
def L1 (a:AD) (L1:Int->Int->Int->ABh Bool) (c e b:Int):ABh Bool:=
if decide (b<(a.BL.length:Int))then
(gt a.BL b).bind λd=>
if decide (d.Thread<c)then
J1 L1 e b c d true
else
J1 L1 e b c d (decide (d.Thread≥(a.AA.length:Int)))
else
J3
def AZ (a:AD):Nat->Int->Int->Int->ABh Bool
|0,_,_,_=>none
|n+1,c,e,b=>L1 a (AZ a n) c e b
end CW
section
open CW
def CW (a:AD):ABh Bool:=
AZ a Bg 0 0 0
theorem OD {a:AD} {r:Bool} (h:CW a=some r):Says Tryz.prog 90 [.agg (Az a)] (sb r):=by refine kO mix Tryz.func90 (hn [(1,[7,21]),(6,[14,19,26,30,32])]) ?_;have l1:=λn1 n2 n3 n4:Nat=>A7 λn τ=>∃(c e b:Int),(τ 1=bA 6 (Az a)/\τ 3=si c/\τ 4=si e/\τ 8=vS 3 GF a.BL/\τ 9=si (a.BL.length:Int)/\τ 10=si b)/\AZ a n c e b=some r;unfold CW at h;exact walk
end
namespace AY
def J3 (a:Ac) (d:Bool):ABh (List Int):=
if d then
some [a.B]
else
if a.Op==9 then
some [a.B,a.C]
else
some []
def J2 (a:Ac) (b:Bool):ABh (List Int):=
if b then
some [a.A,a.B]
else
if a.Op==4 then
some [a.A,a.B,a.C]
else
if a.Op==7 then
some [a.A,a.C]
else
if a.Op==8 then
J3 a (a.Op==8)
else
J3 a (a.Op==26)
def J1 (a:Ac) (c:Bool):ABh (List Int):=
if c then
some [a.A]
else
if a.Op==2 then
J2 a (a.Op==2)
else
J2 a (a.Op==3)
end AY
section
open AY
def AY (a:Ac):ABh (List Int):=
if a.Op==1 then
J1 a (a.Op==1)
else
if a.Op==6 then
J1 a (a.Op==6)
else
if a.Op==10 then
J1 a (a.Op==10)
else
J1 a (a.Op==27)
theorem I4 {a:Ac} {r:List Int} (h:AY a=some r):Says Tryz.prog 61 [.agg (EB a)] (vO 1 eI r):=by refine kO mix Tryz.func61 (hn [(1,[3,10,16,18,23,25,27,32,34,40,45,47])] [(3,1),(8,2)]) ?_;have c2:=λn1 n2 n3 n4:Nat=>Bu 2 λτ=>∃(b:Bool),(τ 1=bA 6 (EB a)/\τ 4=si a.Op/\τ 13=sb b)/\J2 a b=some r;have c1:=λn1 n2 n3 n4:Nat=>Bu 1 λτ=>∃(c:Bool),(τ 1=bA 6 (EB a)/\τ 4=si a.Op/\τ 5=sb c)/\J1 a c=some r;unfold AY at h;exact walk
end
end Go.Abs
