/- Typed programs of Go functions, and that the functions do what these say. -/
import Derived.Test.YthmijagacgnmkaaGreatDoorBaseA
set_option linter.unusedSimpArgs false
set_option linter.unusedVariables false
namespace Go.Abs
open Go.Proofs
set_option maxRecDepth 1000000
set_option maxHeartbeats 4000000
namespace BK
def J6 (a:AB) (q:List ABs):ABr ((List ABs)×Bool):=
if Af (q.length+a.AK.length) 16=true then
if Af ((q++a.AK).length+a.AA.length) 16=true then
some ((q++a.AK)++a.AA,true)
else none
else none
def L4 (a:AB) (L4:(List ABs)->Int->ABr ((List ABs)×Bool)) (l:List ABs) (i:Int):ABr ((List ABs)×Bool):=
if decide (i<(a.Ah.length:Int))then
(gt a.Ah i).bind λw=>
if Af (l.length+1) 16=true then
L4 (l++[w.Name]) (Ay (i+1))
else none
else
J6 a l
def L4r (a:AB):Nat->(List ABs)->Int->ABr ((List ABs)×Bool)
|0,_,_=>none
|n+1,l,i=>L4 a (L4r a n) l i
def J5 (a:AB) (t:List ABs):ABr ((List ABs)×Bool):=
L4r a BU t 0
def L3 (a:AB) (L3:(List ABs)->Int->ABr ((List ABs)×Bool)) (j:List ABs) (f:Int):ABr ((List ABs)×Bool):=
if decide (f<(a.AF.length:Int))then
(gt a.AF f).bind λv=>
if Af (j.length+1) 16=true then
L3 (j++[v.Name]) (Ay (f+1))
else none
else
J5 a j
def Hz (a:AB):Nat->(List ABs)->Int->ABr ((List ABs)×Bool)
|0,_,_=>none
|n+1,j,f=>L3 a (Hz a n) j f
def J4 (a:AB) (s:List ABs):ABr ((List ABs)×Bool):=
Hz a BU s 0
def J3 (L1:(List ABs)->Int->ABr ((List ABs)×Bool)) (c:Int) (d:List ABs) (b:DT):ABr ((List ABs)×Bool):=
L1 (d++[b.Name]) (Ay (c+b.B7))
def J2 (L2:Int->ABr ((List ABs)×Bool)) (e:Int) (u:Bool):ABr ((List ABs)×Bool):=
if u then
some ([],false)
else
L2 (Ay (e+1))
def L2 (L1:(List ABs)->Int->ABr ((List ABs)×Bool)) (c:Int) (d:List ABs) (a:AB) (b:DT) (L2:Int->ABr ((List ABs)×Bool)) (e:Int):ABr ((List ABs)×Bool):=
if decide (e<b.B7)then
(gt a.Cells (Ay (c+e))).bind λo=>
if o.Index != e then
J2 L2 e true
else
if !(o.Name.toList==b.Name.toList)then
J2 L2 e true
else
if o.B7 != b.B7 then
J2 L2 e true
else
if o.Init != b.Init then
J2 L2 e true
else
J2 L2 e o.F6
else
J3 L1 c d b
def Cf (L1:(List ABs)->Int->ABr ((List ABs)×Bool)) (c:Int) (d:List ABs) (a:AB) (b:DT):Nat->Int->ABr ((List ABs)×Bool)
|0,_=>none
|n+1,e=>L2 L1 c d a b (Cf L1 c d a b n) e
def J1 (L1:(List ABs)->Int->ABr ((List ABs)×Bool)) (c:Int) (d:List ABs) (a:AB) (b:DT) (p:Bool):ABr ((List ABs)×Bool):=
if p then
some ([],false)
else
Cf L1 c d a b BU 0
def L1 (a:AB) (L1:(List ABs)->Int->ABr ((List ABs)×Bool)) (d:List ABs) (c:Int):ABr ((List ABs)×Bool):=
if decide (c<(a.Cells.length:Int))then
(gt a.Cells c).bind λb=>
if Af (d.length+1) 16=true then
if b.B7==0 then
if b.Index != 0 then
some ([],false)
else
L1 (d++[b.Name]) (Ay (c+1))
else
if decide (b.B7<1)then
J1 L1 c d a b true
else
if decide (b.B7>4)then
J1 L1 c d a b true
else
J1 L1 c d a b (decide (b.B7>(Ay ((a.Cells.length:Int)-c))))
else none
else
J4 a d
def AZ (a:AB):Nat->(List ABs)->Int->ABr ((List ABs)×Bool)
|0,_,_=>none
|n+1,d,c=>L1 a (AZ a n) d c
end BK
section
open BK
def BK (a:AB):ABr ((List ABs)×Bool):=
AZ a BU [] 0
theorem X0 {a:AB} {r:(List ABs)×Bool} (h:BK a=some r):Says Tryz.prog 124 [.agg (Am a)] (.BI [vO 1 eS r.1,sb r.2]):=by refine kO mix Tryz.func124 (hn [(1,[12,16,45,58,99,106,115,122,131,135]),(4,[21,105,121,130,134]),(6,[22,26,29,34,38,43,53,72,79,86,95]),(8,[65,70,77,84,91])] [(15,1)]) ?_;have l4:=λn1 n2 n3 n4:Nat=>A0 λn τ=>∃(l:List ABs) (i:Int),(τ 1=bA 6 (Am a)/\τ 4=vO 1 eS l/\τ 10=si i)/\L4r a n l i=some r;have l3:=λn1 n2 n3 n4:Nat=>A0 λn τ=>∃(j:List ABs) (f:Int),(τ 1=bA 6 (Am a)/\τ 4=vO 1 eS j/\τ 9=si f)/\Hz a n j f=some r;have l1:=λn1 n2 n3 n4:Nat=>A0 λn τ=>∃(d:List ABs) (c:Int),(τ 1=bA 6 (Am a)/\τ 4=vO 1 eS d/\τ 5=si c)/\AZ a n d c=some r;have l2:=λn1 n2 n3 n4:Nat=>A0 λn τ=>∃(c:Int) (d:List ABs) (b:DT) (e:Int),(τ 1=bA 6 (Am a)/\τ 4= .own false 1 ((d++[b.Name]).map eS)/\τ 5=si c/\τ 6=bA 5 (Hj b)/\τ 7=si e)/\Cf (AZ a n1) c d a b n e=some r;have c1:=λn1 n2 n3 n4:Nat=>Bo 1 λτ=>∃(c:Int) (d:List ABs) (b:DT) (p:Bool),(τ 1=bA 6 (Am a)/\τ 4= .own false 1 ((d++[b.Name]).map eS)/\τ 5=si c/\τ 6=bA 5 (Hj b)/\τ 51=sb p)/\J1 (AZ a n1) c d a b p=some r;unfold BK at h;exact walk
end
namespace AX
def J7:ABr Bool:=
some true
def J6 (L1:Int->ABr Bool) (c:Int):ABr Bool:=
L1 (Ay (c+1))
def J5 (L2:Int->Int->ABr Bool) (i l:Int) (s:Bool):ABr Bool:=
if s then
some false
else
L2 l (Ay (i+1))
def L2 (L1:Int->ABr Bool) (a:AE) (f:List Int) (b:AD) (c:Int) (L2:Int->Int->ABr Bool) (j i:Int):ABr Bool:=
if decide (i<(f.length:Int))then
(gt f i).bind λl=>
if decide (l≤j)then
J5 L2 i l true
else
(gt b.Count a.Thread).bind λv=>
J5 L2 i l (decide (l≥v))
else
J6 L1 c
def Cf (L1:Int->ABr Bool) (a:AE) (f:List Int) (b:AD) (c:Int):Nat->Int->Int->ABr Bool
|0,_,_=>none
|n+1,j,i=>L2 L1 a f b c (Cf L1 a f b c n) j i
def J4 (L1:Int->ABr Bool) (a:AE) (f:List Int) (b:AD) (c:Int) (q:Bool):ABr Bool:=
if q then
some false
else
Cf L1 a f b c BU 0 0
def J3 (L1:Int->ABr Bool) (d e:Bool) (a:AE) (b:AD) (c:Int) (f:List Int):ABr Bool:=
if decide ((f.length:Int)>0)then
if c==0 then
J4 L1 a f b c (!d)
else
if c==1 then
J4 L1 a f b c (!e)
else
none
else
J4 L1 a f b c false
def L1 (d e:Bool) (a:AE) (b:AD) (L1:Int->ABr Bool) (c:Int):ABr Bool:=
if decide (c<2)then
if c==0 then
J3 L1 d e a b c a.DE
else
if c==1 then
J3 L1 d e a b c a.C2
else
none
else
J7
def AZ (d e:Bool) (a:AE) (b:AD):Nat->Int->ABr Bool
|0,_=>none
|n+1,c=>L1 d e a b (AZ d e a b n) c
def J2 (a:AE) (b:AD) (d e:Bool):ABr Bool:=
AZ d e a b BU 0
def J1 (a:AE) (b:AD) (o:Bool):ABr Bool:=
if a.Kind==5 then
if a.Kind==4 then
J2 a b true true
else
J2 a b true (a.Kind==22)
else
if a.Kind==4 then
J2 a b o true
else
J2 a b o (a.Kind==22)
end AX
section
open AX
def AX (p:AB) (b:AD) (a:AE):ABr Bool:=
if a.Kind==3 then
(gt p.Cells a.Obj).bind λt=>
J1 a b (t.B7 != 0)
else
if a.Kind==4 then
(gt p.Cells a.Obj).bind λu=>
J1 a b (u.B7 != 0)
else
J1 a b false
theorem M7 {p:AB} {b:AD} {a:AE} {r:Bool} (h:AX p b a=some r):Says Tryz.prog 56 [.agg (Am p),.agg (BH b),.agg (Bi a)] (sb r):=by refine kO mix Tryz.func56 (hn [(3,[23]),(4,[76]),(5,[14,18,25,32,38,42,47,49,78]),(8,[61])] [(1,1),(2,2),(8,3),(10,4)]) ?_;have l1:=λn1 n2 n3 n4:Nat=>A0 λn τ=>∃(d e:Bool) (c:Int),(τ 4=bA 7 (BH b)/\τ 5=bA 7 (Bi a)/\τ 8=bA 2 [sb d,sb e]/\τ 51= .agg [vS 1 eI a.DE,vS 1 eI a.C2]/\τ 52=si c)/\AZ d e a b n c=some r;have l2:=λn1 n2 n3 n4:Nat=>A0 λn τ=>∃(d e:Bool) (f:List Int) (c j i:Int),(τ 4=bA 7 (BH b)/\τ 5=bA 7 (Bi a)/\τ 8=bA 2 [sb d,sb e]/\τ 11=si j/\τ 51= .agg [vS 1 eI a.DE,vS 1 eI a.C2]/\τ 52=si c/\τ 65=vS 1 eI f/\τ 66=si (f.length:Int)/\τ 67=si i)/\Cf (AZ d e a b n1) a f b c n j i=some r;have c4:=λn1 n2 n3 n4:Nat=>Bo 4 λτ=>∃(d e:Bool) (f:List Int) (c:Int) (q:Bool),(τ 4=bA 7 (BH b)/\τ 5=bA 7 (Bi a)/\τ 8=bA 2 [sb d,sb e]/\τ 10=vS 1 eI f/\τ 51= .agg [vS 1 eI a.DE,vS 1 eI a.C2]/\τ 52=si c/\τ 64=sb q)/\J4 (AZ d e a b n1) a f b c q=some r;have c3:=λn1 n2 n3 n4:Nat=>Bo 3 λτ=>∃(d e:Bool) (c:Int) (f:List Int),(τ 4=bA 7 (BH b)/\τ 5=bA 7 (Bi a)/\τ 8=bA 2 [sb d,sb e]/\τ 9=si c/\τ 10=vS 1 eI f/\τ 51= .agg [vS 1 eI a.DE,vS 1 eI a.C2]/\τ 52=si c)/\J3 (AZ d e a b n1) d e a b c f=some r;have c2:=λn1 n2 n3 n4:Nat=>Bo 2 λτ=>∃(d e:Bool),(τ 4=bA 7 (BH b)/\τ 5=bA 7 (Bi a)/\τ 8=bA 2 [sb d,sb e])/\J2 a b d e=some r;have c1:=λn1 n2 n3 n4:Nat=>Bo 1 λτ=>∃(o:Bool),(τ 4=bA 7 (BH b)/\τ 5=bA 7 (Bi a)/\τ 7=sb o)/\J1 a b o=some r;unfold AX at h;exact walk
end
namespace A1
def Rw (a:AE):ABr Bool:=
some (a.Value==0)
def J1 (q:Bool):ABr Bool:=
some q
def J6 (s:Bool):ABr Bool:=
some s
def J5 (a:AE) (v:Int) (z:Bool):ABr Bool:=
if z then
J6 true
else
if v==0 then
J6 (a.Value==(-1))
else
J6 false
def J4 (L1:Int->Bool->Int->ABr Bool) (c u:Int) (y:Bool):ABr Bool:=
L1 u y (Ay (c+1))
def J3 (L1:Int->Bool->Int->ABr Bool) (a:AE) (c e:Int) (i t:Bool):ABr Bool:=
if t then
if i then
J4 L1 c (Ay (e+1)) true
else
J4 L1 c (Ay (e+1)) (a.Value==c)
else
J4 L1 c e i
def L1 (a:AE) (b:AD) (L1:Int->Bool->Int->ABr Bool) (e:Int) (i:Bool) (c:Int):ABr Bool:=
if decide (c<(b.Sync.AA.length:Int))then
(gt b.Sync.AA c).bind λl=>
if l.Status==3 then
J3 L1 a c e i (l.Es==a.Obj)
else
J3 L1 a c e i false
else
J5 a e i
def AZ (a:AE) (b:AD):Nat->Int->Bool->Int->ABr Bool
|0,_,_,_=>none
|n+1,e,i,c=>L1 a b (AZ a b n) e i c
def J9 (a:AE) (x:Int):ABr Bool:=
some (a.Value==x)
def J8 (L2:Int->Int->ABr Bool) (d w:Int):ABr Bool:=
L2 w (Ay (d+1))
def J7 (L2:Int->Int->ABr Bool) (d f:Int) (p:Bool):ABr Bool:=
if p then
J8 L2 d (Ay (f+1))
else
J8 L2 d f
def L2 (a:AE) (b:AD) (L2:Int->Int->ABr Bool) (f d:Int):ABr Bool:=
if decide (d<(b.Sync.AA.length:Int))then
(gt b.Sync.AA d).bind λo=>
if o.Status==3 then
J7 L2 d f (o.Es==a.Obj)
else
J7 L2 d f false
else
J9 a f
def Cf (a:AE) (b:AD):Nat->Int->Int->ABr Bool
|0,_,_=>none
|n+1,f,d=>L2 a b (Cf a b n) f d
def J2 (a:AE) (b:AD) (j:Bool):ABr Bool:=
if j then
some true
else
if a.Kind==18 then
AZ a b BU 0 false 0
else
if a.Kind==19 then
Cf a b BU 0 0
else
Rw a
end A1
section
open A1
def A1 (b:AD) (a:AE):ABr Bool:=
if a.Kind==3 then
(gt b.Cells a.Obj).bind λaa=>
some (a.Value==aa)
else
if a.Kind==23 then
(gt b.AK a.Obj).bind λab=>
some (a.Value==ab)
else
if a.Kind==5 then
if a.Value==0 then
J1 true
else
J1 (a.Value==1)
else
if a.Kind==4 then
J2 a b (a.Kind==4)
else
J2 a b (a.Kind==22)
theorem Pw {b:AD} {a:AE} {r:Bool} (h:A1 b a=some r):Says Tryz.prog 57 [.agg (BH b),.agg (Bi a)] (sb r):=by refine kO mix Tryz.func57 (hn [(2,[18,29,51,52,92,93]),(3,[12,16,20,27,31,38,42,66,74,85,106,113,117]),(8,[60,64]),(11,[100,104])] [(9,2)]) ?_;have l1:=λn1 n2 n3 n4:Nat=>A0 λn τ=>∃(e:Int) (i:Bool) (c:Int),(τ 3=bA 7 (Bi a)/\τ 5=si e/\τ 6=sb i/\τ 53=vS 3 BN b.Sync.AA/\τ 54=si (b.Sync.AA.length:Int)/\τ 55=si c)/\AZ a b n e i c=some r;have l2:=λn1 n2 n3 n4:Nat=>A0 λn τ=>∃(f d:Int),(τ 3=bA 7 (Bi a)/\τ 9=si f/\τ 94=vS 3 BN b.Sync.AA/\τ 95=si (b.Sync.AA.length:Int)/\τ 96=si d)/\Cf a b n f d=some r;have c2:=λn1 n2 n3 n4:Nat=>Bo 2 λτ=>∃(j:Bool),(τ 2=bA 7 (BH b)/\τ 3=bA 7 (Bi a)/\τ 13=si a.Kind/\τ 46=sb j)/\J2 a b j=some r;unfold A1 at h;exact walk
end
namespace AU
def J3 (l:List ABs):ABr ((List ABs)×Bool):=
some (l,true)
def J2 (L1:(List ABs)->Int->ABr ((List ABs)×Bool)) (c:Int) (d:List ABs) (b o:DT):ABr ((List ABs)×Bool):=
L1 (d++[b.Name]) (Ay (c+o.B7))
def L2 (L1:(List ABs)->Int->ABr ((List ABs)×Bool)) (c:Int) (a:List DT) (d:List ABs) (b:DT) (L2:DT->Int->ABr ((List ABs)×Bool)) (e:DT) (f:Int):ABr ((List ABs)×Bool):=
if decide (f<b.B7)then
(gt a (Ay (c+f))).bind λi=>
if !(i.Name.toList==e.Name.toList&&(i.Index==f&&(i.B7==e.B7&&(i.F6==e.F6&&(i.Init==e.Init)))))then
some ([],false)
else
L2 (DT.mk e.Name f e.B7 e.F6 e.Init) (Ay (f+1))
else
J2 L1 c d b e
def Cf (L1:(List ABs)->Int->ABr ((List ABs)×Bool)) (c:Int) (a:List DT) (d:List ABs) (b:DT):Nat->DT->Int->ABr ((List ABs)×Bool)
|0,_,_=>none
|n+1,e,f=>L2 L1 c a d b (Cf L1 c a d b n) e f
def J1 (L1:(List ABs)->Int->ABr ((List ABs)×Bool)) (c:Int) (a:List DT) (d:List ABs) (b:DT) (j:Bool):ABr ((List ABs)×Bool):=
if j then
some ([],false)
else
Cf L1 c a d b BU b 0
def L1 (a:List DT) (L1:(List ABs)->Int->ABr ((List ABs)×Bool)) (d:List ABs) (c:Int):ABr ((List ABs)×Bool):=
if decide (c<(a.length:Int))then
(gt a c).bind λb=>
if Af (d.length+1) 16=true then
if b.B7==0 then
if b.Index != 0 then
some ([],false)
else
L1 (d++[b.Name]) (Ay (c+1))
else
if decide (b.B7<1)then
J1 L1 c a d b true
else
if decide (b.B7>4)then
J1 L1 c a d b true
else
if b.F6 then
J1 L1 c a d b true
else
J1 L1 c a d b (decide (b.B7>(Ay ((a.length:Int)-c))))
else none
else
J3 d
def AZ (a:List DT):Nat->(List ABs)->Int->ABr ((List ABs)×Bool)
|0,_,_=>none
|n+1,d,c=>L1 a (AZ a n) d c
end AU
section
open AU
def AU (a:List DT):ABr ((List ABs)×Bool):=
AZ a BU [] 0
theorem Oa {a:List DT} {r:(List ABs)×Bool} (h:AU a=some r):Says Tryz.prog 120 [vS 5 Hj a] (.BI [vO 1 eS r.1,sb r.2]):=by refine kO mix Tryz.func120 (hn [(4,[16,70]),(6,[17,21,24,29,33,38,42,50,56,67])] [(15,1)]) ?_;have l1:=λn1 n2 n3 n4:Nat=>A0 λn τ=>∃(d:List ABs) (c:Int),(τ 0=vS 5 Hj a/\τ 4=vO 1 eS d/\τ 5=si c)/\AZ a n d c=some r;have l2:=λn1 n2 n3 n4:Nat=>A0 λn τ=>∃(c:Int) (d:List ABs) (b e:DT) (f:Int),(τ 0=vS 5 Hj a/\τ 4= .own false 1 ((d++[b.Name]).map eS)/\τ 5=si c/\τ 6=bA 5 (Hj e)/\τ 51=si b.B7/\τ 52=si f)/\Cf (AZ a n1) c a d b n e f=some r;have c1:=λn1 n2 n3 n4:Nat=>Bo 1 λτ=>∃(c:Int) (d:List ABs) (b:DT) (j:Bool),(τ 0=vS 5 Hj a/\τ 4= .own false 1 ((d++[b.Name]).map eS)/\τ 5=si c/\τ 6=bA 5 (Hj b)/\τ 49=sb j)/\J1 (AZ a n1) c a d b j=some r;unfold AU at h;exact walk
end
namespace Cq
def J1 (q:List Dp) (p:Int):ABr ((List Dp)×Int):=
some (q,p)
def L1 (R100:(List Dp)->Int->Int->(List AP)->ABr ((List Dp)×Int)) (b:List AP) (a:Int) (L1:(List Dp)->Int->Int->ABr ((List Dp)×Int)) (e:List Dp) (d c:Int):ABr ((List Dp)×Int):=
if decide (c<(b.length:Int))then
(gt b c).bind λj=>
if Af (e.length+1) 24=true then
(R100 (e++[(Dp.mk a d j.FG)]) a (Ay (d+1)) j.Body).bind λl=>
(R100 l.1 a l.2 j.Else).bind λo=>
L1 o.1 o.2 (Ay (c+1))
else none
else
J1 e d
def AZ (R100:(List Dp)->Int->Int->(List AP)->ABr ((List Dp)×Int)) (b:List AP) (a:Int):Nat->(List Dp)->Int->Int->ABr ((List Dp)×Int)
|0,_,_,_=>none
|n+1,e,d,c=>L1 R100 b a (AZ R100 b a n) e d c
end Cq
section
open Cq
def Cq (R100:(List Dp)->Int->Int->(List AP)->ABr ((List Dp)×Int)) (i:List Dp) (a f:Int) (b:List AP):ABr ((List Dp)×Int):=
AZ R100 b a BU i f 0
theorem X1 {R100:(List Dp)->Int->Int->(List AP)->ABr ((List Dp)×Int)} (H100:∀{x0 x1 x2 x3 r},R100 x0 x1 x2 x3=some r->Says Tryz.prog 219 [vO 3 HP x0,si x1,si x2,vS 11 A4 x3] (.BI [vO 3 HP r.1,si r.2])) {i:List Dp} {a f:Int} {b:List AP} {r:(List Dp)×Int} (h:Cq R100 i a f b=some r):Says Tryz.prog 219 [vO 3 HP i,si a,si f,vS 11 A4 b] (.BI [vO 3 HP r.1,si r.2]):=by refine kO mix Tryz.func219 (hn [(0,[17,31,43,54]),(2,[19,28,33,45,55]),(39,[30,40,41]),(51,[42,52,53])]) ?_;have a1:= @H100;have l1:=λn1 n2 n3 n4:Nat=>A0 λn τ=>∃(e:List Dp) (d c:Int),(τ 0=vO 3 HP e/\τ 1=si a/\τ 2=si d/\τ 3=vS 11 A4 b/\τ 10=si c)/\AZ R100 b a n e d c=some r;unfold Cq at h;exact walk
end
def TY:Nat->((List Dp)->Int->Int->(List AP)->ABr ((List Dp)×Int))
|0=>(λ_ _ _ _=>none)
|n+1=>Cq ((TY n))
def Gd (n:Nat):(List Dp)->Int->Int->(List AP)->ABr ((List Dp)×Int):=(TY n)
theorem Vi (n:Nat):(∀{x0 x1 x2 x3 r},(Gd n) x0 x1 x2 x3=some r->Says Tryz.prog 219 [.own false 3 (x0.map HP),si x1,si x2,.sl false 11 (x3.map A4)] (.BI [.own false 3 (r.1.map HP),si r.2])):=by
  induction n with
  |zero=>exactλh=>EO h
  |succ n ih=>exactλh=>X1 ih h
theorem Vj {n:Nat}:∀{x0 x1 x2 x3 r},(Gd n) x0 x1 x2 x3=some r->Says Tryz.prog 219 [.own false 3 (x0.map HP),si x1,si x2,.sl false 11 (x3.map A4)] (.BI [.own false 3 (r.1.map HP),si r.2]):=(Vi n)
namespace Ec
def J5 (j:List Int):ABr (List Int):=
some j
def J4 (L1:(List Int)->Int->ABr (List Int)) (b:Int) (i:List Int):ABr (List Int):=
L1 i (Ay (b+1))
def J3 (L1:(List Int)->Int->ABr (List Int)) (d:Int) (a:List Int) (b c:Int) (o:Bool):ABr (List Int):=
if o then
J4 L1 b a
else
if 0≤d/\d.toNat≤a.length then
if Af (1+((a.drop d.toNat).take (a.length-d.toNat)).length) 8=true then
if 0≤d/\d.toNat≤a.length then
if Af ((a.take d.toNat).length+(((a.drop d.toNat).take (a.length-d.toNat)).length+1)) 8=true then
J4 L1 b ((a.take d.toNat)++([c]++((a.drop d.toNat).take (a.length-d.toNat))))
else none
else none
else none
else none
def J2 (L1:(List Int)->Int->ABr (List Int)) (a:List Int) (b c d:Int):ABr (List Int):=
if decide (d<(a.length:Int))then
(gt a d).bind λq=>
J3 L1 d a b c (q==c)
else
J3 L1 d a b c false
def J1 (L1:(List Int)->Int->ABr (List Int)) (L2:Int->ABr (List Int)) (f:Int) (a:List Int) (b c:Int) (l:Bool):ABr (List Int):=
if l then
L2 (Ay (f+1))
else
J2 L1 a b c f
def L2 (L1:(List Int)->Int->ABr (List Int)) (a:List Int) (b c:Int) (L2:Int->ABr (List Int)) (f:Int):ABr (List Int):=
if decide (f<(a.length:Int))then
(gt a f).bind λp=>
J1 L1 L2 f a b c (decide (p<c))
else
J1 L1 L2 f a b c false
def Cf (L1:(List Int)->Int->ABr (List Int)) (a:List Int) (b c:Int):Nat->Int->ABr (List Int)
|0,_=>none
|n+1,f=>L2 L1 a b c (Cf L1 a b c n) f
def L1 (e:List Int) (L1:(List Int)->Int->ABr (List Int)) (a:List Int) (b:Int):ABr (List Int):=
if decide (b<(e.length:Int))then
(gt e b).bind λc=>
Cf L1 a b c BU 0
else
J5 a
def AZ (e:List Int):Nat->(List Int)->Int->ABr (List Int)
|0,_,_=>none
|n+1,a,b=>L1 e (AZ e n) a b
end Ec
section
open Ec
def Ec (e:List Int):ABr (List Int):=
AZ e BU [] 0
theorem OV {e r:List Int} (h:Ec e=some r):Says Tryz.prog 139 [vS 1 eI e] (vO 1 eI r):=by refine kO mix Tryz.func139 (hn [(3,[15,19,21,29,33,35,42,46,53]),(7,[50])]) ?_;have l1:=λn1 n2 n3 n4:Nat=>A0 λn τ=>∃(a:List Int) (b:Int),(τ 3=vO 1 eI a/\τ 8=vS 1 eI e/\τ 9=si (e.length:Int)/\τ 10=si b)/\AZ e n a b=some r;have l2:=λn1 n2 n3 n4:Nat=>A0 λn τ=>∃(a:List Int) (b c f:Int),(τ 3=vO 1 eI a/\τ 5=si c/\τ 6=si f/\τ 8=vS 1 eI e/\τ 9=si (e.length:Int)/\τ 10=si b)/\Cf (AZ e n1) a b c n f=some r;unfold Ec at h;exact walk
end
def f135c:IC:=(Ra 2 [.o (.mv (.c (.own false 1 [])))]
(Ra 0 [.K 3 0]
(Sq (Ra 9 [.C 0,.Z 9,.Y 0]
(Bl 0 (Ra 12 [.O .lss 11 10]
(Sq (cX 12 0)
(Sq (Bk 1 (Ra 13 [.I 1 9 11,.L 13,.M 5 14]
(Ra 15 [.C 3,.C 5,.Z 16,.O .add 15 17,.M 3 18]
(Ra 19 [.C 3,.P .lss 19 0]
(Ci 20 .bad)))))
(Rc 22 [.P .add 11 1,.w 11,.C 22]))))))
(Ra 23 [.C 3,.o (.call 171 [.c (.sc (.slice none 0 0)),.t 23] 2),.b 6 [31,35] (.mv (.t 24))]
(Sq (Ra 25 [.C 0,.Z 25,.Y 0]
(Bl 2 (Ra 28 [.O .lss 27 26]
(Sq (cX 28 2)
(Sq (Bk 3 (Ra 29 [.I 1 25 27,.L 29,.M 8 30]
(Rc 31 [.y 6 (.cp (.t 6)),.C 8,.o (.app 1 8 (.t 31) (.t 32)),.b 6 [31,35] (.mv (.t 33))])))
(Rc 34 [.P .add 27 1,.w 27,.C 34]))))))
(Rb 35 [.y 6 (.cp (.t 6)),.M 2 35]))))))
def f135g:Gi:=⟨[(31,[6]),(35,[6])]⟩
def f135r:List RV:=[.tmp 2]
namespace DG
def J2 (j:List Int):ABr (List Int):=
some j
def L2 (a:List (List Int)) (L2:(List Int)->Int->ABr (List Int)) (b:List Int) (e:Int):ABr (List Int):=
if decide (e<(a.length:Int))then
(gt a e).bind λi=>
if Af (b.length+i.length) 8=true then
L2 (b++i) (Ay (e+1))
else none
else
J2 b
def Cf (a:List (List Int)):Nat->(List Int)->Int->ABr (List Int)
|0,_,_=>none
|n+1,b,e=>L2 a (Cf a n) b e
def J1 (a:List (List Int)) (l:Int):ABr (List Int):=
(Rv l).bind λo=>
Cf a BU o 0
def L1 (a:List (List Int)) (L1:Int->Int->ABr (List Int)) (c d:Int):ABr (List Int):=
if decide (d<(a.length:Int))then
(gt a d).bind λf=>
if decide ((Ay (c+(f.length:Int)))<0)then
none
else
L1 (Ay (c+(f.length:Int))) (Ay (d+1))
else
J1 a c
def AZ (a:List (List Int)):Nat->Int->Int->ABr (List Int)
|0,_,_=>none
|n+1,c,d=>L1 a (AZ a n) c d
end DG
section
open DG
def DG (a:List (List Int)):ABr (List Int):=
AZ a BU 0 0
theorem UX {a:List (List Int)} {r:List Int} (h:DG a=some r):Says Tryz.prog 135 [vS 1 Yc a] (vO 1 eI r):=by refine wO mix Tryz.func135 (I:=⟨f135c,f135g,f135r⟩) ?_;simp only[f135c,f135g,f135r];have a1:= @YS;have l2:=λn1 n2 n3 n4:Nat=>A0 λn τ=>∃(b:List Int) (e:Int),(τ 6=vO 1 eI b/\τ 25=vS 1 Yc a/\τ 26=si (a.length:Int)/\τ 27=si e)/\Cf a n b e=some r;have l1:=λn1 n2 n3 n4:Nat=>A0 λn τ=>∃(c d:Int),(τ 0=vS 1 Yc a/\τ 3=si c/\τ 9=vS 1 Yc a/\τ 10=si (a.length:Int)/\τ 11=si d)/\AZ a n c d=some r;unfold DG at h;exact walk
end
namespace B2
def J4 (o:AN):ABr AN:=
some o
def J3 (L3:AN->Int->ABr AN) (c:Int) (b:AN) (p:AG):ABr AN:=
if Af (b.AA.length+1) 24=true then
L3 (AN.mk b.AF b.Tx b.B6 (b.AA++[p])) (Ay (c+1))
else none
def L3 (a:AB) (L3:AN->Int->ABr AN) (b:AN) (c:Int):ABr AN:=
if decide (c<(a.AA.length:Int))then
if c==0 then
J3 L3 c b (AG.mk 1 0 false)
else
J3 L3 c b (AG.mk 0 0 false)
else
J4 b
def Hz (a:AB):Nat->AN->Int->ABr AN
|0,_,_=>none
|n+1,b,c=>L3 a (Hz a n) b c
def J2 (a:AB) (l:AN):ABr AN:=
Hz a BU l 0
def L2 (a:AB) (L2:AN->Int->ABr AN) (e:AN) (i:Int):ABr AN:=
if decide (i<(a.AK.length:Int))then
if Af (e.B6.length+1) 1=true then
L2 (AN.mk e.AF e.Tx (e.B6++[false]) e.AA) (Ay (i+1))
else none
else
J2 a e
def Cf (a:AB):Nat->AN->Int->ABr AN
|0,_,_=>none
|n+1,e,i=>L2 a (Cf a n) e i
def J1 (a:AB) (j:AN):ABr AN:=
Cf a BU j 0
def L1 (a:AB) (L1:AN->Int->ABr AN) (d:AN) (f:Int):ABr AN:=
if decide (f<(a.AF.length:Int))then
if Af (d.AF.length+1) 32=true then
L1 (AN.mk (d.AF++[(AY.mk (-1) [])]) d.Tx d.B6 d.AA) (Ay (f+1))
else none
else
J1 a d
def AZ (a:AB):Nat->AN->Int->ABr AN
|0,_,_=>none
|n+1,d,f=>L1 a (AZ a n) d f
end B2
section
open B2
def B2 (a:AB):ABr AN:=
AZ a BU (AN.mk [] (-1) [] []) 0
theorem Jw {a:AB} {r:AN} (h:B2 a=some r):Says Tryz.prog 27 [.agg (Am a)] (.agg (Hm r)):=by refine kO mix Tryz.func27 (hn [(1,[10,23,35]),(3,[16,17,21,29,30,33,45,46,50,51]),(7,[44])]) ?_;have l3:=λn1 n2 n3 n4:Nat=>A0 λn τ=>∃(b:AN) (c:Int),(τ 1=bA 6 (Am a)/\τ 2=bA 4 z4/\τ 3=bA 4 (Hm b)/\τ 6=si c)/\Hz a n b c=some r;have l2:=λn1 n2 n3 n4:Nat=>A0 λn τ=>∃(e:AN) (i:Int),(τ 1=bA 6 (Am a)/\τ 2=bA 4 z4/\τ 3=bA 4 (Hm e)/\τ 5=si i)/\Cf a n e i=some r;have l1:=λn1 n2 n3 n4:Nat=>A0 λn τ=>∃(d:AN) (f:Int),(τ 1=bA 6 (Am a)/\τ 2=bA 4 z4/\τ 3=bA 4 (Hm d)/\τ 4=si f)/\AZ a n d f=some r;unfold B2 at h;exact walk
end
namespace FE
def J4 (i:AE):ABr AE:=
some i
def J3 (L2:AE->Int->ABr AE) (c:AE) (e:Int) (a:NA) (l:Bool):ABr AE:=
if l then
(gt a.C2 e).bind λp=>
if Af (c.C2.length+1) 8=true then
L2 (AE.mk c.Thread c.Kind c.Obj c.Value c.Site c.DE (c.C2++[(Ay p).tmod 8])) (Ay (e+1))
else none
else
J4 c
def L2 (a:NA) (L2:AE->Int->ABr AE) (c:AE) (e:Int):ABr AE:=
if decide (e<(a.C2.length:Int))then
J3 L2 c e a (decide (e<3))
else
J3 L2 c e a false
def Cf (a:NA):Nat->AE->Int->ABr AE
|0,_,_=>none
|n+1,c,e=>L2 a (Cf a n) c e
def J2 (a:NA) (f:AE):ABr AE:=
Cf a BU f 0
def J1 (L1:AE->Int->ABr AE) (b:AE) (d:Int) (a:NA) (j:Bool):ABr AE:=
if j then
(gt a.DE d).bind λo=>
if Af (b.DE.length+1) 8=true then
L1 (AE.mk b.Thread b.Kind b.Obj b.Value b.Site (b.DE++[(Ay o).tmod 8]) b.C2) (Ay (d+1))
else none
else
J2 a b
def L1 (a:NA) (L1:AE->Int->ABr AE) (b:AE) (d:Int):ABr AE:=
if decide (d<(a.DE.length:Int))then
J1 L1 b d a (decide (d<3))
else
J1 L1 b d a false
def AZ (a:NA):Nat->AE->Int->ABr AE
|0,_,_=>none
|n+1,b,d=>L1 a (AZ a n) b d
end FE
section
open FE
def FE (a:NA):ABr AE:=
AZ a BU (AE.mk (Ay (((Ay a.Thread).tmod 6)-1)) ((Ay a.Kind).tmod 25) (Ay (((Ay a.Obj).tmod 7)-1)) (Ay ((Ay (a.Value.tmod 6))-1)) (Ay (((Ay a.Site).tmod 26)-1)) [] []) 0
theorem RO {a:NA} {r:AE} (h:FE a=some r):Says Tryz.prog 22 [.agg (Yh a)] (.agg (Ic r)):=by refine kO mix Tryz.func22 (hn [(1,[6,11,15,20,25,32,44,55,67]),(3,[42,43,53,65,66,76,77])]) ?_;have l2:=λn1 n2 n3 n4:Nat=>A0 λn τ=>∃(c:AE) (e:Int),(τ 1=bA 7 (Yh a)/\τ 2=bA 7 z2/\τ 3=bA 7 (Ic c)/\τ 5=si e)/\Cf a n c e=some r;have l1:=λn1 n2 n3 n4:Nat=>A0 λn τ=>∃(b:AE) (d:Int),(τ 1=bA 7 (Yh a)/\τ 2=bA 7 z2/\τ 3=bA 7 (Ic b)/\τ 4=si d)/\AZ a n b d=some r;unfold FE at h;exact walk
end
namespace Cs
def J5:ABr Bool:=
some true
def J4 (L1:Int->ABr Bool) (a:Int):ABr Bool:=
L1 (Ay (a+1))
def J3 (L1:Int->ABr Bool) (a:Int) (s:Bool):ABr Bool:=
if !s then
some false
else
J4 L1 a
def J2 (L2:Int->Bool->Int->ABr Bool) (f o:Int) (q:Bool):ABr Bool:=
L2 o q (Ay (f+1))
def J1 (L2:Int->Bool->Int->ABr Bool) (f i:Int) (p:Bool):ABr Bool:=
J2 L2 f (Ay (i+1)) p
def L2 (L1:Int->ABr Bool) (c a:Int) (d:List AE) (b:List Int) (e:Int) (L2:Int->Bool->Int->ABr Bool) (i:Int) (j:Bool) (f:Int):ABr Bool:=
if decide (f<c)then
(gt d f).bind λl=>
if l.Thread != e then
J2 L2 f i j
else
if j then
J1 L2 f i true
else
(gt b a).bind λt=>
if i==t then
if l.Kind==3 then
J1 L2 f i true
else
J1 L2 f i (l.Kind==23)
else
J1 L2 f i false
else
J3 L1 a j
def Cf (L1:Int->ABr Bool) (c a:Int) (d:List AE) (b:List Int) (e:Int):Nat->Int->Bool->Int->ABr Bool
|0,_,_,_=>none
|n+1,i,j,f=>L2 L1 c a d b e (Cf L1 c a d b e n) i j f
def L1 (c:Int) (d:List AE) (b:List Int) (e:Int) (L1:Int->ABr Bool) (a:Int):ABr Bool:=
if decide (a<(b.length:Int))then
Cf L1 c a d b e BU 0 false 0
else
J5
def AZ (c:Int) (d:List AE) (b:List Int) (e:Int):Nat->Int->ABr Bool
|0,_=>none
|n+1,a=>L1 c d b e (AZ c d b e n) a
end Cs
section
open Cs
def Cs (d:List AE) (c e:Int) (b:List Int):ABr Bool:=
AZ c d b e BU 0
theorem X6 {d:List AE} {c e:Int} {b:List Int} {r:Bool} (h:Cs d c e b=some r):Says Tryz.prog 64 [vS 7 Bi d,si c,si e,vS 1 eI b] (sb r):=by refine kO mix Tryz.func64 hn ?_;have l1:=λn1 n2 n3 n4:Nat=>A0 λn τ=>∃(a:Int),(τ 0=vS 7 Bi d/\τ 1=si c/\τ 2=si e/\τ 3=vS 1 eI b/\τ 9=si a)/\AZ c d b e n a=some r;have l2:=λn1 n2 n3 n4:Nat=>A0 λn τ=>∃(a i:Int) (j:Bool) (f:Int),(τ 0=vS 7 Bi d/\τ 1=si c/\τ 2=si e/\τ 3=vS 1 eI b/\τ 9=si a/\τ 10=si i/\τ 11=sb j/\τ 12=si f)/\Cf (AZ c d b e n1) c a d b e n i j f=some r;unfold Cs at h;exact walk
end
namespace An
def J4:ABr Bool:=
some true
def J3 (L1:Int->ABr Bool) (b:Int):ABr Bool:=
L1 (Ay (b+1))
def J2 (L2:Int->ABr Bool) (e:Int) (i:Bool):ABr Bool:=
if i then
some false
else
L2 (Ay (e+1))
def L2 (L1:Int->ABr Bool) (d:List Int) (a:List Bool) (b:Int) (L2:Int->ABr Bool) (e:Int):ABr Bool:=
if decide (e<(d.length:Int))then
(gt d e).bind λf=>
if decide (f<0)then
J2 L2 e true
else
if decide (f≥(a.length:Int))then
J2 L2 e true
else
(gt a f).bind λj=>
J2 L2 e (!j)
else
J3 L1 b
def Cf (L1:Int->ABr Bool) (d:List Int) (a:List Bool) (b:Int):Nat->Int->ABr Bool
|0,_=>none
|n+1,e=>L2 L1 d a b (Cf L1 d a b n) e
def J1 (L1:Int->ABr Bool) (a:List Bool) (b:Int) (d:List Int):ABr Bool:=
Cf L1 d a b BU 0
def L1 (c:AE) (a:List Bool) (L1:Int->ABr Bool) (b:Int):ABr Bool:=
if decide (b<2)then
if b==0 then
J1 L1 a b c.DE
else
if b==1 then
J1 L1 a b c.C2
else
none
else
J4
def AZ (c:AE) (a:List Bool):Nat->Int->ABr Bool
|0,_=>none
|n+1,b=>L1 c a (AZ c a n) b
end An
section
open An
def An (a:List Bool) (c:AE):ABr Bool:=
AZ c a BU 0
theorem N9 {a:List Bool} {c:AE} {r:Bool} (h:An a c=some r):Says Tryz.prog 62 [vS 1 eB a,.agg (Bi c)] (sb r):=by refine kO mix Tryz.func62 (hn [(3,[9,11])] [(6,1)]) ?_;have l1:=λn1 n2 n3 n4:Nat=>A0 λn τ=>∃(b:Int),(τ 0=vS 1 eB a/\τ 13= .agg [vS 1 eI c.DE,vS 1 eI c.C2]/\τ 14=si b)/\AZ c a n b=some r;have l2:=λn1 n2 n3 n4:Nat=>A0 λn τ=>∃(d:List Int) (b e:Int),(τ 0=vS 1 eB a/\τ 13= .agg [vS 1 eI c.DE,vS 1 eI c.C2]/\τ 14=si b/\τ 17=vS 1 eI d/\τ 18=si (d.length:Int)/\τ 19=si e)/\Cf (AZ c a n1) d a b n e=some r;have c1:=λn1 n2 n3 n4:Nat=>Bo 1 λτ=>∃(b:Int) (d:List Int),(τ 0=vS 1 eB a/\τ 6=vS 1 eI d/\τ 13= .agg [vS 1 eI c.DE,vS 1 eI c.C2]/\τ 14=si b)/\J1 (AZ c a n1) a b d=some r;unfold An at h;exact walk
end
namespace HG
def J2 (f:AB):ABr AB:=
some f
def J1 (L1:AB->Int->ABr AB) (a:Int) (e:AB):ABr AB:=
L1 e (Ay (a+1))
def L2 (L1:AB->Int->ABr AB) (a:Int) (L2:AB->Int->ABr AB) (b:AB) (c:Int):ABr AB:=
if decide (c<6)then
if Af (b.BF.length+1) 24=true then
L2 (AB.mk b.Cells b.AF b.Ah b.AK b.AA (b.BF++[(Dp.mk a c (Ay ((Ay ((Ay (10*a))+c))+1)))])) (Ay (c+1))
else none
else
J1 L1 a b
def Cf (L1:AB->Int->ABr AB) (a:Int):Nat->AB->Int->ABr AB
|0,_,_=>none
|n+1,b,c=>L2 L1 a (Cf L1 a n) b c
def L1 (L1:AB->Int->ABr AB) (d:AB) (a:Int):ABr AB:=
if decide (a<4)then
Cf L1 a BU d 0
else
J2 d
def AZ:Nat->AB->Int->ABr AB
|0,_,_=>none
|n+1,d,a=>L1 (AZ n) d a
end HG
section
open HG
def HG:ABr AB:=
AZ BU (AB.mk [(DT.mk (⟨#[120]⟩:ABs) 0 0 false 0),(DT.mk (⟨#[121]⟩:ABs) 0 0 false 1),(DT.mk (⟨#[118]⟩:ABs) 0 0 true 0),(DT.mk (⟨#[113]⟩:ABs) 0 2 false 0),(DT.mk (⟨#[113]⟩:ABs) 1 2 false 0)] [(KE.mk (⟨#[109]⟩:ABs) false),(KE.mk (⟨#[110]⟩:ABs) false),(KE.mk (⟨#[114]⟩:ABs) true)] [(Ty.mk (⟨#[99]⟩:ABs) 0)] [(⟨#[102]⟩:ABs)] [(⟨#[109,97,105,110]⟩:ABs),(⟨#[116,49]⟩:ABs),(⟨#[116,50]⟩:ABs),(⟨#[116,51]⟩:ABs)] []) 0
theorem YH {r:AB} (h:HG=some r):Says Tryz.prog 103 [] (.agg (LM r)):=by refine kO mix Tryz.func103 (hn [(1,[19,20,29,30,41,43])]) ?_;have l1:=λn1 n2 n3 n4:Nat=>A0 λn τ=>∃(d:AB) (a:Int),(τ 0=bA 6 z8/\τ 1=bA 6 (LM d)/\τ 21=si 4/\τ 22=si a)/\AZ n d a=some r;have l2:=λn1 n2 n3 n4:Nat=>A0 λn τ=>∃(a:Int) (b:AB) (c:Int),(τ 0=bA 6 z8/\τ 1=bA 6 (LM b)/\τ 2=si a/\τ 3=si c/\τ 21=si 4/\τ 22=si a)/\Cf (AZ n1) a n b c=some r;unfold HG at h;exact walk
end
namespace FF
def J1 (i f:Int):ABr (Int×Int):=
some (i,Ay (f+1))
def L1 (R100:A7->ABr (Int×Int)) (a:A7) (L1:Int->Int->Int->ABr (Int×Int)) (d b c:Int):ABr (Int×Int):=
if decide (c<(a.L.length:Int))then
(gt a.L c).bind λj=>
(R100 j).bind λe=>
L1 (Ay (d+e.1)) (if e.2>b then e.2 else b) (Ay (c+1))
else
J1 d b
def AZ (R100:A7->ABr (Int×Int)) (a:A7):Nat->Int->Int->Int->ABr (Int×Int)
|0,_,_,_=>none
|n+1,d,b,c=>L1 R100 a (AZ R100 a n) d b c
end FF
section
open FF
def FF (R100:A7->ABr (Int×Int)) (a:A7):ABr (Int×Int):=
AZ R100 a BU 1 0 0
theorem Xr {R100:A7->ABr (Int×Int)} (H100:∀{x0 r},R100 x0=some r->Says Tryz.prog 266 [.agg [si x0.Op,si x0.N,BR x0.Name,vS 4 A9 x0.L]] (.BI [si r.1,si r.2])) {a:A7} {r:Int×Int} (h:FF R100 a=some r):Says Tryz.prog 266 [.agg [si a.Op,si a.N,BR a.Name,vS 4 A9 a.L]] (.BI [si r.1,si r.2]):=by refine kO mix Tryz.func266 (hn [(1,[10,17])]) ?_;have a1:= @H100;have l1:=λn1 n2 n3 n4:Nat=>A0 λn τ=>∃(d b c:Int),(τ 1=bA 4 [si a.Op,si a.N,BR a.Name,vS 4 A9 a.L]/\τ 4=si d/\τ 5=si b/\τ 6=si c)/\AZ R100 a n d b c=some r;unfold FF at h;exact walk
end
def TP:Nat->(A7->ABr (Int×Int))
|0=>(λ_=>none)
|n+1=>FF ((TP n))
def Ju (n:Nat):A7->ABr (Int×Int):=(TP n)
theorem Vd (n:Nat):(∀{x0 r},(Ju n) x0=some r->Says Tryz.prog 266 [.agg [si x0.Op,si x0.N,BR x0.Name,.sl false 4 (x0.L.map A9)]] (.BI [si r.1,si r.2])):=by
  induction n with
  |zero=>exactλh=>EO h
  |succ n ih=>exactλh=>Xr ih h
theorem Ve {n:Nat}:∀{x0 r},(Ju n) x0=some r->Says Tryz.prog 266 [.agg [si x0.Op,si x0.N,BR x0.Name,.sl false 4 (x0.L.map A9)]] (.BI [si r.1,si r.2]):=(Vd n)
namespace Dm
def J2 (f:AN):ABr AN:=
some f
def J1 (d:AN):ABr AN:=
if decide ((d.AA.length:Int)>0)then
(gt d.AA 0).bind λe=>
J2 (AN.mk d.AF d.Tx d.B6 (d.AA.set 0 (AG.mk 1 e.Es e.Atomic)))
else
J2 d
def L1 (a:AB) (L1:AN->Int->ABr AN) (b:AN) (c:Int):ABr AN:=
if decide (c<((List.replicate a.AF.length (AY.mk 0 [])).length:Int))then
(gt b.AF c).bind λi=>
L1 (AN.mk (b.AF.set c.toNat (AY.mk (-1) i.Ax)) b.Tx b.B6 b.AA) (Ay (c+1))
else
J1 b
def AZ (a:AB):Nat->AN->Int->ABr AN
|0,_,_=>none
|n+1,b,c=>L1 a (AZ a n) b c
end Dm
section
open Dm
def Dm (a:AB):ABr AN:=
if 0≤(a.AF.length:Int)/\(a.AF.length:Int)≤(a.AF.length:Int)/\Af a.AF.length 32=true then
if 0≤(a.AK.length:Int)/\(a.AK.length:Int)≤(a.AK.length:Int)/\Af a.AK.length 1=true then
if 0≤(a.AA.length:Int)/\(a.AA.length:Int)≤(a.AA.length:Int)/\Af a.AA.length 24=true then
AZ a BU (AN.mk (List.replicate a.AF.length (AY.mk 0 [])) (-1) (List.replicate a.AK.length false) (List.replicate a.AA.length (AG.mk 0 0 false))) 0
else none
else none
else none
theorem VU {a:AB} {r:AN} (h:Dm a=some r):Says Tryz.prog 52 [.agg (Am a)] (.agg (Hm r)):=by refine kO mix Tryz.func52 (hn [(1,[5,9,13]),(3,[18,19,24,25,27,28,30,31,34,35,36,37,38])]) ?_;have l1:=λn1 n2 n3 n4:Nat=>A0 λn τ=>∃(b:AN) (c:Int),(τ 2=bA 4 z4/\τ 3=bA 4 (Hm b)/\τ 20=si ((List.replicate a.AF.length (AY.mk 0 [])).length:Int)/\τ 21=si c)/\AZ a n b c=some r;unfold Dm at h;exact walk
end
end Go.Abs
