/- Typed programs of Go functions, and that the functions do what these say. -/
import Derived.Test.YthmijagacgnmkaaGreatDoorWalkD
import Derived.Test.YthmijagacgnmkaaGreatDoorWalkE
set_option linter.unusedSimpArgs false
set_option linter.unusedVariables false
namespace Go.Abs
open Go.Proofs
set_option maxRecDepth 1000000
set_option maxHeartbeats 4000000
namespace C5
def J8:AB8 Bool:=
some true
def J7 (L3:Int->AB8 Bool) (d:Int) (p:Bool):AB8 Bool:=
if p then
some false
else
L3 (A1 (d+1))
def J6 (L3:Int->AB8 Bool) (d:Int) (a:AO) (f:AH) (o:Bool):AB8 Bool:=
if o then
some false
else
if f.Status==3 then
(gt a.World.Af f.D7).bind λz=>
(gt a.Init.Sync.AE z.Mutex).bind λaa=>
J7 L3 d (aa.B6==d)
else
if f.Status==4 then
(gt a.World.Af f.D7).bind λab=>
(gt a.Init.Sync.AE ab.Mutex).bind λac=>
J7 L3 d (ac.B6==d)
else
J7 L3 d false
def L3 (a:AO) (L3:Int->AB8 Bool) (d:Int):AB8 Bool:=
if decide (d<(a.Init.Sync.AA.length:Int))then
(gt a.Init.Sync.AA d).bind λf=>
if f.Atomic then
(Gz a d).bind λv=>
J6 L3 d a f (!v)
else
J6 L3 d a f false
else
J8
def Gq (a:AO):Nat->Int->AB8 Bool
|0,_=>none
|n+1,d=>L3 a (Gq a n) d
def J5 (a:AO) (j:Bool):AB8 Bool:=
if j then
some false
else
Gq a BP 0
def J4 (a:AO):AB8 Bool:=
if a.Init.Sync.Tx != (-1)then
(Gz a a.Init.Sync.Tx).bind λu=>
J5 a (!u)
else
J5 a false
def J3 (L1:Int->AB8 Bool) (b:Int):AB8 Bool:=
L1 (A1 (b+1))
def J2 (L2:Int->AB8 Bool) (e:Int) (q:Bool):AB8 Bool:=
if q then
some false
else
L2 (A1 (e+1))
def L2 (L1:Int->AB8 Bool) (b:Int) (a:AO) (c:AW) (L2:Int->AB8 Bool) (e:Int):AB8 Bool:=
if decide (e<(c.Al.length:Int))then
(gt c.Al e).bind λl=>
(Gz a l).bind λt=>
if !t then
J2 L2 e true
else
if decide (e>0)then
(gt c.Al (A1 (e-1))).bind λy=>
J2 L2 e (decide (l≤y))
else
J2 L2 e false
else
J3 L1 b
def Cr (L1:Int->AB8 Bool) (b:Int) (a:AO) (c:AW):Nat->Int->AB8 Bool
|0,_=>none
|n+1,e=>L2 L1 b a c (Cr L1 b a c n) e
def J1 (L1:Int->AB8 Bool) (b:Int) (a:AO) (c:AW) (i:Bool):AB8 Bool:=
if i then
some false
else
Cr L1 b a c BP 0
def L1 (a:AO) (L1:Int->AB8 Bool) (b:Int):AB8 Bool:=
if decide (b<(a.Init.Sync.AE.length:Int))then
(gt a.Init.Sync.AE b).bind λc=>
if c.B6 != (-1)then
(Gz a c.B6).bind λs=>
if !s then
J1 L1 b a c true
else
if decide ((c.Al.length:Int)>0)then
(gt a.World.AE b).bind λw=>
if !w.RW then
J1 L1 b a c true
else
J1 L1 b a c (c.B6 != (-1))
else
J1 L1 b a c false
else
if decide ((c.Al.length:Int)>0)then
(gt a.World.AE b).bind λx=>
if !x.RW then
J1 L1 b a c true
else
J1 L1 b a c (c.B6 != (-1))
else
J1 L1 b a c false
else
J4 a
def AZ (a:AO):Nat->Int->AB8 Bool
|0,_=>none
|n+1,b=>L1 a (AZ a n) b
end C5
section
open C5
def C5 (a:AO):AB8 Bool:=
AZ a BP 0
theorem U7 {a:AO} {r:Bool} (h:C5 a=some r):Says Tryz.prog 89 [.agg (BV a)] (sb r):=by refine kO mix Tryz.func89 (hn [(1,[9,10,40,41,129,130]),(3,[13,19,88,93,99,105,127]),(5,[24,29,35,49,56,63,74,79]),(8,[110,118,122,132])] [(9,1),(18,5)]) ?_;have a1:= @Yw;have l3:=λn1 n2 n3 n4:Nat=>Av λn τ=>∃(d:Int),(τ 1=bA 15 (BV a)/\τ 3=bA 4 (FZ a.Init.Sync)/\τ 7=si d)/\Gq a n d=some r;have l1:=λn1 n2 n3 n4:Nat=>Av λn τ=>∃(b:Int),(τ 1=bA 15 (BV a)/\τ 3=bA 4 (FZ a.Init.Sync)/\τ 4=si b)/\AZ a n b=some r;have l2:=λn1 n2 n3 n4:Nat=>Av λn τ=>∃(b:Int) (c:AW) (e:Int),(τ 1=bA 15 (BV a)/\τ 3=bA 4 (FZ a.Init.Sync)/\τ 4=si b/\τ 5=bA 2 (DS c)/\τ 6=si e)/\Cr (AZ a n1) b a c n e=some r;have c5:=λn1 n2 n3 n4:Nat=>Bm 5 λτ=>∃(j:Bool),(τ 1=bA 15 (BV a)/\τ 3=bA 4 (FZ a.Init.Sync)/\τ 97=sb j)/\J5 a j=some r;have c1:=λn1 n2 n3 n4:Nat=>Bm 1 λτ=>∃(b:Int) (c:AW) (i:Bool),(τ 1=bA 15 (BV a)/\τ 3=bA 4 (FZ a.Init.Sync)/\τ 4=si b/\τ 5=bA 2 (DS c)/\τ 54=sb i)/\J1 (AZ a n1) b a c i=some r;unfold C5 at h;exact walk
end
namespace Cf
def J2 (q:Bool):AB8 Bool:=
some q
def J3 (s:Bool):AB8 Bool:=
some s
def J4 (t:Bool):AB8 Bool:=
some t
def J7 (u:Bool):AB8 Bool:=
some u
def J8 (v:Bool):AB8 Bool:=
some v
def J6 (a b:Int) (c:AP) (d:Int) (e:AD) (j:Bool):AB8 Bool:=
if j then
(gt e.Af b).bind λap=>
(gt c.AE ap.Mutex).bind λaq=>
some (aq.B6==d)
else
if a==20 then
if b != d then
(gt c.AA b).bind λac=>
J7 (ac.Status==0)
else
J7 false
else
if a==21 then
if b != d then
(gt c.AA b).bind λad=>
J8 (ad.Status==5)
else
J8 false
else
if a==22 then
(gt c.Bp b).bind λae=>
some (!ae)
else
if a==23 then
(gt c.Bp b).bind λaf=>
some af
else
some true
def J5 (a b:Int) (c:AP) (d:Int) (e:AD) (f:AH) (i:Bool):AB8 Bool:=
if i then
(gt c.AE b).bind λal=>
some (al.B6==d)
else
if a==9 then
(gt c.AE b).bind λao=>
(G6 ao.Al d).bind λaa=>
some aa
else
if a==12 then
some (c.Tx==(-1))
else
if a==13 then
some (c.Tx==d)
else
if a==14 then
some (!f.Atomic)
else
if a==15 then
some f.Atomic
else
if a==16 then
J6 a b c d e (a==16)
else
if a==18 then
J6 a b c d e (a==18)
else
J6 a b c d e (a==19)
def J1 (a b:Int) (c:AP) (d:Int) (e:AD) (l:Bool):AB8 Bool:=
if l then
some false
else
(gt c.AA d).bind λf=>
if a==1 then
some (f.Status==1)
else
if a==17 then
if f.Status==4 then
if f.D7==b then
(gt e.Af b).bind λab=>
(gt c.AE ab.Mutex).bind λai=>
J2 (ai.B6==(-1))
else
J2 false
else
J2 false
else
if f.Status != 2 then
some false
else
if a==6 then
(gt c.AE b).bind λaj=>
some (aj.B6==(-1))
else
if a==10 then
(gt c.AE b).bind λo=>
if o.B6==(-1)then
J3 ((o.Al.length:Int)==0)
else
J3 false
else
if a==8 then
(gt c.AE b).bind λp=>
if p.B6==(-1)then
(G6 p.Al d).bind λz=>
J4 (!z)
else
J4 false
else
if a==7 then
J5 a b c d e f (a==7)
else
J5 a b c d e f (a==11)
end Cf
section
open Cf
def Cf (e:AD) (c:AP) (d a b:Int):AB8 Bool:=
(Ex e c).bind λw=>
if !w then
J1 a b c d e true
else
(Hm d (e.AA.length:Int)).bind λx=>
if !x then
J1 a b c d e true
else
(Ik e a b).bind λy=>
J1 a b c d e (!y)
theorem Ny {e:AD} {c:AP} {d a b:Int} {r:Bool} (h:Cf e c d a b=some r):Says Tryz.prog 67 [.agg (Ah e),.agg (FZ c),si d,si a,si b] (sb r):=by refine kO mix Tryz.func67 (hn [(5,[18,56,166]),(6,[31,54,73,82,90,101,109,122,132,142,147,164,183,197,207,215]),(11,[39,44,48,67,153,158])] [(2,1),(22,5),(35,6)]) ?_;have a1:= @OU;have a2:= @NQ;have a3:= @Ve;have a4:= @Ys;have c6:=λn1 n2 n3 n4:Nat=>Bm 6 λτ=>∃(j:Bool),(τ 2=si d/\τ 4=si b/\τ 5=bA 6 (Ah e)/\τ 6=bA 4 (FZ c)/\τ 70=si a/\τ 160=sb j)/\J6 a b c d e j=some r;have c5:=λn1 n2 n3 n4:Nat=>Bm 5 λτ=>∃(f:AH) (i:Bool),(τ 2=si d/\τ 4=si b/\τ 5=bA 6 (Ah e)/\τ 6=bA 4 (FZ c)/\τ 11=bA 3 (An f)/\τ 70=si a/\τ 119=sb i)/\J5 a b c d e f i=some r;have c1:=λn1 n2 n3 n4:Nat=>Bm 1 λτ=>∃(l:Bool),(τ 2=si d/\τ 3=si a/\τ 4=si b/\τ 5=bA 6 (Ah e)/\τ 6=bA 4 (FZ c)/\τ 30=sb l)/\J1 a b c d e l=some r;unfold Cf at h;exact walk
end
namespace DN
def J6 (aa:AU) (w:AG):AB8 (AG×AU):=
some (w,aa)
def J5 (e:AG) (b:List (List Int)) (p:AU) (a:Int×AU) (z:Bool):AB8 (AG×AU):=
if z then
(gt b a.1).bind λae=>
(E0 p ae).bind λv=>
J6 v.2 (AG.mk e.Thread e.Kind e.Obj e.Value e.Site e.Du v.1)
else
J6 p e
def J4 (b:List (List Int)) (a:Int×AU) (p:AU) (e:AG):AB8 (AG×AU):=
if e.Kind==4 then
J5 e b p a true
else
J5 e b p a (e.Kind==22)
def J3 (c:AG) (b:List (List Int)) (a j l:Int×AU) (y:Bool):AB8 (AG×AU):=
if y then
(gt b a.1).bind λad=>
(E0 l.2 ad).bind λu=>
J4 b a u.2 (AG.mk c.Thread c.Kind j.1 l.1 c.Site u.1 c.DR)
else
J4 b a l.2 (AG.mk c.Thread c.Kind j.1 l.1 c.Site c.Du c.DR)
def J2 (b:List (List Int)) (f:AB) (a i:Int×AU) (d:AD) (c:AG):AB8 (AG×AU):=
(Cx i.2 c.Kind a.1).bind λj=>
(G0 j.2 f c.Kind j.1).bind λl=>
if c.Kind==5 then
J3 c b a j l true
else
if c.Kind==3 then
(gt d.Cells j.1).bind λab=>
J3 c b a j l (decide (ab.Bw>0))
else
if c.Kind==4 then
(gt d.Cells j.1).bind λac=>
J3 c b a j l (decide (ac.Bw>0))
else
J3 c b a j l false
def J1 (b:List (List Int)) (f:AB) (a i:Int×AU) (d:AD) (o:Int) (x:Bool):AB8 (AG×AU):=
if x then
J2 b f a i d (AG.mk a.1 o 0 0 (-1) [] [])
else
J2 b f a i d (AG.mk a.1 o 0 0 (A1 ((A1 (a.1*6))+i.1)) [] [])
end DN
section
open DN
def DN (q:AU) (f:AB) (d:AD) (b:List (List Int)):AB8 (AG×AU):=
(Ae q 4).bind λa=>
(M7).bind λs=>
(Ae a.2 (s.length:Int)).bind λt=>
(gt s t.1).bind λo=>
(Ae t.2 6).bind λi=>
if o==1 then
J1 b f a i d o true
else
J1 b f a i d o (o==2)
theorem Y7 {q:AU} {f:AB} {d:AD} {b:List (List Int)} {r:AG×AU} (h:DN q f d b=some r):BA Tryz.prog 154 [bA 2 (FE q),.agg (A3 f),.agg (Ah d),vO 1 Ng b] (.agg (IE r.1)) [bA 2 (FE r.2),.dead,.dead,vO 1 Ng b]:=by refine kL mix Tryz.func154 (hn [(0,[12,17,38,44,75,90]),(3,[76,78,79,91,93,94]),(6,[65]),(10,[16,18,21]),(11,[29,33,37,39,43,46,48,51,52,56,60,67,81,82,86,96,97])] [(4,2)] (E:=[(3,(.aY [(0,10,11,25)] [iC 15 9,i1 16 10 (.cp (.t 10)),i1 17 0 (.cp (.t 0)),i1 18 10 (.cp (.t 10)),iZ 19 18,i0 20 (.VW 104 [] (.t 17) none [.t 19]),rL 21 10 1 16 20,iL 22 21,iC 23 9,iP 24 .mul 23 6,i0 25 .fl,i0 26 (.VW 104 [] (.t 0) none [.c (si 6)]),iO 27 .add 24 26,i0 28 (.Uc z2 [(0,1,.t 15),(1,1,.t 22),(4,1,.t 27)]),⟨some ⟨11,[29,33,37,39,43,46,48,51,52,56,60,67,81,82,86,96,97],[]⟩,.bx 7 (.c (.agg z2)),none⟩,iS 7 11 28])),(9,(.Wc [.o (i1 75 0 (.cp (.t 0))),.o (i1 76 3 (.cp (.t 3))),.o (iC 77 9),.o (rL 78 3 1 76 77),.o (Zm 79 3 78),.lb (some ⟨80,[],[]⟩) 178 (.t 75) [] (.t 79),.o (Ll 81 11 5 11),.o (iS 1 81 80)])),(11,(.Wc [.o (i1 90 0 (.cp (.t 0))),.o (i1 91 3 (.cp (.t 3))),.o (iC 92 9),.o (rL 93 3 1 91 92),.o (Zm 94 3 93),.lb (some ⟨95,[],[]⟩) 178 (.t 90) [] (.t 94),.o (Ll 96 11 6 11),.o (iS 1 96 95)]))])) ?_;have a1:= @Cp;have a2:= @Y8;have a3:= @We;have a4:= @Y9;have a5:= @Z5;have c2:=λn1 n2 n3 n4:Nat=>Bm 2 λτ=>∃(a i:Int×AU) (c:AG),(τ 0=bA 2 (FE i.2)/\τ 3=vO 1 Ng b/\τ 5=bA 7 (A3 f)/\τ 6=bA 6 (Ah d)/\τ 8=bA 7 z2/\τ 9=si a.1/\τ 11=bA 7 (IE c))/\J2 b f a i d c=some r;unfold DN at h;exact walk
end
namespace AM
def J1 (i:Bool):AB8 Bool:=
some i
def J2 (j:Bool):AB8 Bool:=
some j
def J4 (l:Bool):AB8 Bool:=
some l
def J6 (o:Bool):AB8 Bool:=
some o
def J9 (p:Bool):AB8 Bool:=
some p
def QZ (q:Bool):AB8 Bool:=
some q
def J8 (a:Ac) (b:AD) (c:Bool):AB8 Bool:=
if c then
(Db a.A (b.AA.length:Int)).bind λz=>
some z
else
if a.Op==26 then
(Db a.A (b.AK.length:Int)).bind λaa=>
some aa
else
if a.Op==27 then
(Db a.B (b.AK.length:Int)).bind λab=>
some ab
else
if a.Op==3 then
if a.N==4 then
J9 true
else
J9 (a.N==5)
else
if a.Op==4 then
if decide (a.N≥6)then
QZ (decide (a.N≤18))
else
QZ false
else
some true
def J7 (a:Ac) (b:AD) (f:Bool):AB8 Bool:=
if f then
(Db a.A (b.Af.length:Int)).bind λy=>
some y
else
if a.Op==24 then
J8 a b (a.Op==24)
else
J8 a b (a.Op==25)
def J5 (a:Ac) (b:AD) (e:Bool):AB8 Bool:=
if e then
(Db a.A (b.AE.length:Int)).bind λx=>
if x then
(gt b.AE a.A).bind λaf=>
J6 af.RW
else
J6 false
else
if a.Op==21 then
J7 a b (a.Op==21)
else
if a.Op==22 then
J7 a b (a.Op==22)
else
J7 a b (a.Op==23)
def J3 (a:Ac) (b:AD) (d:Bool):AB8 Bool:=
if d then
(Db a.A (b.AE.length:Int)).bind λw=>
if w then
(gt b.AE a.A).bind λae=>
J4 (!ae.RW)
else
J4 false
else
if a.Op==13 then
J5 a b (a.Op==13)
else
if a.Op==14 then
J5 a b (a.Op==14)
else
if a.Op==15 then
J5 a b (a.Op==15)
else
J5 a b (a.Op==16)
end AM
section
open AM
def AM (b:AD) (a:Ac):AB8 Bool:=
if a.Op==6 then
(Db a.B (b.Cells.length:Int)).bind λs=>
if s then
(gt b.Cells a.B).bind λac=>
J1 (ac.Bw==0)
else
J1 false
else
if a.Op==8 then
(Db a.A (b.Cells.length:Int)).bind λt=>
if t then
(gt b.Cells a.A).bind λad=>
J2 (ad.Bw==0)
else
J2 false
else
if a.Op==7 then
(E3 b a.B a.N).bind λu=>
some u
else
if a.Op==9 then
(E3 b a.A a.N).bind λv=>
some v
else
if a.Op==11 then
J3 a b (a.Op==11)
else
J3 a b (a.Op==12)
theorem U3 {b:AD} {a:Ac} {r:Bool} (h:AM b a=some r):Says Tryz.prog 207 [.agg (Ah b),.agg (EN a)] (sb r):=by refine kO mix Tryz.func207 (hn [(2,[11,16,29,34,64,69,85,90,104,113,121,129]),(3,[5,9,18,27,36,46,48,54,56,62,71,83,92,102,111,119,127,135,139,145,149])] [(11,3),(14,5),(19,7),(23,8)]) ?_;have a1:= @P6;have a2:= @Yn;have c8:=λn1 n2 n3 n4:Nat=>Bm 8 λτ=>∃(c:Bool),(τ 2=bA 6 (Ah b)/\τ 3=bA 6 (EN a)/\τ 6=si a.Op/\τ 108=sb c)/\J8 a b c=some r;have c7:=λn1 n2 n3 n4:Nat=>Bm 7 λτ=>∃(f:Bool),(τ 2=bA 6 (Ah b)/\τ 3=bA 6 (EN a)/\τ 6=si a.Op/\τ 98=sb f)/\J7 a b f=some r;have c5:=λn1 n2 n3 n4:Nat=>Bm 5 λτ=>∃(e:Bool),(τ 2=bA 6 (Ah b)/\τ 3=bA 6 (EN a)/\τ 6=si a.Op/\τ 78=sb e)/\J5 a b e=some r;have c3:=λn1 n2 n3 n4:Nat=>Bm 3 λτ=>∃(d:Bool),(τ 2=bA 6 (Ah b)/\τ 3=bA 6 (EN a)/\τ 6=si a.Op/\τ 59=sb d)/\J3 a b d=some r;unfold AM at h;exact walk
end
namespace EZ
def J3 (a:Ac) (b:AL) (t:Int) (l:Bool) (e:List Int):AB8 (AL×Bool):=
if Ak (e.length) 8=true then
(gt b.Ch a.A).bind λad=>
(gt b.Cc a.A).bind λac=>
some ((AL.mk (A1 (b.PC+1)) (b.Ch.set a.A.toNat t) (b.Cc.set a.A.toNat e) b.AF),l)
else none
def J2 (a:Ac) (b:AL):AB8 (AL×Bool):=
if a.Op==5 then
some ((AL.mk a.A b.Ch b.Cc b.AF),true)
else
if a.Op==1 then
J3 a b a.N true []
else
if a.Op==2 then
(gt b.Ch a.B).bind λu=>
(gt b.Cc a.B).bind λv=>
J3 a b u true v
else
if a.Op==3 then
(Ej a.N).bind λp=>
(gt b.Ch a.B).bind λw=>
(LH p w).bind λf=>
(gt b.Cc a.B).bind λx=>
J3 a b f.1 f.2 x
else
(Ej a.N).bind λq=>
(gt b.Ch a.B).bind λy=>
(gt b.Ch a.C).bind λz=>
(GD q y z).bind λi=>
(gt b.Cc a.B).bind λaa=>
(gt b.Cc a.C).bind λab=>
(ED aa ab).bind λs=>
J3 a b i.1 i.2 s
def J1 (L1:Int->AB8 (AL×Bool)) (c:Int) (o:Bool):AB8 (AL×Bool):=
if o then
some ((AL.mk 0 [] [] 0),false)
else
L1 (A1 (c+1))
def L1 (a:Ac) (b:AL) (d:List Int) (L1:Int->AB8 (AL×Bool)) (c:Int):AB8 (AL×Bool):=
if decide (c<(d.length:Int))then
(gt d c).bind λj=>
if decide (j<0)then
J1 L1 c true
else
J1 L1 c (decide (j≥(b.Ch.length:Int)))
else
J2 a b
def AZ (a:Ac) (b:AL) (d:List Int):Nat->Int->AB8 (AL×Bool)
|0,_=>none
|n+1,c=>L1 a b d (AZ a b d n) c
end EZ
section
open EZ
def EZ (a:Ac) (b:AL):AB8 (AL×Bool):=
(Aa a).bind λd=>
AZ a b d BP 0
theorem Zw {a:Ac} {b:AL} {r:AL×Bool} (h:EZ a b=some r):Says Tryz.prog 234 [.agg (EN a),.agg (B0 b)] (.BM [.agg (B0 r.1),sb r.2]):=by refine kO mix Tryz.func234 (hn [(2,[35,38,43,49,58,64,71,77,83,89,96,101,110,116,120]),(3,[29,30,41,42,45,47,48,51,56,57,60,61,62,63,66,67,73,74,81,82,85,87,88,91,92,99,100,103,108,109,112,113,114,115,118,119,126,127,128,131,132]),(6,[14,19,21,25,27]),(10,[124])] (F:=[10]) (E:=[(22,(.pg true 3 [(0,2,0)] (Rc 114 [.F 1 3,.y 3 (.YO (.t 114)),.f 1 2,.F 2 3,.y 3 (.YO (.t 118)),.f 1 2,.C 8,.o (.Na 1 [] []),.y 10 (.cp (.t 10)),.o (.app 1 8 (.t 123) (.t 124)),.J 3 1 115 117,.x ⟨none,.XC (.t 126) (.t 122),none⟩,.J 3 1 119 121,.S 1 127 125])))])) ?_;have a1:= @Je;have a2:= @UC;have a3:= @Yl;have a4:= @WW;have a5:= @P8;have l1:=λn1 n2 n3 n4:Nat=>Av λn τ=>∃(d:List Int) (c:Int),(τ 2=bA 6 (EN a)/\τ 3=bA 4 (B0 b)/\τ 4=bA 4 z9/\τ 6=vO 1 eI d/\τ 7=si c)/\AZ a b d n c=some r;unfold EZ at h;exact walk
end
namespace ER
def J1 (o:Bool):AB8 Bool:=
some o
def J2 (p:Bool):AB8 Bool:=
some p
def J5 (q:Bool):AB8 Bool:=
some q
def J6 (s:Bool):AB8 Bool:=
some s
def J4 (a c:Int) (b:AP) (d:Int) (e:AD) (f:Bool):AB8 Bool:=
if f then
(gt e.Af c).bind λad=>
(gt b.AE ad.Mutex).bind λae=>
some (ae.B6==d)
else
if a==20 then
if c != d then
(gt b.AA c).bind λaf=>
J5 (af.Status==0)
else
J5 false
else
if a==21 then
if c != d then
(gt b.AA c).bind λw=>
J6 (w.Status==5)
else
J6 false
else
if a==22 then
(gt b.Bp c).bind λx=>
some (!x)
else
if a==23 then
(gt b.Bp c).bind λy=>
some y
else
some true
def J3 (a c:Int) (b:AP) (d:Int) (e:AD) (i:Bool):AB8 Bool:=
if i then
(gt b.AE c).bind λz=>
some (z.B6==d)
else
if a==9 then
(gt b.AE c).bind λaa=>
(Gh aa.Al d).bind λu=>
some u
else
if a==12 then
some (b.Tx==(-1))
else
if a==13 then
some (b.Tx==d)
else
if a==14 then
(gt b.AA d).bind λab=>
some (!ab.Atomic)
else
if a==15 then
(gt b.AA d).bind λac=>
some ac.Atomic
else
if a==16 then
J4 a c b d e (a==16)
else
if a==18 then
J4 a c b d e (a==18)
else
J4 a c b d e (a==19)
end ER
section
open ER
def ER (e:AD) (b:AP) (d a c:Int):AB8 Bool:=
if a==6 then
(gt b.AE c).bind λv=>
some (v.B6==(-1))
else
if a==10 then
(gt b.AE c).bind λj=>
if j.B6==(-1)then
J1 ((j.Al.length:Int)==0)
else
J1 false
else
if a==8 then
(gt b.AE c).bind λl=>
if l.B6==(-1)then
(Gh l.Al d).bind λt=>
J2 (!t)
else
J2 false
else
if a==7 then
J3 a c b d e (a==7)
else
J3 a c b d e (a==11)
theorem WE {e:AD} {b:AP} {d a c:Int} {r:Bool} (h:ER e b d a c=some r):Says Tryz.prog 112 [.agg (Ah e),.agg (FZ b),si d,si a,si c] (sb r):=by refine kO mix Tryz.func112 (hn [(5,[115]),(6,[14,23,31,42,50,63,73,83,88,94,103,113,132,146,156,164])] [(9,3),(22,4)]) ?_;have a1:= @MN;have c4:=λn1 n2 n3 n4:Nat=>Bm 4 λτ=>∃(f:Bool),(τ 2=si d/\τ 4=si c/\τ 5=bA 6 (Ah e)/\τ 6=bA 4 (FZ b)/\τ 11=si a/\τ 109=sb f)/\J4 a c b d e f=some r;have c3:=λn1 n2 n3 n4:Nat=>Bm 3 λτ=>∃(i:Bool),(τ 2=si d/\τ 4=si c/\τ 5=bA 6 (Ah e)/\τ 6=bA 4 (FZ b)/\τ 11=si a/\τ 60=sb i)/\J3 a c b d e i=some r;unfold ER at h;exact walk
end
namespace Fm
def J4 (p s:List Int):AB8 ((List Int)×(List Int)):=
some (p,s)
def J3 (L1:(List Int)->(List Int)->Int->AB8 ((List Int)×(List Int))) (c:Int) (o q:List Int):AB8 ((List Int)×(List Int)):=
L1 o q (A1 (c+1))
def J2 (L1:(List Int)->(List Int)->Int->AB8 ((List Int)×(List Int))) (d:List Int) (c a:Int) (i:AW) (l:List Int):AB8 ((List Int)×(List Int)):=
(Gh i.Al a).bind λv=>
if v then
if Ak (d.length+1) 8=true then
J3 L1 c l (d++[c])
else none
else
J3 L1 c l d
def L1 (b:AP) (a:Int) (L1:(List Int)->(List Int)->Int->AB8 ((List Int)×(List Int))) (e d:List Int) (c:Int):AB8 ((List Int)×(List Int)):=
if decide (c<(b.AE.length:Int))then
(gt b.AE c).bind λi=>
if i.B6==a then
if Ak (e.length+1) 8=true then
J2 L1 d c a i (e++[c])
else none
else
J2 L1 d c a i e
else
J4 e d
def AZ (b:AP) (a:Int):Nat->(List Int)->(List Int)->Int->AB8 ((List Int)×(List Int))
|0,_,_,_=>none
|n+1,e,d,c=>L1 b a (AZ b a n) e d c
def J1 (b:AP) (a:Int) (j:Bool):AB8 ((List Int)×(List Int)):=
if j then
some ([],[])
else
AZ b a BP [] [] 0
end Fm
section
open Fm
def Fm (f:AD) (b:AP) (a:Int):AB8 ((List Int)×(List Int)):=
(D9 f b).bind λt=>
if !t then
J1 b a true
else
(DH a (f.AA.length:Int)).bind λu=>
J1 b a (!u)
theorem WA {f:AD} {b:AP} {a:Int} {r:(List Int)×(List Int)} (h:Fm f b a=some r):Says Tryz.prog 134 [.agg (Ah f),.agg (FZ b),si a] (.BM [vO 1 eI r.1,vO 1 eI r.2]):=by refine kO mix Tryz.func134 (hn [(3,[18]),(4,[24]),(8,[36,49]),(9,[44,50]),(11,[32,40])] [(2,1)]) ?_;have a1:= @MN;have a2:= @KL;have a3:= @I0;have l1:=λn1 n2 n3 n4:Nat=>Av λn τ=>∃(e d:List Int) (c:Int),(τ 2=si a/\τ 8=vO 1 eI e/\τ 9=vO 1 eI d/\τ 25=vS 2 DS b.AE/\τ 26=si (b.AE.length:Int)/\τ 27=si c)/\AZ b a n e d c=some r;have c1:=λn1 n2 n3 n4:Nat=>Bm 1 λτ=>∃(j:Bool),(τ 2=si a/\τ 4=bA 4 (FZ b)/\τ 23=sb j)/\J1 b a j=some r;unfold Fm at h;exact walk
end
def Fv (b:A9) (a:AQ):AB8 A9:=
if decide ((a.Index.length:Int)>0)then
(gt a.Index 0).bind λp=>
(Cm BP b p (b.locals.length:Int)).bind λi=>
(Cm BP i a.Expr (A1 ((b.locals.length:Int)+1))).bind λd=>
(Bj d.w a.Name).bind λe=>
(gt d.w.Cells e).bind λq=>
(A6 d (Ac.mk 9 e (A1 ((b.locals.length:Int)+1)) (b.locals.length:Int) q.Bw 0)).bind λj=>
some j
else
(Cm BP b a.Expr (b.locals.length:Int)).bind λc=>
(CP c.locals a.Name).bind λf=>
if decide (f≥0)then
(A6 c (Ac.mk 2 f (b.locals.length:Int) 0 0 0)).bind λl=>
some l
else
(Bj c.w a.Name).bind λo=>
(A6 c (Ac.mk 8 o (b.locals.length:Int) 0 0 0)).bind λs=>
some s
theorem RA {b:A9} {a:AQ} {r:A9} (h:Fv b a=some r):BA Tryz.prog 240 [bA 10 (EV b),.agg [si a.Op,si a.FA,BZ a.Name,BZ a.Arg,vS 4 BD a.Index,si a.Expr.Op,si a.Expr.N,BZ a.Expr.Name,vS 4 BD a.Expr.L,vS 11 A7 a.Body,vS 11 A7 a.Else]] (.BM []) [bA 10 (EV r),.dead]:=by refine kL mix Tryz.func240 (hn [(0,[7,8,9,10,16,23,29,30,31,32,36,41,42,43,44,45,47,48,52,57,58,59,60,66,71,72,73,74,75]),(3,[12,17,24,33,53,61,76])]) ?_;have a1:= @JI;have a2:= @Ox;have a3:= @G5;have a4:= @Hx;unfold Fv at h;exact walk
namespace Ft
def J2 (l:List Int):AB8 (List Int):=
some l
def J1 (L1:(List Int)->Int->AB8 (List Int)) (a:Int) (j:List Int):AB8 (List Int):=
L1 j (A1 (a+1))
def L1 (d b:List Int) (L1:(List Int)->Int->AB8 (List Int)) (c:List Int) (a:Int):AB8 (List Int):=
if decide (a<(b.length:Int))then
(gt b a).bind λi=>
(Lb d i).bind λo=>
if o.2 then
if Ak (c.length+1) 8=true then
J1 L1 a (c++[i])
else none
else
J1 L1 a c
else
J2 c
def AZ (d b:List Int):Nat->(List Int)->Int->AB8 (List Int)
|0,_,_=>none
|n+1,c,a=>L1 d b (AZ d b n) c a
end Ft
section
open Ft
def Ft (e f:List Int):AB8 (List Int):=
(IP f).bind λd=>
(IP e).bind λb=>
AZ d b BP [] 0
theorem PD {e f r:List Int} (h:Ft e f=some r):Says Tryz.prog 137 [vS 1 eI e,vS 1 eI f] (vO 1 eI r):=by refine kO mix Tryz.func137 (hn [(5,[27,32]),(6,[21]),(14,[18])]) ?_;have a1:= @ME;have a2:= @Oa;have l1:=λn1 n2 n3 n4:Nat=>Av λn τ=>∃(d b c:List Int) (a:Int),(τ 5=vO 1 eI c/\τ 6=vO 1 eI d/\τ 14=vO 1 eI b/\τ 15=si (b.length:Int)/\τ 16=si a)/\AZ d b n c a=some r;unfold Ft at h;exact walk
end
namespace B3
def J2:AB8 Bool:=
some true
def L1 (a:AB9) (L1:Int->AB8 Bool) (b:Int):AB8 Bool:=
if decide (b<(a.size:Int))then
(sgt a b).bind λe=>
(HT (e.toNat:Int)).bind λi=>
if !i then
some false
else
L1 (A1 (b+1))
else
J2
def AZ (a:AB9):Nat->Int->AB8 Bool
|0,_=>none
|n+1,b=>L1 a (AZ a n) b
def J1 (a:AB9) (c:Bool):AB8 Bool:=
if c then
some false
else
AZ a BP 0
end B3
section
open B3
def B3 (a:AB9):AB8 Bool:=
if decide ((a.size:Int)<1)then
J1 a true
else
if decide ((a.size:Int)>12)then
J1 a true
else
(sgt a 0).bind λd=>
(GC (d.toNat:Int)).bind λf=>
if !f then
J1 a true
else
(DQ a).bind λj=>
J1 a j
theorem IQ {a:AB9} {r:Bool} (h:B3 a=some r):Says Tryz.prog 125 [BZ a] (sb r):=by refine kO mix Tryz.func125 (hn (Q:=[(2,1)])) ?_;have a1:= @Yd;have a2:= @Ov;have a3:= @SX;have l1:=λn1 n2 n3 n4:Nat=>Av λn τ=>∃(b:Int),(τ 0=BZ a/\τ 3=si b)/\AZ a n b=some r;have c1:=λn1 n2 n3 n4:Nat=>Bm 1 λτ=>∃(c:Bool),(τ 0=BZ a/\τ 21=sb c)/\J1 a c=some r;unfold B3 at h;exact walk
end
namespace E9
def J1:AB8 Bool:=
some true
def L1 (a b:List AG) (L1:Int->AB8 Bool) (c:Int):AB8 Bool:=
if decide (c<(a.length:Int))then
(gt a c).bind λe=>
(gt b c).bind λf=>
(Gw e f).bind λd=>
if !d then
some false
else
L1 (A1 (c+1))
else
J1
def AZ (a b:List AG):Nat->Int->AB8 Bool
|0,_=>none
|n+1,c=>L1 a b (AZ a b n) c
end E9
section
open E9
def E9 (a b:List AG):AB8 Bool:=
if(a.length:Int) != (b.length:Int)then
some false
else
AZ a b BP 0
theorem RG {a b:List AG} {r:Bool} (h:E9 a b=some r):Says Tryz.prog 96 [vS 7 BX a,vS 7 BX b] (sb r):=by refine kO mix Tryz.func96 hn ?_;have a1:= @Sd;have l1:=λn1 n2 n3 n4:Nat=>Av λn τ=>∃(c:Int),(τ 0=vS 7 BX a/\τ 1=vS 7 BX b/\τ 5=si c)/\AZ a b n c=some r;unfold E9 at h;exact walk
end
namespace EU
def J1 (c:Bool):AB8 Bool:=
some c
end EU
section
open EU
def EU (a b:AB):AB8 Bool:=
(Fw a.Sync b.Sync).bind λd=>
if d then
(E4 a.Cells b.Cells).bind λe=>
if e then
(E4 a.AK b.AK).bind λf=>
if f then
(ET a.Count b.Count).bind λi=>
J1 i
else
J1 false
else
J1 false
else
J1 false
theorem Kf {a b:AB} {r:Bool} (h:EU a b=some r):Says Tryz.prog 23 [.agg (A3 a),.agg (A3 b)] (sb r):=by refine kO mix Tryz.func23 (hn [(2,[5,11,18,25]),(3,[7,13,20,27])]) ?_;have a1:= @Zx;have a2:= @Se;have a3:= @KS;unfold EU at h;exact walk
end
namespace Ep
def J1 (c:Bool):AB8 Bool:=
some c
end Ep
section
open Ep
def Ep (b:AD) (a:AB):AB8 Bool:=
(D9 b a.Sync).bind λd=>
if d then
if(a.Cells.length:Int)==(b.Cells.length:Int)then
if(a.AK.length:Int)==(b.AK.length:Int)then
J1 ((a.Count.length:Int)==(b.AA.length:Int))
else
J1 false
else
J1 false
else
J1 false
theorem Sn {b:AD} {a:AB} {r:Bool} (h:Ep b a=some r):Says Tryz.prog 53 [.agg (Ah b),.agg (A3 a)] (sb r):=by refine kO mix Tryz.func53 (hn [(2,[13,22,31]),(3,[6,10,19,28])]) ?_;have a1:= @KL;unfold Ep at h;exact walk
end
namespace JB
def J1 (c:Bool):AB8 Bool:=
some c
end JB
section
open JB
def JB (b:AD) (a:AB):AB8 Bool:=
(D9 b a.Sync).bind λd=>
if d then
if(a.Cells.length:Int)==(b.Cells.length:Int)then
if(a.AK.length:Int)==(b.AK.length:Int)then
J1 ((a.Count.length:Int)==(b.AA.length:Int))
else
J1 false
else
J1 false
else
J1 false
theorem ZN {b:AD} {a:AB} {r:Bool} (h:JB b a=some r):Says Tryz.prog 81 [.agg (Ah b),.agg (A3 a)] (sb r):=by refine kO mix Tryz.func81 (hn [(2,[13,22,31]),(3,[6,10,19,28])]) ?_;have a1:= @KL;unfold JB at h;exact walk
end
namespace DT
def J1 (i:Bool):AB8 Int:=
if i then
some 6
else
some 0
end DT
section
open DT
def DT (c:AR) (e:Int) (d:AB9) (a b:Int):AB8 Int:=
(En c e d).bind λf=>
if f==0 then
some 5
else
if f != a then
J1 (f != b)
else
J1 false
theorem RX {c:AR} {e:Int} {d:AB9} {a b r:Int} (h:DT c e d a b=some r):Says Tryz.prog 258 [.agg (CN c),si e,BZ d,si a,si b] (si r):=by refine kO mix Tryz.func258 hn ?_;have a1:= @WN;unfold DT at h;exact walk
end
end Go.Abs
