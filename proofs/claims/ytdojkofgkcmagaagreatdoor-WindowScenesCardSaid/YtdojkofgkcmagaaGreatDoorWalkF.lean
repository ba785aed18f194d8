/- Typed programs of Go functions, and that the functions do what these say. -/
import Derived.Test.YtdojkofgkcmagaaGreatDoorWalkC
import Derived.Test.YtdojkofgkcmagaaGreatDoorWalkD
import Derived.Test.YtdojkofgkcmagaaGreatDoorWalkE
set_option linter.unusedSimpArgs false
set_option linter.unusedVariables false
namespace Go.Abs
open Go.Proofs
set_option maxRecDepth 1000000
set_option maxHeartbeats 4000000
namespace DO
def J6 (aa:AU) (w:AG):ABd (AG×AU):=
some (w,aa)
def J5 (e:AG) (b:List (List Int)) (p:AU) (a:Int×AU) (z:Bool):ABd (AG×AU):=
if z then
(gt b a.1).bind λae=>
(Ek p ae).bind λv=>
J6 v.2 (AG.mk e.Thread e.Kind e.Obj e.Value e.Site e.Dw v.1)
else
J6 p e
def J4 (b:List (List Int)) (a:Int×AU) (p:AU) (e:AG):ABd (AG×AU):=
if e.Kind==4 then
J5 e b p a true
else
J5 e b p a (e.Kind==22)
def J3 (c:AG) (b:List (List Int)) (a j l:Int×AU) (y:Bool):ABd (AG×AU):=
if y then
(gt b a.1).bind λad=>
(Ek l.2 ad).bind λu=>
J4 b a u.2 (AG.mk c.Thread c.Kind j.1 l.1 c.Site u.1 c.DM)
else
J4 b a l.2 (AG.mk c.Thread c.Kind j.1 l.1 c.Site c.Dw c.DM)
def J2 (b:List (List Int)) (f:AB) (a i:Int×AU) (d:AD) (c:AG):ABd (AG×AU):=
(Cw i.2 c.Kind a.1).bind λj=>
(Gf j.2 f c.Kind j.1).bind λl=>
if c.Kind==5 then
J3 c b a j l true
else
if c.Kind==3 then
(gt d.Cells j.1).bind λab=>
J3 c b a j l (decide (ab.Bq>0))
else
if c.Kind==4 then
(gt d.Cells j.1).bind λac=>
J3 c b a j l (decide (ac.Bq>0))
else
J3 c b a j l false
def J1 (b:List (List Int)) (f:AB) (a i:Int×AU) (d:AD) (o:Int) (x:Bool):ABd (AG×AU):=
if x then
J2 b f a i d (AG.mk a.1 o 0 0 (-1) [] [])
else
J2 b f a i d (AG.mk a.1 o 0 0 (BA ((BA (a.1*6))+i.1)) [] [])
end DO
section
open DO
def DO (q:AU) (f:AB) (d:AD) (b:List (List Int)):ABd (AG×AU):=
(Ah q 4).bind λa=>
(Me).bind λs=>
(Ah a.2 (s.length:Int)).bind λt=>
(gt s t.1).bind λo=>
(Ah t.2 6).bind λi=>
if o==1 then
J1 b f a i d o true
else
J1 b f a i d o (o==2)
theorem Yc {q:AU} {f:AB} {d:AD} {b:List (List Int)} {r:AG×AU} (h:DO q f d b=some r):BD Tryz.prog 134 [bA 2 (FO q),.agg (BI f),.agg (Aq d),vO 1 NC b] (.agg (Ic r.1)) [bA 2 (FO r.2),.dead,.dead,vO 1 NC b]:=by refine kL mix Tryz.func134 (hn [(0,[12,17,38,44,75,90]),(3,[76,78,79,91,93,94]),(6,[65]),(10,[16,18,21]),(11,[29,33,37,39,43,46,48,51,52,56,60,67,81,82,86,96,97])] [(4,2)] (E:=[(3,(.bY [(0,10,11,25)] [iC 15 9,i1 16 10 (.cp (.t 10)),i1 17 0 (.cp (.t 0)),i1 18 10 (.cp (.t 10)),iZ 19 18,i0 20 (.Uv 132 [] (.t 17) none [.t 19]),xG 21 10 1 16 20,iL 22 21,iC 23 9,iP 24 .mul 23 6,i0 25 .fl,i0 26 (.Uv 132 [] (.t 0) none [.c (si 6)]),iO 27 .add 24 26,i0 28 (.T2 z3 [(0,1,.t 15),(1,1,.t 22),(4,1,.t 27)]),⟨some ⟨11,[29,33,37,39,43,46,48,51,52,56,60,67,81,82,86,96,97],[]⟩,.bx 7 (.c (.agg z3)),none⟩,iS 7 11 28])),(9,(.Yu [.o (i1 75 0 (.cp (.t 0))),.o (i1 76 3 (.cp (.t 3))),.o (iC 77 9),.o (xG 78 3 1 76 77),.o (Zk 79 3 78),.lb (some ⟨80,[],[]⟩) 178 (.t 75) [] (.t 79),.o (LU 81 11 5 11),.o (iS 1 81 80)])),(11,(.Yu [.o (i1 90 0 (.cp (.t 0))),.o (i1 91 3 (.cp (.t 3))),.o (iC 92 9),.o (xG 93 3 1 91 92),.o (Zk 94 3 93),.lb (some ⟨95,[],[]⟩) 178 (.t 90) [] (.t 94),.o (LU 96 11 6 11),.o (iS 1 96 95)]))])) ?_;have a1:= @DD;have a2:= @Yd;have a3:= @Vz;have a4:= @Ye;have a5:= @Zb;have c2:=λn1 n2 n3 n4:Nat=>Bs 2 λτ=>∃(a i:Int×AU) (c:AG),(τ 0=bA 2 (FO i.2)/\τ 3=vO 1 NC b/\τ 5=bA 7 (BI f)/\τ 6=bA 6 (Aq d)/\τ 8=bA 7 z3/\τ 9=si a.1/\τ 11=bA 7 (Ic c))/\J2 b f a i d c=some r;unfold DO at h;exact walk
end
namespace AN
def J1 (i:Bool):ABd Bool:=
some i
def J2 (j:Bool):ABd Bool:=
some j
def J4 (l:Bool):ABd Bool:=
some l
def J6 (o:Bool):ABd Bool:=
some o
def J9 (p:Bool):ABd Bool:=
some p
def Oz (q:Bool):ABd Bool:=
some q
def J8 (a:Ad) (b:AD) (c:Bool):ABd Bool:=
if c then
(Da a.A (b.AA.length:Int)).bind λz=>
some z
else
if a.Op==26 then
(Da a.A (b.AK.length:Int)).bind λaa=>
some aa
else
if a.Op==27 then
(Da a.B (b.AK.length:Int)).bind λab=>
some ab
else
if a.Op==3 then
if a.N==4 then
J9 true
else
J9 (a.N==5)
else
if a.Op==4 then
if decide (a.N≥6)then
Oz (decide (a.N≤18))
else
Oz false
else
some true
def J7 (a:Ad) (b:AD) (f:Bool):ABd Bool:=
if f then
(Da a.A (b.Ai.length:Int)).bind λy=>
some y
else
if a.Op==24 then
J8 a b (a.Op==24)
else
J8 a b (a.Op==25)
def J5 (a:Ad) (b:AD) (e:Bool):ABd Bool:=
if e then
(Da a.A (b.AF.length:Int)).bind λx=>
if x then
(gt b.AF a.A).bind λaf=>
J6 af.RW
else
J6 false
else
if a.Op==21 then
J7 a b (a.Op==21)
else
if a.Op==22 then
J7 a b (a.Op==22)
else
J7 a b (a.Op==23)
def J3 (a:Ad) (b:AD) (d:Bool):ABd Bool:=
if d then
(Da a.A (b.AF.length:Int)).bind λw=>
if w then
(gt b.AF a.A).bind λae=>
J4 (!ae.RW)
else
J4 false
else
if a.Op==13 then
J5 a b (a.Op==13)
else
if a.Op==14 then
J5 a b (a.Op==14)
else
if a.Op==15 then
J5 a b (a.Op==15)
else
J5 a b (a.Op==16)
end AN
section
open AN
def AN (b:AD) (a:Ad):ABd Bool:=
if a.Op==6 then
(Da a.B (b.Cells.length:Int)).bind λs=>
if s then
(gt b.Cells a.B).bind λac=>
J1 (ac.Bq==0)
else
J1 false
else
if a.Op==8 then
(Da a.A (b.Cells.length:Int)).bind λt=>
if t then
(gt b.Cells a.A).bind λad=>
J2 (ad.Bq==0)
else
J2 false
else
if a.Op==7 then
(Eo b a.B a.N).bind λu=>
some u
else
if a.Op==9 then
(Eo b a.A a.N).bind λv=>
some v
else
if a.Op==11 then
J3 a b (a.Op==11)
else
J3 a b (a.Op==12)
theorem UU {b:AD} {a:Ad} {r:Bool} (h:AN b a=some r):Says Tryz.prog 209 [.agg (Aq b),.agg (EF a)] (sb r):=by refine kO mix Tryz.func209 (hn [(2,[11,16,29,34,64,69,85,90,104,113,121,129]),(3,[5,9,18,27,36,46,48,54,56,62,71,83,92,102,111,119,127,135,139,145,149])] [(11,3),(14,5),(19,7),(23,8)]) ?_;have a1:= @Pm;have a2:= @YD;have c8:=λn1 n2 n3 n4:Nat=>Bs 8 λτ=>∃(c:Bool),(τ 2=bA 6 (Aq b)/\τ 3=bA 6 (EF a)/\τ 6=si a.Op/\τ 108=sb c)/\J8 a b c=some r;have c7:=λn1 n2 n3 n4:Nat=>Bs 7 λτ=>∃(f:Bool),(τ 2=bA 6 (Aq b)/\τ 3=bA 6 (EF a)/\τ 6=si a.Op/\τ 98=sb f)/\J7 a b f=some r;have c5:=λn1 n2 n3 n4:Nat=>Bs 5 λτ=>∃(e:Bool),(τ 2=bA 6 (Aq b)/\τ 3=bA 6 (EF a)/\τ 6=si a.Op/\τ 78=sb e)/\J5 a b e=some r;have c3:=λn1 n2 n3 n4:Nat=>Bs 3 λτ=>∃(d:Bool),(τ 2=bA 6 (Aq b)/\τ 3=bA 6 (EF a)/\τ 6=si a.Op/\τ 59=sb d)/\J3 a b d=some r;unfold AN at h;exact walk
end
namespace A1
def J8:ABd Bool:=
some true
def J7 (L3:Int->ABd Bool) (d:Int) (p:Bool):ABd Bool:=
if p then
some false
else
L3 (BA (d+1))
def J6 (L3:Int->ABd Bool) (d:Int) (a:AL) (f:AH) (o:Bool):ABd Bool:=
if o then
some false
else
if f.Status==3 then
(gt a.World.Ai f.Dg).bind λz=>
(gt a.Init.Sync.AF z.Mutex).bind λaa=>
J7 L3 d (aa.CG==d)
else
if f.Status==4 then
(gt a.World.Ai f.Dg).bind λab=>
(gt a.Init.Sync.AF ab.Mutex).bind λac=>
J7 L3 d (ac.CG==d)
else
J7 L3 d false
def L3 (a:AL) (L3:Int->ABd Bool) (d:Int):ABd Bool:=
if decide (d<(a.Init.Sync.AA.length:Int))then
(gt a.Init.Sync.AA d).bind λf=>
if f.Atomic then
(FH a d).bind λv=>
J6 L3 d a f (!v)
else
J6 L3 d a f false
else
J8
def Gg (a:AL):Nat->Int->ABd Bool
|0,_=>none
|n+1,d=>L3 a (Gg a n) d
def J5 (a:AL) (j:Bool):ABd Bool:=
if j then
some false
else
Gg a BW 0
def J4 (a:AL):ABd Bool:=
if a.Init.Sync.Tx != (-1)then
(FH a a.Init.Sync.Tx).bind λu=>
J5 a (!u)
else
J5 a false
def J3 (L1:Int->ABd Bool) (b:Int):ABd Bool:=
L1 (BA (b+1))
def J2 (L2:Int->ABd Bool) (e:Int) (q:Bool):ABd Bool:=
if q then
some false
else
L2 (BA (e+1))
def L2 (L1:Int->ABd Bool) (b:Int) (a:AL) (c:AW) (L2:Int->ABd Bool) (e:Int):ABd Bool:=
if decide (e<(c.Ak.length:Int))then
(gt c.Ak e).bind λl=>
(FH a l).bind λt=>
if !t then
J2 L2 e true
else
if decide (e>0)then
(gt c.Ak (BA (e-1))).bind λy=>
J2 L2 e (decide (l≤y))
else
J2 L2 e false
else
J3 L1 b
def DF (L1:Int->ABd Bool) (b:Int) (a:AL) (c:AW):Nat->Int->ABd Bool
|0,_=>none
|n+1,e=>L2 L1 b a c (DF L1 b a c n) e
def J1 (L1:Int->ABd Bool) (b:Int) (a:AL) (c:AW) (i:Bool):ABd Bool:=
if i then
some false
else
DF L1 b a c BW 0
def L1 (a:AL) (L1:Int->ABd Bool) (b:Int):ABd Bool:=
if decide (b<(a.Init.Sync.AF.length:Int))then
(gt a.Init.Sync.AF b).bind λc=>
if c.CG != (-1)then
(FH a c.CG).bind λs=>
if !s then
J1 L1 b a c true
else
if decide ((c.Ak.length:Int)>0)then
(gt a.World.AF b).bind λw=>
if !w.RW then
J1 L1 b a c true
else
J1 L1 b a c (c.CG != (-1))
else
J1 L1 b a c false
else
if decide ((c.Ak.length:Int)>0)then
(gt a.World.AF b).bind λx=>
if !x.RW then
J1 L1 b a c true
else
J1 L1 b a c (c.CG != (-1))
else
J1 L1 b a c false
else
J4 a
def Aa (a:AL):Nat->Int->ABd Bool
|0,_=>none
|n+1,b=>L1 a (Aa a n) b
end A1
section
open A1
def A1 (a:AL):ABd Bool:=
Aa a BW 0
theorem UZ {a:AL} {r:Bool} (h:A1 a=some r):Says Tryz.prog 54 [.agg (B0 a)] (sb r):=by refine kO mix Tryz.func54 (hn [(1,[9,10,40,41,129,130]),(3,[13,19,88,93,99,105,127]),(5,[24,29,35,49,56,63,74,79]),(8,[110,118,122,132])] [(9,1),(18,5)]) ?_;have a1:= @YQ;have l3:=λn1 n2 n3 n4:Nat=>A3 λn τ=>∃(d:Int),(τ 1=bA 15 (B0 a)/\τ 3=bA 4 (F8 a.Init.Sync)/\τ 7=si d)/\Gg a n d=some r;have l1:=λn1 n2 n3 n4:Nat=>A3 λn τ=>∃(b:Int),(τ 1=bA 15 (B0 a)/\τ 3=bA 4 (F8 a.Init.Sync)/\τ 4=si b)/\Aa a n b=some r;have l2:=λn1 n2 n3 n4:Nat=>A3 λn τ=>∃(b:Int) (c:AW) (e:Int),(τ 1=bA 15 (B0 a)/\τ 3=bA 4 (F8 a.Init.Sync)/\τ 4=si b/\τ 5=bA 2 (DS c)/\τ 6=si e)/\DF (Aa a n1) b a c n e=some r;have c5:=λn1 n2 n3 n4:Nat=>Bs 5 λτ=>∃(j:Bool),(τ 1=bA 15 (B0 a)/\τ 3=bA 4 (F8 a.Init.Sync)/\τ 97=sb j)/\J5 a j=some r;have c1:=λn1 n2 n3 n4:Nat=>Bs 1 λτ=>∃(b:Int) (c:AW) (i:Bool),(τ 1=bA 15 (B0 a)/\τ 3=bA 4 (F8 a.Init.Sync)/\τ 4=si b/\τ 5=bA 2 (DS c)/\τ 54=sb i)/\J1 (Aa a n1) b a c i=some r;unfold A1 at h;exact walk
end
namespace Ch
def J2 (q:Bool):ABd Bool:=
some q
def J3 (s:Bool):ABd Bool:=
some s
def J4 (t:Bool):ABd Bool:=
some t
def J7 (u:Bool):ABd Bool:=
some u
def J8 (v:Bool):ABd Bool:=
some v
def J6 (a b:Int) (c:AP) (d:Int) (e:AD) (j:Bool):ABd Bool:=
if j then
(gt e.Ai b).bind λap=>
(gt c.AF ap.Mutex).bind λaq=>
some (aq.CG==d)
else
if a==20 then
if b != d then
(gt c.AA b).bind λac=>
J7 (ac.Status==0)
else
J7 false
else
if a==21 then
if b != d then
(gt c.AA b).bind λad=>
J8 (ad.Status==5)
else
J8 false
else
if a==22 then
(gt c.Bn b).bind λae=>
some (!ae)
else
if a==23 then
(gt c.Bn b).bind λaf=>
some af
else
some true
def J5 (a b:Int) (c:AP) (d:Int) (e:AD) (f:AH) (i:Bool):ABd Bool:=
if i then
(gt c.AF b).bind λal=>
some (al.CG==d)
else
if a==9 then
(gt c.AF b).bind λao=>
(GP ao.Ak d).bind λaa=>
some aa
else
if a==12 then
some (c.Tx==(-1))
else
if a==13 then
some (c.Tx==d)
else
if a==14 then
some (!f.Atomic)
else
if a==15 then
some f.Atomic
else
if a==16 then
J6 a b c d e (a==16)
else
if a==18 then
J6 a b c d e (a==18)
else
J6 a b c d e (a==19)
def J1 (a b:Int) (c:AP) (d:Int) (e:AD) (l:Bool):ABd Bool:=
if l then
some false
else
(gt c.AA d).bind λf=>
if a==1 then
some (f.Status==1)
else
if a==17 then
if f.Status==4 then
if f.Dg==b then
(gt e.Ai b).bind λab=>
(gt c.AF ab.Mutex).bind λai=>
J2 (ai.CG==(-1))
else
J2 false
else
J2 false
else
if f.Status != 2 then
some false
else
if a==6 then
(gt c.AF b).bind λaj=>
some (aj.CG==(-1))
else
if a==10 then
(gt c.AF b).bind λo=>
if o.CG==(-1)then
J3 ((o.Ak.length:Int)==0)
else
J3 false
else
if a==8 then
(gt c.AF b).bind λp=>
if p.CG==(-1)then
(GP p.Ak d).bind λz=>
J4 (!z)
else
J4 false
else
if a==7 then
J5 a b c d e f (a==7)
else
J5 a b c d e f (a==11)
end Ch
section
open Ch
def Ch (e:AD) (c:AP) (d a b:Int):ABd Bool:=
(Ea e c).bind λw=>
if !w then
J1 a b c d e true
else
(HH d (e.AA.length:Int)).bind λx=>
if !x then
J1 a b c d e true
else
(IP e a b).bind λy=>
J1 a b c d e (!y)
theorem NW {e:AD} {c:AP} {d a b:Int} {r:Bool} (h:Ch e c d a b=some r):Says Tryz.prog 66 [.agg (Aq e),.agg (F8 c),si d,si a,si b] (sb r):=by refine kO mix Tryz.func66 (hn [(5,[18,56,166]),(6,[31,54,73,82,90,101,109,122,132,142,147,164,183,197,207,215]),(11,[39,44,48,67,153,158])] [(2,1),(22,5),(35,6)]) ?_;have a1:= @Mc;have a2:= @LO;have a3:= @SD;have a4:= @YJ;have c6:=λn1 n2 n3 n4:Nat=>Bs 6 λτ=>∃(j:Bool),(τ 2=si d/\τ 4=si b/\τ 5=bA 6 (Aq e)/\τ 6=bA 4 (F8 c)/\τ 70=si a/\τ 160=sb j)/\J6 a b c d e j=some r;have c5:=λn1 n2 n3 n4:Nat=>Bs 5 λτ=>∃(f:AH) (i:Bool),(τ 2=si d/\τ 4=si b/\τ 5=bA 6 (Aq e)/\τ 6=bA 4 (F8 c)/\τ 11=bA 3 (An f)/\τ 70=si a/\τ 119=sb i)/\J5 a b c d e f i=some r;have c1:=λn1 n2 n3 n4:Nat=>Bs 1 λτ=>∃(l:Bool),(τ 2=si d/\τ 3=si a/\τ 4=si b/\τ 5=bA 6 (Aq e)/\τ 6=bA 4 (F8 c)/\τ 30=sb l)/\J1 a b c d e l=some r;unfold Ch at h;exact walk
end
def Fe (b:BB) (a:AQ):ABd BB:=
if decide ((a.Index.length:Int)>0)then
(gt a.Index 0).bind λp=>
(Cp BW b p (b.locals.length:Int)).bind λi=>
(Cp BW i a.Expr (BA ((b.locals.length:Int)+1))).bind λd=>
(Bh d.w a.Name).bind λe=>
(gt d.w.Cells e).bind λq=>
(A6 d (Ad.mk 9 e (BA ((b.locals.length:Int)+1)) (b.locals.length:Int) q.Bq 0)).bind λj=>
some j
else
(Cp BW b a.Expr (b.locals.length:Int)).bind λc=>
(CU c.locals a.Name).bind λf=>
if decide (f≥0)then
(A6 c (Ad.mk 2 f (b.locals.length:Int) 0 0 0)).bind λl=>
some l
else
(Bh c.w a.Name).bind λo=>
(A6 c (Ad.mk 8 o (b.locals.length:Int) 0 0 0)).bind λs=>
some s
theorem Qh {b:BB} {a:AQ} {r:BB} (h:Fe b a=some r):BD Tryz.prog 249 [bA 10 (EN b),.agg [si a.Op,si a.FK,BZ a.Name,BZ a.Arg,vS 4 BH a.Index,si a.Expr.Op,si a.Expr.N,BZ a.Expr.Name,vS 4 BH a.Expr.L,vS 11 A7 a.Body,vS 11 A7 a.Else]] (.BQ []) [bA 10 (EN r),.dead]:=by refine kL mix Tryz.func249 (hn [(0,[7,8,9,10,16,23,29,30,31,32,36,41,42,43,44,45,47,48,52,57,58,59,60,66,71,72,73,74,75]),(3,[12,17,24,33,53,61,76])]) ?_;have a1:= @I2;have a2:= @OX;have a3:= @Gl;have a4:= @HY;unfold Fe at h;exact walk
namespace B5
def J2:ABd Bool:=
some true
def L1 (a:ABe) (L1:Int->ABd Bool) (b:Int):ABd Bool:=
if decide (b<(a.size:Int))then
(sgt a b).bind λe=>
(G6 (e.toNat:Int)).bind λi=>
if !i then
some false
else
L1 (BA (b+1))
else
J2
def Aa (a:ABe):Nat->Int->ABd Bool
|0,_=>none
|n+1,b=>L1 a (Aa a n) b
def J1 (a:ABe) (c:Bool):ABd Bool:=
if c then
some false
else
Aa a BW 0
end B5
section
open B5
def B5 (a:ABe):ABd Bool:=
if decide ((a.size:Int)<1)then
J1 a true
else
if decide ((a.size:Int)>12)then
J1 a true
else
(sgt a 0).bind λd=>
(Fl (d.toNat:Int)).bind λf=>
if !f then
J1 a true
else
(DQ a).bind λj=>
J1 a j
theorem Hp {a:ABe} {r:Bool} (h:B5 a=some r):Says Tryz.prog 98 [BZ a] (sb r):=by refine kO mix Tryz.func98 (hn (Q:=[(2,1)])) ?_;have a1:= @X4;have a2:= @OV;have a3:= @Rl;have l1:=λn1 n2 n3 n4:Nat=>A3 λn τ=>∃(b:Int),(τ 0=BZ a/\τ 3=si b)/\Aa a n b=some r;have c1:=λn1 n2 n3 n4:Nat=>Bs 1 λτ=>∃(c:Bool),(τ 0=BZ a/\τ 21=sb c)/\J1 a c=some r;unfold B5 at h;exact walk
end
namespace Ee
def J1 (c:Bool):ABd Bool:=
some c
end Ee
section
open Ee
def Ee (b:AD) (a:AB):ABd Bool:=
(EM b a.Sync).bind λd=>
if d then
if(a.Cells.length:Int)==(b.Cells.length:Int)then
if(a.AK.length:Int)==(b.AK.length:Int)then
J1 ((a.Count.length:Int)==(b.AA.length:Int))
else
J1 false
else
J1 false
else
J1 false
theorem Rz {b:AD} {a:AB} {r:Bool} (h:Ee b a=some r):Says Tryz.prog 145 [.agg (Aq b),.agg (BI a)] (sb r):=by refine kO mix Tryz.func145 (hn [(2,[13,22,31]),(3,[6,10,19,28])]) ?_;have a1:= @Ku;unfold Ee at h;exact walk
end
def f91c:Y3:=(.seq (.ic (Rc 0 [.b 2 [16,29,43,47] (.bx 6 (.t 0)),.B 4 false]))
(.seq (.ic (Rc 0 [.b 5 [13,23,36,42,46,51,55] (.mv (.c (.own false 1 [])))]))
(.seq (.ic (Rc 13 [.y 5 (.cp (.t 5)),.C 1,.o (.app 1 16 (.t 13) (.t 14)),.b 5 [13,23,36,42,46,51,55] (.mv (.t 15))]))
(iM (.ic (Ra 16 [.f 1 2,.Z 17,.Y 0]
(Bl 0 (Ra 20 [.O .lss 19 18]
(Sq (cX 20 0)
(Sq (Bk 1 (Ra 21 [.I 2 17 19,.A 2 21,.b 7 [24] (.bx 2 (.c (.agg [BZ ⟨#[]⟩,sb false]))),.S 2 7 22]
(Rc 23 [.y 5 (.cp (.t 5)),.f 0 7,.o (.Nk 1 [[BZ ⟨#[]⟩]] [(0,.t 25)]),.o (.app 1 16 (.t 23) (.t 26)),.b 5 [13,23,36,42,46,51,55] (.mv (.t 27))])))
(Rc 28 [.P .add 19 1,.w 19,.C 28])))))))
(iM (.ic (Ra 29 [.f 2 2,.Z 30,.Y 0]
(Bl 2 (Ra 33 [.O .lss 32 31]
(Sq (cX 33 2)
(Sq (Bk 3 (Ra 34 [.I 2 30 32,.A 2 34,.b 9 [37] (.bx 2 (.c (.agg [BZ ⟨#[]⟩,si 0]))),.S 2 9 35]
(Rc 36 [.y 5 (.cp (.t 5)),.f 0 9,.o (.Nk 1 [[BZ ⟨#[]⟩]] [(0,.t 38)]),.o (.app 1 16 (.t 36) (.t 39)),.b 5 [13,23,36,42,46,51,55] (.mv (.t 40))])))
(Rc 41 [.P .add 32 1,.w 32,.C 41])))))))
(.seq (.ic (Rc 42 [.y 5 (.cp (.t 5)),.f 3 2,.o (.app 1 16 (.t 42) (.t 44)),.b 5 [13,23,36,42,46,51,55] (.mv (.t 45))]))
(.seq (.ic (Rc 46 [.y 5 (.cp (.t 5)),.f 4 2,.o (.app 1 16 (.t 46) (.t 48)),.b 5 [13,23,36,42,46,51,55] (.mv (.t 49))]))
(.seq (.ZQ [.mkm ⟨50,[],[]⟩,.x (.o ⟨some ⟨10,[],[]⟩,.mv (.t 50),none⟩)])
(iM (.seq (.ic (Rc 51 [.y 5 (.cp (.t 5)),.Z 51,.Y 0]))
(.block 4 (.loop (.seq (.ic (Rc 54 [.O .lss 53 52]))
(.seq (.ic (cX 54 4))
(.seq (.block 5 (.seq (.ic (Rc 55 [.J 5 1 51 53,.L 55,.M 12 56]))
(.seq (iM (.ZQ [.x (.o ⟨some ⟨57,[],[]⟩,.cp (.t 12),none⟩),.x (.o ⟨some ⟨58,[],[]⟩,.call 142 [.t 57] 0,none⟩),.x (.o ⟨some ⟨59,[],[]⟩,.un .not (.t 58),none⟩),.x (.o ⟨some ⟨60,[],[]⟩,.cp (.t 59),none⟩),.x (.o ⟨some ⟨61,[],[]⟩,.cp (.t 10),some (60,false)⟩),.x (.o ⟨some ⟨62,[],[]⟩,.cp (.t 12),some (60,false)⟩),.lkp (some (60,false)) ⟨63,[],[]⟩ (.t 61) (.t 62),.x (.o ⟨some ⟨64,[],[]⟩,.pick (.t 60) (.c (sb true)) (.t 63),none⟩)])
(.ic (Ci 64 (Rb 0 [.B 4 false]))))
(.ZQ [.x (.o ⟨some ⟨65,[],[]⟩,.cp (.t 10),none⟩),.x (.o ⟨some ⟨66,[],[]⟩,.cp (.t 12),none⟩),.mup (.t 65) (.t 66) (.c (sb true))]))))
(.ic (Rc 67 [.P .add 53 1,.w 53,.C 67]))))))))
(.ic (Rb 0 [.B 4 true])))))))))))
def f91g:Gi:=⟨[(13,[5]),(16,[2]),(23,[5]),(24,[7]),(29,[2]),(36,[5]),(37,[9]),(42,[5]),(43,[2]),(46,[5]),(47,[2]),(51,[5]),(55,[5])]⟩
def f91r:List RV:=[.tmp 4]
def f91:FIM:=⟨f91c,f91g,f91r⟩
theorem chk91:rT Tryz.prog Tryz.f91 f91=true:=by kernel_rfl
namespace BK
def J4 (seen:List ABe):ABd Bool:=
some true
def J3 (L3:Int->(List ABe)->ABd Bool) (seen:List ABe) (Tt:Int) (x_2:ABe) (t64v:Bool):ABd Bool:=
if t64v then
some false
else
if(seen.any λζ=>ζ==x_2)=false then
L3 (BA (Tt+1)) (seen++[x_2])
else none
def L3 (Jf:List ABe) (wv:AD) (L3:Int->(List ABe)->ABd Bool) (Tt:Int) (seen:List ABe):ABd Bool:=
if decide (Tt<(((Jf++wv.AK)++wv.AA).length:Int))then
(gt ((Jf++wv.AK)++wv.AA) Tt).bind λx_2=>
(Cx x_2).bind λv=>
if !v then
J3 L3 seen Tt x_2 true
else
J3 L3 seen Tt x_2 (seen.any λζ=>ζ==x_2)
else
J4 seen
def Gg (Jf:List ABe) (wv:AD):Nat->Int->(List ABe)->ABd Bool
|0,_,_=>none
|n+1,Tt,seen=>L3 Jf wv (Gg Jf wv n) Tt seen
def J2 (wv:AD) (Jf:List ABe):ABd Bool:=
if Ap (Jf.length+wv.AK.length) 16=true then
if Ap ((Jf++wv.AK).length+wv.AA.length) 16=true then
Gg Jf wv BW 0 []
else none
else none
def L2 (wv:AD) (L2:(List ABe)->Int->ABd Bool) (SK:List ABe) (eY:Int):ABd Bool:=
if decide (eY<(wv.Ai.length:Int))then
(gt wv.Ai eY).bind λx_1=>
if Ap (SK.length+1) 16=true then
L2 (SK++[x_1.Name]) (BA (eY+1))
else none
else
J2 wv SK
def DF (wv:AD):Nat->(List ABe)->Int->ABd Bool
|0,_,_=>none
|n+1,SK,eY=>L2 wv (DF wv n) SK eY
def J1 (wv:AD) (gF:List ABe):ABd Bool:=
DF wv BW gF 0
def L1 (wv:AD) (L1:(List ABe)->Int->ABd Bool) (all:List ABe) (eX:Int):ABd Bool:=
if decide (eX<(wv.AF.length:Int))then
(gt wv.AF eX).bind λx=>
if Ap (all.length+1) 16=true then
L1 (all++[x.Name]) (BA (eX+1))
else none
else
J1 wv all
def Aa (wv:AD):Nat->(List ABe)->Int->ABd Bool
|0,_,_=>none
|n+1,all,eX=>L1 wv (Aa wv n) all eX
end BK
section
open BK
def BK (wv:AD) (variables:List ABe):ABd Bool:=
if Ap (variables.length) 16=true then
Aa wv BW variables 0
else none
theorem Oi {wv:AD} {variables:List ABe} {r:Bool} (h:BK wv variables=some r):Says Tryz.prog 91 [.agg (Aq wv),vS 1 eS variables] (sb r):=by
 refine lN mix Tryz.func91 chk91 (AAO (by kernel_rfl)) rfl ?_;simp only[f91,f91c,f91g,f91r];obtain⟨_,h⟩:=cS h
 try simp +decide only[go_sem, *]
 refine iN (λτ ν=>∃gF:List ABe,(τ 2=bA 6 (Aq wv)/\τ 5=vO 1 eS gF)/\J1 wv gF=some r) λM1 hM1=>⟨?_,?_⟩
 . try simp +decide only[go_sem, *]
   refine kC (λn τ=>∃all:List ABe,∃eX:Int,(τ 2=bA 6 (Aq wv)/\τ 5=vO 1 eS all/\τ 17=vS 2 Hy wv.AF/\τ 18=si (wv.AF.length:Int)/\τ 19=si eX)/\Aa wv n all eX=some r) ⟨_,_,?_,h⟩ λn1 τ1 N1=> ?_
   . simp +decide only[go_sem, *]
   rintro⟨all,eX,s1,h⟩ hN1;cases n1 with
   |zero=>exact ET h
   |succ n1=>
    rw[Aa]at h;generalize hL1:Aa wv n1=L1 at h
    try simp +decide only[go_sem, *]
    refine cI h (λ_ h=> ?_) λ_ h=> ?_
    . obtain⟨x,_,h⟩:=gB h;obtain⟨_,h⟩:=cS h
      try simp +decide only[go_sem, *]
      refine hN1 n1 (Nat.lt_succ_self _) _ ⟨_,_,?_,hL1.symm▸h⟩;simp +decide only[go_sem, *]
    try simp +decide only[go_sem, *]
    refine hM1 _ _ ⟨_,?_,h⟩;simp +decide only[go_sem, *]
 rintro τ1 ν1 ⟨gF,s1,h⟩
 try simp +decide only[go_sem, *]
 refine iN (λτ ν=>∃Jf:List ABe,(τ 2=bA 6 (Aq wv)/\τ 5=vO 1 eS Jf)/\J2 wv Jf=some r) λM2 hM2=>⟨?_,?_⟩
 . try simp +decide only[go_sem, *]
   refine kC (λn τ=>∃SK:List ABe,∃eY:Int,(τ 2=bA 6 (Aq wv)/\τ 5=vO 1 eS SK/\τ 30=vS 2 Hx wv.Ai/\τ 31=si (wv.Ai.length:Int)/\τ 32=si eY)/\DF wv n SK eY=some r) ⟨_,_,?_,h⟩ λn2 τ2 N2=> ?_
   . simp +decide only[go_sem, *]
   rintro⟨SK,eY,s2,h⟩ hN2;cases n2 with
   |zero=>exact ET h
   |succ n2=>
    rw[DF]at h;generalize sD:DF wv n2=L2 at h
    try simp +decide only[go_sem, *]
    refine cI h (λ_ h=> ?_) λ_ h=> ?_
    . obtain⟨x_1,_,h⟩:=gB h;obtain⟨_,h⟩:=cS h
      try simp +decide only[go_sem, *]
      refine hN2 n2 (Nat.lt_succ_self _) _ ⟨_,_,?_,sD.symm▸h⟩;simp +decide only[go_sem, *]
    try simp +decide only[go_sem, *]
    refine hM2 _ _ ⟨_,?_,h⟩;simp +decide only[go_sem, *]
 rintro τ2 ν2 ⟨Jf,s2,h⟩;obtain⟨_,h⟩:=cS h;obtain⟨_,h⟩:=cS h
 try simp +decide only[go_sem, *]
 intro b1 hb1
 try simp +decide only[go_sem, *]
 refine iN (λτ ν=>∃seen:List ABe,(ν b1=some (.mp (seen.map tv)))/\J4 seen=some r) λM4 hM4=>⟨?_,?_⟩
 . try simp +decide only[go_sem, *]
   refine loopMH (λn τ ν=>∃Tt:Int,∃seen:List ABe,(τ 5= .own false 1 (((Jf++wv.AK)++wv.AA).map eS)/\τ 10= .sc (.map (some b1))/\τ 51= .al 5 []/\τ 52=si (((Jf++wv.AK)++wv.AA).length:Int)/\τ 53=si Tt/\ν b1=some (.mp (seen.map tv)))/\Gg Jf wv n Tt seen=some r) ⟨_,_,?_,h⟩ λn3 τ3 ν3 N3=> ?_
   . simp +decide only[go_sem, *]
   rintro⟨Tt,seen,s3,h⟩ hN3;cases n3 with
   |zero=>exact ET h
   |succ n3=>
    rw[Gg]at h;generalize hL3:Gg Jf wv n3=L3 at h
    try simp +decide only[go_sem, *]
    refine cI h (λ_ h=> ?_) λ_ h=> ?_
    . obtain⟨x_2,_,h⟩:=gB h
      try simp +decide only[go_sem, *]
      refine iN (λτ ν=>∃t64v:Bool,(τ 5= .own false 1 (((Jf++wv.AK)++wv.AA).map eS)/\τ 10= .sc (.map (some b1))/\τ 12=BZ x_2/\τ 51= .al 5 []/\τ 52=si (((Jf++wv.AK)++wv.AA).length:Int)/\τ 53=si Tt/\τ 64=sb t64v/\ν b1=some (.mp (seen.map tv)))/\J3 L3 seen Tt x_2 t64v=some r) λM3 hM3=>⟨?_,?_⟩
      . obtain⟨v,g9,h⟩:=bS h
        try simp +decide only[go_sem, *]
        refine⟨_,V4 g9,?_⟩
        try simp +decide only[go_sem, *]
        refine gI h (λ_ h=> ?_) λ_ h=> ?_
        . try simp +decide only[go_sem, *]
          refine hM3 _ _ ⟨_,?_,h⟩;simp +decide only[go_sem, *]
        try simp +decide only[go_sem, *]
        refine hM3 _ _ ⟨_,?_,h⟩;simp +decide only[go_sem, *]
      rintro τ3 ν3 ⟨t64v,s3,h⟩
      try simp +decide only[go_sem, *]
      refine cI h (λ_ h=> ?_) λ_ h=> ?_
      . obtain rfl:=AAG h;simp +decide only[go_sem, *]
      obtain⟨_,h⟩:=cS h
      try simp +decide only[go_sem, *]
      refine hN3 n3 (Nat.lt_succ_self _) _ _ ⟨_,_,?_,hL3.symm▸h⟩;simp +decide only[go_sem, *]
    try simp +decide only[go_sem, *]
    refine hM4 _ _ ⟨_,?_,h⟩;simp +decide only[go_sem, *]
 rintro τ4 ν4 ⟨seen,s4,h⟩;obtain rfl:=AAG h;simp +decide only[go_sem, *]
end
namespace IX
def J1 (c:Bool):ABd Bool:=
some c
end IX
section
open IX
def IX (b:AD) (a:AB):ABd Bool:=
(EM b a.Sync).bind λd=>
if d then
if(a.Cells.length:Int)==(b.Cells.length:Int)then
if(a.AK.length:Int)==(b.AK.length:Int)then
J1 ((a.Count.length:Int)==(b.AA.length:Int))
else
J1 false
else
J1 false
else
J1 false
theorem Ys {b:AD} {a:AB} {r:Bool} (h:IX b a=some r):Says Tryz.prog 44 [.agg (Aq b),.agg (BI a)] (sb r):=by refine kO mix Tryz.func44 (hn [(2,[13,22,31]),(3,[6,10,19,28])]) ?_;have a1:= @Ku;unfold IX at h;exact walk
end
namespace DT
def J1 (i:Bool):ABd Int:=
if i then
some 6
else
some 0
end DT
section
open DT
def DT (c:AR) (e:Int) (d:ABe) (a b:Int):ABd Int:=
(Ec c e d).bind λf=>
if f==0 then
some 5
else
if f != a then
J1 (f != b)
else
J1 false
theorem Q0 {c:AR} {e:Int} {d:ABe} {a b r:Int} (h:DT c e d a b=some r):Says Tryz.prog 271 [.agg (CS c),si e,BZ d,si a,si b] (si r):=by refine kO mix Tryz.func271 hn ?_;have a1:= @Vn;unfold DT at h;exact walk
end
namespace ER
def J3 (a:Ad) (b:AM) (t:Int) (l:Bool) (e:List Int):ABd (AM×Bool):=
if Ap (e.length) 8=true then
(gt b.Ck a.A).bind λad=>
(gt b.Cd a.A).bind λac=>
some ((AM.mk (BA (b.PC+1)) (b.Ck.set a.A.toNat t) (b.Cd.set a.A.toNat e) b.AE),l)
else none
def J2 (a:Ad) (b:AM):ABd (AM×Bool):=
if a.Op==5 then
some ((AM.mk a.A b.Ck b.Cd b.AE),true)
else
if a.Op==1 then
J3 a b a.N true []
else
if a.Op==2 then
(gt b.Ck a.B).bind λu=>
(gt b.Cd a.B).bind λv=>
J3 a b u true v
else
if a.Op==3 then
(EZ a.N).bind λp=>
(gt b.Ck a.B).bind λw=>
(Kx p w).bind λf=>
(gt b.Cd a.B).bind λx=>
J3 a b f.1 f.2 x
else
(EZ a.N).bind λq=>
(gt b.Ck a.B).bind λy=>
(gt b.Ck a.C).bind λz=>
(Fm q y z).bind λi=>
(gt b.Cd a.B).bind λaa=>
(gt b.Cd a.C).bind λab=>
(D8 aa ab).bind λs=>
J3 a b i.1 i.2 s
def J1 (L1:Int->ABd (AM×Bool)) (c:Int) (o:Bool):ABd (AM×Bool):=
if o then
some ((AM.mk 0 [] [] 0),false)
else
L1 (BA (c+1))
def L1 (a:Ad) (b:AM) (d:List Int) (L1:Int->ABd (AM×Bool)) (c:Int):ABd (AM×Bool):=
if decide (c<(d.length:Int))then
(gt d c).bind λj=>
if decide (j<0)then
J1 L1 c true
else
J1 L1 c (decide (j≥(b.Ck.length:Int)))
else
J2 a b
def Aa (a:Ad) (b:AM) (d:List Int):Nat->Int->ABd (AM×Bool)
|0,_=>none
|n+1,c=>L1 a b d (Aa a b d n) c
end ER
section
open ER
def ER (a:Ad) (b:AM):ABd (AM×Bool):=
(AZ a).bind λd=>
Aa a b d BW 0
theorem ZT {a:Ad} {b:AM} {r:AM×Bool} (h:ER a b=some r):Says Tryz.prog 243 [.agg (EF a),.agg (B2 b)] (.BQ [.agg (B2 r.1),sb r.2]):=by refine kO mix Tryz.func243 (hn [(2,[35,38,43,49,58,64,71,77,83,89,96,101,110,116,120]),(3,[29,30,41,42,45,47,48,51,56,57,60,61,62,63,66,67,73,74,81,82,85,87,88,91,92,99,100,103,108,109,112,113,114,115,118,119,126,127,128,131,132]),(6,[14,19,21,25,27]),(10,[124])] (F:=[10]) (E:=[(22,(.pg true 3 [(0,2,0)] (Rc 114 [.F 1 3,.y 3 (.Xn (.t 114)),.f 1 2,.F 2 3,.y 3 (.Xn (.t 118)),.f 1 2,.C 8,.o (.Nk 1 [] []),.y 10 (.cp (.t 10)),.o (.app 1 8 (.t 123) (.t 124)),.J 3 1 115 117,.x ⟨none,.WU (.t 126) (.t 122),none⟩,.J 3 1 119 121,.S 1 127 125])))])) ?_;have a1:= @JO;have a2:= @Tb;have a3:= @YB;have a4:= @Vs;have a5:= @Po;have l1:=λn1 n2 n3 n4:Nat=>A3 λn τ=>∃(d:List Int) (c:Int),(τ 2=bA 6 (EF a)/\τ 3=bA 4 (B2 b)/\τ 4=bA 4 z9/\τ 6=vO 1 eI d/\τ 7=si c)/\Aa a b d n c=some r;unfold ER at h;exact walk
end
namespace EK
def J1 (o:Bool):ABd Bool:=
some o
def J2 (p:Bool):ABd Bool:=
some p
def J5 (q:Bool):ABd Bool:=
some q
def J6 (s:Bool):ABd Bool:=
some s
def J4 (a c:Int) (b:AP) (d:Int) (e:AD) (f:Bool):ABd Bool:=
if f then
(gt e.Ai c).bind λad=>
(gt b.AF ad.Mutex).bind λae=>
some (ae.CG==d)
else
if a==20 then
if c != d then
(gt b.AA c).bind λaf=>
J5 (af.Status==0)
else
J5 false
else
if a==21 then
if c != d then
(gt b.AA c).bind λw=>
J6 (w.Status==5)
else
J6 false
else
if a==22 then
(gt b.Bn c).bind λx=>
some (!x)
else
if a==23 then
(gt b.Bn c).bind λy=>
some y
else
some true
def J3 (a c:Int) (b:AP) (d:Int) (e:AD) (i:Bool):ABd Bool:=
if i then
(gt b.AF c).bind λz=>
some (z.CG==d)
else
if a==9 then
(gt b.AF c).bind λaa=>
(Gn aa.Ak d).bind λu=>
some u
else
if a==12 then
some (b.Tx==(-1))
else
if a==13 then
some (b.Tx==d)
else
if a==14 then
(gt b.AA d).bind λab=>
some (!ab.Atomic)
else
if a==15 then
(gt b.AA d).bind λac=>
some ac.Atomic
else
if a==16 then
J4 a c b d e (a==16)
else
if a==18 then
J4 a c b d e (a==18)
else
J4 a c b d e (a==19)
end EK
section
open EK
def EK (e:AD) (b:AP) (d a c:Int):ABd Bool:=
if a==6 then
(gt b.AF c).bind λv=>
some (v.CG==(-1))
else
if a==10 then
(gt b.AF c).bind λj=>
if j.CG==(-1)then
J1 ((j.Ak.length:Int)==0)
else
J1 false
else
if a==8 then
(gt b.AF c).bind λl=>
if l.CG==(-1)then
(Gn l.Ak d).bind λt=>
J2 (!t)
else
J2 false
else
if a==7 then
J3 a c b d e (a==7)
else
J3 a c b d e (a==11)
theorem Vg {e:AD} {b:AP} {d a c:Int} {r:Bool} (h:EK e b d a c=some r):Says Tryz.prog 192 [.agg (Aq e),.agg (F8 b),si d,si a,si c] (sb r):=by refine kO mix Tryz.func192 (hn [(5,[115]),(6,[14,23,31,42,50,63,73,83,88,94,103,113,132,146,156,164])] [(9,3),(22,4)]) ?_;have a1:= @OD;have c4:=λn1 n2 n3 n4:Nat=>Bs 4 λτ=>∃(f:Bool),(τ 2=si d/\τ 4=si c/\τ 5=bA 6 (Aq e)/\τ 6=bA 4 (F8 b)/\τ 11=si a/\τ 109=sb f)/\J4 a c b d e f=some r;have c3:=λn1 n2 n3 n4:Nat=>Bs 3 λτ=>∃(i:Bool),(τ 2=si d/\τ 4=si c/\τ 5=bA 6 (Aq e)/\τ 6=bA 4 (F8 b)/\τ 11=si a/\τ 60=sb i)/\J3 a c b d e i=some r;unfold EK at h;exact walk
end
namespace Af
def rK (bb:AU) (aw:AB):ABd (AB×AU):=
some (aw,bb)
def L3 (o:AB) (L3:AU->AB->Int->ABd (AB×AU)) (v:AU) (f:AB) (s:Int):ABd (AB×AU):=
if decide (s<(o.Cells.length:Int))then
(Ah v 3).bind λae=>
(gt f.Cells s).bind λbt=>
L3 ae.2 (AB.mk f.Sync (f.Cells.set s.toNat ae.1) f.AK f.Count) (BA (s+1))
else
rK v f
def Gg (o:AB):Nat->AU->AB->Int->ABd (AB×AU)
|0,_,_,_=>none
|n+1,v,f,s=>L3 o (Gg o n) v f s
def Y4 (bi:AU) (o:AB):ABd (AB×AU):=
Gg o BW bi o 0
def Oz (aa:AU) (e:AB):ABd (AB×AU):=
(Ah aa 3).bind λad=>
if ad.1==2 then
(gt e.Sync.Bn 0).bind λbq=>
(Ah ad.2 3).bind λao=>
(gt e.AK 0).bind λbs=>
Y4 ao.2 (AB.mk (AP.mk e.Sync.AF e.Sync.Tx (e.Sync.Bn.set 0 true) e.Sync.AA) e.Cells (e.AK.set 0 ao.1) e.Count)
else
Y4 ad.2 e
def J9 (bf:AU) (q:AB):ABd (AB×AU):=
(Ah bf 3).bind λac=>
if ac.1==2 then
(Ge ac.2 q.Sync.Tx q.Count).bind λal=>
Oz al.2 (AB.mk (AP.mk q.Sync.AF al.1 q.Sync.Bn q.Sync.AA) q.Cells q.AK q.Count)
else
Oz ac.2 q
def J8 (L2:AU->AB->Int->ABd (AB×AU)) (d:Int) (be:AU) (av:AB):ABd (AB×AU):=
L2 be av (BA (d+1))
def J7 (L2:AU->AB->Int->ABd (AB×AU)) (a:AB) (d:Int) (x:AU) (i:Int×AU) (ba:Bool):ABd (AB×AU):=
if ba then
J8 L2 d x a
else
(gt a.Sync.AF d).bind λbl=>
J8 L2 d x (AB.mk (AP.mk (a.Sync.AF.set d.toNat (AW.mk i.1 bl.Ak)) a.Sync.Tx a.Sync.Bn a.Sync.AA) a.Cells a.AK a.Count)
def J6 (L2:AU->AB->Int->ABd (AB×AU)) (a:AB) (d:Int) (i:Int×AU) (x:AU) (az:Bool):ABd (AB×AU):=
if az then
(gt a.Sync.AF d).bind λbj=>
J8 L2 d x (AB.mk (AP.mk (a.Sync.AF.set d.toNat (AW.mk bj.CG [i.1])) a.Sync.Tx a.Sync.Bn a.Sync.AA) a.Cells a.AK a.Count)
else
if d==0 then
(gt a.Sync.AA i.1).bind λaq=>
if aq.Status==3 then
J7 L2 a d x i true
else
J7 L2 a d x i (aq.Status==4)
else
J7 L2 a d x i false
def L2 (l:AB) (L2:AU->AB->Int->ABd (AB×AU)) (w:AU) (a:AB) (d:Int):ABd (AB×AU):=
if decide (d<(l.Sync.AF.length:Int))then
(Ge w a.Sync.Tx a.Count).bind λi=>
if decide (i.1<0)then
J8 L2 d i.2 a
else
if d==2 then
(Ah i.2 2).bind λaj=>
J6 L2 a d i aj.2 (aj.1==1)
else
J6 L2 a d i i.2 false
else
J9 w a
def DF (l:AB):Nat->AU->AB->Int->ABd (AB×AU)
|0,_,_,_=>none
|n+1,w,a,d=>L2 l (DF l n) w a d
def J5 (bd:AU) (l:AB):ABd (AB×AU):=
DF l BW bd l 0
def J4 (L1:AU->AB->Int->ABd (AB×AU)) (c:Int) (bc:AU) (au:AB):ABd (AB×AU):=
L1 bc au (BA (c+1))
def J3 (L1:AU->AB->Int->ABd (AB×AU)) (b:AB) (t c:Int) (j:Int×AU) (ay:Bool):ABd (AB×AU):=
if ay then
(Ah j.2 3).bind λaf=>
(gt b.Count c).bind λbp=>
(Ah af.2 4).bind λai=>
(gt (b.Sync.AA.set c.toNat (AH.mk t 0 false)) c).bind λap=>
J4 L1 c ai.2 (AB.mk (AP.mk b.Sync.AF b.Sync.Tx b.Sync.Bn ((b.Sync.AA.set c.toNat (AH.mk t 0 false)).set c.toNat (AH.mk ap.Status ap.Dg (ai.1==3)))) b.Cells b.AK (b.Count.set c.toNat (BA (1+af.1))))
else
J4 L1 c j.2 (AB.mk (AP.mk b.Sync.AF b.Sync.Tx b.Sync.Bn (b.Sync.AA.set c.toNat (AH.mk t 0 false))) b.Cells b.AK b.Count)
def J2 (L1:AU->AB->Int->ABd (AB×AU)) (b:AB) (c:Int) (j:Int×AU) (t:Int):ABd (AB×AU):=
(gt b.Sync.AA c).bind λbo=>
if t != 0 then
J3 L1 b t c j (t != 1)
else
J3 L1 b t c j false
def J1 (L1:AU->AB->Int->ABd (AB×AU)) (b:AB) (c:Int) (j:Int×AU) (y:Int) (ax:Bool):ABd (AB×AU):=
if ax then
J2 L1 b c j 1
else
J2 L1 b c j y
def L1 (p:AB) (L1:AU->AB->Int->ABd (AB×AU)) (u:AU) (b:AB) (c:Int):ABd (AB×AU):=
if decide (c<(p.Count.length:Int))then
(Ah u 9).bind λj=>
(gt [2,2,2,2,0,1,3,4,5] j.1).bind λy=>
if c==0 then
J1 L1 b c j y (y==0)
else
J1 L1 b c j y false
else
J5 u b
def Aa (p:AB):Nat->AU->AB->Int->ABd (AB×AU)
|0,_,_,_=>none
|n+1,u,b,c=>L1 p (Aa p n) u b c
end Af
section
open Af
def Af (z:AU) (ab:AD):ABd (AB×AU):=
(EU ab).bind λp=>
Aa p BW z p 0
theorem Ru {z:AU} {ab:AD} {r:AB×AU} (h:Af z ab=some r):BD Tryz.prog 82 [bA 2 (FO z),.agg (Aq ab)] (.agg (BI r.1)) [bA 2 (FO r.2),.dead]:=by refine kP mix Tryz.func82 (hn [(0,[20,46,54,67,84,120,123,128,137,149]),(5,[13,14,30,31,32,36,43,44,49,50,51,52,57,58,60,61,62,68,70,71,72,75,76,88,89,90,94,95,100,101,102,104,105,109,110,111,113,114,124,126,127,131,132,133,134,135,136,139,140,141,146,147,151,153]),(19,[22])] [(24,10)] (Z:=[(13,false,5,[(0,6,0)])])) ?_;have a1:= @Jz;have a2:= @DD;have a3:= @Yb;have l3:=λn1 n2 n3 n4:Nat=>A3 λn τ=>∃(o:AB) (v:AU) (f:AB) (s:Int),(τ 0=bA 2 (FO v)/\τ 4=bA 7 z0/\τ 5=bA 7 [vO 2 Bo f.Sync.AF,si f.Sync.Tx,vO 1 eB f.Sync.Bn,vO 3 An f.Sync.AA,vO 1 eI f.Cells,vO 1 eI f.AK,vS 1 eI f.Count]/\τ 142=si (o.Cells.length:Int)/\τ 143=si s)/\Gg o n v f s=some r;have l2:=λn1 n2 n3 n4:Nat=>A3 λn τ=>∃(l:AB) (w:AU) (a:AB) (d:Int),(τ 0=bA 2 (FO w)/\τ 4=bA 7 z0/\τ 5=bA 7 [vO 2 Bo a.Sync.AF,si a.Sync.Tx,vO 1 eB a.Sync.Bn,vO 3 An a.Sync.AA,vO 1 eI a.Cells,vO 1 eI a.AK,vS 1 eI a.Count]/\τ 63=si (l.Sync.AF.length:Int)/\τ 64=si d)/\DF l n w a d=some r;have l1:=λn1 n2 n3 n4:Nat=>A3 λn τ=>∃(p:AB) (u:AU) (b:AB) (c:Int),(τ 0=bA 2 (FO u)/\τ 4=bA 7 z0/\τ 5=bA 7 (GG b)/\τ 15=si (p.Count.length:Int)/\τ 16=si c)/\Aa p n u b c=some r;have c10:=λn1 n2 n3 n4:Nat=>Bs 10 λτ=>∃(aa:AU) (e:AB),(τ 0=bA 2 (FO aa)/\τ 4=bA 7 z0/\τ 5=bA 7 [vO 2 Bo e.Sync.AF,si e.Sync.Tx,vO 1 eB e.Sync.Bn,vO 3 An e.Sync.AA,vO 1 eI e.Cells,vO 1 eI e.AK,vS 1 eI e.Count])/\Oz aa e=some r;unfold Af at h;exact walk
end
end Go.Abs
