/- Typed programs of Go functions, and that the functions do what these say. -/
import Derived.Test.YtdadohkcmclilaaGreatDoorWalkI
import Derived.Shelf.Slices.SearchI
set_option linter.unusedSimpArgs false
set_option linter.unusedVariables false
namespace Go.Abs
open Go.Proofs
set_option maxRecDepth 1000000
set_option maxHeartbeats 4000000
namespace DU
def J1:ABp Bool:=
some true
def L1 (R101:AP->ABp Bool) (a:List AP) (L1:Int->ABp Bool) (b:Int):ABp Bool:=
if decide (b<(a.length:Int))then
(gt a b).bind λd=>
(R101 d).bind λc=>
if !c then
some false
else
L1 (Ap (b+1))
else
J1
def Aa (R101:AP->ABp Bool) (a:List AP):Nat->Int->ABp Bool
|0,_=>none
|n+1,b=>L1 R101 a (Aa R101 a n) b
end DU
section
open DU
def DU (R101:AP->ABp Bool) (a:List AP):ABp Bool:=
Aa R101 a BT 0
theorem Ov {R101:AP->ABp Bool} (H101:∀{x0 r},R101 x0=some r->Says Tryz.prog 175 [.agg [si x0.Op,si x0.Ep,BM x0.Name,BM x0.Arg,vS 4 A0 x0.Index,si x0.Expr.Op,si x0.Expr.N,BM x0.Expr.Name,vS 4 A0 x0.Expr.L,vS 11 Av x0.Body,vS 11 Av x0.Else]] (sb r)) {a:List AP} {r:Bool} (h:DU R101 a=some r):Says Tryz.prog 145 [vS 11 Av a] (sb r):=by
 refine kO mix Tryz.func145 hn ?_
 have a1:= @H101
 have l1:=λn1 n2 n3 n4:Nat=>Ax λn τ=>∃(b:Int),(τ 0=vS 11 Av a/\τ 3=si b)/\Aa R101 a n b=some r
 unfold DU at h
 exact walk
end
namespace Ba
def Th (p:Bool):ABp Bool:=
some p
def J9 (R100:(List AP)->ABp Bool) (a:AP) (f:Bool):ABp Bool:=
if f then
some false
else
(R100 a.Body).bind λx=>
if x then
(R100 a.Else).bind λy=>
Th y
else
Th false
def J8 (R100:(List AP)->ABp Bool) (a:AP) (b:Bool):ABp Bool:=
if !b then
if decide ((a.Body.length:Int)>0)then
J9 R100 a true
else
if a.Op != 2 then
J9 R100 a (decide ((a.Else.length:Int)>0))
else
J9 R100 a false
else
if a.Op != 2 then
J9 R100 a (decide ((a.Else.length:Int)>0))
else
J9 R100 a false
def J7 (R100:(List AP)->ABp Bool) (a:AP) (d:Bool):ABp Bool:=
if d then
some false
else
if decide (a.Op≥2)then
J8 R100 a (decide (a.Op≤8))
else
J8 R100 a false
def J6 (R100:(List AP)->ABp Bool) (a:AP) (o:Bool):ABp Bool:=
if o then
(Dm BT a.Expr).bind λv=>
if !v then
J7 R100 a true
else
J7 R100 a false
else
(Ho a.Expr).bind λw=>
J7 R100 a (!w)
def J5 (R100:(List AP)->ABp Bool) (a:AP) (l:Bool):ABp Bool:=
if l then
some false
else
if a.Op==1 then
J6 R100 a true
else
if a.Op==2 then
J6 R100 a true
else
if a.Op==3 then
J6 R100 a true
else
J6 R100 a (a.Op==14)
def J4 (R100:(List AP)->ABp Bool) (a:AP) (j:Bool):ABp Bool:=
if j then
some false
else
if decide ((a.Index.length:Int)>1)then
J5 R100 a true
else
if a.Op != 1 then
if decide ((a.Index.length:Int)>0)then
J5 R100 a true
else
if(a.Index.length:Int)==1 then
(gt a.Index 0).bind λz=>
(Dm BT z).bind λt=>
J5 R100 a (!t)
else
J5 R100 a false
else
if(a.Index.length:Int)==1 then
(gt a.Index 0).bind λaa=>
(Dm BT aa).bind λu=>
J5 R100 a (!u)
else
J5 R100 a false
def J3 (R100:(List AP)->ABp Bool) (a:AP) (i:Bool):ABp Bool:=
if i then
some false
else
if a.Op==15 then
(Bp a.Arg).bind λs=>
if !s then
J4 R100 a true
else
if a.Op != 15 then
J4 R100 a (!(a.Arg.toList==(⟨#[]⟩:ABq).toList))
else
J4 R100 a false
else
if a.Op != 15 then
J4 R100 a (!(a.Arg.toList==(⟨#[]⟩:ABq).toList))
else
J4 R100 a false
def J2 (R100:(List AP)->ABp Bool) (a:AP) (c:Bool):ABp Bool:=
if c then
if !(a.Name.toList==(⟨#[]⟩:ABq).toList)then
J3 R100 a true
else
J3 R100 a false
else
(Bp a.Name).bind λq=>
J3 R100 a (!q)
def J1 (R100:(List AP)->ABp Bool) (a:AP) (e:Bool):ABp Bool:=
if e then
some false
else
if a.Op==2 then
J2 R100 a true
else
if a.Op==3 then
J2 R100 a true
else
if a.Op==7 then
J2 R100 a true
else
J2 R100 a (a.Op==8)
end Ba
section
open Ba
def Ba (R100:(List AP)->ABp Bool) (a:AP):ABp Bool:=
if decide (a.Op<1)then
J1 R100 a true
else
J1 R100 a (decide (a.Op>15))
theorem Pw {R100:(List AP)->ABp Bool} (H100:∀{x0 r},R100 x0=some r->Says Tryz.prog 145 [vS 11 Av x0] (sb r)) {a:AP} {r:Bool} (h:Ba R100 a=some r):Says Tryz.prog 175 [.agg [si a.Op,si a.Ep,BM a.Name,BM a.Arg,vS 4 A0 a.Index,si a.Expr.Op,si a.Expr.N,BM a.Expr.Name,vS 4 A0 a.Expr.L,vS 11 Av a.Body,vS 11 Av a.Else]] (sb r):=by
 refine kO mix Tryz.func175 (hn [(1,[6,10,14,18,23,28,34,42,48,52,58,62,67,72,76,83,88,96,100,105,110,116,125,131,135,142,148,152,158,162])] [(2,1),(4,2),(6,3),(9,4),(12,5),(14,6),(16,7),(18,8),(20,9)]) ?_
 have a1:= @H100
 have a2:= @KS
 have a3:= @Wa
 have a4:= @HV
 have c9:=λn1 n2 n3 n4:Nat=>Bh 9 λτ=>∃(f:Bool),(τ 1=bA 11 [si a.Op,si a.Ep,BM a.Name,BM a.Arg,vS 4 A0 a.Index,si a.Expr.Op,si a.Expr.N,BM a.Expr.Name,vS 4 A0 a.Expr.L,vS 11 Av a.Body,vS 11 Av a.Else]/\τ 157=sb f)/\J9 R100 a f=some r
 have c8:=λn1 n2 n3 n4:Nat=>Bh 8 λτ=>∃(b:Bool),(τ 1=bA 11 [si a.Op,si a.Ep,BM a.Name,BM a.Arg,vS 4 A0 a.Index,si a.Expr.Op,si a.Expr.N,BM a.Expr.Name,vS 4 A0 a.Expr.L,vS 11 Av a.Body,vS 11 Av a.Else]/\τ 5=sb b)/\J8 R100 a b=some r
 have c7:=λn1 n2 n3 n4:Nat=>Bh 7 λτ=>∃(d:Bool),(τ 1=bA 11 [si a.Op,si a.Ep,BM a.Name,BM a.Arg,vS 4 A0 a.Index,si a.Expr.Op,si a.Expr.N,BM a.Expr.Name,vS 4 A0 a.Expr.L,vS 11 Av a.Body,vS 11 Av a.Else]/\τ 130=sb d)/\J7 R100 a d=some r
 have c6:=λn1 n2 n3 n4:Nat=>Bh 6 λτ=>∃(o:Bool),(τ 1=bA 11 [si a.Op,si a.Ep,BM a.Name,BM a.Arg,vS 4 A0 a.Index,si a.Expr.Op,si a.Expr.N,BM a.Expr.Name,vS 4 A0 a.Expr.L,vS 11 Av a.Body,vS 11 Av a.Else]/\τ 4=sb o)/\J6 R100 a o=some r
 have c5:=λn1 n2 n3 n4:Nat=>Bh 5 λτ=>∃(l:Bool),(τ 1=bA 11 [si a.Op,si a.Ep,BM a.Name,BM a.Arg,vS 4 A0 a.Index,si a.Expr.Op,si a.Expr.N,BM a.Expr.Name,vS 4 A0 a.Expr.L,vS 11 Av a.Body,vS 11 Av a.Else]/\τ 95=sb l)/\J5 R100 a l=some r
 have c4:=λn1 n2 n3 n4:Nat=>Bh 4 λτ=>∃(j:Bool),(τ 1=bA 11 [si a.Op,si a.Ep,BM a.Name,BM a.Arg,vS 4 A0 a.Index,si a.Expr.Op,si a.Expr.N,BM a.Expr.Name,vS 4 A0 a.Expr.L,vS 11 Av a.Body,vS 11 Av a.Else]/\τ 66=sb j)/\J4 R100 a j=some r
 have c3:=λn1 n2 n3 n4:Nat=>Bh 3 λτ=>∃(i:Bool),(τ 1=bA 11 [si a.Op,si a.Ep,BM a.Name,BM a.Arg,vS 4 A0 a.Index,si a.Expr.Op,si a.Expr.N,BM a.Expr.Name,vS 4 A0 a.Expr.L,vS 11 Av a.Body,vS 11 Av a.Else]/\τ 47=sb i)/\J3 R100 a i=some r
 have c2:=λn1 n2 n3 n4:Nat=>Bh 2 λτ=>∃(c:Bool),(τ 1=bA 11 [si a.Op,si a.Ep,BM a.Name,BM a.Arg,vS 4 A0 a.Index,si a.Expr.Op,si a.Expr.N,BM a.Expr.Name,vS 4 A0 a.Expr.L,vS 11 Av a.Body,vS 11 Av a.Else]/\τ 3=sb c)/\J2 R100 a c=some r
 have c1:=λn1 n2 n3 n4:Nat=>Bh 1 λτ=>∃(e:Bool),(τ 1=bA 11 [si a.Op,si a.Ep,BM a.Name,BM a.Arg,vS 4 A0 a.Index,si a.Expr.Op,si a.Expr.N,BM a.Expr.Name,vS 4 A0 a.Expr.L,vS 11 Av a.Body,vS 11 Av a.Else]/\τ 13=sb e)/\J1 R100 a e=some r
 unfold Ba at h
 exact walk
end
def HO:Nat->((List AP)->ABp Bool)×(AP->ABp Bool)
|0=>((λ_=>none),(λ_=>none))
|n+1=>(DU ((HO n).2),Ba ((HO n).1))
def HP (n:Nat):(List AP)->ABp Bool:=(HO n).1
def Li (n:Nat):AP->ABp Bool:=(HO n).2
theorem N6 (n:Nat):(∀{x0 r},(HP n) x0=some r->Says Tryz.prog 145 [.sl false 11 (x0.map Av)] (sb r))/\(∀{x0 r},(Li n) x0=some r->Says Tryz.prog 175 [.agg [si x0.Op,si x0.Ep,BM x0.Name,BM x0.Arg,.sl false 4 (x0.Index.map A0),si x0.Expr.Op,si x0.Expr.N,BM x0.Expr.Name,.sl false 4 (x0.Expr.L.map A0),.sl false 11 (x0.Body.map Av),.sl false 11 (x0.Else.map Av)]] (sb r)):=by
  induction n with
  |zero=>exact⟨λh=>Bi h,λh=>Bi h⟩
  |succ n ih=>exact⟨λh=>Ov ih.2 h,λh=>Pw ih.1 h⟩
theorem N7 {n:Nat}:∀{x0 r},(HP n) x0=some r->Says Tryz.prog 145 [.sl false 11 (x0.map Av)] (sb r):=(N6 n).1
namespace FZ
def J1 (a:A4) (b:AQ) (c:Int) (e:Bool):ABp Int:=
if e then
some 2
else
(KE BT b c a).bind λi=>
some i
end FZ
section
open FZ
def FZ (b:AQ) (c:Int) (a:A4):ABp Int:=
(Dm BT a).bind λf=>
if !f then
some 3
else
(Kr BT a).bind λd=>
if decide (d.1>24)then
J1 a b c true
else
J1 a b c (decide (d.2>6))
theorem Xt {b:AQ} {c:Int} {a:A4} {r:Int} (h:FZ b c a=some r):Says Tryz.prog 179 [.agg (Bu b),si c,.agg [si a.Op,si a.N,BM a.Name,vS 4 A0 a.L]] (si r):=by
 refine kO mix Tryz.func179 hn ?_
 have a1:= @KS
 have a2:= @Ug
 have a3:= @Ui
 unfold FZ at h
 exact walk
end
namespace CB
def J2:ABp Bool:=
some true
def L1 (a:BF) (L1:Int->ABp Bool) (b:Int):ABp Bool:=
if decide (b<(a.AA.length:Int))then
(gt a.AA b).bind λf=>
(AZ a.World b f).bind λe=>
if !e then
some false
else
L1 (Ap (b+1))
else
J2
def Aa (a:BF):Nat->Int->ABp Bool
|0,_=>none
|n+1,b=>L1 a (Aa a n) b
def J1 (a:BF) (c:Bool):ABp Bool:=
if c then
some false
else
Aa a BT 0
end CB
section
open CB
def CB (a:BF):ABp Bool:=
(Ak a.World).bind λd=>
if !d then
J1 a true
else
J1 a ((a.AA.length:Int) != (a.World.AA.length:Int))
theorem LA {a:BF} {r:Bool} (h:CB a=some r):Says Tryz.prog 36 [.agg (I6 a)] (sb r):=by
 refine kO mix Tryz.func36 (hn [(1,[4,9,12,13,19,25,28])]) ?_
 have a1:= @Oz
 have a2:= @IY
 have l1:=λn1 n2 n3 n4:Nat=>Ax λn τ=>∃(b:Int),(τ 1=bA 7 (I6 a)/\τ 3=si b)/\Aa a n b=some r
 unfold CB at h
 exact walk
end
namespace BQ
def J4 (a:AH) (d:AB):ABp (AB×Bool):=
(gt d.Count a.Thread).bind λw=>
some ((AB.mk d.Sync d.Cells d.AK (d.Count.set a.Thread.toNat (Ap (w+1)))),true)
def J3 (a:AH) (b:AB) (c:AD) (o:Int):ABp (AB×Bool):=
(Em c b.Sync a.Thread a.Kind a.Obj o).bind λi=>
if !i.2.2 then
some ((AB.mk (AN.mk [] 0 [] []) [] [] []),false)
else
(Eo b.Cells).bind λj=>
(Eo b.AK).bind λl=>
(slices_Clone_int b.Count).bind λp=>
if a.Kind==4 then
(gt j a.Obj).bind λx=>
J4 a (AB.mk i.1 (j.set a.Obj.toNat a.Value) l p)
else
if a.Kind==22 then
(gt l a.Obj).bind λy=>
J4 a (AB.mk i.1 j (l.set a.Obj.toNat a.Value) p)
else
J4 a (AB.mk i.1 j l p)
def J2 (a:AH) (b:AB) (c:AD) (f:Bool):ABp (AB×Bool):=
if f then
some ((AB.mk (AN.mk [] 0 [] []) [] [] []),false)
else
if a.Kind==18 then
J3 a b c a.Value
else
J3 a b c (-1)
def J1 (a:AH) (b:AB) (c:AD) (e:Bool):ABp (AB×Bool):=
if e then
some ((AB.mk (AN.mk [] 0 [] []) [] [] []),false)
else
(DG c b.Sync a.Thread a.Kind a.Obj).bind λs=>
if !s then
J2 a b c true
else
(Cp c a).bind λt=>
if !t then
J2 a b c true
else
(AX c b a).bind λu=>
if !u then
J2 a b c true
else
(Au b a).bind λv=>
J2 a b c (!v)
end BQ
section
open BQ
def BQ (c:AD) (b:AB) (a:AH):ABp (AB×Bool):=
(EL c b).bind λq=>
if !q then
J1 a b c true
else
if decide (a.Thread<0)then
J1 a b c true
else
if decide (a.Thread≥(c.AA.length:Int))then
J1 a b c true
else
if decide (a.Kind<1)then
J1 a b c true
else
J1 a b c (decide (a.Kind>23))
theorem HR {c:AD} {b:AB} {a:AH} {r:AB×Bool} (h:BQ c b a=some r):Says Tryz.prog 35 [.agg (Ai c),.agg (Aw b),.agg (BG a)] (.BJ [.agg (CG r.1),sb r.2]):=by
 refine kO mix Tryz.func35 (hn [(3,[25]),(4,[42,79,96,99,102]),(5,[18,23,31,36,44,46,48,72,75,81,83,85,106,112,114,121,123,128]),(9,[95]),(11,[92]),(12,[110,111,116,119,120,125,126,127,130,133,134]),(88,[77,89,90,91])] [(2,1),(5,2),(8,3)]) ?_
 have a1:= @UW
 have a2:= @Jn
 have a3:= @Gv
 have a4:= @Lc
 have a5:= @PF
 have a6:= @MH
 have a7:= @PG
 have a8:= @Q9
 have c3:=λn1 n2 n3 n4:Nat=>Bh 3 λτ=>∃(o:Int),(τ 3=bA 6 (Ai c)/\τ 4=bA 7 (Aw b)/\τ 5=bA 7 (BG a)/\τ 6=bA 7 z0/\τ 8=si o)/\J3 a b c o=some r
 have c2:=λn1 n2 n3 n4:Nat=>Bh 2 λτ=>∃(f:Bool),(τ 3=bA 6 (Ai c)/\τ 4=bA 7 (Aw b)/\τ 5=bA 7 (BG a)/\τ 6=bA 7 z0/\τ 70=sb f)/\J2 a b c f=some r
 have c1:=λn1 n2 n3 n4:Nat=>Bh 1 λτ=>∃(e:Bool),(τ 3=bA 6 (Ai c)/\τ 4=bA 7 (Aw b)/\τ 5=bA 7 (BG a)/\τ 6=bA 7 z0/\τ 39=sb e)/\J1 a b c e=some r
 unfold BQ at h
 exact walk
end
namespace Gr
def J2:ABp (Int×Int):=
some (0,0)
def J1 (L1:AB->Int->ABp (Int×Int)) (b:Int) (d:AB×Bool) (f:Bool):ABp (Int×Int):=
if f then
some (b,12)
else
L1 d.1 (Ap (b+1))
def L1 (a:Az) (L1:AB->Int->ABp (Int×Int)) (c:AB) (b:Int):ABp (Int×Int):=
if decide (b<(a.AF.length:Int))then
(gt a.AF b).bind λe=>
(DQ a.World c e).bind λd=>
if !d.2 then
J1 L1 b d true
else
(Dq a.AF b e.Thread e.D9).bind λl=>
if !l then
J1 L1 b d true
else
(Dq a.AF b e.Thread e.Db).bind λo=>
J1 L1 b d (!o)
else
J2
def Aa (a:Az):Nat->AB->Int->ABp (Int×Int)
|0,_,_=>none
|n+1,c,b=>L1 a (Aa a n) c b
end Gr
section
open Gr
def Gr (a:Az):ABp (Int×Int):=
if decide ((a.AF.length:Int)>400)then
some (0,2)
else
(Ak a.World).bind λi=>
if !i then
some (0,1)
else
(G6 a.World).bind λj=>
Aa a BT j 0
theorem O3 {a:Az} {r:Int×Int} (h:Gr a=some r):Says Tryz.prog 54 [.agg (Hj a)] (.BJ [si r.1,si r.2]):=by
 refine kO mix Tryz.func54 (hn [(1,[9,13,17,21,27,33,43,54]),(4,[35]),(6,[46,48,57,59]),(7,[65]),(8,[40]),(37,[32,38,39])]) ?_
 have a1:= @IY
 have a2:= @O4
 have a3:= @MA
 have a4:= @Wp
 have l1:=λn1 n2 n3 n4:Nat=>Ax λn τ=>∃(c:AB) (b:Int),(τ 1=bA 7 (Hj a)/\τ 4=bA 7 (CG c)/\τ 5=si b)/\Aa a n c b=some r
 unfold Gr at h
 exact walk
end
namespace G7
def J1 (e:AB):ABp AB:=
some e
def L1 (b:Int) (a:Az) (L1:AB->Int->ABp AB) (d:AB) (c:Int):ABp AB:=
if decide (c<b)then
(gt a.AF c).bind λj=>
(DQ a.World d j).bind λi=>
L1 i.1 (Ap (c+1))
else
J1 d
def Aa (b:Int) (a:Az):Nat->AB->Int->ABp AB
|0,_,_=>none
|n+1,d,c=>L1 b a (Aa b a n) d c
end G7
section
open G7
def G7 (a:Az) (b:Int):ABp AB:=
(G6 a.World).bind λf=>
Aa b a BT f 0
theorem O5 {a:Az} {b:Int} {r:AB} (h:G7 a b=some r):Says Tryz.prog 55 [.agg (Hj a),si b] (.agg (CG r)):=by
 refine kO mix Tryz.func55 (hn [(2,[7,16,19]),(5,[18,27]),(24,[25])] (E:=[(5,(.Zq [(24,9,10,15)] [Lt 16 2 0 2,iA 17 6 16,i1 18 5 (.ld true 7 (.t 5)),Lt 19 2 6 2,iL 20 19,iC 21 6,iI 22 7 20 21,iA 23 7 22,⟨some ⟨24,[25],[]⟩,.call 52 [.t 17,.t 18,.t 23] 2,none⟩,i0 15 (.flk (.t 24) 1),i1 25 24 (.ext (.t 24) 0),i0 26 .fl,iS 7 5 25]))])) ?_
 have a1:= @O4
 have a2:= @MA
 have l1:=λn1 n2 n3 n4:Nat=>Ax λn τ=>∃(d:AB) (c:Int),(τ 1=si b/\τ 2=bA 7 (Hj a)/\τ 4=bA 7 z0/\τ 5=bA 7 (CG d)/\τ 6=si c)/\Aa b a n d c=some r
 unfold G7 at h
 exact walk
end
namespace FM
def J5:ABp Bool:=
some true
def J4 (L2:AB->Int->ABp Bool) (c:Int) (e:AB×Bool) (j:Bool):ABp Bool:=
if j then
some false
else
L2 e.1 (Ap (c+1))
def L2 (a:AO) (L2:AB->Int->ABp Bool) (d:AB) (c:Int):ABp Bool:=
if decide (c<(a.AF.length:Int))then
(gt a.AF c).bind λf=>
(DQ a.World d f).bind λe=>
if !e.2 then
J4 L2 c e true
else
(Gt a f.Thread f.D9).bind λu=>
if !u then
J4 L2 c e true
else
(Gt a f.Thread f.Db).bind λv=>
J4 L2 c e (!v)
else
J5
def C2 (a:AO):Nat->AB->Int->ABp Bool
|0,_,_=>none
|n+1,d,c=>L2 a (C2 a n) d c
def J3 (a:AO):ABp Bool:=
C2 a BT a.Init 0
def J2 (L1:Int->ABp Bool) (b:Int) (l:Bool):ABp Bool:=
if l then
some false
else
L1 (Ap (b+1))
def L1 (a:AO) (L1:Int->ABp Bool) (b:Int):ABp Bool:=
if decide (b<(a.Init.AK.length:Int))then
(gt a.Init.Sync.Bq b).bind λw=>
if !w then
(gt a.Init.AK b).bind λx=>
J2 L1 b (x != 0)
else
J2 L1 b false
else
J3 a
def Aa (a:AO):Nat->Int->ABp Bool
|0,_=>none
|n+1,b=>L1 a (Aa a n) b
def J1 (a:AO) (i:Bool):ABp Bool:=
if i then
some false
else
Aa a BT 0
end FM
section
open FM
def FM (a:AO):ABp Bool:=
(Ak a.World).bind λo=>
if !o then
J1 a true
else
(Hb a.World a.Init).bind λp=>
if !p then
J1 a true
else
if decide ((a.AF.length:Int)>16)then
J1 a true
else
(G9 a).bind λq=>
if !q then
J1 a true
else
(Eb a).bind λs=>
if !s then
J1 a true
else
(C7 a).bind λt=>
J1 a (!t)
theorem Wt {a:AO} {r:Bool} (h:FM a=some r):Says Tryz.prog 19 [.agg (BB a)] (sb r):=by
 refine kO mix Tryz.func19 (hn [(1,[9,14,16,22,43,44,50,51,52,59,60,67,70,76,82]),(6,[93,95,102,104])] [(2,1)] [(52,1)]) ?_
 have a1:= @MA
 have a2:= @Wv
 have a3:= @IY
 have a4:= @QL
 have a5:= @Uo
 have a6:= @Sf
 have a7:= @Td
 have l2:=λn1 n2 n3 n4:Nat=>Ax λn τ=>∃(d:AB) (c:Int),(τ 1=bA 15 (BB a)/\τ 4=bA 7 (Aw d)/\τ 5=si c)/\C2 a n d c=some r
 have l1:=λn1 n2 n3 n4:Nat=>Ax λn τ=>∃(b:Int),(τ 1=bA 15 (BB a)/\τ 3=si b)/\Aa a n b=some r
 have c1:=λn1 n2 n3 n4:Nat=>Bh 1 λτ=>∃(i:Bool),(τ 1=bA 15 (BB a)/\τ 41=sb i)/\J1 a i=some r
 unfold FM at h
 exact walk
end
end Go.Abs
