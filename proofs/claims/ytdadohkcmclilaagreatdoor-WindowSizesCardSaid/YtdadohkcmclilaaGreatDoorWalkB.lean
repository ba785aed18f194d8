/- Typed programs of Go functions, and that the functions do what these say. -/
import Derived.Test.YtdadohkcmclilaaGreatDoorBaseA
import Derived.Shelf.Slices.SearchI
set_option linter.unusedSimpArgs false
set_option linter.unusedVariables false
namespace Go.Abs
open Go.Proofs
set_option maxRecDepth 1000000
set_option maxHeartbeats 4000000
namespace EK
def J3 (c:Int) (a:List Int) (b:Int) (f:Bool):ABp (List Int):=
if f then
some a
else
if 0≤c/\c.toNat≤a.length then
if Al ((a.take c.toNat).length) 8=true then
if Al ((a.take c.toNat).length+1) 8=true then
if 0≤c/\c.toNat≤a.length then
if Al (((a.take c.toNat)++[b]).length+((a.drop c.toNat).take (a.length-c.toNat)).length) 8=true then
some (((a.take c.toNat)++[b])++((a.drop c.toNat).take (a.length-c.toNat)))
else none
else none
else none
else none
else none
def J2 (a:List Int) (b c:Int):ABp (List Int):=
if decide (c<(a.length:Int))then
(gt a c).bind λj=>
J3 c a b (j==b)
else
J3 c a b false
def J1 (L1:Int->ABp (List Int)) (d:Int) (a:List Int) (b:Int) (e:Bool):ABp (List Int):=
if e then
L1 (Ap (d+1))
else
J2 a b d
def L1 (a:List Int) (b:Int) (L1:Int->ABp (List Int)) (d:Int):ABp (List Int):=
if decide (d<(a.length:Int))then
(gt a d).bind λi=>
J1 L1 d a b (decide (i<b))
else
J1 L1 d a b false
def Aa (a:List Int) (b:Int):Nat->Int->ABp (List Int)
|0,_=>none
|n+1,d=>L1 a b (Aa a b n) d
end EK
section
open EK
def EK (a:List Int) (b:Int):ABp (List Int):=
Aa a b BT 0
theorem ZR {a:List Int} {b:Int} {r:List Int} (h:EK a b=some r):Says Tryz.prog 174 [vO 1 eI a,si b] (vO 1 eI r):=by
 refine kO mix Tryz.func174 (hn [(0,[8,12,14,22,26,28,33,35,44]),(6,[39,43])]) ?_
 have l1:=λn1 n2 n3 n4:Nat=>Ax λn τ=>∃(d:Int),(τ 0=vO 1 eI a/\τ 1=si b/\τ 5=si d)/\Aa a b n d=some r
 unfold EK at h
 exact walk
end
namespace Dl
def J2 (i:List Int):ABp (List Int):=
some i
def J1 (L1:(List Int)->Int->ABp (List Int)) (b:Int) (f:List Int):ABp (List Int):=
L1 f (Ap (b+1))
def L1 (a:List Int) (c:Int) (L1:(List Int)->Int->ABp (List Int)) (d:List Int) (b:Int):ABp (List Int):=
if decide (b<(a.length:Int))then
(gt a b).bind λe=>
if e != c then
if Al (d.length+1) 8=true then
J1 L1 b (d++[e])
else none
else
J1 L1 b d
else
J2 d
def Aa (a:List Int) (c:Int):Nat->(List Int)->Int->ABp (List Int)
|0,_,_=>none
|n+1,d,b=>L1 a c (Aa a c n) d b
end Dl
section
open Dl
def Dl (a:List Int) (c:Int):ABp (List Int):=
Aa a c BT [] 0
theorem Ta {a:List Int} {c:Int} {r:List Int} (h:Dl a c=some r):Says Tryz.prog 143 [vS 1 eI a,si c] (vO 1 eI r):=by
 refine kO mix Tryz.func143 (hn [(5,[19,26])]) ?_
 have l1:=λn1 n2 n3 n4:Nat=>Ax λn τ=>∃(d:List Int) (b:Int),(τ 0=vS 1 eI a/\τ 1=si c/\τ 5=vO 1 eI d/\τ 6=si b)/\Aa a c n d b=some r
 unfold Dl at h
 exact walk
end
namespace CO
def J3 (i:List Int):ABp (List Int):=
some i
def J2 (L1:(List Int)->Int->ABp (List Int)) (a:Int) (f:List Int):ABp (List Int):=
L1 f (Ap (a+1))
def J1 (L1:(List Int)->Int->ABp (List Int)) (a:Int) (b:List Int) (j:Bool):ABp (List Int):=
if j then
if Al (b.length+1) 8=true then
J2 L1 a (b++[a])
else none
else
J2 L1 a b
def L1 (d:Int) (c:AN) (L1:(List Int)->Int->ABp (List Int)) (b:List Int) (a:Int):ABp (List Int):=
if decide (a<(c.AA.length:Int))then
(gt c.AA a).bind λe=>
if e.Status==3 then
J1 L1 a b (e.D8==d)
else
J1 L1 a b false
else
J3 b
def Aa (d:Int) (c:AN):Nat->(List Int)->Int->ABp (List Int)
|0,_,_=>none
|n+1,b,a=>L1 d c (Aa d c n) b a
end CO
section
open CO
def CO (c:AN) (d:Int):ABp (List Int):=
Aa d c BT [] 0
theorem Mh {c:AN} {d:Int} {r:List Int} (h:CO c d=some r):Says Tryz.prog 140 [.agg (E1 c),si d] (vO 1 eI r):=by
 refine kO mix Tryz.func140 (hn [(2,[8,14,22]),(5,[31,35])]) ?_
 have l1:=λn1 n2 n3 n4:Nat=>Ax λn τ=>∃(b:List Int) (a:Int),(τ 1=si d/\τ 2=bA 4 (E1 c)/\τ 5=vO 1 eI b/\τ 6=si a)/\Aa d c n b a=some r
 unfold CO at h
 exact walk
end
namespace Ch
def J1 (e:AL):ABp AL:=
some e
def L1 (a:AL) (L1:AL->Int->ABp AL) (b:AL) (c:Int):ABp AL:=
if decide (c<(a.Bn.length:Int))then
(gt a.Bn c).bind λd=>
if Al (d.length) 8=true then
if Al (b.Bn.length+1) 24=true then
L1 (AL.mk b.PC b.Br (b.Bn++[d]) b.AF) (Ap (c+1))
else none
else none
else
J1 b
def Aa (a:AL):Nat->AL->Int->ABp AL
|0,_,_=>none
|n+1,b,c=>L1 a (Aa a n) b c
end Ch
section
open Ch
def Ch (a:AL):ABp AL:=
if Al (a.Br.length) 8=true then
Aa a BT (AL.mk a.PC a.Br [] a.AF) 0
else none
theorem QJ {a r:AL} (h:Ch a=some r):Says Tryz.prog 169 [.agg (Ej a)] (.agg (Bc r)):=by
 refine kO mix Tryz.func169 (hn [(1,[5,7,10,15,24]),(3,[21,22,32,33])] (Z:=[(6,true,3,[(0,2,0)])])) ?_
 have l1:=λn1 n2 n3 n4:Nat=>Ax λn τ=>∃(b:AL) (c:Int),(τ 1=bA 4 (Ej a)/\τ 2=bA 4 z9/\τ 3=bA 4 [si b.PC,vO 1 eI b.Br,vO 1 fW b.Bn,si b.AF]/\τ 4=si c)/\Aa a n b c=some r
 unfold Ch at h
 exact walk
end
namespace Cj
def J1 (a:Int) (b:Bool):ABp Int:=
if b then
some 0
else
some a
end Cj
section
open Cj
def Cj (a:Int):ABp Int:=
if decide (a<1)then
J1 a true
else
J1 a (decide (a>100))
theorem Sc {a r:Int} (h:Cj a=some r):Says Tryz.prog 196 [si a] (si r):=by
 refine kO mix Tryz.func196 hn ?_
 unfold Cj at h
 exact walk
end
def Di (a:Bool):ABp Int:=
if a then
some 1
else
some 0
theorem Ox {a:Bool} {r:Int} (h:Di a=some r):Says Tryz.prog 209 [sb a] (si r):=by
 refine kO mix Tryz.func209 hn ?_
 unfold Di at h
 exact walk
namespace AR
def J3 (l:List ABq):ABp ((List ABq)×Bool):=
some (l,true)
def J2 (L1:(List ABq)->Int->ABp ((List ABq)×Bool)) (c:Int) (d:List ABq) (b o:DB):ABp ((List ABq)×Bool):=
L1 (d++[b.Name]) (Ap (c+o.B0))
def L2 (L1:(List ABq)->Int->ABp ((List ABq)×Bool)) (c:Int) (a:List DB) (d:List ABq) (b:DB) (L2:DB->Int->ABp ((List ABq)×Bool)) (e:DB) (f:Int):ABp ((List ABq)×Bool):=
if decide (f<b.B0)then
(gt a (Ap (c+f))).bind λi=>
if !(i.Name.toList==e.Name.toList&&(i.Index==f&&(i.B0==e.B0&&(i.Fv==e.Fv&&(i.Init==e.Init)))))then
some ([],false)
else
L2 (DB.mk e.Name f e.B0 e.Fv e.Init) (Ap (f+1))
else
J2 L1 c d b e
def C2 (L1:(List ABq)->Int->ABp ((List ABq)×Bool)) (c:Int) (a:List DB) (d:List ABq) (b:DB):Nat->DB->Int->ABp ((List ABq)×Bool)
|0,_,_=>none
|n+1,e,f=>L2 L1 c a d b (C2 L1 c a d b n) e f
def J1 (L1:(List ABq)->Int->ABp ((List ABq)×Bool)) (c:Int) (a:List DB) (d:List ABq) (b:DB) (j:Bool):ABp ((List ABq)×Bool):=
if j then
some ([],false)
else
C2 L1 c a d b BT b 0
def L1 (a:List DB) (L1:(List ABq)->Int->ABp ((List ABq)×Bool)) (d:List ABq) (c:Int):ABp ((List ABq)×Bool):=
if decide (c<(a.length:Int))then
(gt a c).bind λb=>
if Al (d.length+1) 16=true then
if b.B0==0 then
if b.Index != 0 then
some ([],false)
else
L1 (d++[b.Name]) (Ap (c+1))
else
if decide (b.B0<1)then
J1 L1 c a d b true
else
if decide (b.B0>4)then
J1 L1 c a d b true
else
if b.Fv then
J1 L1 c a d b true
else
J1 L1 c a d b (decide (b.B0>(Ap ((a.length:Int)-c))))
else none
else
J3 d
def Aa (a:List DB):Nat->(List ABq)->Int->ABp ((List ABq)×Bool)
|0,_,_=>none
|n+1,d,c=>L1 a (Aa a n) d c
end AR
section
open AR
def AR (a:List DB):ABp ((List ABq)×Bool):=
Aa a BT [] 0
theorem Nu {a:List DB} {r:(List ABq)×Bool} (h:AR a=some r):Says Tryz.prog 87 [vS 5 Fw a] (.BJ [vO 1 eS r.1,sb r.2]):=by
 refine kO mix Tryz.func87 (hn [(4,[16,70]),(6,[17,21,24,29,33,38,42,50,56,67])] [(15,1)]) ?_
 have l1:=λn1 n2 n3 n4:Nat=>Ax λn τ=>∃(d:List ABq) (c:Int),(τ 0=vS 5 Fw a/\τ 4=vO 1 eS d/\τ 5=si c)/\Aa a n d c=some r
 have l2:=λn1 n2 n3 n4:Nat=>Ax λn τ=>∃(c:Int) (d:List ABq) (b e:DB) (f:Int),(τ 0=vS 5 Fw a/\τ 4= .own false 1 ((d++[b.Name]).map eS)/\τ 5=si c/\τ 6=bA 5 (Fw e)/\τ 51=si b.B0/\τ 52=si f)/\C2 (Aa a n1) c a d b n e f=some r
 have c1:=λn1 n2 n3 n4:Nat=>Bh 1 λτ=>∃(c:Int) (d:List ABq) (b:DB) (j:Bool),(τ 0=vS 5 Fw a/\τ 4= .own false 1 ((d++[b.Name]).map eS)/\τ 5=si c/\τ 6=bA 5 (Fw b)/\τ 49=sb j)/\J1 (Aa a n1) c a d b j=some r
 unfold AR at h
 exact walk
end
namespace DI
def J1:ABp Bool:=
some false
def L1 (a:ABq) (L1:Int->ABp Bool) (b:Int):ABp Bool:=
if decide (b<22)then
if b<22 then
(gt Kg b).bind λc=>
if a.toList==c.toList then
some true
else
L1 (Ap (b+1))
else none
else
J1
def Aa (a:ABq):Nat->Int->ABp Bool
|0,_=>none
|n+1,b=>L1 a (Aa a n) b
end DI
section
open DI
def DI (a:ABq):ABp Bool:=
Aa a BT 0
theorem Q8 {a:ABq} {r:Bool} (h:DI a=some r):Says Tryz.prog 171 [BM a] (sb r):=by
 refine kO mix Tryz.func171 (hn (E:=[(1,(.X2 [.gld ⟨5,[],[]⟩ 0 22,.o (iU 6 0)]))])) ?_
 have l1:=λn1 n2 n3 n4:Nat=>Ax λn τ=>∃(b:Int),(τ 0=BM a/\τ 5= .agg (Kg.map BM)/\τ 6=si b)/\Aa a n b=some r
 unfold DI at h
 exact walk
end
namespace Ei
def J1 (c:Bool):ABp Bool:=
some c
end Ei
section
open Ei
def Ei (a b:Int):ABp Bool:=
if decide (a≥0)then
J1 (decide (a<b))
else
J1 false
theorem RP {a b:Int} {r:Bool} (h:Ei a b=some r):Says Tryz.prog 133 [si a,si b] (sb r):=by
 refine kO mix Tryz.func133 hn ?_
 unfold Ei at h
 exact walk
end
namespace B3
def J3:ABp Bool:=
some true
def J2 (L1:Int->Int->Int->ABp Bool) (b:Int) (d:DL) (j f:Int):ABp Bool:=
if d.Stmt != f then
some false
else
L1 j (Ap (f+1)) (Ap (b+1))
def J1 (L1:Int->Int->Int->ABp Bool) (e b c:Int) (d:DL) (i:Bool):ABp Bool:=
if i then
some false
else
if decide (d.Thread>c)then
J2 L1 b d d.Thread 0
else
J2 L1 b d c e
def L1 (a:AD) (L1:Int->Int->Int->ABp Bool) (c e b:Int):ABp Bool:=
if decide (b<(a.A7.length:Int))then
(gt a.A7 b).bind λd=>
if decide (d.Thread<c)then
J1 L1 e b c d true
else
J1 L1 e b c d (decide (d.Thread≥(a.AA.length:Int)))
else
J3
def Aa (a:AD):Nat->Int->Int->Int->ABp Bool
|0,_,_,_=>none
|n+1,c,e,b=>L1 a (Aa a n) c e b
end B3
section
open B3
def B3 (a:AD):ABp Bool:=
Aa a BT 0 0 0
theorem Nw {a:AD} {r:Bool} (h:B3 a=some r):Says Tryz.prog 90 [.agg (Ai a)] (sb r):=by
 refine kO mix Tryz.func90 (hn [(1,[7,21]),(6,[14,19,26,30,32])]) ?_
 have l1:=λn1 n2 n3 n4:Nat=>Ax λn τ=>∃(c e b:Int),(τ 1=bA 6 (Ai a)/\τ 3=si c/\τ 4=si e/\τ 8=vS 3 FO a.A7/\τ 9=si (a.A7.length:Int)/\τ 10=si b)/\Aa a n c e b=some r
 unfold B3 at h
 exact walk
end
namespace Dy
def J2 (f:AN):ABp AN:=
some f
def J1 (d:AN):ABp AN:=
if decide ((d.AA.length:Int)>0)then
(gt d.AA 0).bind λe=>
J2 (AN.mk d.AG d.Tx d.Bq (d.AA.set 0 (AE.mk 1 e.D8 e.Atomic)))
else
J2 d
def L1 (a:AD) (L1:AN->Int->ABp AN) (b:AN) (c:Int):ABp AN:=
if decide (c<((List.replicate a.AG.length (AW.mk 0 [])).length:Int))then
(gt b.AG c).bind λi=>
L1 (AN.mk (b.AG.set c.toNat (AW.mk (-1) i.As)) b.Tx b.Bq b.AA) (Ap (c+1))
else
J1 b
def Aa (a:AD):Nat->AN->Int->ABp AN
|0,_,_=>none
|n+1,b,c=>L1 a (Aa a n) b c
end Dy
section
open Dy
def Dy (a:AD):ABp AN:=
if 0≤(a.AG.length:Int)/\(a.AG.length:Int)≤(a.AG.length:Int)/\Al a.AG.length 32=true then
if 0≤(a.AK.length:Int)/\(a.AK.length:Int)≤(a.AK.length:Int)/\Al a.AK.length 1=true then
if 0≤(a.AA.length:Int)/\(a.AA.length:Int)≤(a.AA.length:Int)/\Al a.AA.length 24=true then
Aa a BT (AN.mk (List.replicate a.AG.length (AW.mk 0 [])) (-1) (List.replicate a.AK.length false) (List.replicate a.AA.length (AE.mk 0 0 false))) 0
else none
else none
else none
theorem UX {a:AD} {r:AN} (h:Dy a=some r):Says Tryz.prog 68 [.agg (Ai a)] (.agg (HM r)):=by
 refine kO mix Tryz.func68 (hn [(1,[5,9,13]),(3,[18,19,24,25,27,28,30,31,34,35,36,37,38])]) ?_
 have l1:=λn1 n2 n3 n4:Nat=>Ax λn τ=>∃(b:AN) (c:Int),(τ 2=bA 4 z3/\τ 3=bA 4 (HM b)/\τ 20=si ((List.replicate a.AG.length (AW.mk 0 [])).length:Int)/\τ 21=si c)/\Aa a n b c=some r
 unfold Dy at h
 exact walk
end
namespace Co
def J1 (c:Bool):ABp Bool:=
some c
end Co
section
open Co
def Co (a b:Int):ABp Bool:=
if decide (a≥0)then
J1 (decide (a<b))
else
J1 false
theorem Jx {a b:Int} {r:Bool} (h:Co a b=some r):Says Tryz.prog 116 [si a,si b] (sb r):=by
 refine kO mix Tryz.func116 hn ?_
 unfold Co at h
 exact walk
end
namespace FF
def J1:ABp Int:=
some (-1)
def L1 (a:List Int) (b:Int) (L1:Int->ABp Int) (c:Int):ABp Int:=
if decide (c<(a.length:Int))then
(gt a c).bind λd=>
if b==d then
some c
else
L1 (Ap (c+1))
else
J1
def Aa (a:List Int) (b:Int):Nat->Int->ABp Int
|0,_=>none
|n+1,c=>L1 a b (Aa a b n) c
end FF
section
open FF
def FF (a:List Int) (b:Int):ABp Int:=
Aa a b BT 0
theorem Uq {a:List Int} {b r:Int} (h:FF a b=some r):Says Tryz.prog 182 [vS 1 eI a,si b] (si r):=by
 refine kO mix Tryz.func182 hn ?_
 have l1:=λn1 n2 n3 n4:Nat=>Ax λn τ=>∃(c:Int),(τ 0=vS 1 eI a/\τ 1=si b/\τ 7=si (a.length:Int)/\τ 8=si c)/\Aa a b n c=some r
 unfold FF at h
 exact walk
end
namespace Cp
def J2 (d:Bool):ABp Bool:=
some d
def J1 (a:AH) (b:AD) (c:Bool):ABp Bool:=
if c then
some (a.Site==(-1))
else
if decide (a.Site≥0)then
if decide (a.Site<(b.A7.length:Int))then
(gt b.A7 a.Site).bind λe=>
J2 (e.Thread==a.Thread)
else
J2 false
else
J2 false
end Cp
section
open Cp
def Cp (b:AD) (a:AH):ABp Bool:=
if a.Kind==1 then
J1 a b true
else
J1 a b (a.Kind==2)
theorem PF {b:AD} {a:AH} {r:Bool} (h:Cp b a=some r):Says Tryz.prog 80 [.agg (Ai b),.agg (BG a)] (sb r):=by
 refine kO mix Tryz.func80 (hn [(2,[22,28]),(3,[5,9,13,16,20,30,35])]) ?_
 unfold Cp at h
 exact walk
end
def f81c:IC:=(Ra 0 [.b 3 [23] (.bx 6 (.t 0)),.b 4 [76] (.bx 7 (.t 1)),.b 5 [14,18,25,32,38,42,47,49,78] (.bx 7 (.t 2)),.B 6 false]
(Ip (Rc 14 [.f 1 5,.Q 15 3,.C 16,.G 17 false,.f 1 5,.P .eql 19 4,.e,.V 17 20,.C 21,.G 22 true,.f 0 3,.f 2 5,.I 5 24 26,.U 2 27,.P .neq 29 0,.e,.W 22 30,.M 7 31])
(Ip (Rc 32 [.f 1 5,.Q 33 5,.C 34,.G 35 false,.C 7,.e,.V 35 36,.f 1 5,.Q 39 4,.C 40,.G 41 false,.f 1 5,.P .eql 43 22,.e,.V 41 44,.o (.RD [sb false,sb false] [(0,1,.t 37),(1,1,.t 45)]),.b 8 [61] (.bx 2 (.c (.agg [sb false,sb false]))),.S 2 8 46])
(Ip (Ra 47 [.f 5 5,.f 6 5,.o (.RD [.own false 1 [],.own false 1 []] [(0,1,.t 48),(1,1,.t 50)]),.Y 0]
(Bl 0 (Ra 53 [.P .lss 52 2]
(Sq (cX 53 0)
(Ip (Bk 1 (Ip (Rc 54 [.C 52,.o (.idx false 2 1 (.t 51) (.t 52)),.M 9 54,.M 10 55])
(Sq (Ip (Rc 56 [.C 10,.Z 56,.P .gtr 57 0,.C 58,.G 59 true,.C 9,.y 8 (.aad 2 1 (.t 8) (.t 60)),.L 61,.N 62,.e,.W 59 63])
(Ci 64 (Rb 0 [.B 6 false])))
(Ra 0 [.K 11 0]
(Ra 65 [.C 10,.Z 65,.Y 0]
(Bl 2 (Ra 68 [.O .lss 67 66]
(Sq (cX 68 2)
(Sq (Bk 3 (Ra 69 [.I 1 65 67,.L 69,.M 13 70]
(Sq (Ip (Rc 71 [.C 13,.C 11,.O .leq 71 72,.C 73,.G 74 false,.C 13,.f 6 4,.f 0 5,.I 1 77 79,.L 80,.O .geq 75 81,.e,.V 74 82])
(Ci 83 (Rb 0 [.B 6 false])))
(Rc 84 [.C 13,.M 11 84]))))
(Rc 85 [.P .add 67 1,.w 67,.C 85]))))))))))
(Rc 86 [.P .add 52 1,.w 52,.C 86]))))))
(Rb 0 [.B 6 true])))))
def f81g:Gi:=⟨[(14,[5]),(18,[5]),(23,[3]),(25,[5]),(32,[5]),(38,[5]),(42,[5]),(47,[5]),(49,[5]),(61,[8]),(76,[4]),(78,[5])]⟩
def f81r:List RV:=[.tmp 6]
def f81:FI:=⟨f81c,f81g,f81r⟩
theorem chk81:JP Tryz.prog Tryz.f81 f81=true:=by kernel_rfl
namespace AX
def J7:ABp Bool:=
some true
def J6 (L1:Int->ABp Bool) (He:Int):ABp Bool:=
L1 (Ap (He+1))
def J5 (L2:Int->Int->ABp Bool) (Sw S6:Int) (AAG:Bool):ABp Bool:=
if AAG then
some false
else
L2 S6 (Ap (Sw+1))
def L2 (L1:Int->ABp Bool) (ev:AH) (l:List Int) (s:AB) (He:Int) (L2:Int->Int->ABp Bool) (last Sw:Int):ABp Bool:=
if decide (Sw<(l.length:Int))then
(gt l Sw).bind λS6=>
if decide (S6≤last)then
J5 L2 Sw S6 true
else
(gt s.Count ev.Thread).bind λx_3=>
J5 L2 Sw S6 (decide (S6≥x_3))
else
J6 L1 He
def C2 (L1:Int->ABp Bool) (ev:AH) (l:List Int) (s:AB) (He:Int):Nat->Int->Int->ABp Bool
|0,_,_=>none
|n+1,last,Sw=>L2 L1 ev l s He (C2 L1 ev l s He n) last Sw
def J4 (L1:Int->ABp Bool) (ev:AH) (l:List Int) (s:AB) (He:Int) (XA:Bool):ABp Bool:=
if XA then
some false
else
C2 L1 ev l s He BT 0 0
def J3 (L1:Int->ABp Bool) (allowed C0:Bool) (ev:AH) (s:AB) (He:Int) (l:List Int):ABp Bool:=
if decide ((l.length:Int)>0)then
if He==0 then
J4 L1 ev l s He (!allowed)
else
if He==1 then
J4 L1 ev l s He (!C0)
else
none
else
J4 L1 ev l s He false
def L1 (allowed C0:Bool) (ev:AH) (s:AB) (L1:Int->ABp Bool) (He:Int):ABp Bool:=
if decide (He<2)then
if He==0 then
J3 L1 allowed C0 ev s He ev.D9
else
if He==1 then
J3 L1 allowed C0 ev s He ev.Db
else
none
else
J7
def Aa (allowed C0:Bool) (ev:AH) (s:AB):Nat->Int->ABp Bool
|0,_=>none
|n+1,He=>L1 allowed C0 ev s (Aa allowed C0 ev s n) He
def J2 (ev:AH) (s:AB) (allowed C0:Bool):ABp Bool:=
Aa allowed C0 ev s BT 0
def J1 (ev:AH) (s:AB) (element:Bool):ABp Bool:=
if ev.Kind==5 then
if ev.Kind==4 then
J2 ev s true true
else
J2 ev s true (ev.Kind==22)
else
if ev.Kind==4 then
J2 ev s element true
else
J2 ev s element (ev.Kind==22)
end AX
section
open AX
def AX (wv:AD) (s:AB) (ev:AH):ABp Bool:=
if ev.Kind==3 then
(gt wv.Cells ev.Obj).bind λx=>
J1 ev s (x.B0 != 0)
else
if ev.Kind==4 then
(gt wv.Cells ev.Obj).bind λUx=>
J1 ev s (Ux.B0 != 0)
else
J1 ev s false
theorem MH {wv:AD} {s:AB} {ev:AH} {r:Bool} (h:AX wv s ev=some r):Says Tryz.prog 81 [.agg (Ai wv),.agg (Aw s),.agg (BG ev)] (sb r):=by
 refine Gu mix Tryz.func81 chk81 (AAa (by kernel_rfl)) rfl ?_
 simp only[f81,f81c,f81g,f81r]
 try simp +decide only[go_sem, *]
 refine JH (λτ=>∃element:Bool,(τ 4=bA 7 (Aw s)/\τ 5=bA 7 (BG ev)/\τ 7=sb element)/\J1 ev s element=some r) λM1 TG=>⟨?_,?_⟩
 . try simp +decide only[go_sem, *]
   refine gI h (λ_ h=> ?_) λ_ h=> ?_
   . obtain⟨x,_,h⟩:=gB h
     try simp +decide only[go_sem, *]
     refine TG _ ⟨_,?_,h⟩
     simp +decide only[go_sem, *]
   try simp +decide only[go_sem, *]
   refine gI h (λ_ h=> ?_) λ_ h=> ?_
   . obtain⟨Ux,_,h⟩:=gB h
     try simp +decide only[go_sem, *]
     refine TG _ ⟨_,?_,h⟩
     simp +decide only[go_sem, *]
   try simp +decide only[go_sem, *]
   refine TG _ ⟨_,?_,h⟩
   simp +decide only[go_sem, *]
 rintro τ1 ⟨element,s1,h⟩
 try simp +decide only[go_sem, *]
 refine JH (λτ=>∃allowed:Bool,∃C0:Bool,(τ 4=bA 7 (Aw s)/\τ 5=bA 7 (BG ev)/\τ 8=bA 2 [sb allowed,sb C0])/\J2 ev s allowed C0=some r) λM2 TJ=>⟨?_,?_⟩
 . try simp +decide only[go_sem, *]
   refine gI h (λ_ h=> ?_) λ_ h=> ?_
   . try simp +decide only[go_sem, *]
     refine gI h (λ_ h=> ?_) λ_ h=> ?_
     . try simp +decide only[go_sem, *]
       refine TJ _ ⟨_,_,?_,h⟩
       simp +decide only[go_sem, *]
     try simp +decide only[go_sem, *]
     refine TJ _ ⟨_,_,?_,h⟩
     simp +decide only[go_sem, *]
   try simp +decide only[go_sem, *]
   refine gI h (λ_ h=> ?_) λ_ h=> ?_
   . try simp +decide only[go_sem, *]
     refine TJ _ ⟨_,_,?_,h⟩
     simp +decide only[go_sem, *]
   try simp +decide only[go_sem, *]
   refine TJ _ ⟨_,_,?_,h⟩
   simp +decide only[go_sem, *]
 rintro τ2 ⟨allowed,C0,s2,h⟩
 try simp +decide only[go_sem, *]
 refine JH (λτ=>(True)/\J7=some r) λM7 hM7=>⟨?_,?_⟩
 . try simp +decide only[go_sem, *]
   refine Ir (λn τ=>∃He:Int,(τ 4=bA 7 (Aw s)/\τ 5=bA 7 (BG ev)/\τ 8=bA 2 [sb allowed,sb C0]/\τ 51= .agg [vS 1 eI ev.D9,vS 1 eI ev.Db]/\τ 52=si He)/\Aa allowed C0 ev s n He=some r) ⟨_,?_,h⟩ λn1 τ1 N1=> ?_
   . simp +decide only[go_sem, *]
   rintro⟨He,s1,h⟩ dR
   cases n1 with
   |zero=>exact Bi h
   |succ n1=>
    rw[Aa]at h;generalize dP:Aa allowed C0 ev s n1=L1 at h
    try simp +decide only[go_sem, *]
    refine cI h (λ_ h=> ?_) λ_ h=> ?_
    . try simp +decide only[go_sem, *]
      refine JH (λτ=>(τ 4=bA 7 (Aw s)/\τ 5=bA 7 (BG ev)/\τ 8=bA 2 [sb allowed,sb C0]/\τ 51= .agg [vS 1 eI ev.D9,vS 1 eI ev.Db]/\τ 52=si He)/\J6 L1 He=some r) λM6 hM6=>⟨?_,?_⟩
      . try simp +decide only[go_sem, *]
        refine JH (λτ=>∃l:List Int,(τ 4=bA 7 (Aw s)/\τ 5=bA 7 (BG ev)/\τ 8=bA 2 [sb allowed,sb C0]/\τ 9=si He/\τ 10=vS 1 eI l/\τ 51= .agg [vS 1 eI ev.D9,vS 1 eI ev.Db]/\τ 52=si He)/\J3 L1 allowed C0 ev s He l=some r) λM3 dQ=>⟨?_,?_⟩
        . rcases Y0 h with⟨e7,h⟩|⟨e7,h⟩
          . obtain rfl:=e7
            try simp +decide only[go_sem, *]
            refine dQ _ ⟨_,?_,h⟩
            simp +decide only[go_sem, *]
          . obtain rfl:=e7
            try simp +decide only[go_sem, *]
            refine dQ _ ⟨_,?_,h⟩
            simp +decide only[go_sem, *]
        rintro τ3 ⟨l,s3,h⟩
        try simp +decide only[go_sem, *]
        refine JH (λτ=>∃XA:Bool,(τ 4=bA 7 (Aw s)/\τ 5=bA 7 (BG ev)/\τ 8=bA 2 [sb allowed,sb C0]/\τ 10=vS 1 eI l/\τ 51= .agg [vS 1 eI ev.D9,vS 1 eI ev.Db]/\τ 52=si He/\τ 64=sb XA)/\J4 L1 ev l s He XA=some r) λM4 kQ=>⟨?_,?_⟩
        . try simp +decide only[go_sem, *]
          refine gI h (λ_ h=> ?_) λ_ h=> ?_
          . rcases Y0 h with⟨e9,h⟩|⟨e9,h⟩
            . obtain rfl:=e9
              try simp +decide only[go_sem, *]
              refine kQ _ ⟨_,?_,h⟩
              simp +decide only[go_sem, *]
            . obtain rfl:=e9
              try simp +decide only[go_sem, *]
              refine kQ _ ⟨_,?_,h⟩
              simp +decide only[go_sem, *]
          try simp +decide only[go_sem, *]
          refine kQ _ ⟨_,?_,h⟩
          simp +decide only[go_sem, *]
        rintro τ4 ⟨XA,s4,h⟩
        try simp +decide only[go_sem, *]
        refine cI h (λ_ h=> ?_) λ_ h=> ?_
        . obtain rfl:=AAR h
          simp +decide only[go_sem, *]
        try simp +decide only[go_sem, *]
        refine Ir (λn τ=>∃last:Int,∃Sw:Int,(τ 4=bA 7 (Aw s)/\τ 5=bA 7 (BG ev)/\τ 8=bA 2 [sb allowed,sb C0]/\τ 11=si last/\τ 51= .agg [vS 1 eI ev.D9,vS 1 eI ev.Db]/\τ 52=si He/\τ 65=vS 1 eI l/\τ 66=si (l.length:Int)/\τ 67=si Sw)/\C2 L1 ev l s He n last Sw=some r) ⟨_,_,?_,h⟩ λn2 τ2 N2=> ?_
        . simp +decide only[go_sem, *]
        rintro⟨last,Sw,s2,h⟩ hN2
        cases n2 with
        |zero=>exact Bi h
        |succ n2=>
         rw[C2]at h;generalize YT:C2 L1 ev l s He n2=L2 at h
         try simp +decide only[go_sem, *]
         refine cI h (λ_ h=> ?_) λ_ h=> ?_
         . obtain⟨S6,_,h⟩:=gB h
           try simp +decide only[go_sem, *]
           refine JH (λτ=>∃AAG:Bool,(τ 4=bA 7 (Aw s)/\τ 5=bA 7 (BG ev)/\τ 8=bA 2 [sb allowed,sb C0]/\τ 13=si S6/\τ 51= .agg [vS 1 eI ev.D9,vS 1 eI ev.Db]/\τ 52=si He/\τ 65=vS 1 eI l/\τ 66=si (l.length:Int)/\τ 67=si Sw/\τ 83=sb AAG)/\J5 L2 Sw S6 AAG=some r) λM5 hM5=>⟨?_,?_⟩
           . try simp +decide only[go_sem, *]
             refine gI h (λ_ h=> ?_) λ_ h=> ?_
             . try simp +decide only[go_sem, *]
               refine hM5 _ ⟨_,?_,h⟩
               simp +decide only[go_sem, *]
             obtain⟨x_3,_,h⟩:=gB h
             try simp +decide only[go_sem, *]
             refine hM5 _ ⟨_,?_,h⟩
             simp +decide only[go_sem, *]
           rintro τ5 ⟨AAG,s5,h⟩
           try simp +decide only[go_sem, *]
           refine cI h (λ_ h=> ?_) λ_ h=> ?_
           . obtain rfl:=AAR h
             simp +decide only[go_sem, *]
           try simp +decide only[go_sem, *]
           refine hN2 n2 (AA8 _) _ ⟨_,_,?_,YT.symm▸h⟩
           simp +decide only[go_sem, *]
         try simp +decide only[go_sem, *]
         refine hM6 _ ⟨?_,h⟩
         simp +decide only[go_sem, *]
      rintro τ6 ⟨s6,h⟩
      try simp +decide only[go_sem, *]
      refine dR n1 (AA8 _) _ ⟨_,?_,dP.symm▸h⟩
      simp +decide only[go_sem, *]
    try simp +decide only[go_sem, *]
    refine hM7 _ ⟨?_,h⟩
    simp +decide only[go_sem, *]
 rintro τ7 ⟨_,h⟩
 obtain rfl:=AAR h
 simp +decide only[go_sem, *]
end
namespace Au
def Th (a:AH):ABp Bool:=
some (a.Value==0)
def J1 (q:Bool):ABp Bool:=
some q
def J6 (s:Bool):ABp Bool:=
some s
def J5 (a:AH) (v:Int) (z:Bool):ABp Bool:=
if z then
J6 true
else
if v==0 then
J6 (a.Value==(-1))
else
J6 false
def J4 (L1:Int->Bool->Int->ABp Bool) (c u:Int) (y:Bool):ABp Bool:=
L1 u y (Ap (c+1))
def J3 (L1:Int->Bool->Int->ABp Bool) (a:AH) (c e:Int) (i t:Bool):ABp Bool:=
if t then
if i then
J4 L1 c (Ap (e+1)) true
else
J4 L1 c (Ap (e+1)) (a.Value==c)
else
J4 L1 c e i
def L1 (a:AH) (b:AB) (L1:Int->Bool->Int->ABp Bool) (e:Int) (i:Bool) (c:Int):ABp Bool:=
if decide (c<(b.Sync.AA.length:Int))then
(gt b.Sync.AA c).bind λl=>
if l.Status==3 then
J3 L1 a c e i (l.D8==a.Obj)
else
J3 L1 a c e i false
else
J5 a e i
def Aa (a:AH) (b:AB):Nat->Int->Bool->Int->ABp Bool
|0,_,_,_=>none
|n+1,e,i,c=>L1 a b (Aa a b n) e i c
def J9 (a:AH) (x:Int):ABp Bool:=
some (a.Value==x)
def J8 (L2:Int->Int->ABp Bool) (d w:Int):ABp Bool:=
L2 w (Ap (d+1))
def J7 (L2:Int->Int->ABp Bool) (d f:Int) (p:Bool):ABp Bool:=
if p then
J8 L2 d (Ap (f+1))
else
J8 L2 d f
def L2 (a:AH) (b:AB) (L2:Int->Int->ABp Bool) (f d:Int):ABp Bool:=
if decide (d<(b.Sync.AA.length:Int))then
(gt b.Sync.AA d).bind λo=>
if o.Status==3 then
J7 L2 d f (o.D8==a.Obj)
else
J7 L2 d f false
else
J9 a f
def C2 (a:AH) (b:AB):Nat->Int->Int->ABp Bool
|0,_,_=>none
|n+1,f,d=>L2 a b (C2 a b n) f d
def J2 (a:AH) (b:AB) (j:Bool):ABp Bool:=
if j then
some true
else
if a.Kind==18 then
Aa a b BT 0 false 0
else
if a.Kind==19 then
C2 a b BT 0 0
else
Th a
end Au
section
open Au
def Au (b:AB) (a:AH):ABp Bool:=
if a.Kind==3 then
(gt b.Cells a.Obj).bind λaa=>
some (a.Value==aa)
else
if a.Kind==23 then
(gt b.AK a.Obj).bind λab=>
some (a.Value==ab)
else
if a.Kind==5 then
if a.Value==0 then
J1 true
else
J1 (a.Value==1)
else
if a.Kind==4 then
J2 a b (a.Kind==4)
else
J2 a b (a.Kind==22)
theorem PG {b:AB} {a:AH} {r:Bool} (h:Au b a=some r):Says Tryz.prog 82 [.agg (Aw b),.agg (BG a)] (sb r):=by
 refine kO mix Tryz.func82 (hn [(2,[18,29,51,52,92,93]),(3,[12,16,20,27,31,38,42,66,74,85,106,113,117]),(8,[60,64]),(11,[100,104])] [(9,2)]) ?_
 have l1:=λn1 n2 n3 n4:Nat=>Ax λn τ=>∃(e:Int) (i:Bool) (c:Int),(τ 3=bA 7 (BG a)/\τ 5=si e/\τ 6=sb i/\τ 53=vS 3 Ae b.Sync.AA/\τ 54=si (b.Sync.AA.length:Int)/\τ 55=si c)/\Aa a b n e i c=some r
 have l2:=λn1 n2 n3 n4:Nat=>Ax λn τ=>∃(f d:Int),(τ 3=bA 7 (BG a)/\τ 9=si f/\τ 94=vS 3 Ae b.Sync.AA/\τ 95=si (b.Sync.AA.length:Int)/\τ 96=si d)/\C2 a b n f d=some r
 have c2:=λn1 n2 n3 n4:Nat=>Bh 2 λτ=>∃(j:Bool),(τ 2=bA 7 (Aw b)/\τ 3=bA 7 (BG a)/\τ 13=si a.Kind/\τ 46=sb j)/\J2 a b j=some r
 unfold Au at h
 exact walk
end
def f75c:IC:=(.seq (.OD [⟨some ⟨2,[],[]⟩,.mv (.c (.own false 1 [])),none⟩])
(.seq (.seq (.X2 [.o ⟨some ⟨3,[],[]⟩,.cp (.t 0),none⟩,
.Ry ⟨4,[],[]⟩ false (.t 3)])
(.cond (.t 4) (.seq (.OD [⟨some ⟨2,[],[]⟩,.mv (.c (.own false 1 [])),none⟩])
.ret) .skip))
(.seq (.OD [⟨some ⟨5,[],[]⟩,.Mr 1 [] [],none⟩,
⟨some ⟨6,[],[]⟩,.cp (.t 0),none⟩,
⟨some ⟨7,[],[]⟩,.app 1 8 (.t 5) (.t 6),none⟩,
⟨some ⟨2,[],[]⟩,.mv (.t 7),none⟩])
.ret)))
def f75g:Gi:=⟨[]⟩
def f75r:List RV:=[.tmp 2]
def f75:FI:=⟨f75c,f75g,f75r⟩
theorem chk75:JP Tryz.prog Tryz.f75 f75=true:=by kernel_rfl
def slices_Clone_int (l:List Int):ABp (List Int):=if Al l.length 8=true then some l else none
theorem Gv {l:List Int} {r:List Int} (h:slices_Clone_int l=some r):Says Tryz.prog 75 [vS 1 eI l] (vO 1 eI r):=by
  obtain⟨g,h⟩:=Gx h
  obtain rfl:=AAR h
  refine Gu mix Tryz.func75 chk75 (AAa (by kernel_rfl)) rfl ?_
  simp only[f75,f75c,f75g,f75r]
  simp +decide only[go_sem,g]
  intro b hb
  cases b with
  |true=>
    have hl:l=[]:=by simpa using hb rfl
    subst hl
    simp +decide only[go_sem,g]
  |false=>simp +decide only[go_sem,g]
def f76c:IC:=(.seq (.OD [⟨some ⟨2,[],[]⟩,.mv (.c (.own false 1 [])),none⟩])
(.seq (.seq (.X2 [.o ⟨some ⟨3,[],[]⟩,.cp (.t 0),none⟩,
.Ry ⟨4,[],[]⟩ false (.t 3)])
(.cond (.t 4) (.seq (.OD [⟨some ⟨2,[],[]⟩,.mv (.c (.own false 1 [])),none⟩])
.ret) .skip))
(.seq (.OD [⟨some ⟨5,[],[]⟩,.Mr 1 [] [],none⟩,
⟨some ⟨6,[],[]⟩,.cp (.t 0),none⟩,
⟨some ⟨7,[],[]⟩,.app 1 1 (.t 5) (.t 6),none⟩,
⟨some ⟨2,[],[]⟩,.mv (.t 7),none⟩])
.ret)))
def f76g:Gi:=⟨[]⟩
def f76r:List RV:=[.tmp 2]
def f76:FI:=⟨f76c,f76g,f76r⟩
theorem chk76:JP Tryz.prog Tryz.f76 f76=true:=by kernel_rfl
def HA (l:List Bool):ABp (List Bool):=if Al l.length 1=true then some l else none
theorem KV {l:List Bool} {r:List Bool} (h:HA l=some r):Says Tryz.prog 76 [vS 1 eB l] (vO 1 eB r):=by
  obtain⟨g,h⟩:=Gx h
  obtain rfl:=AAR h
  refine Gu mix Tryz.func76 chk76 (AAa (by kernel_rfl)) rfl ?_
  simp only[f76,f76c,f76g,f76r]
  simp +decide only[go_sem,g]
  intro b hb
  cases b with
  |true=>
    have hl:l=[]:=by simpa using hb rfl
    subst hl
    simp +decide only[go_sem,g]
  |false=>simp +decide only[go_sem,g]
def f77c:IC:=(.seq (.OD [⟨some ⟨2,[],[]⟩,.mv (.c (.own false 3 [])),none⟩])
(.seq (.seq (.X2 [.o ⟨some ⟨3,[],[]⟩,.cp (.t 0),none⟩,
.Ry ⟨4,[],[]⟩ false (.t 3)])
(.cond (.t 4) (.seq (.OD [⟨some ⟨2,[],[]⟩,.mv (.c (.own false 3 [])),none⟩])
.ret) .skip))
(.seq (.OD [⟨some ⟨5,[],[]⟩,.Mr 3 [] [],none⟩,
⟨some ⟨6,[],[]⟩,.cp (.t 0),none⟩,
⟨some ⟨7,[],[]⟩,.app 3 24 (.t 5) (.t 6),none⟩,
⟨some ⟨2,[],[]⟩,.mv (.t 7),none⟩])
.ret)))
def f77g:Gi:=⟨[]⟩
def f77r:List RV:=[.tmp 2]
def f77:FI:=⟨f77c,f77g,f77r⟩
theorem chk77:JP Tryz.prog Tryz.f77 f77=true:=by kernel_rfl
def EB (l:List AE):ABp (List AE):=if Al l.length 24=true then some l else none
theorem G5 {l:List AE} {r:List AE} (h:EB l=some r):Says Tryz.prog 77 [vS 3 Ae l] (vO 3 Ae r):=by
  obtain⟨g,h⟩:=Gx h
  obtain rfl:=AAR h
  refine Gu mix Tryz.func77 chk77 (AAa (by kernel_rfl)) rfl ?_
  simp only[f77,f77c,f77g,f77r]
  simp +decide only[go_sem,g]
  intro b hb
  cases b with
  |true=>
    have hl:l=[]:=by simpa using hb rfl
    subst hl
    simp +decide only[go_sem,g]
  |false=>simp +decide only[go_sem,g]
namespace FB
def J1 (c:Bool):ABp Bool:=
some c
end FB
section
open FB
def FB (a:AE) (b:Int):ABp Bool:=
if a.Status==3 then
J1 (a.D8==b)
else
J1 false
theorem Nb {a:AE} {b:Int} {r:Bool} (h:FB a b=some r):Says Tryz.prog 163 [.agg (Ae a),si b] (sb r):=by
 refine kO mix Tryz.func163 (hn [(2,[5,9])]) ?_
 unfold FB at h
 exact walk
end
end Go.Abs
