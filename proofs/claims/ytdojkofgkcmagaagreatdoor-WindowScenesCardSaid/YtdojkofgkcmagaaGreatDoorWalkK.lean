/- Typed programs of Go functions, and that the functions do what these say. -/
import Derived.Test.YtdojkofgkcmagaaGreatDoorWalkJ
set_option linter.unusedSimpArgs false
set_option linter.unusedVariables false
namespace Go.Abs
open Go.Proofs
set_option maxRecDepth 1000000
set_option maxHeartbeats 4000000
def f83c:IC:=(Ra 10 [.b 6 [28,96] (.bx 7 (.t 1)),.b 7 [17] (.bx 6 (.t 2)),.o (.mv (.c (.own false 7 [])))]
(Ra 0 [.b 11 [50,105,110] (.mv (.c (.own false 7 [])))]
(Ra 17 [.f 4 7,.Z 18,.o (.mk 1 24 z15 (.t 19) (.t 19)),.b 12 [21,40,42,44,45,48,69,91,94,95,104] (.mv (.t 20))]
(Sq (Ra 21 [.y 12 (.cp (.t 12)),.Z 21,.Y 0]
(Bl 0 (Ra 24 [.O .lss 23 22]
(Sq (cX 24 0)
(Sq (Bk 1 (Ra 25 [.C 23,.M 13 25]
(Ra 26 [.C 4,.C 26,.G 27 true,.f 6 6,.C 13,.I 1 29 30,.L 31,.P .gtr 32 1,.e,.W 27 33,.C 34,.G 35 true,.y 0 (.cp (.t 0)),.o (.Uv 132 [] (.t 36) none [.c (si 3)]),.P .eql 37 2,.e,.W 35 38]
(Ci 39 (Rc 40 [.y 12 (.cp (.t 12)),.C 13,.y 12 (.cp (.t 12)),.C 13,.J 12 1 42 43,.l 12 44,.o (.Nk 1 [[si 0]] [(0,.c (si 1))]),.o (.app 1 8 (.t 45) (.t 46)),.J 12 1 40 41,.S 1 48 47])))))
(Rc 49 [.P .add 23 1,.w 23,.C 49]))))))
(Sq (Bl 2 (Sq (Np 4 (Rc 50 [.y 11 (.cp (.t 11)),.Z 50,.C 3,.O .lss 51 52,.C 53,.G 54 true,.p 0 1,.r 0 0,.Z 62,.O .lss 58 63,.e,.W 54 64])
(cX 65 2))
(Bk 3 (Sq (.Yu [.o (i1 66 0 (.cp (.t 0))),.o (iA 67 7 6),.o (iA 68 6 7),.o (i1 69 12 (.cp (.t 12))),.lb (some ⟨70,[],[]⟩) 134 (.t 66) [.t 67,.t 68] (.t 69),.o (⟨some ⟨14,[74,80,84,89,92,98,106],[]⟩,.bx 7 (.c (.agg z3)),none⟩),.o (iS 7 14 70)])
(Sq (.gz false 14 [(0,6,7)] (.gz false 14 [(0,5,7)] (Rc 72 [.A 6 7,.A 7 6,.y 14 (.ld true 7 (.t 14)),.c 55 [72,73,74] 1,.w 71,.C 75,.w 76,.o (.ext (.t 71) 0),.o (.ext (.t 71) 1),.w 15,.o (.bx 7 (.c (.agg z0))),.S 7 15 76,.M 16 77])))
(Sq (Ra 78 [.C 16,.N 78]
(Ci 79 (.exit 3)))
(Sq (Ra 80 [.f 1 14,.Q 81 3,.C 82,.G 83 false,.f 1 14,.P .eql 85 23,.e,.V 83 86]
(Ci 87 (.bY [(12,0,16,88)] [i0 88 .fl,LU 89 14 0 14,iL 90 89,i1 91 12 (.cp (.t 12)),LU 92 14 0 14,iL 93 92,xG 94 12 1 91 93,Zk 95 12 94,LU 96 6 6 6,iL 97 96,LU 98 14 0 14,iL 99 98,iI 100 1 97 99,iL 101 100,i0 102 (.Nk 1 [[si 0]] [(0,.t 101)]),i0 103 (.app 1 8 (.t 95) (.t 102)),xG 104 12 1 12 90,iS 1 104 103])))
(Ra 105 [.y 11 (.cp (.t 11)),.y 14 (.ld true 7 (.t 14)),.o (.Nk 7 [z3] [(0,.t 106)]),.o (.app 7 88 (.t 105) (.t 107)),.b 11 [50,105,110] (.mv (.t 108))]
(Rc 109 [.A 7 15,.S 7 6 109])))))))))
(Rb 110 [.y 11 (.cp (.t 11)),.M 10 110]))))))
def f83g:Gi:=⟨[(17,[7]),(21,[12]),(28,[6]),(36,[0]),(40,[12]),(42,[12]),(44,[12]),(45,[12]),(48,[12]),(50,[11]),(55,[0]),(56,[0]),(57,[0]),(59,[0]),(60,[0]),(61,[0]),(62,[0]),(66,[0]),(69,[12]),(74,[14]),(80,[14]),(84,[14]),(89,[14]),(91,[12]),(92,[14]),(94,[12]),(95,[12]),(96,[6]),(98,[14]),(104,[12]),(105,[11]),(106,[14]),(110,[11])]⟩
def f83r:List RV:=[.tmp 10]
namespace B8
def J7 (aj:AU) (z:List AG):ABd ((List AG)×AU):=
some (z,aj)
def J6 (L2:AU->AB->(List AG)->(List (List Int))->ABd ((List AG)×AU)) (c:List AG) (j:AG×AU) (s:AB×Bool) (ac:List (List Int)):ABd ((List AG)×AU):=
if Ap (c.length+1) 88=true then
L2 j.2 s.1 (c++[j.1]) ac
else none
def J5 (L2:AU->AB->(List AG)->(List (List Int))->ABd ((List AG)×AU)) (c:List AG) (d:List (List Int)) (e:AB) (j:AG×AU) (s:AB×Bool) (ae:Bool):ABd ((List AG)×AU):=
if ae then
(gt d j.1.Thread).bind λy=>
(gt e.Count j.1.Thread).bind λao=>
if Ap (y.length+1) 8=true then
J6 L2 c j s (d.set j.1.Thread.toNat (y++[ao]))
else none
else
J6 L2 c j s d
def J4 (L2:AU->AB->(List AG)->(List (List Int))->ABd ((List AG)×AU)) (c:List AG) (d:List (List Int)) (e:AB) (i:AU) (a:AD) (u:Bool):ABd ((List AG)×AU):=
if u then
(DO i e a d).bind λj=>
(Bj a e j.1).bind λs=>
if !s.2 then
L2 j.2 e c d
else
if j.1.Kind==3 then
J5 L2 c d e j s true
else
J5 L2 c d e j s (j.1.Kind==23)
else
J7 i c
def L2 (b:Int) (a:AD) (L2:AU->AB->(List AG)->(List (List Int))->ABd ((List AG)×AU)) (i:AU) (e:AB) (c:List AG) (d:List (List Int)):ABd ((List AG)×AU):=
if decide ((c.length:Int)<b)then
J4 L2 c d e i a (decide (i.At<(i.L.length:Int)))
else
J4 L2 c d e i a false
def DF (b:Int) (a:AD):Nat->AU->AB->(List AG)->(List (List Int))->ABd ((List AG)×AU)
|0,_,_,_,_=>none
|n+1,i,e,c,d=>L2 b a (DF b a n) i e c d
def J3 (b:Int) (l:AB) (a:AD) (ai:AU) (ab:List (List Int)):ABd ((List AG)×AU):=
DF b a BW ai l [] ab
def J2 (L1:AU->(List (List Int))->Int->ABd ((List AG)×AU)) (f:Int) (af:AU) (aa:List (List Int)):ABd ((List AG)×AU):=
L1 af aa (BA (f+1))
def J1 (L1:AU->(List (List Int))->Int->ABd ((List AG)×AU)) (o:List (List Int)) (f:Int) (v:AU) (ad:Bool):ABd ((List AG)×AU):=
if ad then
(gt o f).bind λx=>
if Ap (x.length+1) 8=true then
J2 L1 f v (o.set f.toNat (x++[1]))
else none
else
J2 L1 f v o
def L1 (p:Bool) (b:Int) (l:AB) (a:AD) (L1:AU->(List (List Int))->Int->ABd ((List AG)×AU)) (q:AU) (o:List (List Int)) (f:Int):ABd ((List AG)×AU):=
if decide (f<(a.AA.length:Int))then
if p then
(gt l.Count f).bind λal=>
if decide (al>1)then
(Ah q 3).bind λw=>
J1 L1 o f w.2 (w.1==2)
else
J1 L1 o f q false
else
J1 L1 o f q false
else
J3 b l a q o
def Aa (p:Bool) (b:Int) (l:AB) (a:AD):Nat->AU->(List (List Int))->Int->ABd ((List AG)×AU)
|0,_,_,_=>none
|n+1,q,o,f=>L1 p b l a (Aa p b l a n) q o f
end B8
section
open B8
def B8 (t:AU) (l:AB) (a:AD) (b:Int) (p:Bool):ABd ((List AG)×AU):=
if 0≤(a.AA.length:Int)/\(a.AA.length:Int)≤(a.AA.length:Int)/\Ap a.AA.length 24=true then
Aa p b l a BW t (List.replicate a.AA.length ([]:List Int)) 0
else none
theorem Za {t:AU} {l:AB} {a:AD} {b:Int} {p:Bool} {r:(List AG)×AU} (h:B8 t l a b p=some r):BD Tryz.prog 83 [bA 2 (FO t),.agg (BI l),.agg (Aq a),si b,sb p] (vS 7 B1 r.1) [bA 2 (FO r.2),.dead,.dead,.dead,.dead]:=by refine wP mix Tryz.func83 (I:=⟨f83c,f83g,f83r⟩) ?_;simp only[f83c,f83g,f83r];have a1:= @Yc;have a2:= @Ki;have a3:= @DD;have l2:=λn1 n2 n3 n4:Nat=>A3 λn τ=>∃(i:AU) (e:AB) (c:List AG) (d:List (List Int)),(τ 0=bA 2 (FO i)/\τ 3=si b/\τ 6=bA 7 (BI e)/\τ 7=bA 6 (Aq a)/\τ 11=vO 7 B1 c/\τ 12=vO 1 NC d)/\DF b a n i e c d=some r;have l1:=λn1 n2 n3 n4:Nat=>A3 λn τ=>∃(q:AU) (o:List (List Int)) (f:Int),(τ 0=bA 2 (FO q)/\τ 3=si b/\τ 4=sb p/\τ 6=bA 7 (BI l)/\τ 7=bA 6 (Aq a)/\τ 11= .own false 7 []/\τ 12=vO 1 NC o/\τ 22=si (a.AA.length:Int)/\τ 23=si f)/\Aa p b l a n q o f=some r;have c4:=λn1 n2 n3 n4:Nat=>Bs 4 λτ=>∃(c:List AG) (d:List (List Int)) (e:AB) (i:AU) (u:Bool),(τ 0=bA 2 (FO i)/\τ 3=si b/\τ 6=bA 7 (BI e)/\τ 7=bA 6 (Aq a)/\τ 11=vO 7 B1 c/\τ 12=vO 1 NC d/\τ 65=sb u)/\J4 (DF b a n2) c d e i a u=some r;unfold B8 at h;exact walk
end
namespace Bc
def J4 (a:AG) (d:AB):ABd (AB×Bool):=
(gt d.Count a.Thread).bind λw=>
some ((AB.mk d.Sync d.Cells d.AK (d.Count.set a.Thread.toNat (BA (w+1)))),true)
def J3 (a:AG) (b:AB) (c:AD) (o:Int):ABd (AB×Bool):=
(E3 c b.Sync a.Thread a.Kind a.Obj o).bind λi=>
if !i.2.2 then
some ((AB.mk (AP.mk [] 0 [] []) [] [] []),false)
else
(Gs b.Cells).bind λj=>
(Gs b.AK).bind λl=>
(slices_Clone_int b.Count).bind λp=>
if a.Kind==4 then
(gt j a.Obj).bind λx=>
J4 a (AB.mk i.1 (j.set a.Obj.toNat a.Value) l p)
else
if a.Kind==22 then
(gt l a.Obj).bind λy=>
J4 a (AB.mk i.1 j (l.set a.Obj.toNat a.Value) p)
else
J4 a (AB.mk i.1 j l p)
def J2 (a:AG) (b:AB) (c:AD) (f:Bool):ABd (AB×Bool):=
if f then
some ((AB.mk (AP.mk [] 0 [] []) [] [] []),false)
else
if a.Kind==18 then
J3 a b c a.Value
else
J3 a b c (-1)
def J1 (a:AG) (b:AB) (c:AD) (e:Bool):ABd (AB×Bool):=
if e then
some ((AB.mk (AP.mk [] 0 [] []) [] [] []),false)
else
(Dm c b.Sync a.Thread a.Kind a.Obj).bind λs=>
if !s then
J2 a b c true
else
(DW c a).bind λt=>
if !t then
J2 a b c true
else
(Ab c b a).bind λu=>
if !u then
J2 a b c true
else
(A4 b a).bind λv=>
J2 a b c (!v)
end Bc
section
open Bc
def Bc (c:AD) (b:AB) (a:AG):ABd (AB×Bool):=
(Ee c b).bind λq=>
if !q then
J1 a b c true
else
if decide (a.Thread<0)then
J1 a b c true
else
if decide (a.Thread≥(c.AA.length:Int))then
J1 a b c true
else
if decide (a.Kind<1)then
J1 a b c true
else
J1 a b c (decide (a.Kind>23))
theorem Kd {c:AD} {b:AB} {a:AG} {r:AB×Bool} (h:Bc c b a=some r):Says Tryz.prog 96 [.agg (Aq c),.agg (BI b),.agg (B1 a)] (.BQ [.agg (GG r.1),sb r.2]):=by refine kO mix Tryz.func96 (hn [(3,[25]),(4,[42,79,96,99,102]),(5,[18,23,31,36,44,46,48,72,75,81,83,85,106,112,114,121,123,128]),(9,[95]),(11,[92]),(12,[110,111,116,119,120,125,126,127,130,133,134]),(88,[77,89,90,91])] [(2,1),(5,2),(8,3)]) ?_;have a1:= @Vd;have a2:= @Ls;have a3:= @Hs;have a4:= @MV;have a5:= @P0;have a6:= @My;have a7:= @P1;have a8:= @Rz;have c3:=λn1 n2 n3 n4:Nat=>Bs 3 λτ=>∃(o:Int),(τ 3=bA 6 (Aq c)/\τ 4=bA 7 (BI b)/\τ 5=bA 7 (B1 a)/\τ 6=bA 7 z0/\τ 8=si o)/\J3 a b c o=some r;have c2:=λn1 n2 n3 n4:Nat=>Bs 2 λτ=>∃(f:Bool),(τ 3=bA 6 (Aq c)/\τ 4=bA 7 (BI b)/\τ 5=bA 7 (B1 a)/\τ 6=bA 7 z0/\τ 70=sb f)/\J2 a b c f=some r;have c1:=λn1 n2 n3 n4:Nat=>Bs 1 λτ=>∃(e:Bool),(τ 3=bA 6 (Aq c)/\τ 4=bA 7 (BI b)/\τ 5=bA 7 (B1 a)/\τ 6=bA 7 z0/\τ 39=sb e)/\J1 a b c e=some r;unfold Bc at h;exact walk
end
namespace Ej
def J3:ABd Bool:=
some true
def J2 (L1:Int->ABd Bool) (c:Int) (i:Bool):ABd Bool:=
if i then
some false
else
L1 (BA (c+1))
def L1 (a:BT) (b:Al) (L1:Int->ABd Bool) (c:Int):ABd Bool:=
if decide (c<(a.AA.length:Int))then
(gt b.AA c).bind λe=>
if decide (e.PC<0)then
J2 L1 c true
else
(gt a.AA c).bind λf=>
if decide (e.PC≥(f.Br.length:Int))then
J2 L1 c true
else
if(e.Ck.length:Int) != f.Ck then
J2 L1 c true
else
J2 L1 c ((e.Cd.length:Int) != f.Ck)
else
J3
def Aa (a:BT) (b:Al):Nat->Int->ABd Bool
|0,_=>none
|n+1,c=>L1 a b (Aa a b n) c
def J1 (a:BT) (b:Al) (d:Bool):ABd Bool:=
if d then
some false
else
Aa a b BW 0
end Ej
section
open Ej
def Ej (a:BT) (b:Al):ABd Bool:=
(Bz a).bind λj=>
if !j then
J1 a b true
else
(Ea a.World b.Sync).bind λl=>
if !l then
J1 a b true
else
if(b.Cells.length:Int) != (a.World.Cells.length:Int)then
J1 a b true
else
if(b.AK.length:Int) != (a.World.AK.length:Int)then
J1 a b true
else
J1 a b ((b.AA.length:Int) != (a.AA.length:Int))
theorem ZW {a:BT} {b:Al} {r:Bool} (h:Ej a b=some r):Says Tryz.prog 239 [.agg (JS a),.agg (KQ b)] (sb r):=by refine kO mix Tryz.func239 (hn [(2,[11,22,23,32,33,42,48,65,78,90]),(3,[13,19,29,39,54]),(6,[59,63,75,87])] [(2,1)]) ?_;have a1:= @Ln;have a2:= @LO;have l1:=λn1 n2 n3 n4:Nat=>A3 λn τ=>∃(c:Int),(τ 2=bA 7 (JS a)/\τ 3=bA 7 (KQ b)/\τ 5=si c)/\Aa a b n c=some r;have c1:=λn1 n2 n3 n4:Nat=>Bs 1 λτ=>∃(d:Bool),(τ 2=bA 7 (JS a)/\τ 3=bA 7 (KQ b)/\τ 46=sb d)/\J1 a b d=some r;unfold Ej at h;exact walk
end
namespace FG
def J2:ABd (Int×Int):=
some (0,0)
def J1 (L1:AB->Int->ABd (Int×Int)) (b:Int) (d:AB×Bool) (f:Bool):ABd (Int×Int):=
if f then
some (b,12)
else
L1 d.1 (BA (b+1))
def L1 (a:CC) (L1:AB->Int->ABd (Int×Int)) (c:AB) (b:Int):ABd (Int×Int):=
if decide (b<(a.AE.length:Int))then
(gt a.AE b).bind λe=>
(Bj a.World c e).bind λd=>
if !d.2 then
J1 L1 b d true
else
(C1 a.AE b e.Thread e.Dw).bind λl=>
if !l then
J1 L1 b d true
else
(C1 a.AE b e.Thread e.DM).bind λo=>
J1 L1 b d (!o)
else
J2
def Aa (a:CC):Nat->AB->Int->ABd (Int×Int)
|0,_,_=>none
|n+1,c,b=>L1 a (Aa a n) c b
end FG
section
open FG
def FG (a:CC):ABd (Int×Int):=
if decide ((a.AE.length:Int)>400)then
some (0,2)
else
(As a.World).bind λi=>
if !i then
some (0,1)
else
(EU a.World).bind λj=>
Aa a BW j 0
theorem YL {a:CC} {r:Int×Int} (h:FG a=some r):Says Tryz.prog 88 [.agg (ND a)] (.BQ [si r.1,si r.2]):=by refine kO mix Tryz.func88 (hn [(1,[9,13,17,21,27,33,43,54]),(4,[35]),(6,[46,48,57,59]),(7,[65]),(8,[40]),(37,[32,38,39])] (C:=[(55,2)])) ?_;have a1:= @I1;have a2:= @Jz;have a3:= @Ki;have a4:= @YM;have l1:=λn1 n2 n3 n4:Nat=>A3 λn τ=>∃(c:AB) (b:Int),(τ 1=bA 7 (ND a)/\τ 4=bA 7 (GG c)/\τ 5=si b)/\Aa a n c b=some r;unfold FG at h;exact walk
end
namespace F7
def J1 (e:AB):ABd AB:=
some e
def L1 (b:Int) (a:CC) (L1:AB->Int->ABd AB) (d:AB) (c:Int):ABd AB:=
if decide (c<b)then
(gt a.AE c).bind λj=>
(Bj a.World d j).bind λi=>
L1 i.1 (BA (c+1))
else
J1 d
def Aa (b:Int) (a:CC):Nat->AB->Int->ABd AB
|0,_,_=>none
|n+1,d,c=>L1 b a (Aa b a n) d c
end F7
section
open F7
def F7 (a:CC) (b:Int):ABd AB:=
(EU a.World).bind λf=>
Aa b a BW f 0
theorem YP {a:CC} {b:Int} {r:AB} (h:F7 a b=some r):Says Tryz.prog 89 [.agg (ND a),si b] (.agg (GG r)):=by refine kO mix Tryz.func89 (hn [(2,[7,16,19]),(5,[18,27]),(24,[25])] (E:=[(5,(.bY [(24,9,10,15)] [LU 16 2 0 2,iA 17 6 16,i1 18 5 (.ld true 7 (.t 5)),LU 19 2 6 2,iL 20 19,iC 21 6,iI 22 7 20 21,iA 23 7 22,⟨some ⟨24,[25],[]⟩,.call 55 [.t 17,.t 18,.t 23] 2,none⟩,i0 15 (.flk (.t 24) 1),i1 25 24 (.ext (.t 24) 0),i0 26 .fl,iS 7 5 25]))])) ?_;have a1:= @Jz;have a2:= @Ki;have l1:=λn1 n2 n3 n4:Nat=>A3 λn τ=>∃(d:AB) (c:Int),(τ 1=si b/\τ 2=bA 7 (ND a)/\τ 4=bA 7 z0/\τ 5=bA 7 (GG d)/\τ 6=si c)/\Aa b a n d c=some r;unfold F7 at h;exact walk
end
namespace C0
def J3 (p:Al):ABd Al:=
some p
def L3 (a:BT) (L3:Al->Int->ABd Al) (d:Al) (i:Int):ABd Al:=
if decide (i<(a.AA.length:Int))then
(gt a.AA i).bind λe=>
if 0≤e.Ck/\e.Ck≤e.Ck/\Ap e.Ck.toNat 8=true then
if 0≤e.Ck/\e.Ck≤e.Ck/\Ap e.Ck.toNat 24=true then
if Ap (d.AA.length+1) 64=true then
L3 (Al.mk d.Sync d.Cells d.AK (d.AA++[(AM.mk 0 (List.replicate e.Ck.toNat (0:Int)) (List.replicate e.Ck.toNat ([]:List Int)) 0)])) (BA (i+1))
else none
else none
else none
else
J3 d
def Gg (a:BT):Nat->Al->Int->ABd Al
|0,_,_=>none
|n+1,d,i=>L3 a (Gg a n) d i
def J2 (a:BT) (o:Al):ABd Al:=
Gg a BW o 0
def L2 (a:BT) (L2:Al->Int->ABd Al) (c:Al) (j:Int):ABd Al:=
if decide (j<(a.World.AK.length:Int))then
if Ap (c.AK.length+1) 8=true then
L2 (Al.mk c.Sync c.Cells (c.AK++[0]) c.AA) (BA (j+1))
else none
else
J2 a c
def DF (a:BT):Nat->Al->Int->ABd Al
|0,_,_=>none
|n+1,c,j=>L2 a (DF a n) c j
def J1 (a:BT) (l:Al):ABd Al:=
DF a BW l 0
def L1 (a:BT) (L1:Al->Int->ABd Al) (b:Al) (f:Int):ABd Al:=
if decide (f<(a.World.Cells.length:Int))then
(gt a.World.Cells f).bind λt=>
if Ap (b.Cells.length+1) 8=true then
L1 (Al.mk b.Sync (b.Cells++[t.Init]) b.AK b.AA) (BA (f+1))
else none
else
J1 a b
def Aa (a:BT):Nat->Al->Int->ABd Al
|0,_,_=>none
|n+1,b,f=>L1 a (Aa a n) b f
end C0
section
open C0
def C0 (a:BT):ABd Al:=
(Bz a).bind λq=>
if !q then
some (Al.mk (AP.mk [] 0 [] []) [] [] [])
else
(CW a.World).bind λs=>
Aa a BW (Al.mk s [] [] []) 0
theorem YK {a:BT} {r:Al} (h:C0 a=some r):Says Tryz.prog 138 [.agg (JS a)] (.agg (MI r)):=by refine kO mix Tryz.func138 (hn [(1,[11,16,17,25,26,36,37,49,57,64]),(3,[23,24,34,43,44,47,55,56,74,75])] (E:=[(15,(Rc 55 [.m 3 6 3,.f 6 1,.C 6,.I 2 58 59,.U 0 60,.o (.mk 1 8 [si 0] (.t 62) (.t 62)),.f 6 1,.C 6,.I 2 65 66,.U 0 67,.o (.mk 1 24 [.sl false 1 []] (.t 69) (.t 69)),.o (.T2 z9 [(1,1,.t 63),(2,1,.t 70)]),.o (.Nk 4 [z9] [(0,.t 71)]),.o (.app 4 64 (.t 56) (.t 72)),.F 6 3,.S 1 74 73]))])) ?_;have a1:= @Ln;have a2:= @Pq;have l3:=λn1 n2 n3 n4:Nat=>A3 λn τ=>∃(d:Al) (i:Int),(τ 1=bA 7 (JS a)/\τ 2=bA 7 z4/\τ 3=bA 7 (MI d)/\τ 6=si i)/\Gg a n d i=some r;have l2:=λn1 n2 n3 n4:Nat=>A3 λn τ=>∃(c:Al) (j:Int),(τ 1=bA 7 (JS a)/\τ 2=bA 7 z4/\τ 3=bA 7 (MI c)/\τ 5=si j)/\DF a n c j=some r;have l1:=λn1 n2 n3 n4:Nat=>A3 λn τ=>∃(b:Al) (f:Int),(τ 1=bA 7 (JS a)/\τ 2=bA 7 z4/\τ 3=bA 7 (MI b)/\τ 4=si f)/\Aa a n b f=some r;unfold C0 at h;exact walk
end
namespace CB
def J5:ABd Bool:=
some true
def J4 (L2:AB->Int->ABd Bool) (c:Int) (e:AB×Bool) (j:Bool):ABd Bool:=
if j then
some false
else
L2 e.1 (BA (c+1))
def L2 (a:AL) (L2:AB->Int->ABd Bool) (d:AB) (c:Int):ABd Bool:=
if decide (c<(a.AE.length:Int))then
(gt a.AE c).bind λf=>
(Bj a.World d f).bind λe=>
if !e.2 then
J4 L2 c e true
else
(Er a f.Thread f.Dw).bind λu=>
if !u then
J4 L2 c e true
else
(Er a f.Thread f.DM).bind λv=>
J4 L2 c e (!v)
else
J5
def DF (a:AL):Nat->AB->Int->ABd Bool
|0,_,_=>none
|n+1,d,c=>L2 a (DF a n) d c
def J3 (a:AL):ABd Bool:=
DF a BW a.Init 0
def J2 (L1:Int->ABd Bool) (b:Int) (l:Bool):ABd Bool:=
if l then
some false
else
L1 (BA (b+1))
def L1 (a:AL) (L1:Int->ABd Bool) (b:Int):ABd Bool:=
if decide (b<(a.Init.AK.length:Int))then
(gt a.Init.Sync.Bn b).bind λw=>
if !w then
(gt a.Init.AK b).bind λx=>
J2 L1 b (x != 0)
else
J2 L1 b false
else
J3 a
def Aa (a:AL):Nat->Int->ABd Bool
|0,_=>none
|n+1,b=>L1 a (Aa a n) b
def J1 (a:AL) (i:Bool):ABd Bool:=
if i then
some false
else
Aa a BW 0
end CB
section
open CB
def CB (a:AL):ABd Bool:=
(As a.World).bind λo=>
if !o then
J1 a true
else
(HB a.World a.Init).bind λp=>
if !p then
J1 a true
else
if decide ((a.AE.length:Int)>16)then
J1 a true
else
(E9 a).bind λq=>
if !q then
J1 a true
else
(B7 a).bind λs=>
if !s then
J1 a true
else
(A1 a).bind λt=>
J1 a (!t)
theorem Tc {a:AL} {r:Bool} (h:CB a=some r):Says Tryz.prog 17 [.agg (B0 a)] (sb r):=by refine kO mix Tryz.func17 (hn [(1,[9,14,16,22,43,44,50,51,52,59,60,67,70,76,82]),(6,[93,95,102,104])] [(2,1)]) ?_;have a1:= @Ki;have a2:= @YR;have a3:= @I1;have a4:= @Q6;have a5:= @Vx;have a6:= @Td;have a7:= @UZ;have l2:=λn1 n2 n3 n4:Nat=>A3 λn τ=>∃(d:AB) (c:Int),(τ 1=bA 15 (B0 a)/\τ 4=bA 7 (BI d)/\τ 5=si c)/\DF a n d c=some r;have l1:=λn1 n2 n3 n4:Nat=>A3 λn τ=>∃(b:Int),(τ 1=bA 15 (B0 a)/\τ 3=si b)/\Aa a n b=some r;have c1:=λn1 n2 n3 n4:Nat=>Bs 1 λτ=>∃(i:Bool),(τ 1=bA 15 (B0 a)/\τ 41=sb i)/\J1 a i=some r;unfold CB at h;exact walk
end
namespace CZ
def J5 (a:AR):ABd Bool:=
some (decide ((a.AA.length:Int)>0))
def J4 (L2:Int->ABd Bool) (b:Int):ABd Bool:=
L2 (BA (b+1))
def J3 (L2:Int->ABd Bool) (b:Int) (f:Bool):ABd Bool:=
if f then
some false
else
J4 L2 b
def J2 (L2:Int->ABd Bool) (b:Int) (c:Cq):ABd Bool:=
(B5 c.Name).bind λl=>
if !l then
J3 L2 b true
else
(Gq BW c.Body).bind λo=>
J3 L2 b (!o)
def L3 (L2:Int->ABd Bool) (b:Int) (c:Cq) (L3:Int->ABd Bool) (e:Int):ABd Bool:=
if decide (e<(c.GA.length:Int))then
(gt c.GA e).bind λq=>
(B5 q).bind λj=>
if !j then
some false
else
L3 (BA (e+1))
else
J2 L2 b c
def Gg (L2:Int->ABd Bool) (b:Int) (c:Cq):Nat->Int->ABd Bool
|0,_=>none
|n+1,e=>L3 L2 b c (Gg L2 b c n) e
def L2 (a:AR) (L2:Int->ABd Bool) (b:Int):ABd Bool:=
if decide (b<(a.AA.length:Int))then
(gt a.AA b).bind λc=>
Gg L2 b c BW 0
else
J5 a
def DF (a:AR):Nat->Int->ABd Bool
|0,_=>none
|n+1,b=>L2 a (DF a n) b
def J1 (a:AR):ABd Bool:=
DF a BW 0
def L1 (a:AR) (L1:Int->ABd Bool) (d:Int):ABd Bool:=
if decide (d<(a.Decls.length:Int))then
(gt a.Decls d).bind λp=>
(Co p).bind λi=>
if !i then
some false
else
L1 (BA (d+1))
else
J1 a
def Aa (a:AR):Nat->Int->ABd Bool
|0,_=>none
|n+1,d=>L1 a (Aa a n) d
end CZ
section
open CZ
def CZ (a:AR):ABd Bool:=
Aa a BW 0
theorem Vk {a:AR} {r:Bool} (h:CZ a=some r):Says Tryz.prog 215 [.agg (CS a)] (sb r):=by refine kO mix Tryz.func215 (hn [(1,[8,14,22,28,57]),(5,[34,40,47,52])]) ?_;have a1:= @Hp;have a2:= @Oq;have a3:= @Qf;have l2:=λn1 n2 n3 n4:Nat=>A3 λn τ=>∃(b:Int),(τ 1=bA 2 (CS a)/\τ 4=si b)/\DF a n b=some r;have l3:=λn1 n2 n3 n4:Nat=>A3 λn τ=>∃(b:Int) (c:Cq) (e:Int),(τ 1=bA 2 (CS a)/\τ 4=si b/\τ 5=bA 4 (Ie c)/\τ 6=si e)/\Gg (DF a n2) b c n e=some r;have l1:=λn1 n2 n3 n4:Nat=>A3 λn τ=>∃(d:Int),(τ 1=bA 2 (CS a)/\τ 3=si d)/\Aa a n d=some r;unfold CZ at h;exact walk
end
namespace BL
def J2 (cv:BN) (ac:Int):ABd (Int×BN):=
some (ac,cv)
def J4 (cw:BN) (ad:Int):ABd (Int×BN):=
some (ad,cw)
def J5 (b:Bool×BN) (ae:Int):ABd (Int×BN):=
some (ae,b.2)
def J7 (f:Bool×BN) (af:Int):ABd (Int×BN):=
some (af,f.2)
def J8 (a:AQ) (b:Bool×BN) (l:Bool):ABd (Int×BN):=
if l then
some (7,b.2)
else
(CU b.2.Lo a.Name).bind λbl=>
if decide (bl≥0)then
some (8,b.2)
else
if Ap (b.2.Lo.length+1) 16=true then
some (0,(BN.mk b.2.p b.2.Bb b.2.GD (b.2.Lo++[a.Name]) b.2.Yh))
else none
def J9 (b:Bool×BN) (ai:Int):ABd (Int×BN):=
some (ai,b.2)
def rK (a:AQ) (b:Bool×BN) (c:BN) (aa:Int):ABd (Int×BN):=
if Ap (b.2.Yh.length+1) 16=true then
(E4 c.p c.Bb a.Expr).bind λce=>
(E5 aa ce).bind λcf=>
some (cf,(BN.mk b.2.p b.2.Bb b.2.GD b.2.Lo (b.2.Yh++[a.Name])))
else none
def Y4 (i:Int) (a:AQ) (b:Bool×BN) (c:BN) (ab:Bool):ABd (Int×BN):=
if ab then
rK a b c 8
else
rK a b c i
def Oz (a:AQ) (b:Bool×BN) (c:BN) (i:Int):ABd (Int×BN):=
if i==0 then
(CU b.2.Yh a.Name).bind λcd=>
Y4 i a b c (decide (cd≥0))
else
Y4 i a b c false
def J6 (a:AQ) (d e b:Bool×BN) (c:BN) (j:Bool):ABd (Int×BN):=
if j then
(DT c.p c.Bb a.Name 5 5).bind λw=>
if w != 0 then
some (w,b.2)
else
(Cv c.p.Decls a.Name).bind λbc=>
(gt c.p.Decls bc).bind λcy=>
(BX b.2 4 4 cy.On).bind λf=>
if d.1 then
(B3 true).bind λbe=>
J7 f be
else
if !f.1 then
(B3 true).bind λbf=>
J7 f bf
else
if a.Op==9 then
(B3 e.1).bind λbi=>
J7 f bi
else
(B3 false).bind λbj=>
J7 f bj
else
if a.Op==12 then
(DT c.p c.Bb a.Name 7 7).bind λx=>
if x != 0 then
some (x,b.2)
else
(Cs c.p.AA a.Name).bind λy=>
if d.1 then
J8 a b true
else
if e.1 then
J8 a b true
else
if b.1 then
J8 a b true
else
if y==c.Bb then
J8 a b true
else
J8 a b (y==0)
else
if a.Op==13 then
(DT c.p c.Bb a.Name 7 7).bind λq=>
if d.1 then
(B3 true).bind λbo=>
(E5 q bo).bind λbp=>
J9 b bp
else
if e.1 then
(B3 true).bind λbs=>
(E5 q bs).bind λbt=>
J9 b bt
else
(Cs c.p.AA a.Name).bind λbu=>
(B3 (bu==c.Bb)).bind λbv=>
(E5 q bv).bind λbw=>
J9 b bw
else
if a.Op==14 then
(DT c.p c.Bb a.Name 6 6).bind λz=>
if d.1 then
(B3 true).bind λbx=>
(E5 z bx).bind λbz=>
Oz a b c bz
else
(B3 b.1).bind λca=>
(E5 z ca).bind λcb=>
Oz a b c cb
else
(DT c.p c.Bb a.Name 8 8).bind λci=>
(DT c.p c.Bb a.Arg 6 6).bind λcj=>
(B3 d.1).bind λcl=>
(E5 cj cl).bind λco=>
(E5 ci co).bind λcp=>
some (cp,b.2)
def J3 (a:AQ) (d e b:Bool×BN) (c:BN) (p:Bool):ABd (Int×BN):=
if p then
(DT c.p c.Bb a.Name 4 4).bind λu=>
if d.1 then
(B3 true).bind λav=>
(E5 u av).bind λaw=>
J4 b.2 aw
else
(BX b.2 5 6 a.Name).bind λv=>
(B3 v.1).bind λax=>
(E5 u ax).bind λay=>
J4 v.2 ay
else
if a.Op==7 then
(B3 d.1).bind λaz=>
some (az,b.2)
else
if a.Op==8 then
if d.1 then
(B3 true).bind λba=>
J5 b ba
else
(B3 e.1).bind λbb=>
J5 b bb
else
if a.Op==9 then
J6 a d e b c (a.Op==9)
else
if a.Op==10 then
J6 a d e b c (a.Op==10)
else
J6 a d e b c (a.Op==11)
def J1 (a:AQ) (d e b:Bool×BN) (c:BN) (o:Bool):ABd (Int×BN):=
if o then
(E4 c.p c.Bb a.Expr).bind λal=>
some (al,b.2)
else
if a.Op==4 then
(DT c.p c.Bb a.Name 3 3).bind λs=>
if d.1 then
(B3 true).bind λao=>
(E5 s ao).bind λap=>
J2 b.2 ap
else
(BX b.2 4 4 a.Name).bind λt=>
(B3 t.1).bind λaq=>
(E5 s aq).bind λau=>
J2 t.2 au
else
if a.Op==5 then
J3 a d e b c (a.Op==5)
else
J3 a d e b c (a.Op==6)
end BL
section
open BL
def BL (c:BN) (a:AQ):ABd (Int×BN):=
(BX c 7 7 (⟨#[]⟩:ABe)).bind λd=>
(BX d.2 8 8 (⟨#[]⟩:ABe)).bind λe=>
(BX e.2 3 3 (⟨#[]⟩:ABe)).bind λb=>
if a.Op==1 then
if(a.Index.length:Int)==0 then
(DT c.p c.Bb a.Name 8 1).bind λbd=>
(E4 c.p c.Bb a.Expr).bind λbq=>
(E5 bd bq).bind λcc=>
some (cc,b.2)
else
(DT c.p c.Bb a.Name 2 2).bind λcq=>
(gt a.Index 0).bind λcx=>
(E4 c.p c.Bb cx).bind λcs=>
(E4 c.p c.Bb a.Expr).bind λct=>
(E5 cs ct).bind λcu=>
(E5 cq cu).bind λaj=>
some (aj,b.2)
else
if a.Op==2 then
J1 a d e b c (a.Op==2)
else
J1 a d e b c (a.Op==3)
theorem TV {c:BN} {a:AQ} {r:Int×BN} (h:BL c a=some r):BD Tryz.prog 248 [bA 6 (HA c),.agg [si a.Op,si a.FK,BZ a.Name,BZ a.Arg,vS 4 BH a.Index,si a.Expr.Op,si a.Expr.N,BZ a.Expr.Name,vS 4 BH a.Expr.L,vS 11 A7 a.Body,vS 11 A7 a.Else]] (si r.1) [bA 6 (HA r.2),.dead]:=by refine kL mix Tryz.func248 (hn [(0,[15,16,17,19,20,21,23,25,27,84,101,131,188,189,190,191,197,198,199,200,205,206,245,246,247,248,255,256,257,258,263,264]),(3,[29,33,39,44,50,55,62,72,79,85,96,102,125,136,149,161,169,192,201,211,221,233,249,259,268,274,279]),(5,[132,134,167,219])] [(12,1),(17,3),(24,6),(40,8)] (E:=[(39,(.bY [(0,0,9,196)] [i0 196 .fl,i1 197 0 (.cp (.t 0)),i1 198 0 (.Jp (.t 197)),LU 199 0 4 198,Zk 200 0 199,LU 201 3 2 3,iL 202 201,i0 203 (.Nk 1 [[BZ ⟨#[]⟩]] [(0,.t 202)]),i0 204 (.app 1 16 (.t 200) (.t 203)),i1 205 0 (.Jp (.t 0)),LU 206 0 4 205,iS 1 206 204])),(47,(.bY [(0,0,9,254)] [i0 254 .fl,i1 255 0 (.cp (.t 0)),i1 256 0 (.Jp (.t 255)),LU 257 0 5 256,Zk 258 0 257,LU 259 3 2 3,iL 260 259,i0 261 (.Nk 1 [[BZ ⟨#[]⟩]] [(0,.t 260)]),i0 262 (.app 1 16 (.t 258) (.t 261)),i1 263 0 (.Jp (.t 0)),LU 264 0 5 263,iS 1 264 262]))])) ?_;have a1:= @Pk;have a2:= @Q0;have a3:= @ZS;have a4:= @kT;have a5:= @UR;have a6:= @JF;have a7:= @Jx;have a8:= @HY;have c8:=λn1 n2 n3 n4:Nat=>Bs 8 λτ=>∃(b:Bool×BN) (l:Bool),(τ 0=bA 6 (HA b.2)/\τ 3=bA 11 [si a.Op,si a.FK,BZ a.Name,BZ a.Arg,vS 4 BH a.Index,si a.Expr.Op,si a.Expr.N,BZ a.Expr.Name,vS 4 BH a.Expr.L,vS 11 A7 a.Body,vS 11 A7 a.Else]/\τ 187=sb l)/\J8 a b l=some r;have c6:=λn1 n2 n3 n4:Nat=>Bs 6 λτ=>∃(d e b:Bool×BN) (j:Bool),(τ 0=bA 6 (HA b.2)/\τ 3=bA 11 [si a.Op,si a.FK,BZ a.Name,BZ a.Arg,vS 4 BH a.Index,si a.Expr.Op,si a.Expr.N,BZ a.Expr.Name,vS 4 BH a.Expr.L,vS 11 A7 a.Body,vS 11 A7 a.Else]/\τ 5=bA 2 (CS c.p)/\τ 6=si c.Bb/\τ 7=sb d.1/\τ 8=sb e.1/\τ 9=sb b.1/\τ 30=si a.Op/\τ 119=sb j)/\J6 a d e b c j=some r;have c3:=λn1 n2 n3 n4:Nat=>Bs 3 λτ=>∃(d e b:Bool×BN) (p:Bool),(τ 0=bA 6 (HA b.2)/\τ 3=bA 11 [si a.Op,si a.FK,BZ a.Name,BZ a.Arg,vS 4 BH a.Index,si a.Expr.Op,si a.Expr.N,BZ a.Expr.Name,vS 4 BH a.Expr.L,vS 11 A7 a.Body,vS 11 A7 a.Else]/\τ 5=bA 2 (CS c.p)/\τ 6=si c.Bb/\τ 7=sb d.1/\τ 8=sb e.1/\τ 9=sb b.1/\τ 30=si a.Op/\τ 91=sb p)/\J3 a d e b c p=some r;have c1:=λn1 n2 n3 n4:Nat=>Bs 1 λτ=>∃(d e b:Bool×BN) (o:Bool),(τ 0=bA 6 (HA b.2)/\τ 3=bA 11 [si a.Op,si a.FK,BZ a.Name,BZ a.Arg,vS 4 BH a.Index,si a.Expr.Op,si a.Expr.N,BZ a.Expr.Name,vS 4 BH a.Expr.L,vS 11 A7 a.Body,vS 11 A7 a.Else]/\τ 5=bA 2 (CS c.p)/\τ 6=si c.Bb/\τ 7=sb d.1/\τ 8=sb e.1/\τ 9=sb b.1/\τ 30=si a.Op/\τ 67=sb o)/\J1 a d e b c o=some r;unfold BL at h;exact walk
end
end Go.Abs
