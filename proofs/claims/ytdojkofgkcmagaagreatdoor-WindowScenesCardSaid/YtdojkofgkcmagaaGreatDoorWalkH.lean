/- Typed programs of Go functions, and that the functions do what these say. -/
import Derived.Test.YtdojkofgkcmagaaGreatDoorWalkF
set_option linter.unusedSimpArgs false
set_option linter.unusedVariables false
namespace Go.Abs
open Go.Proofs
set_option maxRecDepth 1000000
set_option maxHeartbeats 4000000
def f106c:IC:=(Ra 12 [.b 6 [118,141] (.bx 6 (.t 0)),.b 7 [21,28,33,34,36,37,40,41,43,44,48,49,52,53,57,58,60,61,64,65,67,68,70,71,72,76,77,80,81,83,84,86,87,88,91,92,96,99,102,103,105,106,109,110,112,113,116,117,124,125,126,127,129,130,133,134,135,136,139,140,148,149,150,151,153,154,156,157,158,159,162,175,176,178,179,183,192,193,198,199,204,205,207,208,211,212,214,215] (.bx 4 (.t 1)),.o (.bx 4 (.c (.agg z5))),.K 13 0,.B 14 false]
(Sq (Ra 20 [.A 6 6,.y 7 (.ld true 4 (.t 7)),.C 2,.C 3,.C 4,.c 66 [20,21,22,23,24] 0,.N 25]
(Ci 26 (Rb 27 [.o (.T2 z5 []),.S 4 12 27,.K 13 0,.B 14 false])))
(Ra 28 [.y 7 (.ld true 4 (.t 7)),.c 118 [28] 2,.S 4 7 29]
(Ra 0 [.K 15 0]
(Np 5 (Ra 30 [.C 3]
(Bk 0 (Ra 32 [.q 30 1 31]
(Cn 31 (Rc 33 [.m 7 3 7,.C 2,.J 7 3 34 35,.H 7 0 36,.T 37 2]) (Ra 39 [.q 30 2 38]
(Cn 38 (Rc 40 [.m 7 3 7,.C 2,.J 7 3 41 42,.H 7 0 43,.T 44 5]) (Np 1 (Ra 46 [.q 30 6 45]
(Cn 45 .skip (Rc 47 [.q 30 10 45])))
(Cn 45 (Rc 48 [.m 7 0 7,.C 4,.C 2,.J 7 2 49 50,.H 7 0 52,.S 1 53 51]) (Np 2 (Ra 55 [.q 30 7 54]
(Cn 54 .skip (Rc 56 [.q 30 11 54])))
(Cn 54 (Rc 57 [.m 7 0 7,.C 4,.J 7 2 58 59,.H 7 0 60,.T 61 (-1)]) (Ra 63 [.q 30 8 62]
(Cn 62 (Rc 64 [.m 7 0 7,.C 4,.m 7 0 7,.C 4,.J 7 2 68 69,.m 7 1 70,.C 2,.o (.Nk 1 [[si 0]] [(0,.t 73)]),.c 156 [72,74] 2,.J 7 2 65 66,.H 7 1 76,.S 1 77 75]) (Ra 79 [.q 30 9 78]
(Cn 78 (Rc 80 [.m 7 0 7,.C 4,.m 7 0 7,.C 4,.J 7 2 84 85,.m 7 1 86,.C 2,.c 157 [88,89] 2,.J 7 2 81 82,.H 7 1 91,.S 1 92 90]) (Ra 94 [.q 30 12 93]
(Cn 93 (Rc 95 [.C 2,.F 1 7,.S 1 96 95]) (Ra 98 [.q 30 13 97]
(Cn 97 (Rc 99 [.F 1 7,.T 99 (-1)]) (Ra 101 [.q 30 14 100]
(Cn 100 (Rc 102 [.m 7 3 7,.C 2,.J 7 3 103 104,.H 7 2 105,.x ⟨none,.st 1 (.t 106) (.c (sb true)),none⟩]) (Ra 108 [.q 30 15 107]
(Cn 107 (Rc 109 [.m 7 3 7,.C 2,.J 7 3 110 111,.H 7 2 112,.x ⟨none,.st 1 (.t 113) (.c (sb false)),none⟩]) (Ra 115 [.q 30 16 114]
(Cn 114 (Ra 116 [.m 7 0 7,.f 2 6,.C 4,.I 2 119 120,.U 1 121,.J 7 2 117 123,.H 7 0 124,.T 125 (-1)]
(Rc 126 [.F 3 7,.y 7 (.Xn (.t 126)),.C 2,.F 3 7,.y 7 (.Xn (.t 129)),.C 2,.C 4,.J 7 3 127 128,.H 7 0 133,.x ⟨none,.WU (.t 134) (.c (si 3)),none⟩,.J 7 3 130 131,.H 7 1 135,.x ⟨none,.WU (.t 136) (.t 132),none⟩])) (Ra 138 [.q 30 17 137]
(Cn 137 (Ra 139 [.m 7 0 7,.f 2 6,.C 4,.I 2 142 143,.U 1 144,.C 2,.J 7 2 140 146,.H 7 0 148,.S 1 149 147]
(Rc 150 [.F 3 7,.y 7 (.Xn (.t 150)),.C 2,.F 3 7,.y 7 (.Xn (.t 153)),.C 2,.J 7 3 151 152,.H 7 0 156,.x ⟨none,.WU (.t 157) (.c (si 2)),none⟩,.J 7 3 154 155,.H 7 1 158,.x ⟨none,.WU (.t 159) (.c (si 0)),none⟩])) (Ra 161 [.q 30 18 160]
(Cn 160 (Ra 162 [.y 7 (.ld true 4 (.t 7)),.C 4,.c 119 [162,163] 2,.b 16 [165,168,169,171] (.mv (.t 164))]
(Ra 0 [.K 15 (-1)]
(Ra 165 [.y 16 (.cp (.t 16)),.Z 165,.P .gtr 166 0]
(Ci 167 (Ra 168 [.y 16 (.cp (.t 16)),.y 16 (.WX 1 (.t 168) (.c (si 0))),.L 169,.M 17 170]
(Sq (Ra 171 [.y 16 (.cp (.t 16)),.C 5,.c 65 [171,172] 0]
(Ci 173 (Rc 174 [.C 5,.M 17 174])))
(Ra 175 [.m 7 3 7,.C 17,.J 7 3 176 177,.H 7 0 178,.T 179 4]
(Rc 180 [.C 17,.M 15 180])))))))) (Ra 182 [.q 30 19 181]
(Cn 181 (Ra 183 [.y 7 (.ld true 4 (.t 7)),.C 4,.c 119 [183,184] 2,.b 18 [187,194,196,200] (.mv (.t 185))]
(Sq (Ra 0 [.K 19 0]
(Bl 1 (Sq (Ra 186 [.C 19,.y 18 (.cp (.t 18)),.Z 187,.O .lss 186 188]
(cX 189 1))
(Sq (Bk 2 (Rc 192 [.m 7 3 7,.y 18 (.cp (.t 18)),.C 19,.J 18 1 194 195,.L 196,.J 7 3 193 197,.H 7 0 198,.T 199 4]))
(Rc 190 [.C 19,.P .add 190 1,.M 19 191])))))
(Rc 200 [.y 18 (.cp (.t 18)),.Z 200,.M 15 201]))) (Ra 203 [.q 30 20 202]
(Cn 202 (Rc 204 [.m 7 3 7,.C 4,.J 7 3 205 206,.H 7 0 207,.T 208 1]) (Ra 210 [.q 30 22 209]
(Ci 209 (Rc 211 [.m 7 2 7,.C 4,.J 7 1 212 213,.x ⟨none,.st 1 (.t 214) (.c (sb true)),none⟩])))))))))))))))))))))))))))))))))))
(Rb 215 [.y 7 (.ld true 4 (.t 7)),.C 15,.S 4 12 215,.M 13 216,.B 14 true]))))))
def f106g:Gi:=⟨[(21,[7]),(28,[7]),(33,[7]),(34,[7]),(36,[7]),(37,[7]),(40,[7]),(41,[7]),(43,[7]),(44,[7]),(48,[7]),(49,[7]),(52,[7]),(53,[7]),(57,[7]),(58,[7]),(60,[7]),(61,[7]),(64,[7]),(65,[7]),(67,[7]),(68,[7]),(70,[7]),(71,[7]),(72,[7]),(76,[7]),(77,[7]),(80,[7]),(81,[7]),(83,[7]),(84,[7]),(86,[7]),(87,[7]),(88,[7]),(91,[7]),(92,[7]),(96,[7]),(99,[7]),(102,[7]),(103,[7]),(105,[7]),(106,[7]),(109,[7]),(110,[7]),(112,[7]),(113,[7]),(116,[7]),(117,[7]),(118,[6]),(124,[7]),(125,[7]),(126,[7]),(127,[7]),(129,[7]),(130,[7]),(133,[7]),(134,[7]),(135,[7]),(136,[7]),(139,[7]),(140,[7]),(141,[6]),(148,[7]),(149,[7]),(150,[7]),(151,[7]),(153,[7]),(154,[7]),(156,[7]),(157,[7]),(158,[7]),(159,[7]),(162,[7]),(165,[16]),(168,[16]),(169,[16]),(171,[16]),(175,[7]),(176,[7]),(178,[7]),(179,[7]),(183,[7]),(187,[18]),(192,[7]),(193,[7]),(194,[18]),(196,[18]),(198,[7]),(199,[7]),(200,[18]),(204,[7]),(205,[7]),(207,[7]),(208,[7]),(211,[7]),(212,[7]),(214,[7]),(215,[7])]⟩
def f106r:List RV:=[.cell 12 true 4,.tmp 13,.tmp 14]
namespace DN
def J5 (p:AP) (t:Int):ABd (AP×Int×Bool):=
some (p,t,true)
def J3 (a:AP) (w:Int):ABd (AP×Int×Bool):=
(gt a.AA w).bind λad=>
J5 (AP.mk a.AF a.Tx a.Bn (a.AA.set w.toNat (AH.mk 4 ad.Dg ad.Atomic))) w
def J4 (i:List Int) (au:AP):ABd (AP×Int×Bool):=
J5 au (i.length:Int)
def L1 (i:List Int) (L1:AP->Int->ABd (AP×Int×Bool)) (j:AP) (l:Int):ABd (AP×Int×Bool):=
if decide (l<(i.length:Int))then
(gt i l).bind λae=>
(gt j.AA ae).bind λaf=>
L1 (AP.mk j.AF j.Tx j.Bn (j.AA.set ae.toNat (AH.mk 4 af.Dg af.Atomic))) (BA (l+1))
else
J4 i j
def Aa (i:List Int):Nat->AP->Int->ABd (AP×Int×Bool)
|0,_,_=>none
|n+1,j,l=>L1 i (Aa i n) j l
def J2 (c d b:Int) (a:AP) (f:Int) (e:AD) (s:Bool):ABd (AP×Int×Bool):=
if s then
(gt a.AF d).bind λbc=>
J5 (AP.mk (a.AF.set d.toNat (AW.mk (-1) bc.Ak)) a.Tx a.Bn a.AA) 0
else
if c==8 then
(gt a.AF d).bind λaj=>
(D8 aj.Ak [b]).bind λaw=>
J5 (AP.mk (a.AF.set d.toNat (AW.mk aj.CG aw)) a.Tx a.Bn a.AA) 0
else
if c==9 then
(gt a.AF d).bind λal=>
(EA al.Ak b).bind λax=>
J5 (AP.mk (a.AF.set d.toNat (AW.mk al.CG ax)) a.Tx a.Bn a.AA) 0
else
if c==12 then
J5 (AP.mk a.AF b a.Bn a.AA) 0
else
if c==13 then
J5 (AP.mk a.AF (-1) a.Bn a.AA) 0
else
if c==14 then
(gt a.AA b).bind λao=>
J5 (AP.mk a.AF a.Tx a.Bn (a.AA.set b.toNat (AH.mk ao.Status ao.Dg true))) 0
else
if c==15 then
(gt a.AA b).bind λap=>
J5 (AP.mk a.AF a.Tx a.Bn (a.AA.set b.toNat (AH.mk ap.Status ap.Dg false))) 0
else
if c==16 then
(gt e.Ai d).bind λaq=>
(gt a.AF aq.Mutex).bind λbd=>
(gt a.AA b).bind λu=>
(gt (a.AA.set b.toNat (AH.mk 3 u.Dg u.Atomic)) b).bind λaa=>
J5 (AP.mk (a.AF.set aq.Mutex.toNat (AW.mk (-1) bd.Ak)) a.Tx a.Bn ((a.AA.set b.toNat (AH.mk 3 u.Dg u.Atomic)).set b.toNat (AH.mk aa.Status d aa.Atomic))) 0
else
if c==17 then
(gt e.Ai d).bind λab=>
(gt a.AF ab.Mutex).bind λaz=>
(gt a.AA b).bind λv=>
(gt (a.AA.set b.toNat (AH.mk 2 v.Dg v.Atomic)) b).bind λac=>
J5 (AP.mk (a.AF.set ab.Mutex.toNat (AW.mk b az.Ak)) a.Tx a.Bn ((a.AA.set b.toNat (AH.mk 2 v.Dg v.Atomic)).set b.toNat (AH.mk ac.Status 0 ac.Atomic))) 0
else
if c==18 then
(C4 a d).bind λx=>
if decide ((x.length:Int)>0)then
(gt x 0).bind λba=>
(GP x f).bind λay=>
if ay then
J3 a f
else
J3 a ba
else
J5 a (-1)
else
if c==19 then
(C4 a d).bind λi=>
Aa i BW a 0
else
if c==20 then
(gt a.AA d).bind λai=>
J5 (AP.mk a.AF a.Tx a.Bn (a.AA.set d.toNat (AH.mk 1 ai.Dg ai.Atomic))) 0
else
if c==22 then
(gt a.Bn d).bind λbe=>
J5 (AP.mk a.AF a.Tx (a.Bn.set d.toNat true) a.AA) 0
else
J5 a 0
def J1 (c d b:Int) (a:AP) (f:Int) (e:AD) (q:Bool):ABd (AP×Int×Bool):=
if q then
(gt a.AF d).bind λbb=>
J5 (AP.mk (a.AF.set d.toNat (AW.mk b bb.Ak)) a.Tx a.Bn a.AA) 0
else
if c==7 then
J2 c d b a f e (c==7)
else
J2 c d b a f e (c==11)
end DN
section
open DN
def DN (e:AD) (o:AP) (b c:Int) (d f:Int):ABd (AP×Int×Bool):=
(Ch e o b c d).bind λav=>
if !av then
some ((AP.mk [] 0 [] []),0,false)
else
(GM o).bind λa=>
if c==1 then
(gt a.AA b).bind λy=>
J5 (AP.mk a.AF a.Tx a.Bn (a.AA.set b.toNat (AH.mk 2 y.Dg y.Atomic))) 0
else
if c==2 then
(gt a.AA b).bind λz=>
J5 (AP.mk a.AF a.Tx a.Bn (a.AA.set b.toNat (AH.mk 5 z.Dg z.Atomic))) 0
else
if c==6 then
J1 c d b a f e (c==6)
else
J1 c d b a f e (c==10)
theorem NU {e:AD} {o:AP} {b c:Int} {d f:Int} {r:AP×Int×Bool} (h:DN e o b c d f=some r):Says Tryz.prog 106 [.agg (Aq e),.agg (F8 o),si b,si c,si d,si f] (.BQ [.agg (Ht r.1),si r.2.1,sb r.2.2]):=by refine wO mix Tryz.func106 (I:=⟨f106c,f106g,f106r⟩) ?_;simp only[f106c,f106g,f106r];have a1:= @NW;have a2:= @Q4;have a3:= @Po;have a4:= @UW;have a5:= @NX;have a6:= @Mc;have l1:=λn1 n2 n3 n4:Nat=>A3 λn τ=>∃(i:List Int) (j:AP) (l:Int),(τ 7=bA 4 (Ht j)/\τ 12=bA 4 z5/\τ 18=vO 1 eI i/\τ 19=si l)/\Aa i n j l=some r;have c5:=λn1 n2 n3 n4:Nat=>Bs 5 λτ=>∃(p:AP) (t:Int),(τ 7=bA 4 (Ht p)/\τ 12=bA 4 z5/\τ 15=si t)/\J5 p t=some r;have c2:=λn1 n2 n3 n4:Nat=>Bs 2 λτ=>∃(a:AP) (s:Bool),(τ 2=si b/\τ 4=si d/\τ 5=si f/\τ 6=bA 6 (Aq e)/\τ 7=bA 4 (Ht a)/\τ 12=bA 4 z5/\τ 15=si 0/\τ 30=si c/\τ 54=sb s)/\J2 c d b a f e s=some r;have c1:=λn1 n2 n3 n4:Nat=>Bs 1 λτ=>∃(a:AP) (q:Bool),(τ 2=si b/\τ 4=si d/\τ 5=si f/\τ 6=bA 6 (Aq e)/\τ 7=bA 4 (Ht a)/\τ 12=bA 4 z5/\τ 15=si 0/\τ 30=si c/\τ 45=sb q)/\J1 c d b a f e q=some r;unfold DN at h;exact walk
end
namespace As
def Oz:ABd Bool:=
some true
def J9 (L3:Int->ABd Bool) (b:Int):ABd Bool:=
L3 (BA (b+1))
def J8 (L3:Int->ABd Bool) (b:Int) (s:Bool):ABd Bool:=
if s then
some false
else
J9 L3 b
def J7 (L3:Int->ABd Bool) (b:Int) (a:AD) (c:Dk) (q:Bool):ABd Bool:=
if q then
if c.Stmt != 0 then
J8 L3 b true
else
if decide (b>0)then
(gt a.BU (BA (b-1))).bind λy=>
J8 L3 b (decide (y.Thread>c.Thread))
else
J8 L3 b false
else
(gt a.BU (BA (b-1))).bind λz=>
if c.Stmt != (BA (z.Stmt+1))then
some false
else
J9 L3 b
def J6 (L3:Int->ABd Bool) (b:Int) (a:AD) (c:Dk) (i:Bool):ABd Bool:=
if i then
some false
else
if b==0 then
J7 L3 b a c true
else
(gt a.BU (BA (b-1))).bind λx=>
J7 L3 b a c (x.Thread != c.Thread)
def L3 (a:AD) (L3:Int->ABd Bool) (b:Int):ABd Bool:=
if decide (b<(a.BU.length:Int))then
(gt a.BU b).bind λc=>
if decide (c.Thread<0)then
J6 L3 b a c true
else
J6 L3 b a c (decide (c.Thread≥(a.AA.length:Int)))
else
Oz
def Gg (a:AD):Nat->Int->ABd Bool
|0,_=>none
|n+1,b=>L3 a (Gg a n) b
def J5 (a:AD):ABd Bool:=
Gg a BW 0
def J4 (L2:Int->ABd Bool) (f:Int) (p:Bool):ABd Bool:=
if p then
some false
else
L2 (BA (f+1))
def L2 (a:AD) (L2:Int->ABd Bool) (f:Int):ABd Bool:=
if decide (f<(a.Ai.length:Int))then
(gt a.Ai f).bind λl=>
if decide (l.Mutex<0)then
J4 L2 f true
else
if decide (l.Mutex≥(a.AF.length:Int))then
J4 L2 f true
else
(gt a.AF l.Mutex).bind λw=>
J4 L2 f w.RW
else
J5 a
def DF (a:AD):Nat->Int->ABd Bool
|0,_=>none
|n+1,f=>L2 a (DF a n) f
def J3 (a:AD):ABd Bool:=
DF a BW 0
def J2 (L1:Int->ABd Bool) (d:Int) (t:Bool):ABd Bool:=
if t then
some false
else
L1 (BA (d+1))
def L1 (e:(List ABe)×Bool) (a:AD) (L1:Int->ABd Bool) (d:Int):ABd Bool:=
if decide (d<(e.1.length:Int))then
(gt e.1 d).bind λo=>
(B5 o).bind λu=>
if !u then
J2 L1 d true
else
if 0≤d/\d.toNat≤e.1.length then
(CU (e.1.take d.toNat) o).bind λv=>
J2 L1 d (decide (v≥0))
else none
else
J3 a
def Aa (e:(List ABe)×Bool) (a:AD):Nat->Int->ABd Bool
|0,_=>none
|n+1,d=>L1 e a (Aa e a n) d
def J1 (a:AD) (j:Bool):ABd Bool:=
if j then
some false
else
(BR a).bind λe=>
if !e.2 then
some false
else
Aa e a BW 0
end As
section
open As
def As (a:AD):ABd Bool:=
if decide ((a.Cells.length:Int)>12)then
J1 a true
else
if decide ((a.AF.length:Int)>4)then
J1 a true
else
if decide ((a.Ai.length:Int)>2)then
J1 a true
else
if decide ((a.AK.length:Int)>2)then
J1 a true
else
if decide ((a.AA.length:Int)<1)then
J1 a true
else
if decide ((a.AA.length:Int)>4)then
J1 a true
else
J1 a (decide ((a.BU.length:Int)>60))
theorem I1 {a:AD} {r:Bool} (h:As a=some r):Says Tryz.prog 50 [.agg (Aq a)] (sb r):=by refine kO mix Tryz.func50 (hn [(1,[10,15,21,27,33,39,45,81,87,97,103,111,117,128,136,154,168]),(9,[122,126,143,147,161,166])] [(2,1),(30,6)]) ?_;have a1:= @YF;have a2:= @Hp;have a3:= @HY;have l3:=λn1 n2 n3 n4:Nat=>A3 λn τ=>∃(b:Int),(τ 1=bA 6 (Aq a)/\τ 8=si b)/\Gg a n b=some r;have l2:=λn1 n2 n3 n4:Nat=>A3 λn τ=>∃(f:Int),(τ 1=bA 6 (Aq a)/\τ 6=si f)/\DF a n f=some r;have l1:=λn1 n2 n3 n4:Nat=>A3 λn τ=>∃(e:(List ABe)×Bool) (d:Int),(τ 1=bA 6 (Aq a)/\τ 3=vS 1 eS e.1/\τ 5=si d)/\Aa e a n d=some r;have c6:=λn1 n2 n3 n4:Nat=>Bs 6 λτ=>∃(b:Int) (c:Dk) (i:Bool),(τ 1=bA 6 (Aq a)/\τ 8=si b/\τ 9=bA 3 (Gb c)/\τ 132=sb i)/\J6 (Gg a n3) b a c i=some r;have c1:=λn1 n2 n3 n4:Nat=>Bs 1 λτ=>∃(j:Bool),(τ 1=bA 6 (Aq a)/\τ 49=sb j)/\J1 a j=some r;unfold As at h;exact walk
end
namespace D6
def J3 (i:Int):ABd Int:=
some i
def J2 (L1:Int->Int->ABd Int) (R100:AR->Int->BE->ABd Int) (a:BE) (d:Int) (b:AR) (e c:Int) (j:Bool):ABd Int:=
if j then
(gt a.L d).bind λq=>
(R100 b c q).bind λp=>
L1 p (BA (d+1))
else
J3 e
def L1 (R100:AR->Int->BE->ABd Int) (a:BE) (b:AR) (c:Int) (L1:Int->Int->ABd Int) (e d:Int):ABd Int:=
if decide (d<(a.L.length:Int))then
J2 L1 R100 a d b e c (e==0)
else
J2 L1 R100 a d b e c false
def Aa (R100:AR->Int->BE->ABd Int) (a:BE) (b:AR) (c:Int):Nat->Int->Int->ABd Int
|0,_,_=>none
|n+1,e,d=>L1 R100 a b c (Aa R100 a b c n) e d
def J1 (R100:AR->Int->BE->ABd Int) (a:BE) (b:AR) (c f:Int):ABd Int:=
Aa R100 a b c BW f 0
end D6
section
open D6
def D6 (R100:AR->Int->BE->ABd Int) (b:AR) (c:Int) (a:BE):ABd Int:=
if a.Op==2 then
(DT b c a.Name 8 1).bind λl=>
J1 R100 a b c l
else
if a.Op==3 then
(DT b c a.Name 2 2).bind λo=>
J1 R100 a b c o
else
J1 R100 a b c 0
theorem X9 {R100:AR->Int->BE->ABd Int} (H100:∀{x0 x1 x2 r},R100 x0 x1 x2=some r->Says Tryz.prog 281 [.agg (CS x0),si x1,.agg [si x2.Op,si x2.N,BZ x2.Name,vS 4 BH x2.L]] (si r)) {b:AR} {c:Int} {a:BE} {r:Int} (h:D6 R100 b c a=some r):Says Tryz.prog 281 [.agg (CS b),si c,.agg [si a.Op,si a.N,BZ a.Name,vS 4 BH a.L]] (si r):=by refine kO mix Tryz.func281 (hn [(5,[9,15,22,26,38])] [(2,1)]) ?_;have a1:= @H100;have a2:= @Q0;have l1:=λn1 n2 n3 n4:Nat=>A3 λn τ=>∃(e d:Int),(τ 1=si c/\τ 3=bA 2 (CS b)/\τ 5=bA 4 [si a.Op,si a.N,BZ a.Name,vS 4 BH a.L]/\τ 7=si e/\τ 8=si d)/\Aa R100 a b c n e d=some r;have c1:=λn1 n2 n3 n4:Nat=>Bs 1 λτ=>∃(f:Int),(τ 1=si c/\τ 3=bA 2 (CS b)/\τ 5=bA 4 [si a.Op,si a.N,BZ a.Name,vS 4 BH a.L]/\τ 7=si f)/\J1 R100 a b c f=some r;unfold D6 at h;exact walk
end
def TS:Nat->(AR->Int->BE->ABd Int)
|0=>(λ_ _ _=>none)
|n+1=>D6 ((TS n))
def Il (n:Nat):AR->Int->BE->ABd Int:=(TS n)
theorem Vq (n:Nat):(∀{x0 x1 x2 r},(Il n) x0 x1 x2=some r->Says Tryz.prog 281 [.agg (CS x0),si x1,.agg [si x2.Op,si x2.N,BZ x2.Name,.sl false 4 (x2.L.map BH)]] (si r)):=by
  induction n with
  |zero=>exactλh=>ET h
  |succ n ih=>exactλh=>X9 ih h
theorem Vr {n:Nat}:∀{x0 x1 x2 r},(Il n) x0 x1 x2=some r->Says Tryz.prog 281 [.agg (CS x0),si x1,.agg [si x2.Op,si x2.N,BZ x2.Name,.sl false 4 (x2.L.map BH)]] (si r):=(Vq n)
namespace Dd
def J3:ABd (AM×Bool):=
some ((AM.mk 0 [] [] 0),false)
def J2 (L1:AM->Int->ABd (AM×Bool)) (a:Az) (c:Int) (b:AM) (f:Bool):ABd (AM×Bool):=
if f then
some ((AM.mk 0 [] [] 0),false)
else
(gt a.Br b.PC).bind λj=>
(Fp j.Op).bind λo=>
if !o then
some (b,true)
else
if c==(a.Br.length:Int)then
some ((AM.mk 0 [] [] 0),false)
else
(ER j b).bind λi=>
if !i.2 then
some ((AM.mk 0 [] [] 0),false)
else
L1 i.1 (BA (c+1))
def L1 (a:Az) (L1:AM->Int->ABd (AM×Bool)) (b:AM) (c:Int):ABd (AM×Bool):=
if decide (c≤(a.Br.length:Int))then
if decide (b.PC<0)then
J2 L1 a c b true
else
J2 L1 a c b (decide (b.PC≥(a.Br.length:Int)))
else
J3
def Aa (a:Az):Nat->AM->Int->ABd (AM×Bool)
|0,_,_=>none
|n+1,b,c=>L1 a (Aa a n) b c
def J1 (a:Az) (d:AM) (e:Bool):ABd (AM×Bool):=
if e then
some ((AM.mk 0 [] [] 0),false)
else
(E6 d).bind λl=>
Aa a BW l 0
end Dd
section
open Dd
def Dd (a:Az) (d:AM):ABd (AM×Bool):=
if(d.Ck.length:Int) != a.Ck then
J1 a d true
else
J1 a d ((d.Cd.length:Int) != a.Ck)
theorem Vv {a:Az} {d:AM} {r:AM×Bool} (h:Dd a d=some r):Says Tryz.prog 214 [.agg (Cf a),.agg (E0 d)] (.BQ [.agg (B2 r.1),sb r.2]):=by refine kO mix Tryz.func214 (hn [(2,[13,20,28,40,46,58]),(3,[10,11,17,18,25,34,38,48,56,65]),(7,[52]),(8,[72]),(9,[69]),(66,[63,67,68])] [(2,1),(11,2)]) ?_;have a1:= @Q3;have a2:= @OY;have a3:= @ZT;have l1:=λn1 n2 n3 n4:Nat=>A3 λn τ=>∃(b:AM) (c:Int),(τ 2=bA 2 (Cf a)/\τ 3=bA 4 (B2 b)/\τ 4=bA 4 z9/\τ 6=si c)/\Aa a n b c=some r;have c2:=λn1 n2 n3 n4:Nat=>Bs 2 λτ=>∃(c:Int) (b:AM) (f:Bool),(τ 2=bA 2 (Cf a)/\τ 3=bA 4 (B2 b)/\τ 4=bA 4 z9/\τ 6=si c/\τ 44=sb f)/\J2 (Aa a n1) a c b f=some r;have c1:=λn1 n2 n3 n4:Nat=>Bs 1 λτ=>∃(e:Bool),(τ 2=bA 2 (Cf a)/\τ 3=bA 4 (E0 d)/\τ 4=bA 4 z9/\τ 23=sb e)/\J1 a d e=some r;unfold Dd at h;exact walk
end
namespace Be
def J4 (a:AD):ABd Bool:=
(Cb a).bind λl=>
some l
def L1 (a:AD) (L1:Int->ABd Bool) (b:Int):ABd Bool:=
if decide (b<(a.Ai.length:Int))then
(gt a.Ai b).bind λo=>
(Fu a o.Mutex false).bind λj=>
if !j then
some false
else
L1 (BA (b+1))
else
J4 a
def Aa (a:AD):Nat->Int->ABd Bool
|0,_=>none
|n+1,b=>L1 a (Aa a n) b
def J3 (a:AD) (e:Bool):ABd Bool:=
if e then
some false
else
Aa a BW 0
def J2 (a:AD) (d:Bool):ABd Bool:=
if d then
some false
else
(AY a.Cells).bind λf=>
if !f.2 then
J3 a true
else
(BK a f.1).bind λi=>
J3 a (!i)
def J1 (a:AD) (c:Bool):ABd Bool:=
if c then
some false
else
if decide ((a.AA.length:Int)<1)then
J2 a true
else
J2 a (decide ((a.AA.length:Int)>4))
end Be
section
open Be
def Be (a:AD):ABd Bool:=
if decide ((a.Cells.length:Int)>12)then
J1 a true
else
if decide ((a.AF.length:Int)>4)then
J1 a true
else
if decide ((a.Ai.length:Int)>2)then
J1 a true
else
if decide ((a.AK.length:Int)>2)then
J1 a true
else
J1 a (decide ((a.BU.length:Int)>60))
theorem Lq {a:AD} {r:Bool} (h:Be a=some r):Says Tryz.prog 43 [.agg (Aq a)] (sb r):=by refine kO mix Tryz.func43 (hn [(1,[7,12,18,24,30,35,40,46,59]),(3,[55]),(4,[51]),(6,[67]),(48,[45,49,50])] [(2,1),(5,2),(9,3)]) ?_;have a1:= @Oh;have a2:= @Oj;have a3:= @SU;have a4:= @Oi;have l1:=λn1 n2 n3 n4:Nat=>A3 λn τ=>∃(b:Int),(τ 1=bA 6 (Aq a)/\τ 60=vS 2 Hx a.Ai/\τ 61=si (a.Ai.length:Int)/\τ 62=si b)/\Aa a n b=some r;have c3:=λn1 n2 n3 n4:Nat=>Bs 3 λτ=>∃(e:Bool),(τ 1=bA 6 (Aq a)/\τ 58=sb e)/\J3 a e=some r;have c2:=λn1 n2 n3 n4:Nat=>Bs 2 λτ=>∃(d:Bool),(τ 1=bA 6 (Aq a)/\τ 44=sb d)/\J2 a d=some r;have c1:=λn1 n2 n3 n4:Nat=>Bs 1 λτ=>∃(c:Bool),(τ 1=bA 6 (Aq a)/\τ 34=sb c)/\J1 a c=some r;unfold Be at h;exact walk
end
namespace Co
def J3 (d:Bool):ABd Bool:=
some d
def J2 (a:EX) (c:Bool):ABd Bool:=
if c then
some false
else
if decide (a.Init>(-9223372036854775808))then
if a.Init==0 then
J3 true
else
if a.Kind==1 then
J3 true
else
J3 (a.Kind==2)
else
J3 false
def J1 (a:EX) (b:Bool):ABd Bool:=
if b then
some false
else
if a.Kind==5 then
(B5 a.On).bind λf=>
if !f then
J2 a true
else
if a.Kind != 5 then
J2 a (!(a.On.toList==(⟨#[]⟩:ABe).toList))
else
J2 a false
else
if a.Kind != 5 then
J2 a (!(a.On.toList==(⟨#[]⟩:ABe).toList))
else
J2 a false
end Co
section
open Co
def Co (a:EX):ABd Bool:=
if decide (a.Kind<1)then
J1 a true
else
if decide (a.Kind>6)then
J1 a true
else
(B5 a.Name).bind λe=>
if !e then
J1 a true
else
if decide (a.Bq<0)then
J1 a true
else
if a.Kind != 1 then
J1 a (a.Bq != 0)
else
J1 a false
theorem Qf {a:EX} {r:Bool} (h:Co a=some r):Says Tryz.prog 244 [.agg (Jj a)] (sb r):=by refine kO mix Tryz.func244 (hn [(1,[3,7,12,18,23,27,32,36,42,46,51,55,59,64])] [(2,1),(5,2)]) ?_;have a1:= @Hp;have c2:=λn1 n2 n3 n4:Nat=>Bs 2 λτ=>∃(c:Bool),(τ 1=bA 6 (Jj a)/\τ 50=sb c)/\J2 a c=some r;have c1:=λn1 n2 n3 n4:Nat=>Bs 1 λτ=>∃(b:Bool),(τ 1=bA 6 (Jj a)/\τ 31=sb b)/\J1 a b=some r;unfold Co at h;exact walk
end
namespace Dm
def J2 (j:Bool):ABd Bool:=
some j
def J3 (l:Bool):ABd Bool:=
some l
def J1 (b c:Int) (d:AP) (e:Int) (a:AD) (f:Bool):ABd Bool:=
if f then
some false
else
(gt d.AA e).bind λi=>
if b==1 then
some (i.Status==1)
else
if b==17 then
if i.Status==4 then
if i.Dg==c then
(gt a.Ai c).bind λt=>
(gt d.AF t.Mutex).bind λu=>
J2 (u.CG==(-1))
else
J2 false
else
J2 false
else
if i.Status==2 then
(EK a d e b c).bind λs=>
J3 s
else
J3 false
end Dm
section
open Dm
def Dm (a:AD) (d:AP) (e b c:Int):ABd Bool:=
(EM a d).bind λo=>
if !o then
J1 b c d e a true
else
(DP e (a.AA.length:Int)).bind λp=>
if !p then
J1 b c d e a true
else
(CT a b c).bind λq=>
J1 b c d e a (!q)
theorem MV {a:AD} {d:AP} {e b c:Int} {r:Bool} (h:Dm a d e b c=some r):Says Tryz.prog 146 [.agg (Aq a),.agg (F8 d),si e,si b,si c] (sb r):=by refine kO mix Tryz.func146 (hn [(5,[18,56]),(6,[31,54]),(11,[39,44,48,67])] [(2,1)]) ?_;have a1:= @Vg;have a2:= @Ku;have a3:= @JY;have a4:= @S6;have c1:=λn1 n2 n3 n4:Nat=>Bs 1 λτ=>∃(f:Bool),(τ 2=si e/\τ 3=si b/\τ 4=si c/\τ 5=bA 6 (Aq a)/\τ 6=bA 4 (F8 d)/\τ 30=sb f)/\J1 b c d e a f=some r;unfold Dm at h;exact walk
end
namespace AX
def J6:ABd Bool:=
some true
def J5 (L1:Int->ABd Bool) (b:Int):ABd Bool:=
L1 (BA (b+1))
def L2 (L1:Int->ABd Bool) (a:Az) (b:Int) (f:List Int) (L2:Int->ABd Bool) (i:Int):ABd Bool:=
if decide (i<(f.length:Int))then
(gt f i).bind λab=>
(Da ab a.Ck).bind λy=>
if !y then
some false
else
L2 (BA (i+1))
else
J5 L1 b
def DF (L1:Int->ABd Bool) (a:Az) (b:Int) (f:List Int):Nat->Int->ABd Bool
|0,_=>none
|n+1,i=>L2 L1 a b f (DF L1 a b f n) i
def J4 (L1:Int->ABd Bool) (a:Az) (b:Int) (c:Ad) (l:Bool):ABd Bool:=
if l then
some false
else
(AZ c).bind λf=>
DF L1 a b f BW 0
def J3 (L1:Int->ABd Bool) (a:Az) (b:Int) (c:Ad) (j:Bool):ABd Bool:=
if j then
some false
else
if c.Op==5 then
(Da c.A (a.Br.length:Int)).bind λv=>
if !v then
J4 L1 a b c true
else
if c.Op==10 then
(Da c.B (a.Br.length:Int)).bind λw=>
J4 L1 a b c (!w)
else
J4 L1 a b c false
else
if c.Op==10 then
(Da c.B (a.Br.length:Int)).bind λx=>
J4 L1 a b c (!x)
else
J4 L1 a b c false
def J2 (L1:Int->ABd Bool) (a:Az) (b e:Int) (d:AD) (c:Ad) (p:Bool):ABd Bool:=
if p then
some false
else
if c.Op==28 then
if c.Site != (-1)then
J3 L1 a b c true
else
if c.Op != 28 then
(Da c.Site (d.BU.length:Int)).bind λt=>
if !t then
J3 L1 a b c true
else
(gt d.BU c.Site).bind λz=>
J3 L1 a b c (z.Thread != e)
else
J3 L1 a b c false
else
if c.Op != 28 then
(Da c.Site (d.BU.length:Int)).bind λu=>
if !u then
J3 L1 a b c true
else
(gt d.BU c.Site).bind λaa=>
J3 L1 a b c (aa.Thread != e)
else
J3 L1 a b c false
def L1 (a:Az) (e:Int) (d:AD) (L1:Int->ABd Bool) (b:Int):ABd Bool:=
if decide (b<(a.Br.length:Int))then
(gt a.Br b).bind λc=>
if decide (c.Op<1)then
J2 L1 a b e d c true
else
if decide (c.Op>28)then
J2 L1 a b e d c true
else
if !((c.Op==28)==(b==(BA ((a.Br.length:Int)-1))))then
J2 L1 a b e d c true
else
(AN d c).bind λq=>
if !q then
J2 L1 a b e d c true
else
(CJ a.Br b).bind λs=>
J2 L1 a b e d c (!s)
else
J6
def Aa (a:Az) (e:Int) (d:AD):Nat->Int->ABd Bool
|0,_=>none
|n+1,b=>L1 a e d (Aa a e d n) b
def J1 (a:Az) (e:Int) (d:AD) (o:Bool):ABd Bool:=
if o then
some false
else
Aa a e d BW 0
end AX
section
open AX
def AX (d:AD) (e:Int) (a:Az):ABd Bool:=
if decide (a.Ck<0)then
J1 a e d true
else
if decide (a.Ck>32)then
J1 a e d true
else
J1 a e d ((a.Br.length:Int)==0)
theorem Pn {d:AD} {e:Int} {a:Az} {r:Bool} (h:AX d e a=some r):Says Tryz.prog 179 [.agg (Aq d),si e,.agg (Cf a)] (sb r):=by refine kO mix Tryz.func179 (hn [(3,[83,89]),(5,[12,15,19,32,62,135]),(9,[37,41,46,68,72,77,81,91,101,105,112,116]),(10,[126,131,133])] [(3,1),(12,2),(15,3),(18,4)]) ?_;have a1:= @JO;have a2:= @Pm;have a3:= @UU;have a4:= @YE;have l1:=λn1 n2 n3 n4:Nat=>A3 λn τ=>∃(b:Int),(τ 1=si e/\τ 3=bA 6 (Aq d)/\τ 5=bA 2 (Cf a)/\τ 7=si (a.Br.length:Int)/\τ 8=si b)/\Aa a e d n b=some r;have l2:=λn1 n2 n3 n4:Nat=>A3 λn τ=>∃(b:Int) (f:List Int) (i:Int),(τ 1=si e/\τ 3=bA 6 (Aq d)/\τ 5=bA 2 (Cf a)/\τ 7=si (a.Br.length:Int)/\τ 8=si b/\τ 10=vO 1 eI f/\τ 11=si i)/\DF (Aa a e d n1) a b f n i=some r;have c4:=λn1 n2 n3 n4:Nat=>Bs 4 λτ=>∃(b:Int) (c:Ad) (l:Bool),(τ 1=si e/\τ 3=bA 6 (Aq d)/\τ 5=bA 2 (Cf a)/\τ 7=si (a.Br.length:Int)/\τ 8=si b/\τ 9=bA 6 (EF c)/\τ 122=sb l)/\J4 (Aa a e d n1) a b c l=some r;have c3:=λn1 n2 n3 n4:Nat=>Bs 3 λτ=>∃(b:Int) (c:Ad) (j:Bool),(τ 1=si e/\τ 3=bA 6 (Aq d)/\τ 5=bA 2 (Cf a)/\τ 7=si (a.Br.length:Int)/\τ 8=si b/\τ 9=bA 6 (EF c)/\τ 100=sb j)/\J3 (Aa a e d n1) a b c j=some r;have c2:=λn1 n2 n3 n4:Nat=>Bs 2 λτ=>∃(b:Int) (c:Ad) (p:Bool),(τ 1=si e/\τ 3=bA 6 (Aq d)/\τ 5=bA 2 (Cf a)/\τ 7=si (a.Br.length:Int)/\τ 8=si b/\τ 9=bA 6 (EF c)/\τ 67=sb p)/\J2 (Aa a e d n1) a b e d c p=some r;have c1:=λn1 n2 n3 n4:Nat=>Bs 1 λτ=>∃(o:Bool),(τ 1=si e/\τ 3=bA 6 (Aq d)/\τ 5=bA 2 (Cf a)/\τ 7=si (a.Br.length:Int)/\τ 26=sb o)/\J1 a e d o=some r;unfold AX at h;exact walk
end
namespace Ca
def J3:ABd Bool:=
some true
def L1 (R100:BE->ABd Bool) (a:BE) (L1:Int->ABd Bool) (b:Int):ABd Bool:=
if decide (b<(a.L.length:Int))then
(gt a.L b).bind λj=>
(R100 j).bind λi=>
if !i then
some false
else
L1 (BA (b+1))
else
J3
def Aa (R100:BE->ABd Bool) (a:BE):Nat->Int->ABd Bool
|0,_=>none
|n+1,b=>L1 R100 a (Aa R100 a n) b
def J2 (R100:BE->ABd Bool) (a:BE) (d:Bool):ABd Bool:=
if d then
some false
else
Aa R100 a BW 0
def J1 (R100:BE->ABd Bool) (a:BE) (c:Bool):ABd Bool:=
(D5 a.Op).bind λe=>
if e != (a.L.length:Int)then
J2 R100 a true
else
if !(c==(!(a.Name.toList==(⟨#[]⟩:ABe).toList)))then
J2 R100 a true
else
if c then
(B5 a.Name).bind λf=>
if !f then
J2 R100 a true
else
if decide (a.N<0)then
J2 R100 a true
else
if a.Op != 1 then
J2 R100 a (a.N != 0)
else
J2 R100 a false
else
if decide (a.N<0)then
J2 R100 a true
else
if a.Op != 1 then
J2 R100 a (a.N != 0)
else
J2 R100 a false
end Ca
section
open Ca
def Ca (R100:BE->ABd Bool) (a:BE):ABd Bool:=
if a.Op==2 then
J1 R100 a true
else
J1 R100 a (a.Op==3)
theorem Qd {R100:BE->ABd Bool} (H100:∀{x0 r},R100 x0=some r->Says Tryz.prog 277 [.agg [si x0.Op,si x0.N,BZ x0.Name,vS 4 BH x0.L]] (sb r)) {a:BE} {r:Bool} (h:Ca R100 a=some r):Says Tryz.prog 277 [.agg [si a.Op,si a.N,BZ a.Name,vS 4 BH a.L]] (sb r):=by refine kO mix Tryz.func277 (hn [(1,[5,9,13,16,22,30,37,42,46,52,58])] [(1,1),(3,2)]) ?_;have a1:= @H100;have a2:= @TP;have a3:= @Hp;have l1:=λn1 n2 n3 n4:Nat=>A3 λn τ=>∃(b:Int),(τ 1=bA 4 [si a.Op,si a.N,BZ a.Name,vS 4 BH a.L]/\τ 4=si b)/\Aa R100 a n b=some r;have c2:=λn1 n2 n3 n4:Nat=>Bs 2 λτ=>∃(d:Bool),(τ 1=bA 4 [si a.Op,si a.N,BZ a.Name,vS 4 BH a.L]/\τ 50=sb d)/\J2 R100 a d=some r;have c1:=λn1 n2 n3 n4:Nat=>Bs 1 λτ=>∃(c:Bool),(τ 1=bA 4 [si a.Op,si a.N,BZ a.Name,vS 4 BH a.L]/\τ 3=sb c)/\J1 R100 a c=some r;unfold Ca at h;exact walk
end
def Mb:Nat->(BE->ABd Bool)
|0=>(λ_=>none)
|n+1=>Ca ((Mb n))
def DE (n:Nat):BE->ABd Bool:=(Mb n)
theorem Ph (n:Nat):(∀{x0 r},(DE n) x0=some r->Says Tryz.prog 277 [.agg [si x0.Op,si x0.N,BZ x0.Name,.sl false 4 (x0.L.map BH)]] (sb r)):=by
  induction n with
  |zero=>exactλh=>ET h
  |succ n ih=>exactλh=>Qd ih h
theorem Kw {n:Nat}:∀{x0 r},(DE n) x0=some r->Says Tryz.prog 277 [.agg [si x0.Op,si x0.N,BZ x0.Name,.sl false 4 (x0.L.map BH)]] (sb r):=(Ph n)
end Go.Abs
