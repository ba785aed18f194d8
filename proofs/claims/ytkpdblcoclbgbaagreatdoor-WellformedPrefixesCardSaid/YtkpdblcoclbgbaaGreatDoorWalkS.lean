/- Typed programs of Go functions, and that the functions do what these say. -/
import Derived.Test.YtkpdblcoclbgbaaGreatDoorBaseA
import Derived.Test.YtkpdblcoclbgbaaGreatDoorWalkR
import Derived.Test.YtkpdblcoclbgbaaGreatDoorWalkA
import Derived.Shelf.Slices.SearchI
set_option linter.unusedSimpArgs false
set_option linter.unusedVariables false
namespace Go.Abs
open Go.Proofs
set_option maxRecDepth 100000
set_option maxHeartbeats 4000000
def zP:IC:=(Ra 12 [.b 6 [118,141] (.bx 6 (.t 0)),.b 7 [21,28,33,34,36,37,40,41,43,44,48,49,52,53,57,58,60,61,64,65,67,68,70,71,72,76,77,80,81,83,84,86,87,88,91,92,96,99,102,103,105,106,109,110,112,113,116,117,124,125,126,127,129,130,133,134,135,136,139,140,148,149,150,151,153,154,156,157,158,159,162,175,176,178,179,183,192,193,198,199,204,205,207,208,211,212,214,215] (.bx 4 (.t 1)),.o (.bx 4 (.c (.agg z4))),.K 13 0,.B 14 false]
(Sq (Ra 20 [.A 6 6,.y 7 (.ld true 4 (.t 7)),.C 2,.C 3,.C 4,.c 47 [20,21,22,23,24] 0,.N 25]
(Ci 26 (Rb 27 [.o (.Dc z4 []),.S 4 12 27,.K 13 0,.B 14 false])))
(Ra 28 [.y 7 (.ld true 4 (.t 7)),.c 84 [28] 2,.S 4 7 29]
(Ra 0 [.K 15 0]
(Bw 5 (Ra 30 [.C 3]
(Bk 0 (Ra 32 [.q 30 1 31]
(Cn 31 (Rc 33 [.m 7 3 7,.C 2,.J 7 3 34 35,.H 7 0 36,.T 37 2]) (Ra 39 [.q 30 2 38]
(Cn 38 (Rc 40 [.m 7 3 7,.C 2,.J 7 3 41 42,.H 7 0 43,.T 44 5]) (Bw 1 (Ra 46 [.q 30 6 45]
(Cn 45 .skip (Rc 47 [.q 30 10 45])))
(Cn 45 (Rc 48 [.m 7 0 7,.C 4,.C 2,.J 7 2 49 50,.H 7 0 52,.S 1 53 51]) (Bw 2 (Ra 55 [.q 30 7 54]
(Cn 54 .skip (Rc 56 [.q 30 11 54])))
(Cn 54 (Rc 57 [.m 7 0 7,.C 4,.J 7 2 58 59,.H 7 0 60,.T 61 (-1)]) (Ra 63 [.q 30 8 62]
(Cn 62 (Rc 64 [.m 7 0 7,.C 4,.m 7 0 7,.C 4,.J 7 2 68 69,.m 7 1 70,.C 2,.o (.Eg 1 [[si 0]] [(0,.t 73)]),.c 85 [72,74] 2,.J 7 2 65 66,.H 7 1 76,.S 1 77 75]) (Ra 79 [.q 30 9 78]
(Cn 78 (Rc 80 [.m 7 0 7,.C 4,.m 7 0 7,.C 4,.J 7 2 84 85,.m 7 1 86,.C 2,.c 86 [88,89] 2,.J 7 2 81 82,.H 7 1 91,.S 1 92 90]) (Ra 94 [.q 30 12 93]
(Cn 93 (Rc 95 [.C 2,.F 1 7,.S 1 96 95]) (Ra 98 [.q 30 13 97]
(Cn 97 (Rc 99 [.F 1 7,.T 99 (-1)]) (Ra 101 [.q 30 14 100]
(Cn 100 (Rc 102 [.m 7 3 7,.C 2,.J 7 3 103 104,.H 7 2 105,.x ⟨none,.st 1 (.t 106) (.c (sb true)),none⟩]) (Ra 108 [.q 30 15 107]
(Cn 107 (Rc 109 [.m 7 3 7,.C 2,.J 7 3 110 111,.H 7 2 112,.x ⟨none,.st 1 (.t 113) (.c (sb false)),none⟩]) (Ra 115 [.q 30 16 114]
(Cn 114 (Ra 116 [.m 7 0 7,.f 2 6,.C 4,.I 2 119 120,.U 1 121,.J 7 2 117 123,.H 7 0 124,.T 125 (-1)]
(Rc 126 [.F 3 7,.y 7 (.Qt (.t 126)),.C 2,.F 3 7,.y 7 (.Qt (.t 129)),.C 2,.C 4,.J 7 3 127 128,.H 7 0 133,.x ⟨none,.P1 (.t 134) (.c (si 3)),none⟩,.J 7 3 130 131,.H 7 1 135,.x ⟨none,.P1 (.t 136) (.t 132),none⟩])) (Ra 138 [.q 30 17 137]
(Cn 137 (Ra 139 [.m 7 0 7,.f 2 6,.C 4,.I 2 142 143,.U 1 144,.C 2,.J 7 2 140 146,.H 7 0 148,.S 1 149 147]
(Rc 150 [.F 3 7,.y 7 (.Qt (.t 150)),.C 2,.F 3 7,.y 7 (.Qt (.t 153)),.C 2,.J 7 3 151 152,.H 7 0 156,.x ⟨none,.P1 (.t 157) (.c (si 2)),none⟩,.J 7 3 154 155,.H 7 1 158,.x ⟨none,.P1 (.t 159) (.c (si 0)),none⟩])) (Ra 161 [.q 30 18 160]
(Cn 160 (Ra 162 [.y 7 (.ld true 4 (.t 7)),.C 4,.c 83 [162,163] 2,.b 16 [165,168,169,171] (.mv (.t 164))]
(Ra 0 [.K 15 (-1)]
(Ra 165 [.y 16 (.cp (.t 16)),.Z 165,.P .gtr 166 0]
(Ci 167 (Ra 168 [.y 16 (.cp (.t 16)),.y 16 (.Lr 1 (.t 168) (.c (si 0))),.L 169,.M 17 170]
(Sq (Ra 171 [.y 16 (.cp (.t 16)),.C 5,.c 82 [171,172] 0]
(Ci 173 (Rc 174 [.C 5,.M 17 174])))
(Ra 175 [.m 7 3 7,.C 17,.J 7 3 176 177,.H 7 0 178,.T 179 4]
(Rc 180 [.C 17,.M 15 180])))))))) (Ra 182 [.q 30 19 181]
(Cn 181 (Ra 183 [.y 7 (.ld true 4 (.t 7)),.C 4,.c 83 [183,184] 2,.b 18 [187,194,196,200] (.mv (.t 185))]
(Sq (Ra 0 [.K 19 0]
(Bl 1 (Sq (Ra 186 [.C 19,.y 18 (.cp (.t 18)),.Z 187,.O .lss 186 188]
(cX 189 1))
(Sq (Bk 2 (Rc 192 [.m 7 3 7,.y 18 (.cp (.t 18)),.C 19,.J 18 1 194 195,.L 196,.J 7 3 193 197,.H 7 0 198,.T 199 4]))
(Rc 190 [.C 19,.P .add 190 1,.M 19 191])))))
(Rc 200 [.y 18 (.cp (.t 18)),.Z 200,.M 15 201]))) (Ra 203 [.q 30 20 202]
(Cn 202 (Rc 204 [.m 7 3 7,.C 4,.J 7 3 205 206,.H 7 0 207,.T 208 1]) (Ra 210 [.q 30 22 209]
(Ci 209 (Rc 211 [.m 7 2 7,.C 4,.J 7 1 212 213,.x ⟨none,.st 1 (.t 214) (.c (sb true)),none⟩])))))))))))))))))))))))))))))))))))
(Rb 215 [.y 7 (.ld true 4 (.t 7)),.C 15,.S 4 12 215,.M 13 216,.B 14 true]))))))
def zQ:Gi:=⟨[(21,[7]),(28,[7]),(33,[7]),(34,[7]),(36,[7]),(37,[7]),(40,[7]),(41,[7]),(43,[7]),(44,[7]),(48,[7]),(49,[7]),(52,[7]),(53,[7]),(57,[7]),(58,[7]),(60,[7]),(61,[7]),(64,[7]),(65,[7]),(67,[7]),(68,[7]),(70,[7]),(71,[7]),(72,[7]),(76,[7]),(77,[7]),(80,[7]),(81,[7]),(83,[7]),(84,[7]),(86,[7]),(87,[7]),(88,[7]),(91,[7]),(92,[7]),(96,[7]),(99,[7]),(102,[7]),(103,[7]),(105,[7]),(106,[7]),(109,[7]),(110,[7]),(112,[7]),(113,[7]),(116,[7]),(117,[7]),(118,[6]),(124,[7]),(125,[7]),(126,[7]),(127,[7]),(129,[7]),(130,[7]),(133,[7]),(134,[7]),(135,[7]),(136,[7]),(139,[7]),(140,[7]),(141,[6]),(148,[7]),(149,[7]),(150,[7]),(151,[7]),(153,[7]),(154,[7]),(156,[7]),(157,[7]),(158,[7]),(159,[7]),(162,[7]),(165,[16]),(168,[16]),(169,[16]),(171,[16]),(175,[7]),(176,[7]),(178,[7]),(179,[7]),(183,[7]),(187,[18]),(192,[7]),(193,[7]),(194,[18]),(196,[18]),(198,[7]),(199,[7]),(200,[18]),(204,[7]),(205,[7]),(207,[7]),(208,[7]),(211,[7]),(212,[7]),(214,[7]),(215,[7])]⟩
def zR:List RV:=[.cell 12 true 4,.tmp 13,.tmp 14]
namespace Cj
def J5 (p:AO) (t:Int):Option (AO×Int×Bool):=
some (p,t,true)
def J3 (a:AO) (w:Int):Option (AO×Int×Bool):=
(gt a.AA w).bind λad=>
J5 (AO.mk a.AG a.Tx a.Ce (a.AA.set w.toNat (AD.mk 4 ad.Ef ad.Atomic))) w
def J4 (i:List Int) (au:AO):Option (AO×Int×Bool):=
J5 au (i.length:Int)
def L1 (i:List Int) (L1:AO->Int->Option (AO×Int×Bool)) (j:AO) (l:Int):Option (AO×Int×Bool):=
if decide (l<(i.length:Int))then
(gt i l).bind λae=>
(gt j.AA ae).bind λaf=>
L1 (AO.mk j.AG j.Tx j.Ce (j.AA.set ae.toNat (AD.mk 4 af.Ef af.Atomic))) (BE (l+1))
else
J4 i j
def Ac (i:List Int):Nat->AO->Int->Option (AO×Int×Bool)
|0,_,_=>none
|n+1,j,l=>L1 i (Ac i n) j l
def J2 (c d b:Int) (a:AO) (f:Int) (e:AB) (s:Bool):Option (AO×Int×Bool):=
if s then
(gt a.AG d).bind λbc=>
J5 (AO.mk (a.AG.set d.toNat (AY.mk (-1) bc.BW)) a.Tx a.Ce a.AA) 0
else
if c==8 then
(gt a.AG d).bind λaj=>
(Cx aj.BW [b]).bind λaw=>
J5 (AO.mk (a.AG.set d.toNat (AY.mk aj.En aw)) a.Tx a.Ce a.AA) 0
else
if c==9 then
(gt a.AG d).bind λal=>
(C0 al.BW b).bind λax=>
J5 (AO.mk (a.AG.set d.toNat (AY.mk al.En ax)) a.Tx a.Ce a.AA) 0
else
if c==12 then
J5 (AO.mk a.AG b a.Ce a.AA) 0
else
if c==13 then
J5 (AO.mk a.AG (-1) a.Ce a.AA) 0
else
if c==14 then
(gt a.AA b).bind λao=>
J5 (AO.mk a.AG a.Tx a.Ce (a.AA.set b.toNat (AD.mk ao.Status ao.Ef true))) 0
else
if c==15 then
(gt a.AA b).bind λap=>
J5 (AO.mk a.AG a.Tx a.Ce (a.AA.set b.toNat (AD.mk ap.Status ap.Ef false))) 0
else
if c==16 then
(gt e.Au d).bind λaq=>
(gt a.AG aq.Mutex).bind λbd=>
(gt a.AA b).bind λu=>
(gt (a.AA.set b.toNat (AD.mk 3 u.Ef u.Atomic)) b).bind λaa=>
J5 (AO.mk (a.AG.set aq.Mutex.toNat (AY.mk (-1) bd.BW)) a.Tx a.Ce ((a.AA.set b.toNat (AD.mk 3 u.Ef u.Atomic)).set b.toNat (AD.mk aa.Status d aa.Atomic))) 0
else
if c==17 then
(gt e.Au d).bind λab=>
(gt a.AG ab.Mutex).bind λaz=>
(gt a.AA b).bind λv=>
(gt (a.AA.set b.toNat (AD.mk 2 v.Ef v.Atomic)) b).bind λac=>
J5 (AO.mk (a.AG.set ab.Mutex.toNat (AY.mk b az.BW)) a.Tx a.Ce ((a.AA.set b.toNat (AD.mk 2 v.Ef v.Atomic)).set b.toNat (AD.mk ac.Status 0 ac.Atomic))) 0
else
if c==18 then
(CO a d).bind λx=>
if decide ((x.length:Int)>0)then
(gt x 0).bind λba=>
(Eh x f).bind λay=>
if ay then
J3 a f
else
J3 a ba
else
J5 a (-1)
else
if c==19 then
(CO a d).bind λi=>
Ac i Bo a 0
else
if c==20 then
(gt a.AA d).bind λai=>
J5 (AO.mk a.AG a.Tx a.Ce (a.AA.set d.toNat (AD.mk 1 ai.Ef ai.Atomic))) 0
else
if c==22 then
(gt a.Ce d).bind λbe=>
J5 (AO.mk a.AG a.Tx (a.Ce.set d.toNat true) a.AA) 0
else
J5 a 0
def J1 (c d b:Int) (a:AO) (f:Int) (e:AB) (q:Bool):Option (AO×Int×Bool):=
if q then
(gt a.AG d).bind λbb=>
J5 (AO.mk (a.AG.set d.toNat (AY.mk b bb.BW)) a.Tx a.Ce a.AA) 0
else
if c==7 then
J2 c d b a f e (c==7)
else
J2 c d b a f e (c==11)
end Cj
section
open Cj
def Cj (e:AB) (o:AO) (b c:Int) (d f:Int):Option (AO×Int×Bool):=
(B1 e o b c d).bind λav=>
if !av then
some ((AO.mk [] 0 [] []),0,false)
else
(EP o).bind λa=>
if c==1 then
(gt a.AA b).bind λy=>
J5 (AO.mk a.AG a.Tx a.Ce (a.AA.set b.toNat (AD.mk 2 y.Ef y.Atomic))) 0
else
if c==2 then
(gt a.AA b).bind λz=>
J5 (AO.mk a.AG a.Tx a.Ce (a.AA.set b.toNat (AD.mk 5 z.Ef z.Atomic))) 0
else
if c==6 then
J1 c d b a f e (c==6)
else
J1 c d b a f e (c==10)
theorem O3 {e:AB} {o:AO} {b c:Int} {d f:Int} {r:AO×Int×Bool} (h:Cj e o b c d f=some r):Says Tryz.prog 50 [.agg (Ap e),.agg (GZ o),si b,si c,si d,si f] (.A9 [.agg (FK r.1),si r.2.1,sb r.2.2]):=by
 refine wO mix Tryz.func50 (I:=⟨zP,zQ,zR⟩) ?_
 simp only[zP,zQ,zR]
 have a1:= @Mt
 have a2:= @Lw
 have a3:= @Kn
 have a4:= @Og
 have a5:= @Mw
 have a6:= @MC
 have l1:=λn1 n2 n3 n4:Nat=>BM λn τ=>∃(i:List Int) (j:AO) (l:Int),(τ 7=bA 4 (FK j)/\τ 12=bA 4 z4/\τ 18=vO 1 eI i/\τ 19=si l)/\Ac i n j l=some r
 have c5:=λn1 n2 n3 n4:Nat=>B7 5 λτ=>∃(p:AO) (t:Int),(τ 7=bA 4 (FK p)/\τ 12=bA 4 z4/\τ 15=si t)/\J5 p t=some r
 have c2:=λn1 n2 n3 n4:Nat=>B7 2 λτ=>∃(a:AO) (s:Bool),(τ 2=si b/\τ 4=si d/\τ 5=si f/\τ 6=bA 6 (Ap e)/\τ 7=bA 4 (FK a)/\τ 12=bA 4 z4/\τ 15=si 0/\τ 30=si c/\τ 54=sb s)/\J2 c d b a f e s=some r
 have c1:=λn1 n2 n3 n4:Nat=>B7 1 λτ=>∃(a:AO) (q:Bool),(τ 2=si b/\τ 4=si d/\τ 5=si f/\τ 6=bA 6 (Ap e)/\τ 7=bA 4 (FK a)/\τ 12=bA 4 z4/\τ 15=si 0/\τ 30=si c/\τ 45=sb q)/\J1 c d b a f e q=some r
 unfold Cj at h
 exact walk
end
def mU:IC:=(Ra 2 [.b 1 [5,7,10,15,24] (.bx 4 (.t 0)),.o (.bx 4 (.c (.agg z6)))]
(Ra 5 [.f 0 1,.f 3 1,.o (.Eg 1 [] []),.f 1 1,.o (.app 1 8 (.t 9) (.t 11)),.o (.Dc z6 [(0,1,.t 6),(3,1,.t 8),(1,1,.t 12)]),.b 3 [21,22,32,33] (.bx 4 (.c (.agg z6))),.S 4 3 13]
(Sq (Ra 0 [.K 4 0]
(Bl 0 (Sq (Ra 14 [.C 4,.f 2 1,.Z 16,.O .lss 14 17]
(cX 18 0))
(Sq (Bk 1 (Rc 21 [.m 3 2 3,.o (.Eg 1 [] []),.f 2 1,.C 4,.I 1 25 26,.L 27,.o (.app 1 8 (.t 23) (.t 28)),.o (.Eg 1 [[.own false 1 []]] [(0,.t 29)]),.o (.app 1 24 (.t 22) (.t 30)),.F 2 3,.S 1 32 31]))
(Rc 19 [.C 4,.P .add 19 1,.M 4 20])))))
(Sq (.gz true 3 [(0,2,0)] (Rc 33 [.y 3 (.ld true 4 (.t 3)),.S 4 2 33]))
.ret))))
def mV:Gi:=⟨[(5,[1]),(7,[1]),(10,[1]),(15,[1]),(21,[3]),(22,[3]),(24,[1]),(32,[3]),(33,[3])]⟩
def mW:List RV:=[.cell 2 true 4]
namespace Dq
def J1 (e:AE):Option AE:=
some e
def L1 (a:AE) (L1:AE->Int->Option AE) (b:AE) (c:Int):Option AE:=
if decide (c<(a.Bt.length:Int))then
(gt a.Bt c).bind λd=>
if Aq (d.length) 8=true then
if Aq (b.Bt.length+1) 24=true then
L1 (AE.mk b.PC b.CN (b.Bt++[d]) b.AX) (BE (c+1))
else none
else none
else
J1 b
def Ac (a:AE):Nat->AE->Int->Option AE
|0,_,_=>none
|n+1,b,c=>L1 a (Ac a n) b c
end Dq
section
open Dq
def Dq (a:AE):Option AE:=
if Aq (a.CN.length) 8=true then
Ac a Bo (AE.mk a.PC a.CN [] a.AX) 0
else none
theorem Lv {a r:AE} (h:Dq a=some r):Says Tryz.prog 130 [.agg (Dh a)] (.agg (BN r)):=by
 refine wO mix Tryz.func130 (I:=⟨mU,mV,mW⟩) ?_
 simp only[mU,mV,mW]
 have l1:=λn1 n2 n3 n4:Nat=>BM λn τ=>∃(b:AE) (c:Int),(τ 1=bA 4 (Dh a)/\τ 2=bA 4 z6/\τ 3=bA 4 [si b.PC,vO 1 eI b.CN,vO 1 Wk b.Bt,si b.AX]/\τ 4=si c)/\Ac a n b c=some r
 unfold Dq at h
 exact walk
end
def AB1:IC:=(Ra 2 [.b 1 [5,9,13,18,26] (.bx 7 (.t 0)),.o (.bx 7 (.c (.agg z2)))]
(Ra 5 [.F 0 1,.A 4 5,.c 84 [6] 2,.o (.Eg 1 [] []),.f 4 1,.o (.app 1 8 (.t 8) (.t 10)),.o (.Eg 1 [] []),.f 5 1,.o (.app 1 8 (.t 12) (.t 14)),.o (.Dc z2 [(0,4,.t 7),(4,1,.t 11),(5,1,.t 15)]),.b 3 [24,25,34,35] (.bx 7 (.c (.agg z2))),.S 7 3 16]
(Sq (Ra 0 [.K 4 0]
(Bl 0 (Sq (Ra 17 [.C 4,.f 6 1,.Z 19,.O .lss 17 20]
(cX 21 0))
(Sq (Bk 1 (Rc 24 [.m 3 6 3,.f 6 1,.C 4,.I 4 27 28,.A 4 29,.c 130 [30] 3,.o (.Eg 4 [z6] [(0,.t 31)]),.o (.app 4 64 (.t 25) (.t 32)),.F 6 3,.S 1 34 33]))
(Rc 22 [.C 4,.P .add 22 1,.M 4 23])))))
(Rb 35 [.y 3 (.ld true 7 (.t 3)),.S 7 2 35]))))
def AB2:Gi:=⟨[(5,[1]),(9,[1]),(13,[1]),(18,[1]),(24,[3]),(25,[3]),(26,[1]),(34,[3]),(35,[3])]⟩
def AB3:List RV:=[.cell 2 true 7]
namespace D7
def J1 (d:AZ):Option AZ:=
some d
def L1 (a:AZ) (L1:AZ->Int->Option AZ) (b:AZ) (c:Int):Option AZ:=
if decide (c<(a.AA.length:Int))then
(gt a.AA c).bind λi=>
(Dq i).bind λf=>
if Aq (b.AA.length+1) 64=true then
L1 (AZ.mk b.Sync b.Cells b.AH (b.AA++[f])) (BE (c+1))
else none
else
J1 b
def Ac (a:AZ):Nat->AZ->Int->Option AZ
|0,_,_=>none
|n+1,b,c=>L1 a (Ac a n) b c
end D7
section
open D7
def D7 (a:AZ):Option AZ:=
(EP a.Sync).bind λe=>
if Aq (a.Cells.length) 8=true then
if Aq (a.AH.length) 8=true then
Ac a Bo (AZ.mk e a.Cells a.AH []) 0
else none
else none
theorem SM {a r:AZ} (h:D7 a=some r):Says Tryz.prog 99 [.agg (HM a)] (.agg (IZ r)):=by
 refine wO mix Tryz.func99 (I:=⟨AB1,AB2,AB3⟩) ?_
 simp only[AB1,AB2,AB3]
 have a1:= @Lw
 have a2:= @Lv
 have l1:=λn1 n2 n3 n4:Nat=>BM λn τ=>∃(b:AZ) (c:Int),(τ 1=bA 7 (HM a)/\τ 2=bA 7 z2/\τ 3=bA 7 (IZ b)/\τ 4=si c)/\Ac a n b c=some r
 unfold D7 at h
 exact walk
end
def o7:IC:=(Ra 0 [.K 2 0]
(Sq (Ra 3 [.C 0,.P .lss 3 1,.C 4,.G 5 false,.C 0,.P .gtr 6 100,.e,.V 5 7]
(Ci 8 (Rb 0 [.K 2 0])))
(Rb 9 [.C 0,.M 2 9])))
def o8:Gi:=⟨[]⟩
def o9:List RV:=[.tmp 2]
namespace DN
def J1 (a:Int) (b:Bool):Option Int:=
if b then
some 0
else
some a
end DN
section
open DN
def DN (a:Int):Option Int:=
if decide (a<1)then
J1 a true
else
J1 a (decide (a>100))
theorem Nz {a r:Int} (h:DN a=some r):Says Tryz.prog 155 [si a] (si r):=by
 refine wO mix Tryz.func155 (I:=⟨o7,o8,o9⟩) ?_
 simp only[o7,o8,o9]
 unfold DN at h
 exact walk
end
end Go.Abs
