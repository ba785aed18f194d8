/- Go functions do what typed programs say. -/
import Derived.Test.YtdojkofgkcmagaaGreatDoorWalkF
import Derived.Test.YtdojkofgkcmagaaGreatDoorWalkG
import Derived.Test.YtdojkofgkcmagaaGreatDoorWalkH
import Derived.Shelf.Slices.SearchI
set_option linter.all false
namespace Go.Abs
open Go.Proofs Tryz
set_option maxRecDepth 1000000
set_option maxHeartbeats 4000000
def f106c:IC:=(Ra 12 [.b 6 [118,141] (.bx 6 (.t 0)),.b 7 [21,28,33,34,36,37,40,41,43,44,48,49,52,53,57,58,60,61,64,65,67,68,70,71,72,76,77,80,81,83,84,86,87,88,91,92,96,99,102,103,105,106,109,110,112,113,116,117,124,125,126,127,129,130,133,134,135,136,139,140,148,149,150,151,153,154,156,157,158,159,162,175,176,178,179,183,192,193,198,199,204,205,207,208,211,212,214,215] (.bx 4 (.t 1)),.o (.bx 4 (.c (.agg z6))),.K 13 0,.B 14 false]
(Sq (Ra 20 [.A 6 6,.y 7 (.ld true 4 (.t 7)),.C 2,.C 3,.C 4,.c 66 [20,21,22,23,24] 0,.N 25]
(Ci 26 (Rb 27 [.o (.UG z6 []),.S 4 12 27,.K 13 0,.B 14 false])))
(Ra 28 [.y 7 (.ld true 4 (.t 7)),.c 118 [28] 2,.S 4 7 29]
(Ra 0 [.K 15 0]
(O9 5 (Ra 30 [.C 3]
(Bk 0 (Ra 32 [.q 30 1 31]
(Cn 31 (Rc 33 [.m 7 3 7,.C 2,.J 7 3 34 35,.H 7 0 36,.T 37 2]) (Ra 39 [.q 30 2 38]
(Cn 38 (Rc 40 [.m 7 3 7,.C 2,.J 7 3 41 42,.H 7 0 43,.T 44 5]) (O9 1 (Ra 46 [.q 30 6 45]
(Cn 45 .skip (Rc 47 [.q 30 10 45])))
(Cn 45 (Rc 48 [.m 7 0 7,.C 4,.C 2,.J 7 2 49 50,.H 7 0 52,.S 1 53 51]) (O9 2 (Ra 55 [.q 30 7 54]
(Cn 54 .skip (Rc 56 [.q 30 11 54])))
(Cn 54 (Rc 57 [.m 7 0 7,.C 4,.J 7 2 58 59,.H 7 0 60,.T 61 (-1)]) (Ra 63 [.q 30 8 62]
(Cn 62 (Rc 64 [.m 7 0 7,.C 4,.m 7 0 7,.C 4,.J 7 2 68 69,.m 7 1 70,.C 2,.o (.Ot 1 [[si 0]] [(0,.t 73)]),.c 156 [72,74] 2,.J 7 2 65 66,.H 7 1 76,.S 1 77 75]) (Ra 79 [.q 30 9 78]
(Cn 78 (Rc 80 [.m 7 0 7,.C 4,.m 7 0 7,.C 4,.J 7 2 84 85,.m 7 1 86,.C 2,.c 157 [88,89] 2,.J 7 2 81 82,.H 7 1 91,.S 1 92 90]) (Ra 94 [.q 30 12 93]
(Cn 93 (Rc 95 [.C 2,.F 1 7,.S 1 96 95]) (Ra 98 [.q 30 13 97]
(Cn 97 (Rc 99 [.F 1 7,.T 99 (-1)]) (Ra 101 [.q 30 14 100]
(Cn 100 (Rc 102 [.m 7 3 7,.C 2,.J 7 3 103 104,.H 7 2 105,.x ⟨none,.st 1 (.t 106) (.c (sb true)),none⟩]) (Ra 108 [.q 30 15 107]
(Cn 107 (Rc 109 [.m 7 3 7,.C 2,.J 7 3 110 111,.H 7 2 112,.x ⟨none,.st 1 (.t 113) (.c (sb false)),none⟩]) (Ra 115 [.q 30 16 114]
(Cn 114 (Ra 116 [.m 7 0 7,.f 2 6,.C 4,.I 2 119 120,.U 1 121,.J 7 2 117 123,.H 7 0 124,.T 125 (-1)]
(Rc 126 [.F 3 7,.y 7 (.Zd (.t 126)),.C 2,.F 3 7,.y 7 (.Zd (.t 129)),.C 2,.C 4,.J 7 3 127 128,.H 7 0 133,.x ⟨none,.YV (.t 134) (.c (si 3)),none⟩,.J 7 3 130 131,.H 7 1 135,.x ⟨none,.YV (.t 136) (.t 132),none⟩])) (Ra 138 [.q 30 17 137]
(Cn 137 (Ra 139 [.m 7 0 7,.f 2 6,.C 4,.I 2 142 143,.U 1 144,.C 2,.J 7 2 140 146,.H 7 0 148,.S 1 149 147]
(Rc 150 [.F 3 7,.y 7 (.Zd (.t 150)),.C 2,.F 3 7,.y 7 (.Zd (.t 153)),.C 2,.J 7 3 151 152,.H 7 0 156,.x ⟨none,.YV (.t 157) (.c (si 2)),none⟩,.J 7 3 154 155,.H 7 1 158,.x ⟨none,.YV (.t 159) (.c (si 0)),none⟩])) (Ra 161 [.q 30 18 160]
(Cn 160 (Ra 162 [.y 7 (.ld true 4 (.t 7)),.C 4,.c 119 [162,163] 2,.b 16 [165,168,169,171] (.mv (.t 164))]
(Ra 0 [.K 15 (-1)]
(Ra 165 [.y 16 (.cp (.t 16)),.Z 165,.P .gtr 166 0]
(Ci 167 (Ra 168 [.y 16 (.cp (.t 16)),.y 16 (.WL 1 (.t 168) (.c (si 0))),.L 169,.M 17 170]
(Sq (Ra 171 [.y 16 (.cp (.t 16)),.C 5,.c 65 [171,172] 0]
(Ci 173 (Rc 174 [.C 5,.M 17 174])))
(Ra 175 [.m 7 3 7,.C 17,.J 7 3 176 177,.H 7 0 178,.T 179 4]
(Rc 180 [.C 17,.M 15 180])))))))) (Ra 182 [.q 30 19 181]
(Cn 181 (Ra 183 [.y 7 (.ld true 4 (.t 7)),.C 4,.c 119 [183,184] 2,.b 18 [187,194,196,200] (.mv (.t 185))]
(Sq (Ra 0 [.K 19 0]
(Bl 1 (Sq (Ra 186 [.C 19,.y 18 (.cp (.t 18)),.Z 187,.O .lss 186 188]
(cX 189 1))
(Sq (Bk 2 (Rc 192 [.m 7 3 7,.y 18 (.cp (.t 18)),.C 19,.J 18 1 194 195,.L 196,.J 7 3 193 197,.H 7 0 198,.T 199 4]))
(Rc 190 [.C 19,.P .add 190 1,.M 19 191])))))
(Rc 200 [.y 18 (.cp (.t 18)),.Z 200,.M 15 201]))) (Ra 203 [.q 30 20 202]
(Cn 202 (Rc 204 [.m 7 3 7,.C 4,.J 7 3 205 206,.H 7 0 207,.T 208 1]) (Ra 210 [.q 30 22 209]
(Ci 209 (Rc 211 [.m 7 2 7,.C 4,.J 7 1 212 213,.x ⟨none,.st 1 (.t 214) (.c (sb true)),none⟩])))))))))))))))))))))))))))))))))))
(Rb 215 [.y 7 (.ld true 4 (.t 7)),.C 15,.S 4 12 215,.M 13 216,.B 14 true]))))))
def f106g:Gi:=⟨[(21,[7]),(28,[7]),(33,[7]),(34,[7]),(36,[7]),(37,[7]),(40,[7]),(41,[7]),(43,[7]),(44,[7]),(48,[7]),(49,[7]),(52,[7]),(53,[7]),(57,[7]),(58,[7]),(60,[7]),(61,[7]),(64,[7]),(65,[7]),(67,[7]),(68,[7]),(70,[7]),(71,[7]),(72,[7]),(76,[7]),(77,[7]),(80,[7]),(81,[7]),(83,[7]),(84,[7]),(86,[7]),(87,[7]),(88,[7]),(91,[7]),(92,[7]),(96,[7]),(99,[7]),(102,[7]),(103,[7]),(105,[7]),(106,[7]),(109,[7]),(110,[7]),(112,[7]),(113,[7]),(116,[7]),(117,[7]),(118,[6]),(124,[7]),(125,[7]),(126,[7]),(127,[7]),(129,[7]),(130,[7]),(133,[7]),(134,[7]),(135,[7]),(136,[7]),(139,[7]),(140,[7]),(141,[6]),(148,[7]),(149,[7]),(150,[7]),(151,[7]),(153,[7]),(154,[7]),(156,[7]),(157,[7]),(158,[7]),(159,[7]),(162,[7]),(165,[16]),(168,[16]),(169,[16]),(171,[16]),(175,[7]),(176,[7]),(178,[7]),(179,[7]),(183,[7]),(187,[18]),(192,[7]),(193,[7]),(194,[18]),(196,[18]),(198,[7]),(199,[7]),(200,[18]),(204,[7]),(205,[7]),(207,[7]),(208,[7]),(211,[7]),(212,[7]),(214,[7]),(215,[7])]⟩
def f106r:List RV:=[.cell 12 true 4,.tmp 13,.tmp 14]
namespace Dm
def J5(p:AP)(t:Int):ABm (AP×Int×Bool):=some (p,t,true)
def J3(a:AP)(w:Int):=(gt a.AB w).bind λad=>J5 (AP.mk a.AK a.Tx a.Bs (a.AB.set w.toNat (AL.mk 4 ad.DS ad.dy))) w
def J4(i:iT)(au:AP):=J5 au (i.length:Int)
def L1(i:iT)(L1:AP->Int->ABm (AP×Int×Bool))(j:AP)(l:Int):=if decide (l<(i.length:Int))then(gt i l).bind λae=>(gt j.AB ae).bind λaf=>L1 (AP.mk j.AK j.Tx j.Bs (j.AB.set ae.toNat (AL.mk 4 af.DS af.dy))) (A9 (l+1))
else
J4 i j
def AU(i:iT):Nat->AP->Int->ABm (AP×Int×Bool)
|0,_,_=>none
|n+1,j,l=>L1 i (AU i n) j l
def J2(c d b:Int)(a:AP)(f:Int)(e:AG)(s:Bool):=if s then(gt a.AK d).bind λbc=>J5 (AP.mk (a.AK.set d.toNat (AQ.mk (-1) bc.Ae)) a.Tx a.Bs a.AB) 0
else
if c==8 then(gt a.AK d).bind λaj=>(ER aj.Ae [b]).bind λaw=>J5 (AP.mk (a.AK.set d.toNat (AQ.mk aj.Bw aw)) a.Tx a.Bs a.AB) 0
else
if c==9 then(gt a.AK d).bind λal=>(ES al.Ae b).bind λax=>J5 (AP.mk (a.AK.set d.toNat (AQ.mk al.Bw ax)) a.Tx a.Bs a.AB) 0
else
if c==12 then
J5 (AP.mk a.AK b a.Bs a.AB) 0
else
if c==13 then
J5 (AP.mk a.AK (-1) a.Bs a.AB) 0
else
if c==14 then(gt a.AB b).bind λao=>J5 (AP.mk a.AK a.Tx a.Bs (a.AB.set b.toNat (AL.mk ao.dh ao.DS true))) 0
else
if c==15 then(gt a.AB b).bind λap=>J5 (AP.mk a.AK a.Tx a.Bs (a.AB.set b.toNat (AL.mk ap.dh ap.DS false))) 0
else
if c==16 then(gt e.Aj d).bind λaq=>(gt a.AK aq.dn).bind λbd=>(gt a.AB b).bind λu=>(gt (a.AB.set b.toNat (AL.mk 3 u.DS u.dy)) b).bind λaa=>J5 (AP.mk (a.AK.set aq.dn.toNat (AQ.mk (-1) bd.Ae)) a.Tx a.Bs ((a.AB.set b.toNat (AL.mk 3 u.DS u.dy)).set b.toNat (AL.mk aa.dh d aa.dy))) 0
else
if c==17 then(gt e.Aj d).bind λab=>(gt a.AK ab.dn).bind λaz=>(gt a.AB b).bind λv=>(gt (a.AB.set b.toNat (AL.mk 2 v.DS v.dy)) b).bind λac=>J5 (AP.mk (a.AK.set ab.dn.toNat (AQ.mk b az.Ae)) a.Tx a.Bs ((a.AB.set b.toNat (AL.mk 2 v.DS v.dy)).set b.toNat (AL.mk ac.dh 0 ac.dy))) 0
else
if c==18 then(C4 a d).bind λx=>if decide ((x.length:Int)>0)then(gt x 0).bind λba=>(HM x f).bind λay=>if ay then
J3 a f
else
J3 a ba
else
J5 a (-1)
else
if c==19 then(C4 a d).bind λi=>AU i BQ a 0
else
if c==20 then(gt a.AB d).bind λai=>J5 (AP.mk a.AK a.Tx a.Bs (a.AB.set d.toNat (AL.mk 1 ai.DS ai.dy))) 0
else
if c==22 then(gt a.Bs d).bind λbe=>J5 (AP.mk a.AK a.Tx (a.Bs.set d.toNat true) a.AB) 0
else
J5 a 0
def J1(c d b:Int)(a:AP)(f:Int)(e:AG)(q:Bool):=if q then(gt a.AK d).bind λbb=>J5 (AP.mk (a.AK.set d.toNat (AQ.mk b bb.Ae)) a.Tx a.Bs a.AB) 0
else
if c==7 then
J2 c d b a f e (c==7)
else
J2 c d b a f e (c==11)
end Dm
section
open Dm
def Dm(e:AG)(o:AP)(b c d f:Int):=(Cs e o b c d).bind λav=>if !av then
some ((AP.mk [] 0 [] []),0,false)
else(Gr o).bind λa=>if c==1 then(gt a.AB b).bind λy=>J5 (AP.mk a.AK a.Tx a.Bs (a.AB.set b.toNat (AL.mk 2 y.DS y.dy))) 0
else
if c==2 then(gt a.AB b).bind λz=>J5 (AP.mk a.AK a.Tx a.Bs (a.AB.set b.toNat (AL.mk 5 z.DS z.dy))) 0
else
if c==6 then
J1 c d b a f e (c==6)
else
J1 c d b a f e (c==10)
def RC{e:AG}{o:AP}{b c d f:Int}{r:lu}(h:Dm e o b c d f=some r):Says prog 106 [.agg (A0 e),.agg (HI o),si b,si c,si d,si f] (.Bp [.agg (I9 r.1),si r.2.1,sb r.2.2]):=by refine wO mix func106 (I:=⟨f106c,f106g,f106r⟩) ?_;simp only[f106c,f106g,f106r];have a1:=@Of;have a2:=@Sx;have a3:=@RA;have a4:=@Wj;have a5:=@Og;have a6:=@PY;have l1:=iJ λn a=>∃i j l,(a 7=bA 4 (I9 j)/\a 12=bA 4 z6/\a 18=vO 1 eI i/\a 19=si l)/\AU i n j l=some r;have c5:=iR 5 λa=>∃p t,(a 7=bA 4 (I9 p)/\a 12=bA 4 z6/\a 15=si t)/\J5 p t=some r;have c2:=iR 2 λg=>∃a s,(g 2=si b/\g 4=si d/\g 5=si f/\g 6=bA 6 (A0 e)/\g 7=bA 4 (I9 a)/\g 12=bA 4 z6/\g 15=si 0/\g 30=si c/\g 54=sb s)/\J2 c d b a f e s=some r;have c1:=iR 1 λg=>∃a q,(g 2=si b/\g 4=si d/\g 5=si f/\g 6=bA 6 (A0 e)/\g 7=bA 4 (I9 a)/\g 12=bA 4 z6/\g 15=si 0/\g 30=si c/\g 45=sb q)/\J1 c d b a f e q=some r;unfold Dm at h;exact walk
end
namespace Ap
def J6:=some true
def J5(L1:i6)(b:Int):=L1 (A9 (b+1))
def L2(L1:i6)(a:BI)(b:Int)(f:iT)(L2:i6)(i:Int):=if decide (i<(f.length:Int))then(gt f i).bind λab=>(EC ab a.Dk).bind λy=>if !y then
some false
else
L2 (A9 (i+1))
else
J5 L1 b
def B9(L1:i6)(a:BI)(b:Int)(f:iT):Nat->Int->ABm Bool
|0,_=>none
|n+1,i=>L2 L1 a b f (B9 L1 a b f n) i
def J4(L1:i6)(a:BI)(b:Int)(c:An)(l:Bool):=if l then
some false
else(Aw c).bind λf=>B9 L1 a b f BQ 0
def J3(L1:i6)(a:BI)(b:Int)(c:An)(j:Bool):=if j then
some false
else
if c.Op==5 then(EC c.A (a.Cq.length:Int)).bind λv=>if !v then
J4 L1 a b c true
else
if c.Op==10 then(EC c.B (a.Cq.length:Int)).bind λw=>J4 L1 a b c (!w)
else
J4 L1 a b c false
else
if c.Op==10 then(EC c.B (a.Cq.length:Int)).bind λx=>J4 L1 a b c (!x)
else
J4 L1 a b c false
def J2(L1:i6)(a:BI)(b e:Int)(d:AG)(c:An)(p:Bool):=if p then
some false
else
if c.Op==28 then
if c.d8 != (-1)then
J3 L1 a b c true
else
if c.Op != 28 then(EC c.d8 (d.Bu.length:Int)).bind λt=>if !t then
J3 L1 a b c true
else(gt d.Bu c.d8).bind λz=>J3 L1 a b c (z.cT != e)
else
J3 L1 a b c false
else
if c.Op != 28 then(EC c.d8 (d.Bu.length:Int)).bind λu=>if !u then
J3 L1 a b c true
else(gt d.Bu c.d8).bind λaa=>J3 L1 a b c (aa.cT != e)
else
J3 L1 a b c false
def L1(a:BI)(e:Int)(d:AG)(L1:i6)(b:Int):=if decide (b<(a.Cq.length:Int))then(gt a.Cq b).bind λc=>if decide (c.Op<1)then
J2 L1 a b e d c true
else
if decide (c.Op>28)then
J2 L1 a b e d c true
else
if !((c.Op==28)==(b==(A9 ((a.Cq.length:Int)-1))))then
J2 L1 a b e d c true
else(Ab d c).bind λq=>if !q then
J2 L1 a b e d c true
else(DH a.Cq b).bind λs=>J2 L1 a b e d c (!s)
else
J6
def AU(a:BI)(e:Int)(d:AG):Nat->Int->ABm Bool
|0,_=>none
|n+1,b=>L1 a e d (AU a e d n) b
def J1(a:BI)(e:Int)(d:AG)(o:Bool):=if o then
some false
else
AU a e d BQ 0
end Ap
section
open Ap
def Ap(d:AG)(e:Int)(a:BI):=if decide (a.Dk<0)then
J1 a e d true
else
if decide (a.Dk>32)then
J1 a e d true
else
J1 a e d ((a.Cq.length:Int)==0)
def Q9{d:AG}{e:Int}{a:BI}{r:Bool}(h:Ap d e a=some r):Says prog 179 [.agg (A0 d),si e,.agg (Cr a)] (sb r):=by refine kO mix func179 (hn [(3,[83,89]),(5,[12,15,19,32,62,135]),(9,[37,41,46,68,72,77,81,91,101,105,112,116]),(10,[126,131,133])] [(3,1),(12,2),(15,3),(18,4)]) ?_;have a1:=@KF;have a2:=@Q8;have a3:=@Wi;have a4:=@Zz;have l1:=iJ λn c=>∃b,(c 1=si e/\c 3=bA 6 (A0 d)/\c 5=bA 2 (Cr a)/\c 7=si (a.Cq.length:Int)/\c 8=si b)/\AU a e d n b=some r;have l2:=iy λc _ _ _ n g=>∃b f i,(g 1=si e/\g 3=bA 6 (A0 d)/\g 5=bA 2 (Cr a)/\g 7=si (a.Cq.length:Int)/\g 8=si b/\g 10=vO 1 eI f/\g 11=si i)/\B9 (AU a e d c) a b f n i=some r;have c4:=iz 4 λf _ _ _ g=>∃b c l,(g 1=si e/\g 3=bA 6 (A0 d)/\g 5=bA 2 (Cr a)/\g 7=si (a.Cq.length:Int)/\g 8=si b/\g 9=bA 6 (EX c)/\g 122=sb l)/\J4 (AU a e d f) a b c l=some r;have c3:=iz 3 λf _ _ _ g=>∃b c j,(g 1=si e/\g 3=bA 6 (A0 d)/\g 5=bA 2 (Cr a)/\g 7=si (a.Cq.length:Int)/\g 8=si b/\g 9=bA 6 (EX c)/\g 100=sb j)/\J3 (AU a e d f) a b c j=some r;have c2:=iz 2 λf _ _ _ g=>∃b c p,(g 1=si e/\g 3=bA 6 (A0 d)/\g 5=bA 2 (Cr a)/\g 7=si (a.Cq.length:Int)/\g 8=si b/\g 9=bA 6 (EX c)/\g 67=sb p)/\J2 (AU a e d f) a b e d c p=some r;have c1:=iR 1 λb=>∃o,(b 1=si e/\b 3=bA 6 (A0 d)/\b 5=bA 2 (Cr a)/\b 7=si (a.Cq.length:Int)/\b 26=sb o)/\J1 a e d o=some r;unfold Ap at h;exact walk
end
namespace A6
def OE:=some true
def J9(L3:i6)(b:Int):=L3 (A9 (b+1))
def J8(L3:i6)(b:Int)(s:Bool):=if s then
some false
else
J9 L3 b
def J7(L3:i6)(b:Int)(a:AG)(c:EF)(q:Bool):=if q then
if c.ew != 0 then
J8 L3 b true
else
if decide (b>0)then(gt a.Bu (A9 (b-1))).bind λy=>J8 L3 b (decide (y.cT>c.cT))
else
J8 L3 b false
else(gt a.Bu (A9 (b-1))).bind λz=>if c.ew != (A9 (z.ew+1))then
some false
else
J9 L3 b
def J6(L3:i6)(b:Int)(a:AG)(c:EF)(i:Bool):=if i then
some false
else
if b==0 then
J7 L3 b a c true
else(gt a.Bu (A9 (b-1))).bind λx=>J7 L3 b a c (x.cT != c.cT)
def L3(a:AG)(L3:i6)(b:Int):=if decide (b<(a.Bu.length:Int))then(gt a.Bu b).bind λc=>if decide (c.cT<0)then
J6 L3 b a c true
else
J6 L3 b a c (decide (c.cT>=(a.AB.length:Int)))
else
OE
def Fw(a:AG):Nat->Int->ABm Bool
|0,_=>none
|n+1,b=>L3 a (Fw a n) b
def J5(a:AG):=Fw a BQ 0
def J4(L2:i6)(f:Int)(p:Bool):=if p then
some false
else
L2 (A9 (f+1))
def L2(a:AG)(L2:i6)(f:Int):=if decide (f<(a.Aj.length:Int))then(gt a.Aj f).bind λl=>if decide (l.dn<0)then
J4 L2 f true
else
if decide (l.dn>=(a.AK.length:Int))then
J4 L2 f true
else(gt a.AK l.dn).bind λw=>J4 L2 f w.RW
else
J5 a
def B9(a:AG):Nat->Int->ABm Bool
|0,_=>none
|n+1,f=>L2 a (B9 a n) f
def J3(a:AG):=B9 a BQ 0
def J2(L1:i6)(d:Int)(t:Bool):=if t then
some false
else
L1 (A9 (d+1))
def L1(e:mz)(a:AG)(L1:i6)(d:Int):=if decide (d<(e.1.length:Int))then(gt e.1 d).bind λo=>(CU o).bind λu=>if !u then
J2 L1 d true
else
if 0<=d/\d.toNat<=e.1.length then(Cz (e.1.take d.toNat) o).bind λv=>J2 L1 d (decide (v>=0))
else none
else
J3 a
def AU(e:mz)(a:AG):Nat->Int->ABm Bool
|0,_=>none
|n+1,d=>L1 e a (AU e a n) d
def J1(a:AG)(j:Bool):=if j then
some false
else(Br a).bind λe=>if !e.2 then
some false
else
AU e a BQ 0
end A6
section
open A6
def A6(a:AG):=if decide ((a.dg.length:Int)>12)then
J1 a true
else
if decide ((a.AK.length:Int)>4)then
J1 a true
else
if decide ((a.Aj.length:Int)>2)then
J1 a true
else
if decide ((a.AM.length:Int)>2)then
J1 a true
else
if decide ((a.AB.length:Int)<1)then
J1 a true
else
if decide ((a.AB.length:Int)>4)then
J1 a true
else
J1 a (decide ((a.Bu.length:Int)>60))
def Je{a:AG}{r:Bool}(h:A6 a=some r):Says prog 50 [.agg (A0 a)] (sb r):=by refine kO mix func50 (hn [(1,[10,15,21,27,33,39,45,81,87,97,103,111,117,128,136,154,168]),(9,[122,126,143,147,161,166])] [(2,1),(30,6)]) ?_;have a1:=@Z0;have a2:=@Im;have a3:=@IX;have l3:=iJ λn c=>∃b,(c 1=bA 6 (A0 a)/\c 8=si b)/\Fw a n b=some r;have l2:=iJ λn b=>∃f,(b 1=bA 6 (A0 a)/\b 6=si f)/\B9 a n f=some r;have l1:=iJ λn b=>∃(e:mz)(d:Int),(b 1=bA 6 (A0 a)/\b 3=vS 1 eS e.1/\b 5=si d)/\AU e a n d=some r;have c6:=iz 6 λ_ _ d _ e=>∃b c i,(e 1=bA 6 (A0 a)/\e 8=si b/\e 9=bA 3 (GP c)/\e 132=sb i)/\J6 (Fw a d) b a c i=some r;have c1:=iR 1 λb=>∃j,(b 1=bA 6 (A0 a)/\b 49=sb j)/\J1 a j=some r;unfold A6 at h;exact walk
end
namespace EP
def J2(o:AE):ABm AE:=(Ba o).bind λt=>(Au t).bind λu=>some u
def L2(a:AF)(L2:jp)(e:AE)(c:Int):=if decide (c<(a.AA.length:Int))then(gt a.AA c).bind λi=>(Al e c i).bind λp=>(BB p c i).bind λq=>(Ad q c i).bind λs=>L2 s (A9 (c+1))
else
J2 e
def B9(a:AF):Nat->AE->Int->ABm AE
|0,_,_=>none
|n+1,e,c=>L2 a (B9 a n) e c
def J1(a:AF)(l:AE):=B9 a BQ l 0
def L1(a:AF)(L1:jp)(b:AE)(d:Int):=if decide (d<(a.AA.length:Int))then(gt a.AA d).bind λj=>(gt b.ef j.cT).bind λf=>if Aq (b.ep.length+1) 8=true then
if Aq (f.length+1) 8=true then
if 0<=(a.AA.length:Int)/\(a.AA.length:Int)<=(a.AA.length:Int)/\Aq a.AA.length 1=true then
if Aq (b.d7.length+1) 24=true then
L1 (AE.mk b.w (b.ef.set j.cT.toNat (f++[d])) (b.ep++[(f.length:Int)]) (b.d7++[List.replicate a.AA.length false])) (A9 (d+1))
else none
else none
else none
else none
else
J1 a b
def AU(a:AF):Nat->AE->Int->ABm AE
|0,_,_=>none
|n+1,b,d=>L1 a (AU a n) b d
end EP
section
open EP
def EP(a:AF):=if 0<=(a.db.AB.length:Int)/\(a.db.AB.length:Int)<=(a.db.AB.length:Int)/\Aq a.db.AB.length 24=true then
AU a BQ (AE.mk a (List.replicate a.db.AB.length ([]:List Int)) [] []) 0
else none
def Ss{a:AF}{r:AE}(h:EP a=some r):Says prog 75 [.agg (A5 a)] (bA 18 (Bf r)):=by refine kO mix func75 (hn [(1,[9,10,16,65,74]),(3,[2,24,25,26,27,28,29,30,31,32,35,36,40,41,42,43,44,45,48,49,50,51,54,55,59,60,61,62,63,64,71,72,82,86,90,95,97,99]),(5,[33,46,52])] (E:=[(5,(.drw (Jc [1,2,3,4,5,6,7,8,9,10,11,12,13,14] (.fork 0 15 (Jc [0,15,16,17,18] .leaf) (Jc [15,0,16,17,18] .leaf))) [i1 24 3 (.cp (.t 3)),i1 25 3 (.cp (.t 3)),i1 26 3 (.I6 (.t 25)),KK 27 3 16 26,Un 28 3 27,i1 29 3 (.cp (.t 3)),i1 30 3 (.I6 (.t 29)),KK 31 3 15 30,Un 32 3 31,KK 33 5 0 5,iL 34 33,qK 35 3 1 32 34,Un 36 3 35,iZ 37 36,i0 38 (.Ot 1 [[si 0]] [(0,.t 37)]),i0 39 (.app 1 8 (.t 28) (.t 38)),i1 40 3 (.I6 (.t 24)),KK 41 3 16 40,iS 1 41 39])),(6,(.drw (Jc [4,5,6,7,8,9,10,11,12,13,14,15] (.fork 0 16 (Jc [0] (.fork 1 16 (Jc [1] (.fork 2 16 (Jc [2] (.fork 3 16 (Jc [3,16,17,18] .leaf) (Jc [16,3,17,18] .leaf))) (Jc [16,2,3,17,18] .leaf))) (Jc [16,1,2,3,17,18] .leaf))) (Jc [16,0,1,2,3,17,18] .leaf))) [i1 42 3 (.cp (.t 3)),i1 43 3 (.I6 (.t 42)),KK 44 3 15 43,Un 45 3 44,KK 46 5 0 5,iL 47 46,i1 48 3 (.cp (.t 3)),i1 49 3 (.I6 (.t 48)),KK 50 3 15 49,Un 51 3 50,KK 52 5 0 5,iL 53 52,qK 54 3 1 51 53,Un 55 3 54,iC 56 4,i0 57 (.Ot 1 [[si 0]] [(0,.t 56)]),i0 58 (.app 1 8 (.t 55) (.t 57)),qK 59 3 1 45 47,iS 1 59 58])),(7,(.drw (Jc [1,2,3,4,5,6,7,8,9] (.fork 0 10 (Jc [0,10,11,12,13] .leaf) (Jc [10,0,11,12,13] .leaf))) [i1 60 3 (.cp (.t 3)),i1 61 3 (.cp (.t 3)),i1 62 3 (.I6 (.t 61)),KK 63 3 17 62,Un 64 3 63,KK 65 1 14 1,iL 66 65,iZ 67 66,i0 68 (.mk 1 1 [sb false] (.t 67) (.t 67)),i0 69 (.Ot 1 [z15] [(0,.t 68)]),i0 70 (.app 1 24 (.t 64) (.t 69)),i1 71 3 (.I6 (.t 60)),KK 72 3 17 71,iS 1 72 70]))])) ?_;have a1:=@QJ;have a2:=@PN;have a3:=@N0;have a4:=@PO;have a5:=@NQ;have l2:=iJ λn b=>∃e c,(b 3=bA 18 (Bf e)/\b 75=vS 7 Am a.AA/\b 76=si (a.AA.length:Int)/\b 77=si c)/\B9 a n e c=some r;have l1:=iJ λn c=>∃b d,(c 1=bA 15 (A5 a)/\c 3=bA 18 (Bf b)/\c 17=vS 7 Am a.AA/\c 18=si (a.AA.length:Int)/\c 19=si d)/\AU a n b d=some r;unfold EP at h;exact walk
end
namespace DN
def J3:=some true
def L1(R100:nq)(a:BU)(L1:i6)(b:Int):=if decide (b<(a.L.length:Int))then(gt a.L b).bind λj=>(R100 j).bind λi=>if !i then
some false
else
L1 (A9 (b+1))
else
J3
def AU(R100:nq)(a:BU):Nat->Int->ABm Bool
|0,_=>none
|n+1,b=>L1 R100 a (AU R100 a n) b
def J2(R100:nq)(a:BU)(d:Bool):=if d then
some false
else
AU R100 a BQ 0
def J1(R100:nq)(a:BU)(c:Bool):=(FB a.Op).bind λe=>if e != (a.L.length:Int)then
J2 R100 a true
else
if !(c==(!(a.dq.toList==(⟨#[]⟩:ABn).toList)))then
J2 R100 a true
else
if c then(CU a.dq).bind λf=>if !f then
J2 R100 a true
else
if decide (a.N<0)then
J2 R100 a true
else
if a.Op != 1 then
J2 R100 a (a.N != 0)
else
J2 R100 a false
else
if decide (a.N<0)then
J2 R100 a true
else
if a.Op != 1 then
J2 R100 a (a.N != 0)
else
J2 R100 a false
end DN
variable{f:nq}{a:BU}{d:Bool}
section
open DN
def DN(R100:nq)(a:BU):=if a.Op==2 then
J1 R100 a true
else
J1 R100 a (a.Op==3)
theorem SX(H100:∀{x0 d},f x0=some d->Says prog 277 [.agg [si x0.Op,si x0.N,B0 x0.dq,vS 4 BT x0.L]] (sb d))(h:DN f a=some d):Says prog 277 [.agg [si a.Op,si a.N,B0 a.dq,vS 4 BT a.L]] (sb d):=by refine kO mix func277 (hn [(1,[5,9,13,16,22,30,37,42,46,52,58])] [(1,1),(3,2)]) ?_;have a1:=@H100;have a2:=@VK;have a3:=@Im;have l1:=iJ λn c=>∃b,(c 1=bA 4 [si a.Op,si a.N,B0 a.dq,vS 4 BT a.L]/\c 4=si b)/\AU f a n b=some d;have c2:=iR 2 λb=>∃r,(b 1=bA 4 [si a.Op,si a.N,B0 a.dq,vS 4 BT a.L]/\b 50=sb r)/\J2 f a r=some d;have c1:=iR 1 λb=>∃c,(b 1=bA 4 [si a.Op,si a.N,B0 a.dq,vS 4 BT a.L]/\b 3=sb c)/\J1 f a c=some d;unfold DN at h;exact walk
end
def Nh:Nat->(BU->ABm Bool)
|0=>(λ_=>none)
|n+1=>DN ((Nh n))
def D3(n:Nat):BU->ABm Bool:=(Nh n)
theorem Q4(n:Nat):(∀{x0 r},(D3 n) x0=some r->Says prog 277 [.agg [si x0.Op,si x0.N,B0 x0.dq,vS 4 BT x0.L]] (sb r)):=by induction n with|zero=>exactλh=>Cy h|succ n ih=>exactλh=>SX ih h
def Lg{n:Nat}:∀{x0 r},(D3 n) x0=some r->Says prog 277 [.agg [si x0.Op,si x0.N,B0 x0.dq,vS 4 BT x0.L]] (sb r):=(Q4 n)
namespace Fi
def J3(i:Int):ABm Int:=some i
def J2(L1:mr)(R100:lw)(a:BU)(d:Int)(b:Aa)(e c:Int)(j:Bool):=if j then(gt a.L d).bind λq=>(R100 b c q).bind λp=>L1 p (A9 (d+1))
else
J3 e
def L1(R100:lw)(a:BU)(b:Aa)(c:Int)(L1:mr)(e d:Int):=if decide (d<(a.L.length:Int))then
J2 L1 R100 a d b e c (e==0)
else
J2 L1 R100 a d b e c false
def AU(R100:lw)(a:BU)(b:Aa)(c:Int):Nat->Int->Int->ABm Int
|0,_,_=>none
|n+1,e,d=>L1 R100 a b c (AU R100 a b c n) e d
def J1(R100:lw)(a:BU)(b:Aa)(c f:Int):=AU R100 a b c BQ f 0
end Fi
variable{g:lw}{e:Aa}{c b:Int}
section
open Fi
def Fi(R100:lw)(b:Aa)(c:Int)(a:BU):=if a.Op==2 then(Dr b c a.dq 8 1).bind λl=>J1 R100 a b c l
else
if a.Op==3 then(Dr b c a.dq 2 2).bind λo=>J1 R100 a b c o
else
J1 R100 a b c 0
theorem Zu(H100:∀{x0 x1 x2 b},g x0 x1 x2=some b->Says prog 281 [.agg (Cf x0),si x1,.agg [si x2.Op,si x2.N,B0 x2.dq,vS 4 BT x2.L]] (si b))(h:Fi g e c a=some b):Says prog 281 [.agg (Cf e),si c,.agg [si a.Op,si a.N,B0 a.dq,vS 4 BT a.L]] (si b):=by refine kO mix func281 (hn [(5,[9,15,22,26,38])] [(2,1)]) ?_;have a1:=@H100;have a2:=@Sv;have l1:=iJ λn f=>∃r d,(f 1=si c/\f 3=bA 2 (Cf e)/\f 5=bA 4 [si a.Op,si a.N,B0 a.dq,vS 4 BT a.L]/\f 7=si r/\f 8=si d)/\AU g a e c n r d=some b;have c1:=iR 1 λd=>∃f,(d 1=si c/\d 3=bA 2 (Cf e)/\d 5=bA 4 [si a.Op,si a.N,B0 a.dq,vS 4 BT a.L]/\d 7=si f)/\J1 g a e c f=some b;unfold Fi at h;exact walk
end
def VN:Nat->(Aa->Int->BU->ABm Int)
|0=>(λ_ _ _=>none)
|n+1=>Fi ((VN n))
def Kh(n:Nat):Aa->Int->BU->ABm Int:=(VN n)
theorem Xv(n:Nat):(∀{x0 x1 x2 r},(Kh n) x0 x1 x2=some r->Says prog 281 [.agg (Cf x0),si x1,.agg [si x2.Op,si x2.N,B0 x2.dq,vS 4 BT x2.L]] (si r)):=by induction n with|zero=>exactλh=>Cy h|succ n ih=>exactλh=>Zu ih h
def Xw{n:Nat}:∀{x0 x1 x2 r},(Kh n) x0 x1 x2=some r->Says prog 281 [.agg (Cf x0),si x1,.agg [si x2.Op,si x2.N,B0 x2.dq,vS 4 BT x2.L]] (si r):=(Xv n)
namespace E3
def J3:ABm (AN×Bool):=some ((AN.mk 0 [] [] 0),false)
def J2(L1:AN->Int->ABm (AN×Bool))(a:BI)(c:Int)(b:AN)(f:Bool):=if f then
some ((AN.mk 0 [] [] 0),false)
else(gt a.Cq b.PC).bind λj=>(G8 j.Op).bind λo=>if !o then
some (b,true)
else
if c==(a.Cq.length:Int)then
some ((AN.mk 0 [] [] 0),false)
else(GO j b).bind λi=>if !i.2 then
some ((AN.mk 0 [] [] 0),false)
else
L1 i.1 (A9 (c+1))
def L1(a:BI)(L1:AN->Int->ABm (AN×Bool))(b:AN)(c:Int):=if decide (c<=(a.Cq.length:Int))then
if decide (b.PC<0)then
J2 L1 a c b true
else
J2 L1 a c b (decide (b.PC>=(a.Cq.length:Int)))
else
J3
def AU(a:BI):Nat->AN->Int->ABm (AN×Bool)
|0,_,_=>none
|n+1,b,c=>L1 a (AU a n) b c
def J1(a:BI)(d:AN)(e:Bool):=if e then
some ((AN.mk 0 [] [] 0),false)
else(G0 d).bind λl=>AU a BQ l 0
end E3
section
open E3
def E3(a:BI)(d:AN):=if(d.Dk.length:Int) != a.Dk then
J1 a d true
else
J1 a d ((d.Dq.length:Int) != a.Dk)
theorem X0{a:BI}{d:AN}{r:AN×Bool}(h:E3 a d=some r):Says prog 214 [.agg (Cr a),.agg (FN d)] (.Bp [.agg (CP r.1),sb r.2]):=by refine kO mix func214 (hn [(2,[13,20,28,40,46,58]),(3,[10,11,17,18,25,34,38,48,56,65]),(7,[52]),(8,[72]),(9,[69]),(66,[63,67,68])] [(2,1),(11,2)]) ?_;have a1:=@Sw;have a2:=@P1;have a3:=@dG;have l1:=iJ λn d=>∃b c,(d 2=bA 2 (Cr a)/\d 3=bA 4 (CP b)/\d 4=bA 4 z9/\d 6=si c)/\AU a n b c=some r;have c2:=iz 2 λd _ _ _ e=>∃c b f,(e 2=bA 2 (Cr a)/\e 3=bA 4 (CP b)/\e 4=bA 4 z9/\e 6=si c/\e 44=sb f)/\J2 (AU a d) a c b f=some r;have c1:=iR 1 λb=>∃e,(b 2=bA 2 (Cr a)/\b 3=bA 4 (FN d)/\b 4=bA 4 z9/\b 23=sb e)/\J1 a d e=some r;unfold E3 at h;exact walk
end
namespace B6
def J4(a:AG):ABm Bool:=(Cj a).bind λl=>some l
def L1(a:AG)(L1:i6)(b:Int):=if decide (b<(a.Aj.length:Int))then(gt a.Aj b).bind λo=>(GU a o.dn false).bind λj=>if !j then
some false
else
L1 (A9 (b+1))
else
J4 a
def AU(a:AG):Nat->Int->ABm Bool
|0,_=>none
|n+1,b=>L1 a (AU a n) b
def J3(a:AG)(e:Bool):=if e then
some false
else
AU a BQ 0
def J2(a:AG)(d:Bool):=if d then
some false
else(Ah a.dg).bind λf=>if !f.2 then
J3 a true
else(BZ a f.1).bind λi=>J3 a (!i)
def J1(a:AG)(c:Bool):=if c then
some false
else
if decide ((a.AB.length:Int)<1)then
J2 a true
else
J2 a (decide ((a.AB.length:Int)>4))
end B6
section
open B6
def B6(a:AG):=if decide ((a.dg.length:Int)>12)then
J1 a true
else
if decide ((a.AK.length:Int)>4)then
J1 a true
else
if decide ((a.Aj.length:Int)>2)then
J1 a true
else
if decide ((a.AM.length:Int)>2)then
J1 a true
else
J1 a (decide ((a.Bu.length:Int)>60))
theorem QD{a:AG}{r:Bool}(h:B6 a=some r):Says prog 43 [.agg (A0 a)] (sb r):=by refine kO mix func43 (hn [(1,[7,12,18,24,30,35,40,46,59]),(3,[55]),(4,[51]),(6,[67]),(48,[45,49,50])] [(2,1),(5,2),(9,3)]) ?_;have a1:=@QE;have a2:=@QG;have a3:=@UW;have a4:=@QF;have l1:=iJ λn c=>∃b,(c 1=bA 6 (A0 a)/\c 60=vS 2 ID a.Aj/\c 61=si (a.Aj.length:Int)/\c 62=si b)/\AU a n b=some r;have c3:=iR 3 λb=>∃e,(b 1=bA 6 (A0 a)/\b 58=sb e)/\J3 a e=some r;have c2:=iR 2 λb=>∃d,(b 1=bA 6 (A0 a)/\b 44=sb d)/\J2 a d=some r;have c1:=iR 1 λb=>∃c,(b 1=bA 6 (A0 a)/\b 34=sb c)/\J1 a c=some r;unfold B6 at h;exact walk
end
namespace Dj
def J3(d:Bool):ABm Bool:=some d
def J2(a:E1)(c:Bool):=if c then
some false
else
if decide (a.de>(-9223372036854775808))then
if a.de==0 then
J3 true
else
if a.da==1 then
J3 true
else
J3 (a.da==2)
else
J3 false
def J1(a:E1)(b:Bool):=if b then
some false
else
if a.da==5 then(CU a.On).bind λf=>if !f then
J2 a true
else
if a.da != 5 then
J2 a (!(a.On.toList==(⟨#[]⟩:ABn).toList))
else
J2 a false
else
if a.da != 5 then
J2 a (!(a.On.toList==(⟨#[]⟩:ABn).toList))
else
J2 a false
end Dj
section
open Dj
def Dj(a:E1):=if decide (a.da<1)then
J1 a true
else
if decide (a.da>6)then
J1 a true
else(CU a.dq).bind λe=>if !e then
J1 a true
else
if decide (a.Ca<0)then
J1 a true
else
if a.da != 1 then
J1 a (a.Ca != 0)
else
J1 a false
theorem SZ{a:E1}{r:Bool}(h:Dj a=some r):Says prog 244 [.agg (Kb a)] (sb r):=by refine kO mix func244 (hn [(1,[3,7,12,18,23,27,32,36,42,46,51,55,59,64])] [(2,1),(5,2)]) ?_;have a1:=@Im;have c2:=iR 2 λb=>∃c,(b 1=bA 6 (Kb a)/\b 50=sb c)/\J2 a c=some r;have c1:=iR 1 λc=>∃b,(c 1=bA 6 (Kb a)/\c 31=sb b)/\J1 a b=some r;unfold Dj at h;exact walk
end
namespace D1
def J2(j:Bool):ABm Bool:=some j
def J3(l:Bool):ABm Bool:=some l
def J1(b c:Int)(d:AP)(e:Int)(a:AG)(f:Bool):=if f then
some false
else(gt d.AB e).bind λi=>if b==1 then
some (i.dh==1)
else
if b==17 then
if i.dh==4 then
if i.DS==c then(gt a.Aj c).bind λt=>(gt d.AK t.dn).bind λu=>J2 (u.Bw==(-1))
else
J2 false
else
J2 false
else
if i.dh==2 then(EZ a d e b c).bind λs=>J3 s
else
J3 false
end D1
section
open D1
def D1(a:AG)(d:AP)(e b c:Int):=(Em a d).bind λo=>if !o then
J1 b c d e a true
else(De e (a.AB.length:Int)).bind λp=>if !p then
J1 b c d e a true
else(Cg a b c).bind λq=>J1 b c d e a (!q)
theorem Nd{a:AG}{d:AP}{e b c:Int}{r:Bool}(h:D1 a d e b c=some r):Says prog 146 [.agg (A0 a),.agg (HI d),si e,si b,si c] (sb r):=by refine kO mix func146 (hn [(5,[18,56]),(6,[31,54]),(11,[39,44,48,67])] [(2,1)]) ?_;have a1:=@Xm;have a2:=@M7;have a3:=@LF;have a4:=@U7;have c1:=iR 1 λg=>∃f,(g 2=si e/\g 3=si b/\g 4=si c/\g 5=bA 6 (A0 a)/\g 6=bA 4 (HI d)/\g 30=sb f)/\J1 b c d e a f=some r;unfold D1 at h;exact walk
end
namespace Ec
def J1:=some true
def L1(a b:je)(L1:i6)(c:Int):=if decide (c<(a.length:Int))then(gt a c).bind λe=>(gt b c).bind λf=>(Hu e f).bind λd=>if !d then
some false
else
L1 (A9 (c+1))
else
J1
def AU(a b:je):Nat->Int->ABm Bool
|0,_=>none
|n+1,c=>L1 a b (AU a b n) c
end Ec
section
open Ec
def Ec(a b:je):=if(a.length:Int) != (b.length:Int)then
some false
else
AU a b BQ 0
theorem Oi{a b:je}{r:Bool}(h:Ec a b=some r):Says prog 36 [vS 1 bR a,vS 1 bR b] (sb r):=by refine kO mix func36 hn ?_;have a1:=@S4;have l1:=iJ λn d=>∃c,(d 0=vS 1 bR a/\d 1=vS 1 bR b/\d 12=si (a.length:Int)/\d 13=si c)/\AU a b n c=some r;unfold Ec at h;exact walk
end
end Go.Abs
