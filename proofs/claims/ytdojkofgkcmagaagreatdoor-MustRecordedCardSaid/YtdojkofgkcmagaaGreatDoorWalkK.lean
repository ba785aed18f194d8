/- Go functions do what typed programs say. -/
import Derived.Test.YtdojkofgkcmagaaGreatDoorWalkG
import Derived.Test.YtdojkofgkcmagaaGreatDoorWalkH
import Derived.Test.YtdojkofgkcmagaaGreatDoorWalkI
import Derived.Shelf.Slices.SearchI
set_option linter.all false
namespace Go.Abs
open Go.Proofs Tryz
set_option maxRecDepth 1000000
set_option maxHeartbeats 4000000
def f106c:IC:=(Ra 12 [.b 6 [118,141] (.bx 6 (.t 0)),.b 7 [21,28,33,34,36,37,40,41,43,44,48,49,52,53,57,58,60,61,64,65,67,68,70,71,72,76,77,80,81,83,84,86,87,88,91,92,96,99,102,103,105,106,109,110,112,113,116,117,124,125,126,127,129,130,133,134,135,136,139,140,148,149,150,151,153,154,156,157,158,159,162,175,176,178,179,183,192,193,198,199,204,205,207,208,211,212,214,215] (.bx 4 (.t 1)),.o (.bx 4 (.c (.agg z5))),.K 13 0,.B 14 false]
(Sq (Ra 20 [.A 6 6,.y 7 (.ld true 4 (.t 7)),.C 2,.C 3,.C 4,.c 66 [20,21,22,23,24] 0,.N 25]
(Ci 26 (Rb 27 [.o (.To z5 []),.S 4 12 27,.K 13 0,.B 14 false])))
(Ra 28 [.y 7 (.ld true 4 (.t 7)),.c 118 [28] 2,.S 4 7 29]
(Ra 0 [.K 15 0]
(Nh 5 (Ra 30 [.C 3]
(Bk 0 (Ra 32 [.q 30 1 31]
(Cn 31 (Rc 33 [.m 7 3 7,.C 2,.J 7 3 34 35,.H 7 0 36,.T 37 2]) (Ra 39 [.q 30 2 38]
(Cn 38 (Rc 40 [.m 7 3 7,.C 2,.J 7 3 41 42,.H 7 0 43,.T 44 5]) (Nh 1 (Ra 46 [.q 30 6 45]
(Cn 45 .skip (Rc 47 [.q 30 10 45])))
(Cn 45 (Rc 48 [.m 7 0 7,.C 4,.C 2,.J 7 2 49 50,.H 7 0 52,.S 1 53 51]) (Nh 2 (Ra 55 [.q 30 7 54]
(Cn 54 .skip (Rc 56 [.q 30 11 54])))
(Cn 54 (Rc 57 [.m 7 0 7,.C 4,.J 7 2 58 59,.H 7 0 60,.T 61 (-1)]) (Ra 63 [.q 30 8 62]
(Cn 62 (Rc 64 [.m 7 0 7,.C 4,.m 7 0 7,.C 4,.J 7 2 68 69,.m 7 1 70,.C 2,.o (.Ox 1 [[si 0]] [(0,.t 73)]),.c 156 [72,74] 2,.J 7 2 65 66,.H 7 1 76,.S 1 77 75]) (Ra 79 [.q 30 9 78]
(Cn 78 (Rc 80 [.m 7 0 7,.C 4,.m 7 0 7,.C 4,.J 7 2 84 85,.m 7 1 86,.C 2,.c 157 [88,89] 2,.J 7 2 81 82,.H 7 1 91,.S 1 92 90]) (Ra 94 [.q 30 12 93]
(Cn 93 (Rc 95 [.C 2,.F 1 7,.S 1 96 95]) (Ra 98 [.q 30 13 97]
(Cn 97 (Rc 99 [.F 1 7,.T 99 (-1)]) (Ra 101 [.q 30 14 100]
(Cn 100 (Rc 102 [.m 7 3 7,.C 2,.J 7 3 103 104,.H 7 2 105,.x ⟨none,.st 1 (.t 106) (.c (sb true)),none⟩]) (Ra 108 [.q 30 15 107]
(Cn 107 (Rc 109 [.m 7 3 7,.C 2,.J 7 3 110 111,.H 7 2 112,.x ⟨none,.st 1 (.t 113) (.c (sb false)),none⟩]) (Ra 115 [.q 30 16 114]
(Cn 114 (Ra 116 [.m 7 0 7,.f 2 6,.C 4,.I 2 119 120,.U 1 121,.J 7 2 117 123,.H 7 0 124,.T 125 (-1)]
(Rc 126 [.F 3 7,.y 7 (.aR (.t 126)),.C 2,.F 3 7,.y 7 (.aR (.t 129)),.C 2,.C 4,.J 7 3 127 128,.H 7 0 133,.x ⟨none,.ZE (.t 134) (.c (si 3)),none⟩,.J 7 3 130 131,.H 7 1 135,.x ⟨none,.ZE (.t 136) (.t 132),none⟩])) (Ra 138 [.q 30 17 137]
(Cn 137 (Ra 139 [.m 7 0 7,.f 2 6,.C 4,.I 2 142 143,.U 1 144,.C 2,.J 7 2 140 146,.H 7 0 148,.S 1 149 147]
(Rc 150 [.F 3 7,.y 7 (.aR (.t 150)),.C 2,.F 3 7,.y 7 (.aR (.t 153)),.C 2,.J 7 3 151 152,.H 7 0 156,.x ⟨none,.ZE (.t 157) (.c (si 2)),none⟩,.J 7 3 154 155,.H 7 1 158,.x ⟨none,.ZE (.t 159) (.c (si 0)),none⟩])) (Ra 161 [.q 30 18 160]
(Cn 160 (Ra 162 [.y 7 (.ld true 4 (.t 7)),.C 4,.c 119 [162,163] 2,.b 16 [165,168,169,171] (.mv (.t 164))]
(Ra 0 [.K 15 (-1)]
(Ra 165 [.y 16 (.cp (.t 16)),.Z 165,.P .gtr 166 0]
(Ci 167 (Ra 168 [.y 16 (.cp (.t 16)),.y 16 (.Wu 1 (.t 168) (.c (si 0))),.L 169,.M 17 170]
(Sq (Ra 171 [.y 16 (.cp (.t 16)),.C 5,.c 65 [171,172] 0]
(Ci 173 (Rc 174 [.C 5,.M 17 174])))
(Ra 175 [.m 7 3 7,.C 17,.J 7 3 176 177,.H 7 0 178,.T 179 4]
(Rc 180 [.C 17,.M 15 180])))))))) (Ra 182 [.q 30 19 181]
(Cn 181 (Ra 183 [.y 7 (.ld true 4 (.t 7)),.C 4,.c 119 [183,184] 2,.b 18 [187,194,196,200] (.mv (.t 185))]
(Sq (Ra 0 [.K 19 0]
(Bl 1 (Sq (Ra 186 [.C 19,.y 18 (.cp (.t 18)),.Z 187,.O .lss 186 188]
(cX 189 1))
(Sq (Bk 2 (Rc 192 [.m 7 3 7,.y 18 (.cp (.t 18)),.C 19,.J 18 1 194 195,.L 196,.J 7 3 193 197,.H 7 0 198,.T 199 4]))
(Rc 190 [.C 19,.P .add 190 1,.M 19 191])))))
(Rc 200 [.y 18 (.cp (.t 18)),.Z 200,.M 15 201]))) (Ra 203 [.q 30 20 202]
(Cn 202 (Rc 204 [.m 7 3 7,.C 4,.J 7 3 205 206,.H 7 0 207,.T 208 1]) (Ra 210 [.q 30 22 209]
(Ci 209 (Rc 211 [.m 7 2 7,.C 4,.J 7 1 212 213,.x ⟨none,.st 1 (.t 214) (.c (sb true)),none⟩])))))))))))))))))))))))))))))))))))
(Rb 215 [.y 7 (.ld true 4 (.t 7)),.C 15,.S 4 12 215,.M 13 216,.B 14 true]))))))
def f106g:Gi:=⟨[(21,[7]),(28,[7]),(33,[7]),(34,[7]),(36,[7]),(37,[7]),(40,[7]),(41,[7]),(43,[7]),(44,[7]),(48,[7]),(49,[7]),(52,[7]),(53,[7]),(57,[7]),(58,[7]),(60,[7]),(61,[7]),(64,[7]),(65,[7]),(67,[7]),(68,[7]),(70,[7]),(71,[7]),(72,[7]),(76,[7]),(77,[7]),(80,[7]),(81,[7]),(83,[7]),(84,[7]),(86,[7]),(87,[7]),(88,[7]),(91,[7]),(92,[7]),(96,[7]),(99,[7]),(102,[7]),(103,[7]),(105,[7]),(106,[7]),(109,[7]),(110,[7]),(112,[7]),(113,[7]),(116,[7]),(117,[7]),(118,[6]),(124,[7]),(125,[7]),(126,[7]),(127,[7]),(129,[7]),(130,[7]),(133,[7]),(134,[7]),(135,[7]),(136,[7]),(139,[7]),(140,[7]),(141,[6]),(148,[7]),(149,[7]),(150,[7]),(151,[7]),(153,[7]),(154,[7]),(156,[7]),(157,[7]),(158,[7]),(159,[7]),(162,[7]),(165,[16]),(168,[16]),(169,[16]),(171,[16]),(175,[7]),(176,[7]),(178,[7]),(179,[7]),(183,[7]),(187,[18]),(192,[7]),(193,[7]),(194,[18]),(196,[18]),(198,[7]),(199,[7]),(200,[18]),(204,[7]),(205,[7]),(207,[7]),(208,[7]),(211,[7]),(212,[7]),(214,[7]),(215,[7])]⟩
def f106r:List RV:=[.cell 12 true 4,.tmp 13,.tmp 14]
namespace Du
def J5(p:AQ)(t:Int):ABi (AQ×Int×Bool):=some (p,t,true)
def J3(a:AQ)(w:Int):=(gt a.AA w).bind λad=>J5 (AQ.mk a.AK a.Tx a.Br (a.AA.set w.toNat (AM.mk 4 ad.D7 ad.d6))) w
def J4(i:i6)(au:AQ):=J5 au (i.length:Int)
def L1(i:i6)(L1:AQ->Int->ABi (AQ×Int×Bool))(j:AQ)(l:Int):=if decide (l<(i.length:Int))then(gt i l).bind λae=>(gt j.AA ae).bind λaf=>L1 (AQ.mk j.AK j.Tx j.Br (j.AA.set ae.toNat (AM.mk 4 af.D7 af.d6))) (A8 (l+1))
else
J4 i j
def AR(i:i6):Nat->AQ->Int->ABi (AQ×Int×Bool)
|0,_,_=>none
|n+1,j,l=>L1 i (AR i n) j l
def J2(c d b:Int)(a:AQ)(f:Int)(e:AG)(s:Bool):=if s then(gt a.AK d).bind λbc=>J5 (AQ.mk (a.AK.set d.toNat (AW.mk (-1) bc.Am)) a.Tx a.Br a.AA) 0
else
if c==8 then(gt a.AK d).bind λaj=>(En aj.Am [b]).bind λaw=>J5 (AQ.mk (a.AK.set d.toNat (AW.mk aj.B6 aw)) a.Tx a.Br a.AA) 0
else
if c==9 then(gt a.AK d).bind λal=>(Ep al.Am b).bind λax=>J5 (AQ.mk (a.AK.set d.toNat (AW.mk al.B6 ax)) a.Tx a.Br a.AA) 0
else
if c==12 then
J5 (AQ.mk a.AK b a.Br a.AA) 0
else
if c==13 then
J5 (AQ.mk a.AK (-1) a.Br a.AA) 0
else
if c==14 then(gt a.AA b).bind λao=>J5 (AQ.mk a.AK a.Tx a.Br (a.AA.set b.toNat (AM.mk ao.dm ao.D7 true))) 0
else
if c==15 then(gt a.AA b).bind λap=>J5 (AQ.mk a.AK a.Tx a.Br (a.AA.set b.toNat (AM.mk ap.dm ap.D7 false))) 0
else
if c==16 then(gt e.Al d).bind λaq=>(gt a.AK aq.dr).bind λbd=>(gt a.AA b).bind λu=>(gt (a.AA.set b.toNat (AM.mk 3 u.D7 u.d6)) b).bind λaa=>J5 (AQ.mk (a.AK.set aq.dr.toNat (AW.mk (-1) bd.Am)) a.Tx a.Br ((a.AA.set b.toNat (AM.mk 3 u.D7 u.d6)).set b.toNat (AM.mk aa.dm d aa.d6))) 0
else
if c==17 then(gt e.Al d).bind λab=>(gt a.AK ab.dr).bind λaz=>(gt a.AA b).bind λv=>(gt (a.AA.set b.toNat (AM.mk 2 v.D7 v.d6)) b).bind λac=>J5 (AQ.mk (a.AK.set ab.dr.toNat (AW.mk b az.Am)) a.Tx a.Br ((a.AA.set b.toNat (AM.mk 2 v.D7 v.d6)).set b.toNat (AM.mk ac.dm 0 ac.d6))) 0
else
if c==18 then(DD a d).bind λx=>if decide ((x.length:Int)>0)then(gt x 0).bind λba=>(HA x f).bind λay=>if ay then
J3 a f
else
J3 a ba
else
J5 a (-1)
else
if c==19 then(DD a d).bind λi=>AR i BQ a 0
else
if c==20 then(gt a.AA d).bind λai=>J5 (AQ.mk a.AK a.Tx a.Br (a.AA.set d.toNat (AM.mk 1 ai.D7 ai.d6))) 0
else
if c==22 then(gt a.Br d).bind λbe=>J5 (AQ.mk a.AK a.Tx (a.Br.set d.toNat true) a.AA) 0
else
J5 a 0
def J1(c d b:Int)(a:AQ)(f:Int)(e:AG)(q:Bool):=if q then(gt a.AK d).bind λbb=>J5 (AQ.mk (a.AK.set d.toNat (AW.mk b bb.Am)) a.Tx a.Br a.AA) 0
else
if c==7 then
J2 c d b a f e (c==7)
else
J2 c d b a f e (c==11)
end Du
section
open Du
def Du(e:AG)(o:AQ)(b c d f:Int):=(C2 e o b c d).bind λav=>if !av then
some ((AQ.mk [] 0 [] []),0,false)
else(GM o).bind λa=>if c==1 then(gt a.AA b).bind λy=>J5 (AQ.mk a.AK a.Tx a.Br (a.AA.set b.toNat (AM.mk 2 y.D7 y.d6))) 0
else
if c==2 then(gt a.AA b).bind λz=>J5 (AQ.mk a.AK a.Tx a.Br (a.AA.set b.toNat (AM.mk 5 z.D7 z.d6))) 0
else
if c==6 then
J1 c d b a f e (c==6)
else
J1 c d b a f e (c==10)
def NU{e:AG}{o:AQ}{b c d f:Int}{r:lr}(h:Du e o b c d f=some r):Says prog 106 [.agg (A5 e),.agg (Hq o),si b,si c,si d,si f] (.Bo [.agg (JV r.1),si r.2.1,sb r.2.2]):=by refine wO mix func106 (I:=⟨f106c,f106g,f106r⟩) ?_;simp only[f106c,f106g,f106r];have a1:=@Ll;have a2:=@Ls;have a3:=@Re;have a4:=@XH;have a5:=@Lm;have a6:=@Ms;have l1:=i4 λn a=>∃i j l,(a 7=bA 4 (JV j)/\a 12=bA 4 z5/\a 18=vO 1 eI i/\a 19=si l)/\AR i n j l=some r;have c5:=i5 5 λa=>∃p t,(a 7=bA 4 (JV p)/\a 12=bA 4 z5/\a 15=si t)/\J5 p t=some r;have c2:=i5 2 λg=>∃a s,(g 2=si b/\g 4=si d/\g 5=si f/\g 6=bA 6 (A5 e)/\g 7=bA 4 (JV a)/\g 12=bA 4 z5/\g 15=si 0/\g 30=si c/\g 54=sb s)/\J2 c d b a f e s=some r;have c1:=i5 1 λg=>∃a q,(g 2=si b/\g 4=si d/\g 5=si f/\g 6=bA 6 (A5 e)/\g 7=bA 4 (JV a)/\g 12=bA 4 z5/\g 15=si 0/\g 30=si c/\g 45=sb q)/\J1 c d b a f e q=some r;unfold Du at h;exact walk
end
namespace Ac
def J6:=some true
def J5(L1:ja)(b:Int):=L1 (A8 (b+1))
def L2(L1:ja)(a:BE)(b:Int)(f:i6)(L2:ja)(i:Int):=if decide (i<(f.length:Int))then(gt f i).bind λab=>(EE ab a.DH).bind λy=>if !y then
some false
else
L2 (A8 (i+1))
else
J5 L1 b
def Bs(L1:ja)(a:BE)(b:Int)(f:i6):Nat->Int->ABi Bool
|0,_=>none
|n+1,i=>L2 L1 a b f (Bs L1 a b f n) i
def J4(L1:ja)(a:BE)(b:Int)(c:Ak)(l:Bool):=if l then
some false
else(Af c).bind λf=>Bs L1 a b f BQ 0
def J3(L1:ja)(a:BE)(b:Int)(c:Ak)(j:Bool):=if j then
some false
else
if c.Op==5 then(EE c.A (a.CO.length:Int)).bind λv=>if !v then
J4 L1 a b c true
else
if c.Op==10 then(EE c.B (a.CO.length:Int)).bind λw=>J4 L1 a b c (!w)
else
J4 L1 a b c false
else
if c.Op==10 then(EE c.B (a.CO.length:Int)).bind λx=>J4 L1 a b c (!x)
else
J4 L1 a b c false
def J2(L1:ja)(a:BE)(b e:Int)(d:AG)(c:Ak)(p:Bool):=if p then
some false
else
if c.Op==28 then
if c.d7 != (-1)then
J3 L1 a b c true
else
if c.Op != 28 then(EE c.d7 (d.Bt.length:Int)).bind λt=>if !t then
J3 L1 a b c true
else(gt d.Bt c.d7).bind λz=>J3 L1 a b c (z.db != e)
else
J3 L1 a b c false
else
if c.Op != 28 then(EE c.d7 (d.Bt.length:Int)).bind λu=>if !u then
J3 L1 a b c true
else(gt d.Bt c.d7).bind λaa=>J3 L1 a b c (aa.db != e)
else
J3 L1 a b c false
def L1(a:BE)(e:Int)(d:AG)(L1:ja)(b:Int):=if decide (b<(a.CO.length:Int))then(gt a.CO b).bind λc=>if decide (c.Op<1)then
J2 L1 a b e d c true
else
if decide (c.Op>28)then
J2 L1 a b e d c true
else
if !((c.Op==28)==(b==(A8 ((a.CO.length:Int)-1))))then
J2 L1 a b e d c true
else(AO d c).bind λq=>if !q then
J2 L1 a b e d c true
else(Cf a.CO b).bind λs=>J2 L1 a b e d c (!s)
else
J6
def AR(a:BE)(e:Int)(d:AG):Nat->Int->ABi Bool
|0,_=>none
|n+1,b=>L1 a e d (AR a e d n) b
def J1(a:BE)(e:Int)(d:AG)(o:Bool):=if o then
some false
else
AR a e d BQ 0
end Ac
section
open Ac
def Ac(d:AG)(e:Int)(a:BE):=if decide (a.DH<0)then
J1 a e d true
else
if decide (a.DH>32)then
J1 a e d true
else
J1 a e d ((a.CO.length:Int)==0)
def RZ{d:AG}{e:Int}{a:BE}{r:Bool}(h:Ac d e a=some r):Says prog 179 [.agg (A5 d),si e,.agg (DB a)] (sb r):=by refine kO mix func179 (hn [(3,[83,89]),(5,[12,15,19,32,62,135]),(9,[37,41,46,68,72,77,81,91,101,105,112,116]),(10,[126,131,133])] [(3,1),(12,2),(15,3),(18,4)]) ?_;have a1:=@Kc;have a2:=@RY;have a3:=@XG;have a4:=@bW;have l1:=i4 λn c=>∃b,(c 1=si e/\c 3=bA 6 (A5 d)/\c 5=bA 2 (DB a)/\c 7=si (a.CO.length:Int)/\c 8=si b)/\AR a e d n b=some r;have l2:=iy λc _ _ _ n g=>∃b f i,(g 1=si e/\g 3=bA 6 (A5 d)/\g 5=bA 2 (DB a)/\g 7=si (a.CO.length:Int)/\g 8=si b/\g 10=vO 1 eI f/\g 11=si i)/\Bs (AR a e d c) a b f n i=some r;have c4:=iz 4 λf _ _ _ g=>∃b c l,(g 1=si e/\g 3=bA 6 (A5 d)/\g 5=bA 2 (DB a)/\g 7=si (a.CO.length:Int)/\g 8=si b/\g 9=bA 6 (Ew c)/\g 122=sb l)/\J4 (AR a e d f) a b c l=some r;have c3:=iz 3 λf _ _ _ g=>∃b c j,(g 1=si e/\g 3=bA 6 (A5 d)/\g 5=bA 2 (DB a)/\g 7=si (a.CO.length:Int)/\g 8=si b/\g 9=bA 6 (Ew c)/\g 100=sb j)/\J3 (AR a e d f) a b c j=some r;have c2:=iz 2 λf _ _ _ g=>∃b c p,(g 1=si e/\g 3=bA 6 (A5 d)/\g 5=bA 2 (DB a)/\g 7=si (a.CO.length:Int)/\g 8=si b/\g 9=bA 6 (Ew c)/\g 67=sb p)/\J2 (AR a e d f) a b e d c p=some r;have c1:=i5 1 λb=>∃o,(b 1=si e/\b 3=bA 6 (A5 d)/\b 5=bA 2 (DB a)/\b 7=si (a.CO.length:Int)/\b 26=sb o)/\J1 a e d o=some r;unfold Ac at h;exact walk
end
namespace A9
def OS:=some true
def J9(L3:ja)(b:Int):=L3 (A8 (b+1))
def J8(L3:ja)(b:Int)(s:Bool):=if s then
some false
else
J9 L3 b
def J7(L3:ja)(b:Int)(a:AG)(c:Eb)(q:Bool):=if q then
if c.eA != 0 then
J8 L3 b true
else
if decide (b>0)then(gt a.Bt (A8 (b-1))).bind λy=>J8 L3 b (decide (y.db>c.db))
else
J8 L3 b false
else(gt a.Bt (A8 (b-1))).bind λz=>if c.eA != (A8 (z.eA+1))then
some false
else
J9 L3 b
def J6(L3:ja)(b:Int)(a:AG)(c:Eb)(i:Bool):=if i then
some false
else
if b==0 then
J7 L3 b a c true
else(gt a.Bt (A8 (b-1))).bind λx=>J7 L3 b a c (x.db != c.db)
def L3(a:AG)(L3:ja)(b:Int):=if decide (b<(a.Bt.length:Int))then(gt a.Bt b).bind λc=>if decide (c.db<0)then
J6 L3 b a c true
else
J6 L3 b a c (decide (c.db>=(a.AA.length:Int)))
else
OS
def E3(a:AG):Nat->Int->ABi Bool
|0,_=>none
|n+1,b=>L3 a (E3 a n) b
def J5(a:AG):=E3 a BQ 0
def J4(L2:ja)(f:Int)(p:Bool):=if p then
some false
else
L2 (A8 (f+1))
def L2(a:AG)(L2:ja)(f:Int):=if decide (f<(a.Al.length:Int))then(gt a.Al f).bind λl=>if decide (l.dr<0)then
J4 L2 f true
else
if decide (l.dr>=(a.AK.length:Int))then
J4 L2 f true
else(gt a.AK l.dr).bind λw=>J4 L2 f w.RW
else
J5 a
def Bs(a:AG):Nat->Int->ABi Bool
|0,_=>none
|n+1,f=>L2 a (Bs a n) f
def J3(a:AG):=Bs a BQ 0
def J2(L1:ja)(d:Int)(t:Bool):=if t then
some false
else
L1 (A8 (d+1))
def L1(e:nd)(a:AG)(L1:ja)(d:Int):=if decide (d<(e.1.length:Int))then(gt e.1 d).bind λo=>(CZ o).bind λu=>if !u then
J2 L1 d true
else
if 0<=d/\d.toNat<=e.1.length then(Cv (e.1.take d.toNat) o).bind λv=>J2 L1 d (decide (v>=0))
else none
else
J3 a
def AR(e:nd)(a:AG):Nat->Int->ABi Bool
|0,_=>none
|n+1,d=>L1 e a (AR e a n) d
def J1(a:AG)(j:Bool):=if j then
some false
else(Bv a).bind λe=>if !e.2 then
some false
else
AR e a BQ 0
end A9
section
open A9
def A9(a:AG):=if decide ((a.di.length:Int)>12)then
J1 a true
else
if decide ((a.AK.length:Int)>4)then
J1 a true
else
if decide ((a.Al.length:Int)>2)then
J1 a true
else
if decide ((a.AL.length:Int)>2)then
J1 a true
else
if decide ((a.AA.length:Int)<1)then
J1 a true
else
if decide ((a.AA.length:Int)>4)then
J1 a true
else
J1 a (decide ((a.Bt.length:Int)>60))
def KF{a:AG}{r:Bool}(h:A9 a=some r):Says prog 50 [.agg (A5 a)] (sb r):=by refine kO mix func50 (hn [(1,[10,15,21,27,33,39,45,81,87,97,103,111,117,128,136,154,168]),(9,[122,126,143,147,161,166])] [(2,1),(30,6)]) ?_;have a1:=@bX;have a2:=@JE;have a3:=@I0;have l3:=i4 λn c=>∃b,(c 1=bA 6 (A5 a)/\c 8=si b)/\E3 a n b=some r;have l2:=i4 λn b=>∃f,(b 1=bA 6 (A5 a)/\b 6=si f)/\Bs a n f=some r;have l1:=i4 λn b=>∃(e:nd)(d:Int),(b 1=bA 6 (A5 a)/\b 3=vS 1 eS e.1/\b 5=si d)/\AR e a n d=some r;have c6:=iz 6 λ_ _ d _ e=>∃b c i,(e 1=bA 6 (A5 a)/\e 8=si b/\e 9=bA 3 (G9 c)/\e 132=sb i)/\J6 (E3 a d) b a c i=some r;have c1:=i5 1 λb=>∃j,(b 1=bA 6 (A5 a)/\b 49=sb j)/\J1 a j=some r;unfold A9 at h;exact walk
end
namespace Ej
def J2(o:AF):ABi AF:=(Bf o).bind λt=>(Ax t).bind λu=>some u
def L2(a:AE)(L2:jr)(e:AF)(c:Int):=if decide (c<(a.AB.length:Int))then(gt a.AB c).bind λi=>(Au e c i).bind λp=>(BF p c i).bind λq=>(Ai q c i).bind λs=>L2 s (A8 (c+1))
else
J2 e
def Bs(a:AE):Nat->AF->Int->ABi AF
|0,_,_=>none
|n+1,e,c=>L2 a (Bs a n) e c
def J1(a:AE)(l:AF):=Bs a BQ l 0
def L1(a:AE)(L1:jr)(b:AF)(d:Int):=if decide (d<(a.AB.length:Int))then(gt a.AB d).bind λj=>(gt b.ej j.db).bind λf=>if Ap (b.ew.length+1) 8=true then
if Ap (f.length+1) 8=true then
if 0<=(a.AB.length:Int)/\(a.AB.length:Int)<=(a.AB.length:Int)/\Ap a.AB.length 1=true then
if Ap (b.d9.length+1) 24=true then
L1 (AF.mk b.w (b.ej.set j.db.toNat (f++[d])) (b.ew++[(f.length:Int)]) (b.d9++[List.replicate a.AB.length false])) (A8 (d+1))
else none
else none
else none
else none
else
J1 a b
def AR(a:AE):Nat->AF->Int->ABi AF
|0,_,_=>none
|n+1,b,d=>L1 a (AR a n) b d
end Ej
section
open Ej
def Ej(a:AE):=if 0<=(a.dc.AA.length:Int)/\(a.dc.AA.length:Int)<=(a.dc.AA.length:Int)/\Ap a.dc.AA.length 24=true then
AR a BQ (AF.mk a (List.replicate a.dc.AA.length ([]:List Int)) [] []) 0
else none
def fL{a:AE}{r:AF}(h:Ej a=some r):Says prog 75 [.agg (Av a)] (bA 18 (Bw r)):=by refine kO mix func75 (hn [(1,[9,10,16,65,74]),(3,[2,24,25,26,27,28,29,30,31,32,35,36,40,41,42,43,44,45,48,49,50,51,54,55,59,60,61,62,63,64,71,72,82,86,90,95,97,99]),(5,[33,46,52])] (E:=[(5,(.drw (Kj [1,2,3,4,5,6,7,8,9,10,11,12,13,14] (.fork 0 15 (Kj [0,15,16,17,18] .leaf) (Kj [15,0,16,17,18] .leaf))) [i1 24 3 (.cp (.t 3)),i1 25 3 (.cp (.t 3)),i1 26 3 (.JQ (.t 25)),Ko 27 3 16 26,We 28 3 27,i1 29 3 (.cp (.t 3)),i1 30 3 (.JQ (.t 29)),Ko 31 3 15 30,We 32 3 31,Ko 33 5 0 5,iL 34 33,xN 35 3 1 32 34,We 36 3 35,iZ 37 36,i0 38 (.Ox 1 [[si 0]] [(0,.t 37)]),i0 39 (.app 1 8 (.t 28) (.t 38)),i1 40 3 (.JQ (.t 24)),Ko 41 3 16 40,iS 1 41 39])),(6,(.drw (Kj [4,5,6,7,8,9,10,11,12,13,14,15] (.fork 0 16 (Kj [0] (.fork 1 16 (Kj [1] (.fork 2 16 (Kj [2] (.fork 3 16 (Kj [3,16,17,18] .leaf) (Kj [16,3,17,18] .leaf))) (Kj [16,2,3,17,18] .leaf))) (Kj [16,1,2,3,17,18] .leaf))) (Kj [16,0,1,2,3,17,18] .leaf))) [i1 42 3 (.cp (.t 3)),i1 43 3 (.JQ (.t 42)),Ko 44 3 15 43,We 45 3 44,Ko 46 5 0 5,iL 47 46,i1 48 3 (.cp (.t 3)),i1 49 3 (.JQ (.t 48)),Ko 50 3 15 49,We 51 3 50,Ko 52 5 0 5,iL 53 52,xN 54 3 1 51 53,We 55 3 54,iC 56 4,i0 57 (.Ox 1 [[si 0]] [(0,.t 56)]),i0 58 (.app 1 8 (.t 55) (.t 57)),xN 59 3 1 45 47,iS 1 59 58])),(7,(.drw (Kj [1,2,3,4,5,6,7,8,9] (.fork 0 10 (Kj [0,10,11,12,13] .leaf) (Kj [10,0,11,12,13] .leaf))) [i1 60 3 (.cp (.t 3)),i1 61 3 (.cp (.t 3)),i1 62 3 (.JQ (.t 61)),Ko 63 3 17 62,We 64 3 63,Ko 65 1 14 1,iL 66 65,iZ 67 66,i0 68 (.mk 1 1 [sb false] (.t 67) (.t 67)),i0 69 (.Ox 1 [z15] [(0,.t 68)]),i0 70 (.app 1 24 (.t 64) (.t 69)),i1 71 3 (.JQ (.t 60)),Ko 72 3 17 71,iS 1 72 70]))])) ?_;have a1:=@Qi;have a2:=@Pr;have a3:=@Oc;have a4:=@Ps;have a5:=@Nj;have l2:=i4 λn b=>∃e c,(b 3=bA 18 (Bw e)/\b 75=vS 7 Aw a.AB/\b 76=si (a.AB.length:Int)/\b 77=si c)/\Bs a n e c=some r;have l1:=i4 λn c=>∃b d,(c 1=bA 15 (Av a)/\c 3=bA 18 (Bw b)/\c 17=vS 7 Aw a.AB/\c 18=si (a.AB.length:Int)/\c 19=si d)/\AR a n b d=some r;unfold Ej at h;exact walk
end
namespace C1
def J3:=some true
def L1(R100:ny)(a:Ba)(L1:ja)(b:Int):=if decide (b<(a.L.length:Int))then(gt a.L b).bind λj=>(R100 j).bind λi=>if !i then
some false
else
L1 (A8 (b+1))
else
J3
def AR(R100:ny)(a:Ba):Nat->Int->ABi Bool
|0,_=>none
|n+1,b=>L1 R100 a (AR R100 a n) b
def J2(R100:ny)(a:Ba)(d:Bool):=if d then
some false
else
AR R100 a BQ 0
def J1(R100:ny)(a:Ba)(c:Bool):=(Ek a.Op).bind λe=>if e != (a.L.length:Int)then
J2 R100 a true
else
if !(c==(!(a.dv.toList==(⟨#[]⟩:ABj).toList)))then
J2 R100 a true
else
if c then(CZ a.dv).bind λf=>if !f then
J2 R100 a true
else
if decide (a.N<0)then
J2 R100 a true
else
if a.Op != 1 then
J2 R100 a (a.N != 0)
else
J2 R100 a false
else
if decide (a.N<0)then
J2 R100 a true
else
if a.Op != 1 then
J2 R100 a (a.N != 0)
else
J2 R100 a false
end C1
variable{f:ny}{a:Ba}{d:Bool}
section
open C1
def C1(R100:ny)(a:Ba):=if a.Op==2 then
J1 R100 a true
else
J1 R100 a (a.Op==3)
theorem S4(H100:∀{x0 d},f x0=some d->Says prog 277 [.agg [si x0.Op,si x0.N,B4 x0.dv,vS 4 Bc x0.L]] (sb d))(h:C1 f a=some d):Says prog 277 [.agg [si a.Op,si a.N,B4 a.dv,vS 4 Bc a.L]] (sb d):=by refine kO mix func277 (hn [(1,[5,9,13,16,22,30,37,42,46,52,58])] [(1,1),(3,2)]) ?_;have a1:=@H100;have a2:=@Vm;have a3:=@JE;have l1:=i4 λn c=>∃b,(c 1=bA 4 [si a.Op,si a.N,B4 a.dv,vS 4 Bc a.L]/\c 4=si b)/\AR f a n b=some d;have c2:=i5 2 λb=>∃r,(b 1=bA 4 [si a.Op,si a.N,B4 a.dv,vS 4 Bc a.L]/\b 50=sb r)/\J2 f a r=some d;have c1:=i5 1 λb=>∃c,(b 1=bA 4 [si a.Op,si a.N,B4 a.dv,vS 4 Bc a.L]/\b 3=sb c)/\J1 f a c=some d;unfold C1 at h;exact walk
end
def OH:Nat->(Ba->ABi Bool)
|0=>(λ_=>none)
|n+1=>C1 ((OH n))
def Dk(n:Nat):Ba->ABi Bool:=(OH n)
theorem RS(n:Nat):(∀{x0 r},(Dk n) x0=some r->Says prog 277 [.agg [si x0.Op,si x0.N,B4 x0.dv,vS 4 Bc x0.L]] (sb r)):=by induction n with|zero=>exactλh=>DT h|succ n ih=>exactλh=>S4 ih h
def MJ{n:Nat}:∀{x0 r},(Dk n) x0=some r->Says prog 277 [.agg [si x0.Op,si x0.N,B4 x0.dv,vS 4 Bc x0.L]] (sb r):=(RS n)
namespace El
def J3(i:Int):ABi Int:=some i
def J2(L1:m8)(R100:mc)(a:Ba)(d:Int)(b:AY)(e c:Int)(j:Bool):=if j then(gt a.L d).bind λq=>(R100 b c q).bind λp=>L1 p (A8 (d+1))
else
J3 e
def L1(R100:mc)(a:Ba)(b:AY)(c:Int)(L1:m8)(e d:Int):=if decide (d<(a.L.length:Int))then
J2 L1 R100 a d b e c (e==0)
else
J2 L1 R100 a d b e c false
def AR(R100:mc)(a:Ba)(b:AY)(c:Int):Nat->Int->Int->ABi Int
|0,_,_=>none
|n+1,e,d=>L1 R100 a b c (AR R100 a b c n) e d
def J1(R100:mc)(a:Ba)(b:AY)(c f:Int):=AR R100 a b c BQ f 0
end El
variable{g:mc}{e:AY}{c b:Int}
section
open El
def El(R100:mc)(b:AY)(c:Int)(a:Ba):=if a.Op==2 then(D3 b c a.dv 8 1).bind λl=>J1 R100 a b c l
else
if a.Op==3 then(D3 b c a.dv 2 2).bind λo=>J1 R100 a b c o
else
J1 R100 a b c 0
theorem bQ(H100:∀{x0 x1 x2 b},g x0 x1 x2=some b->Says prog 281 [.agg (Ct x0),si x1,.agg [si x2.Op,si x2.N,B4 x2.dv,vS 4 Bc x2.L]] (si b))(h:El g e c a=some b):Says prog 281 [.agg (Ct e),si c,.agg [si a.Op,si a.N,B4 a.dv,vS 4 Bc a.L]] (si b):=by refine kO mix func281 (hn [(5,[9,15,22,26,38])] [(2,1)]) ?_;have a1:=@H100;have a2:=@TU;have l1:=i4 λn f=>∃r d,(f 1=si c/\f 3=bA 2 (Ct e)/\f 5=bA 4 [si a.Op,si a.N,B4 a.dv,vS 4 Bc a.L]/\f 7=si r/\f 8=si d)/\AR g a e c n r d=some b;have c1:=i5 1 λd=>∃f,(d 1=si c/\d 3=bA 2 (Ct e)/\d 5=bA 4 [si a.Op,si a.N,B4 a.dv,vS 4 Bc a.L]/\d 7=si f)/\J1 g a e c f=some b;unfold El at h;exact walk
end
def Vp:Nat->(AY->Int->Ba->ABi Int)
|0=>(λ_ _ _=>none)
|n+1=>El ((Vp n))
def Jq(n:Nat):AY->Int->Ba->ABi Int:=(Vp n)
theorem Ye(n:Nat):(∀{x0 x1 x2 r},(Jq n) x0 x1 x2=some r->Says prog 281 [.agg (Ct x0),si x1,.agg [si x2.Op,si x2.N,B4 x2.dv,vS 4 Bc x2.L]] (si r)):=by induction n with|zero=>exactλh=>DT h|succ n ih=>exactλh=>bQ ih h
def Yf{n:Nat}:∀{x0 x1 x2 r},(Jq n) x0 x1 x2=some r->Says prog 281 [.agg (Ct x0),si x1,.agg [si x2.Op,si x2.N,B4 x2.dv,vS 4 Bc x2.L]] (si r):=(Ye n)
namespace EF
def J3:ABi (AN×Bool):=some ((AN.mk 0 [] [] 0),false)
def J2(L1:AN->Int->ABi (AN×Bool))(a:BE)(c:Int)(b:AN)(f:Bool):=if f then
some ((AN.mk 0 [] [] 0),false)
else(gt a.CO b.PC).bind λj=>(Gx j.Op).bind λo=>if !o then
some (b,true)
else
if c==(a.CO.length:Int)then
some ((AN.mk 0 [] [] 0),false)
else(E7 j b).bind λi=>if !i.2 then
some ((AN.mk 0 [] [] 0),false)
else
L1 i.1 (A8 (c+1))
def L1(a:BE)(L1:AN->Int->ABi (AN×Bool))(b:AN)(c:Int):=if decide (c<=(a.CO.length:Int))then
if decide (b.PC<0)then
J2 L1 a c b true
else
J2 L1 a c b (decide (b.PC>=(a.CO.length:Int)))
else
J3
def AR(a:BE):Nat->AN->Int->ABi (AN×Bool)
|0,_,_=>none
|n+1,b,c=>L1 a (AR a n) b c
def J1(a:BE)(d:AN)(e:Bool):=if e then
some ((AN.mk 0 [] [] 0),false)
else(GL d).bind λl=>AR a BQ l 0
end EF
section
open EF
def EF(a:BE)(d:AN):=if(d.DH.length:Int) != a.DH then
J1 a d true
else
J1 a d ((d.C9.length:Int) != a.DH)
theorem Yj{a:BE}{d:AN}{r:AN×Bool}(h:EF a d=some r):Says prog 214 [.agg (DB a),.agg (GC d)] (.Bo [.agg (CW r.1),sb r.2]):=by refine kO mix func214 (hn [(2,[13,20,28,40,46,58]),(3,[10,11,17,18,25,34,38,48,56,65]),(7,[52]),(8,[72]),(9,[69]),(66,[63,67,68])] [(2,1),(11,2)]) ?_;have a1:=@TV;have a2:=@QT;have a3:=@fP;have l1:=i4 λn d=>∃b c,(d 2=bA 2 (DB a)/\d 3=bA 4 (CW b)/\d 4=bA 4 z9/\d 6=si c)/\AR a n b c=some r;have c2:=iz 2 λd _ _ _ e=>∃c b f,(e 2=bA 2 (DB a)/\e 3=bA 4 (CW b)/\e 4=bA 4 z9/\e 6=si c/\e 44=sb f)/\J2 (AR a d) a c b f=some r;have c1:=i5 1 λb=>∃e,(b 2=bA 2 (DB a)/\b 3=bA 4 (GC d)/\b 4=bA 4 z9/\b 23=sb e)/\J1 a d e=some r;unfold EF at h;exact walk
end
namespace B8
def J4(a:AG):ABi Bool:=(C3 a).bind λl=>some l
def L1(a:AG)(L1:ja)(b:Int):=if decide (b<(a.Al.length:Int))then(gt a.Al b).bind λo=>(G1 a o.dr false).bind λj=>if !j then
some false
else
L1 (A8 (b+1))
else
J4 a
def AR(a:AG):Nat->Int->ABi Bool
|0,_=>none
|n+1,b=>L1 a (AR a n) b
def J3(a:AG)(e:Bool):=if e then
some false
else
AR a BQ 0
def J2(a:AG)(d:Bool):=if d then
some false
else(Ad a.di).bind λf=>if !f.2 then
J3 a true
else(Be a f.1).bind λi=>J3 a (!i)
def J1(a:AG)(c:Bool):=if c then
some false
else
if decide ((a.AA.length:Int)<1)then
J2 a true
else
J2 a (decide ((a.AA.length:Int)>4))
end B8
section
open B8
def B8(a:AG):=if decide ((a.di.length:Int)>12)then
J1 a true
else
if decide ((a.AK.length:Int)>4)then
J1 a true
else
if decide ((a.Al.length:Int)>2)then
J1 a true
else
if decide ((a.AL.length:Int)>2)then
J1 a true
else
J1 a (decide ((a.Bt.length:Int)>60))
theorem Qd{a:AG}{r:Bool}(h:B8 a=some r):Says prog 43 [.agg (A5 a)] (sb r):=by refine kO mix func43 (hn [(1,[7,12,18,24,30,35,40,46,59]),(3,[55]),(4,[51]),(6,[67]),(48,[45,49,50])] [(2,1),(5,2),(9,3)]) ?_;have a1:=@Qe;have a2:=@Qg;have a3:=@Ur;have a4:=@Qf;have l1:=i4 λn c=>∃b,(c 1=bA 6 (A5 a)/\c 60=vS 2 Iw a.Al/\c 61=si (a.Al.length:Int)/\c 62=si b)/\AR a n b=some r;have c3:=i5 3 λb=>∃e,(b 1=bA 6 (A5 a)/\b 58=sb e)/\J3 a e=some r;have c2:=i5 2 λb=>∃d,(b 1=bA 6 (A5 a)/\b 44=sb d)/\J2 a d=some r;have c1:=i5 1 λb=>∃c,(b 1=bA 6 (A5 a)/\b 34=sb c)/\J1 a c=some r;unfold B8 at h;exact walk
end
namespace DK
def J3(d:Bool):ABi Bool:=some d
def J2(a:FF)(c:Bool):=if c then
some false
else
if decide (a.dg>(-9223372036854775808))then
if a.dg==0 then
J3 true
else
if a.de==1 then
J3 true
else
J3 (a.de==2)
else
J3 false
def J1(a:FF)(b:Bool):=if b then
some false
else
if a.de==5 then(CZ a.On).bind λf=>if !f then
J2 a true
else
if a.de != 5 then
J2 a (!(a.On.toList==(⟨#[]⟩:ABj).toList))
else
J2 a false
else
if a.de != 5 then
J2 a (!(a.On.toList==(⟨#[]⟩:ABj).toList))
else
J2 a false
end DK
section
open DK
def DK(a:FF):=if decide (a.de<1)then
J1 a true
else
if decide (a.de>6)then
J1 a true
else(CZ a.dv).bind λe=>if !e then
J1 a true
else
if decide (a.CM<0)then
J1 a true
else
if a.de != 1 then
J1 a (a.CM != 0)
else
J1 a false
theorem S6{a:FF}{r:Bool}(h:DK a=some r):Says prog 244 [.agg (Ky a)] (sb r):=by refine kO mix func244 (hn [(1,[3,7,12,18,23,27,32,36,42,46,51,55,59,64])] [(2,1),(5,2)]) ?_;have a1:=@JE;have c2:=i5 2 λb=>∃c,(b 1=bA 6 (Ky a)/\b 50=sb c)/\J2 a c=some r;have c1:=i5 1 λc=>∃b,(c 1=bA 6 (Ky a)/\c 31=sb b)/\J1 a b=some r;unfold DK at h;exact walk
end
namespace ES
def J2(j:Bool):ABi Bool:=some j
def J3(l:Bool):ABi Bool:=some l
def J1(b c:Int)(d:AQ)(e:Int)(a:AG)(f:Bool):=if f then
some false
else(gt d.AA e).bind λi=>if b==1 then
some (i.dm==1)
else
if b==17 then
if i.dm==4 then
if i.D7==c then(gt a.Al c).bind λt=>(gt d.AK t.dr).bind λu=>J2 (u.B6==(-1))
else
J2 false
else
J2 false
else
if i.dm==2 then(Ez a d e b c).bind λs=>J3 s
else
J3 false
end ES
section
open ES
def ES(a:AG)(d:AQ)(e b c:Int):=(E9 a d).bind λo=>if !o then
J1 b c d e a true
else(D9 e (a.AA.length:Int)).bind λp=>if !p then
J1 b c d e a true
else(Cu a b c).bind λq=>J1 b c d e a (!q)
theorem OB{a:AG}{d:AQ}{e b c:Int}{r:Bool}(h:ES a d e b c=some r):Says prog 146 [.agg (A5 a),.agg (Hq d),si e,si b,si c] (sb r):=by refine kO mix func146 (hn [(5,[18,56]),(6,[31,54]),(11,[39,44,48,67])] [(2,1)]) ?_;have a1:=@YV;have a2:=@NP;have a3:=@Li;have a4:=@VX;have c1:=i5 1 λg=>∃f,(g 2=si e/\g 3=si b/\g 4=si c/\g 5=bA 6 (A5 a)/\g 6=bA 4 (Hq d)/\g 30=sb f)/\J1 b c d e a f=some r;unfold ES at h;exact walk
end
namespace FL
def J1(f:Bool):ABi Bool:=some f
end FL
section
open FL
def FL(a:AE)(b:Ab)(c:Int):=(HK a b c).bind λe=>if decide (e<0)then
some false
else(gt a.AB e).bind λd=>(C2 a.dc b.df c d.de d.dq).bind λi=>if i then(CR a b c d.Dy).bind λj=>J1 j
else
J1 false
theorem PG{a:AE}{b:Ab}{c:Int}{r:Bool}(h:FL a b c=some r):Says prog 25 [.agg (Av a),.agg (G8 b),si c] (sb r):=by refine kO mix func25 (hn [(3,[15,20]),(4,[22]),(8,[25,27,34])]) ?_;have a1:=@Og;have a2:=@Ll;have a3:=@OI;unfold FL at h;exact walk
end
end Go.Abs
