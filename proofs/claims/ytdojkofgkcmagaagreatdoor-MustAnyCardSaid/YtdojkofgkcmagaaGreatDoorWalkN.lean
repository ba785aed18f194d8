/- Go functions do what typed programs say. -/
import Derived.Test.YtdojkofgkcmagaaGreatDoorWalkM
import Derived.Shelf.Slices.SearchI
set_option linter.all false
namespace Go.Abs
open Go.Proofs Tryz
set_option maxRecDepth 1000000
set_option maxHeartbeats 4000000
def f180c:IC:=(Ra 6 [.b 3 [30,60,185] (.bx 7 (.t 0)),.b 4 [19,32,33,50,53,54,55,58,59,86,87,90,95,96,99,111,112,117,127,128,133,195,196,200,201] (.bx 7 (.t 1)),.b 5 [20,34,40,56,62,187,197] (.bx 2 (.t 2)),.o (.bx 7 (.c (.agg z4))),.o (.bx 7 (.c (.agg z3))),.B 8 false]
(Ra 18 [.A 7 3,.y 4 (.ld true 7 (.t 4)),.f 0 5,.b 22 [17,23,24] (.call 212 [.t 18,.t 19,.t 21] 2),.w 17,.y 22 (.cp (.t 22)),.w 23,.y 22 (.ext (.t 17) 0),.y 22 (.ext (.t 17) 1),.b 9 [36,38,75,76,88,92,97,101,110,113,115,126,129,131,136,144,147,151,159,176,180,202] (.bx 7 (.c (.agg z3))),.S 7 9 23,.b 10 [25] (.mv (.t 24))]
(Sq (Ra 25 [.y 10 (.cp (.t 10)),.N 25]
(Ci 26 (Rb 27 [.o (.UG z4 []),.o (.UG z3 []),.S 7 6 27,.S 7 7 28,.B 8 false])))
(Ra 30 [.F 0 3,.A 6 30,.F 0 4,.y 4 (.ld true 4 (.t 32)),.f 0 5,.f 1 9,.f 2 9,.f 1 5,.b 42 [29,43,44,45] (.call 106 [.t 31,.t 33,.t 35,.t 37,.t 39,.t 41] 2),.w 29,.y 42 (.cp (.t 42)),.w 43,.y 42 (.ext (.t 29) 0),.y 42 (.ext (.t 29) 1),.y 42 (.ext (.t 29) 2),.b 11 [52] (.bx 4 (.c (.agg z6))),.S 4 11 43,.b 12 [74] (.mv (.t 44)),.b 13 [46] (.mv (.t 45))]
(Sq (Ra 46 [.y 13 (.cp (.t 13)),.N 46]
(Ci 47 (Rb 48 [.o (.UG z4 []),.o (.UG z3 []),.S 7 6 48,.S 7 7 49,.B 8 false])))
(Ra 50 [.y 4 (.ld true 7 (.t 4)),.c 213 [50] 3,.S 7 4 51]
(Ra 52 [.y 11 (.ld true 4 (.t 11)),.F 0 4,.S 4 53 52]
(Ra 54 [.m 4 6 4,.f 0 5,.J 4 4 55 57,.y 4 (.ld true 4 (.t 58)),.b 14 [67,71,82,104,105,108,120,121,124,137,138,141,155,156,161,162,163,166,169,170,173,175,191,199] (.bx 4 (.c (.agg z9))),.S 4 14 59]
(Ra 60 [.f 6 3,.f 0 5,.I 2 61 63,.U 1 64,.f 0 14,.I 6 66 68,.A 6 69,.b 15 [106,122,139,145,157,164] (.bx 6 (.c (.agg z17))),.S 6 15 70]
(Ra 71 [.f 0 14,.P .add 72 1,.M 16 73]
(Ra 74 [.y 12 (.cp (.t 12)),.F 3 9,.S 1 75 74]
(O9 2 (Ra 76 [.f 1 9]
(Bk 0 (O9 1 (Ra 79 [.q 77 1 78]
(Cn 78 .skip (Ra 80 [.q 77 16 78]
(Cn 78 .skip (Rc 81 [.q 77 2 78])))))
(Cn 78 (Rc 82 [.f 0 14,.M 16 83]) (Ra 85 [.q 77 3 84]
(Cn 84 (Rc 86 [.m 4 4 4,.f 2 9,.J 4 1 87 89,.L 90,.F 3 9,.S 1 92 91]) (Ra 94 [.q 77 23 93]
(Cn 93 (Rc 95 [.m 4 5 4,.f 2 9,.J 4 1 96 98,.L 99,.F 3 9,.S 1 101 100]) (Ra 103 [.q 77 4 102]
(Cn 102 (Ra 104 [.m 14 1 14,.f 2 15,.J 14 1 105 107,.L 108,.F 3 9,.S 1 110 109]
(Rc 111 [.m 4 4 4,.f 2 9,.f 3 9,.J 4 1 112 114,.S 1 117 116])) (Ra 119 [.q 77 22 118]
(Cn 118 (Ra 120 [.m 14 1 14,.f 2 15,.J 14 1 121 123,.L 124,.F 3 9,.S 1 126 125]
(Rc 127 [.m 4 5 4,.f 2 9,.f 3 9,.J 4 1 128 130,.S 1 133 132])) (Ra 135 [.q 77 5 134]
(Ci 134 (Ra 136 [.F 3 9,.T 136 1]
(Ra 137 [.m 14 1 14,.f 1 15,.J 14 1 138 140,.L 141,.Q 142 0]
(Ci 143 (Ra 144 [.F 3 9,.T 144 0]
(Rc 145 [.f 2 15,.M 16 146])))))))))))))))))))
(Sq (Ra 147 [.f 1 9,.Q 148 3,.C 149,.G 150 false,.f 1 9,.P .eql 152 23,.e,.V 150 153]
(Ci 154 (Ra 155 [.m 14 1 14,.f 1 15,.f 3 9,.J 14 1 156 158,.S 1 161 160]
(.pg true 14 [(0,2,0)] (Rc 162 [.m 14 2 14,.f 1 15,.f 3 14,.o (.Ot 1 [[si 0]] [(0,.t 167)]),.J 14 1 163 165,.S 1 169 168])))))
(Ra 170 [.f 3 14,.P .add 171 1,.F 3 14,.S 1 173 172]
(Ra 174 [.C 16,.F 0 14,.S 1 175 174]
(Sq (Ra 176 [.f 1 9,.P .neq 177 16,.C 178,.G 179 true,.f 1 9,.P .neq 181 2,.e,.W 179 182]
(Ci 183 (.gz false 14 [(0,2,0)] (.gz false 14 [(0,1,0)] (.iH [(192,8,9,184)] [KK 185 3 6 3,iL 186 185,KK 187 5 0 5,iL 188 187,iI 189 2 186 188,iA 190 2 189,i1 191 14 (.ld true 4 (.t 14)),⟨some ⟨192,[193],[]⟩,.call 214 [.t 190,.t 191] 3,none⟩,i0 184 (.flk (.t 192) 1),i1 193 192 (.ext (.t 192) 0),i0 194 .fl,iS 4 14 193])))))
(Ra 195 [.m 4 6 4,.f 0 5,.y 14 (.ld true 4 (.t 14)),.J 4 4 196 198,.S 4 200 199]
(Rb 201 [.y 4 (.ld true 7 (.t 4)),.y 9 (.ld true 7 (.t 9)),.S 7 6 201,.S 7 7 202,.B 8 true]))))))))))))))))))
def f180g:Gi:=⟨[(17,[22]),(19,[4]),(20,[5]),(23,[22]),(24,[22]),(25,[10]),(29,[42]),(30,[3]),(32,[4]),(33,[4]),(34,[5]),(36,[9]),(38,[9]),(40,[5]),(43,[42]),(44,[42]),(45,[42]),(46,[13]),(50,[4]),(52,[11]),(53,[4]),(54,[4]),(55,[4]),(56,[5]),(58,[4]),(59,[4]),(60,[3]),(62,[5]),(67,[14]),(71,[14]),(74,[12]),(75,[9]),(76,[9]),(82,[14]),(86,[4]),(87,[4]),(88,[9]),(90,[4]),(92,[9]),(95,[4]),(96,[4]),(97,[9]),(99,[4]),(101,[9]),(104,[14]),(105,[14]),(106,[15]),(108,[14]),(110,[9]),(111,[4]),(112,[4]),(113,[9]),(115,[9]),(117,[4]),(120,[14]),(121,[14]),(122,[15]),(124,[14]),(126,[9]),(127,[4]),(128,[4]),(129,[9]),(131,[9]),(133,[4]),(136,[9]),(137,[14]),(138,[14]),(139,[15]),(141,[14]),(144,[9]),(145,[15]),(147,[9]),(151,[9]),(155,[14]),(156,[14]),(157,[15]),(159,[9]),(161,[14]),(162,[14]),(163,[14]),(164,[15]),(166,[14]),(169,[14]),(170,[14]),(173,[14]),(175,[14]),(176,[9]),(180,[9]),(185,[3]),(187,[5]),(191,[14]),(193,[192]),(195,[4]),(196,[4]),(197,[5]),(199,[14]),(200,[4]),(201,[4]),(202,[9])]⟩
def f180r:List RV:=[.cell 6 true 7,.cell 7 true 7,.tmp 8]
namespace Ek
def J6(d:DK)(j:AH)(l o:iT)(e:lu)(b:A3)(y:AN):ABm (A3×AH×Bool):=(gt b.AB d.cT).bind λaj=>some ((A3.mk e.1 l o (b.AB.set d.cT.toNat y)),j,true)
def J5(f:B5)(d:DK)(j:AH)(p:Int)(l o:iT)(q:AN)(e:lu)(b:A3)(x:Bool):=if x then(gt f.AB d.cT).bind λab=>(E3 ab (AN.mk p q.Dk q.Dq (A9 (q.AA+1)))).bind λz=>J6 d j l o e b z.1
else
J6 d j l o e b (AN.mk p q.Dk q.Dq (A9 (q.AA+1)))
def J4(f:B5)(d:DK)(j:AH)(p:Int)(l o:iT)(e:lu)(b:A3)(q:AN):=if j.da != 16 then
J5 f d j p l o q e b (j.da != 2)
else
J5 f d j p l o q e b false
def J3(f:B5)(d:DK)(j:AH)(p:Int)(l o:iT)(e:lu)(b:A3)(c:AN)(i:An)(w:Bool):=if w then(gt c.Dk i.A).bind λaf=>(gt c.Dq i.A).bind λai=>J4 f d j p l o e b (AN.mk c.PC (c.Dk.set i.A.toNat j.dm) (c.Dq.set i.A.toNat [c.AA]) c.AA)
else
J4 f d j p l o e b c
def J2(f:B5)(d:DK)(e:lu)(b:A3)(c:AN)(i:An)(l o:iT)(j:AH)(p:Int):=if j.da==3 then
J3 f d j p l o e b c i true
else
J3 f d j p l o e b c i (j.da==23)
def J1(f:B5)(d:DK)(a:AH×Bool)(e:lu)(b:A3)(c:AN)(i:An)(t:Bool):=if t then
J2 f d e b c i b.dg b.AM (AH.mk a.1.cT a.1.da a.1.di e.2.1 a.1.d8 a.1.D4 a.1.DL) c.PC
else
if a.1.da==3 then(gt b.dg a.1.di).bind λac=>J2 f d e b c i b.dg b.AM (AH.mk a.1.cT a.1.da a.1.di ac a.1.d8 a.1.D4 a.1.DL) (A9 (c.PC+1))
else
if a.1.da==23 then(gt b.AM a.1.di).bind λad=>J2 f d e b c i b.dg b.AM (AH.mk a.1.cT a.1.da a.1.di ad a.1.d8 a.1.D4 a.1.DL) (A9 (c.PC+1))
else
if a.1.da==4 then(gt c.Dk i.B).bind λu=>(gt b.dg a.1.di).bind λal=>J2 f d e b c i (b.dg.set a.1.di.toNat u) b.AM (AH.mk a.1.cT a.1.da a.1.di u a.1.d8 a.1.D4 a.1.DL) (A9 (c.PC+1))
else
if a.1.da==22 then(gt c.Dk i.B).bind λv=>(gt b.AM a.1.di).bind λao=>J2 f d e b c i b.dg (b.AM.set a.1.di.toNat v) (AH.mk a.1.cT a.1.da a.1.di v a.1.d8 a.1.D4 a.1.DL) (A9 (c.PC+1))
else
if a.1.da==5 then(gt c.Dk i.A).bind λae=>if ae==0 then
J2 f d e b c i b.dg b.AM (AH.mk a.1.cT a.1.da a.1.di 0 a.1.d8 a.1.D4 a.1.DL) i.B
else
J2 f d e b c i b.dg b.AM (AH.mk a.1.cT a.1.da a.1.di 1 a.1.d8 a.1.D4 a.1.DL) (A9 (c.PC+1))
else
J2 f d e b c i b.dg b.AM (AH.mk a.1.cT a.1.da a.1.di e.2.1 a.1.d8 a.1.D4 a.1.DL) (A9 (c.PC+1))
end Ek
section
open Ek
def Ek(f:B5)(s:A3)(d:DK):=(Dv f s d.cT).bind λa=>if !a.2 then
some ((A3.mk (AP.mk [] 0 [] []) [] [] []),(AH.mk 0 0 0 0 0 [] []),false)
else(Dm f.db s.dc d.cT a.1.da a.1.di d.gE).bind λe=>if !e.2.2 then
some ((A3.mk (AP.mk [] 0 [] []) [] [] []),(AH.mk 0 0 0 0 0 [] []),false)
else(Hc s).bind λb=>(gt b.AB d.cT).bind λc=>(gt f.AB d.cT).bind λaa=>(gt aa.Cq c.PC).bind λi=>if a.1.da==1 then
J1 f d a e b c i (a.1.da==1)
else
if a.1.da==16 then
J1 f d a e b c i (a.1.da==16)
else
J1 f d a e b c i (a.1.da==2)
def dI{f:B5}{s:A3}{d:DK}{r:A3×AH×Bool}(h:Ek f s d=some r):Says prog 180 [.agg (KI f),.agg (K6 s),.agg (Ju d)] (.Bp [.agg (NX r.1),.agg (Ix r.2.1),sb r.2.2]):=by refine wO mix func180 (I:=⟨f180c,f180g,f180r⟩) ?_;simp only[f180c,f180g,f180r];have a1:=@Wk;have a2:=@RC;have a3:=@dH;have a4:=@X0;have c2:=iR 2 λa=>∃(e:lu)(b:A3)(c:AN)(i:An)(l o:iT)(j:AH)(p:Int),(a 3=bA 7 (KI f)/\a 4=bA 7 [vO 2 B3 e.1.AK,si e.1.Tx,vO 1 eB e.1.Bs,vO 3 Ax e.1.AB,vO 1 eI l,vO 1 eI o,.own false 4 ((b.AB.map CP).set d.cT.toNat [si c.PC,.dead,.dead,si c.AA])]/\a 5=bA 2 (Ju d)/\a 6=bA 7 z4/\a 7=bA 7 z3/\a 9=bA 7 (Ix j)/\a 14=bA 4 (CP c)/\a 15=bA 6 (EX i)/\a 16=si p)/\J2 f d e b c i l o j p=some r;have c1:=iR 1 λg=>∃(a:AH×Bool)(e:lu)(b:A3)(c:AN)(i:An)(t:Bool),(g 3=bA 7 (KI f)/\g 4=bA 7 [vO 2 B3 e.1.AK,si e.1.Tx,vO 1 eB e.1.Bs,vO 3 Ax e.1.AB,vO 1 eI b.dg,vO 1 eI b.AM,.own false 4 ((b.AB.map CP).set d.cT.toNat [si c.PC,.dead,.dead,si c.AA])]/\g 5=bA 2 (Ju d)/\g 6=bA 7 z4/\g 7=bA 7 z3/\g 9=bA 7 [si a.1.cT,si a.1.da,si a.1.di,si e.2.1,si a.1.d8,vO 1 eI a.1.D4,vO 1 eI a.1.DL]/\g 14=bA 4 (CP c)/\g 15=bA 6 (EX i)/\g 16=si (A9 (c.PC+1))/\g 77=si a.1.da/\g 78=sb t)/\J1 f d a e b c i t=some r;unfold Ek at h;exact walk
end
namespace Bz
def J2:np:=some (0,0)
def L2(a:Aa)(L2:Bi->Int->ABm (Int×Int))(c:Bi)(b:Int):=if decide (b<(a.AB.length:Int))then(gt a.AB b).bind λs=>(Gq BQ (Bi.mk c.p b c.HQ c.NN c.bP) s.dz).bind λf=>if f.1 != 0 then
some (f.1,f.2.1)
else
L2 f.2.2 (A9 (b+1))
else
J2
def B9(a:Aa):Nat->Bi->Int->ABm (Int×Int)
|0,_,_=>none
|n+1,c,b=>L2 a (B9 a n) c b
def J1(a:Aa)(l:Int):=if decide (l>60)then
some (2,0)
else
B9 a BQ (Bi.mk a 0 [] [] []) 0
def L1(a:Aa)(L1:Int->Int->ABm (Int×Int))(e d:Int):=if decide (d<(a.AB.length:Int))then(gt a.AB d).bind λq=>(Ie BQ q.dz).bind λp=>L1 (A9 (e+p)) (A9 (d+1))
else
J1 a e
def AU(a:Aa):Nat->Int->Int->ABm (Int×Int)
|0,_,_=>none
|n+1,e,d=>L1 a (AU a n) e d
end Bz
section
open Bz
def Bz(a:Aa):=(Di a).bind λo=>if !o then
some (3,0)
else(I0 a.ek).bind λi=>if i.1 != 0 then
some (i.1,i.2)
else
if decide ((a.AB.length:Int)>4)then
some (2,0)
else(DF a).bind λj=>if j.1 != 0 then
some (j.1,j.2)
else
AU a BQ 0 0
def LH{a:Aa}{r:Int×Int}(h:Bz a=some r):Says prog 181 [.agg (Cf a)] (.Bp [si r.1,si r.2]):=by refine kO mix func181 (hn [(1,[18,27,41,48,62,74]),(10,[68,70,71,73])]) ?_;have a1:=@Xo;have a2:=@Zt;have a3:=@Wg;have a4:=@Tv;have a5:=@Xq;have l2:=iJ λn d=>∃c b,(d 1=bA 2 (Cf a)/\d 10=bA 6 (Hr c)/\d 11=si b)/\B9 a n c b=some r;have l1:=iJ λn b=>∃e d,(b 1=bA 2 (Cf a)/\b 8=si e/\b 9=si d)/\AU a n e d=some r;unfold Bz at h;exact walk
end
namespace Fe
def J1(b:Bool):ABm Bool:=some b
end Fe
section
open Fe
def Fe(a:AF):=(B6 a.db).bind λc=>if c then(JK a.db a.de).bind λd=>if d then
if decide ((a.AA.length:Int)<=16)then(CT a).bind λe=>if e then(BP a).bind λf=>if f then(Ai a).bind λi=>if i then(B8 a.de).bind λj=>if j then(A7 a).bind λl=>J1 l
else
J1 false
else
J1 false
else
J1 false
else
J1 false
else
J1 false
else
J1 false
else
J1 false
def MA{a:AF}{r:Bool}(h:Fe a=some r):Says prog 16 [.agg (A5 a)] (sb r):=by refine kO mix func16 (hn [(1,[3,7,9,14,32])]) ?_;have a1:=@QD;have a2:=@bD;have a3:=@Vt;have a4:=@Pm;have a5:=@Pl;have a6:=@Pk;have a7:=@UA;unfold Fe at h;exact walk
end
end Go.Abs
