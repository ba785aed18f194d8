/- Go functions do what typed programs say. -/
import Derived.Test.YtdojkofgkcmagaaGreatDoorWalkN
import Derived.Shelf.Slices.SearchI
set_option linter.all false
namespace Go.Abs
open Go.Proofs Tryz
set_option maxRecDepth 1000000
set_option maxHeartbeats 4000000
def f180c:IC:=(Ra 6 [.b 3 [30,60,185] (.bx 7 (.t 0)),.b 4 [19,32,33,50,53,54,55,58,59,86,87,90,95,96,99,111,112,117,127,128,133,195,196,200,201] (.bx 7 (.t 1)),.b 5 [20,34,40,56,62,187,197] (.bx 2 (.t 2)),.o (.bx 7 (.c (.agg z4))),.o (.bx 7 (.c (.agg z3))),.B 8 false]
(Ra 18 [.A 7 3,.y 4 (.ld true 7 (.t 4)),.f 0 5,.b 22 [17,23,24] (.call 212 [.t 18,.t 19,.t 21] 2),.w 17,.y 22 (.cp (.t 22)),.w 23,.y 22 (.ext (.t 17) 0),.y 22 (.ext (.t 17) 1),.b 9 [36,38,75,76,88,92,97,101,110,113,115,126,129,131,136,144,147,151,159,176,180,202] (.bx 7 (.c (.agg z3))),.S 7 9 23,.b 10 [25] (.mv (.t 24))]
(Sq (Ra 25 [.y 10 (.cp (.t 10)),.N 25]
(Ci 26 (Rb 27 [.o (.To z4 []),.o (.To z3 []),.S 7 6 27,.S 7 7 28,.B 8 false])))
(Ra 30 [.F 0 3,.A 6 30,.F 0 4,.y 4 (.ld true 4 (.t 32)),.f 0 5,.f 1 9,.f 2 9,.f 1 5,.b 42 [29,43,44,45] (.call 106 [.t 31,.t 33,.t 35,.t 37,.t 39,.t 41] 2),.w 29,.y 42 (.cp (.t 42)),.w 43,.y 42 (.ext (.t 29) 0),.y 42 (.ext (.t 29) 1),.y 42 (.ext (.t 29) 2),.b 11 [52] (.bx 4 (.c (.agg z5))),.S 4 11 43,.b 12 [74] (.mv (.t 44)),.b 13 [46] (.mv (.t 45))]
(Sq (Ra 46 [.y 13 (.cp (.t 13)),.N 46]
(Ci 47 (Rb 48 [.o (.To z4 []),.o (.To z3 []),.S 7 6 48,.S 7 7 49,.B 8 false])))
(Ra 50 [.y 4 (.ld true 7 (.t 4)),.c 213 [50] 3,.S 7 4 51]
(Ra 52 [.y 11 (.ld true 4 (.t 11)),.F 0 4,.S 4 53 52]
(Ra 54 [.m 4 6 4,.f 0 5,.J 4 4 55 57,.y 4 (.ld true 4 (.t 58)),.b 14 [67,71,82,104,105,108,120,121,124,137,138,141,155,156,161,162,163,166,169,170,173,175,191,199] (.bx 4 (.c (.agg z9))),.S 4 14 59]
(Ra 60 [.f 6 3,.f 0 5,.I 2 61 63,.U 1 64,.f 0 14,.I 6 66 68,.A 6 69,.b 15 [106,122,139,145,157,164] (.bx 6 (.c (.agg z17))),.S 6 15 70]
(Ra 71 [.f 0 14,.P .add 72 1,.M 16 73]
(Ra 74 [.y 12 (.cp (.t 12)),.F 3 9,.S 1 75 74]
(Nh 2 (Ra 76 [.f 1 9]
(Bk 0 (Nh 1 (Ra 79 [.q 77 1 78]
(Cn 78 .skip (Ra 80 [.q 77 16 78]
(Cn 78 .skip (Rc 81 [.q 77 2 78])))))
(Cn 78 (Rc 82 [.f 0 14,.M 16 83]) (Ra 85 [.q 77 3 84]
(Cn 84 (Rc 86 [.m 4 4 4,.f 2 9,.J 4 1 87 89,.L 90,.F 3 9,.S 1 92 91]) (Ra 94 [.q 77 23 93]
(Cn 93 (Rc 95 [.m 4 5 4,.f 2 9,.J 4 1 96 98,.L 99,.F 3 9,.S 1 101 100]) (Ra 103 [.q 77 4 102]
(Cn 102 (Ra 104 [.m 14 1 14,.f 2 15,.J 14 1 105 107,.L 108,.F 3 9,.S 1 110 109]
(Rc 111 [.m 4 4 4,.f 2 9,.f 3 9,.J 4 1 112 114,.S 1 117 116])) (Ra 119 [.q 77 22 118]
(Cn 118 (Ra 120 [.m 14 1 14,.f 2 15,.J 14 1 121 123,.L 124,.F 3 9,.S 1 126 125]
(Rc 127 [.m 4 5 4,.f 2 9,.f 3 9,.J 4 1 128 130,.S 1 133 132])) (Ra 135 [.q 77 5 134]
(Ci 134 (Ra 136 [.F 3 9,.T 136 1]
(Ra 137 [.m 14 1 14,.f 1 15,.J 14 1 138 140,.L 141,.Q 142 0]
(Ci 143 (Ra 144 [.F 3 9,.T 144 0]
(Rc 145 [.f 2 15,.M 16 146])))))))))))))))))))
(Sq (Ra 147 [.f 1 9,.Q 148 3,.C 149,.G 150 false,.f 1 9,.P .eql 152 23,.e,.V 150 153]
(Ci 154 (Ra 155 [.m 14 1 14,.f 1 15,.f 3 9,.J 14 1 156 158,.S 1 161 160]
(.pg true 14 [(0,2,0)] (Rc 162 [.m 14 2 14,.f 1 15,.f 3 14,.o (.Ox 1 [[si 0]] [(0,.t 167)]),.J 14 1 163 165,.S 1 169 168])))))
(Ra 170 [.f 3 14,.P .add 171 1,.F 3 14,.S 1 173 172]
(Ra 174 [.C 16,.F 0 14,.S 1 175 174]
(Sq (Ra 176 [.f 1 9,.P .neq 177 16,.C 178,.G 179 true,.f 1 9,.P .neq 181 2,.e,.W 179 182]
(Ci 183 (.gz false 14 [(0,2,0)] (.gz false 14 [(0,1,0)] (.l7 [(192,8,9,184)] [Ko 185 3 6 3,iL 186 185,Ko 187 5 0 5,iL 188 187,iI 189 2 186 188,iA 190 2 189,i1 191 14 (.ld true 4 (.t 14)),⟨some ⟨192,[193],[]⟩,.call 214 [.t 190,.t 191] 3,none⟩,i0 184 (.flk (.t 192) 1),i1 193 192 (.ext (.t 192) 0),i0 194 .fl,iS 4 14 193])))))
(Ra 195 [.m 4 6 4,.f 0 5,.y 14 (.ld true 4 (.t 14)),.J 4 4 196 198,.S 4 200 199]
(Rb 201 [.y 4 (.ld true 7 (.t 4)),.y 9 (.ld true 7 (.t 9)),.S 7 6 201,.S 7 7 202,.B 8 true]))))))))))))))))))
def f180g:Gi:=⟨[(17,[22]),(19,[4]),(20,[5]),(23,[22]),(24,[22]),(25,[10]),(29,[42]),(30,[3]),(32,[4]),(33,[4]),(34,[5]),(36,[9]),(38,[9]),(40,[5]),(43,[42]),(44,[42]),(45,[42]),(46,[13]),(50,[4]),(52,[11]),(53,[4]),(54,[4]),(55,[4]),(56,[5]),(58,[4]),(59,[4]),(60,[3]),(62,[5]),(67,[14]),(71,[14]),(74,[12]),(75,[9]),(76,[9]),(82,[14]),(86,[4]),(87,[4]),(88,[9]),(90,[4]),(92,[9]),(95,[4]),(96,[4]),(97,[9]),(99,[4]),(101,[9]),(104,[14]),(105,[14]),(106,[15]),(108,[14]),(110,[9]),(111,[4]),(112,[4]),(113,[9]),(115,[9]),(117,[4]),(120,[14]),(121,[14]),(122,[15]),(124,[14]),(126,[9]),(127,[4]),(128,[4]),(129,[9]),(131,[9]),(133,[4]),(136,[9]),(137,[14]),(138,[14]),(139,[15]),(141,[14]),(144,[9]),(145,[15]),(147,[9]),(151,[9]),(155,[14]),(156,[14]),(157,[15]),(159,[9]),(161,[14]),(162,[14]),(163,[14]),(164,[15]),(166,[14]),(169,[14]),(170,[14]),(173,[14]),(175,[14]),(176,[9]),(180,[9]),(185,[3]),(187,[5]),(191,[14]),(193,[192]),(195,[4]),(196,[4]),(197,[5]),(199,[14]),(200,[4]),(201,[4]),(202,[9])]⟩
def f180r:List RV:=[.cell 6 true 7,.cell 7 true 7,.tmp 8]
namespace Dq
def J6(d:An)(j:AH)(l o:i6)(e:lr)(b:A4)(y:AN):ABi (A4×AH×Bool):=(gt b.AA d.db).bind λaj=>some ((A4.mk e.1 l o (b.AA.set d.db.toNat y)),j,true)
def J5(f:Bx)(d:An)(j:AH)(p:Int)(l o:i6)(q:AN)(e:lr)(b:A4)(x:Bool):=if x then(gt f.AA d.db).bind λab=>(EF ab (AN.mk p q.DH q.C9 (A8 (q.AB+1)))).bind λz=>J6 d j l o e b z.1
else
J6 d j l o e b (AN.mk p q.DH q.C9 (A8 (q.AB+1)))
def J4(f:Bx)(d:An)(j:AH)(p:Int)(l o:i6)(e:lr)(b:A4)(q:AN):=if j.de != 16 then
J5 f d j p l o q e b (j.de != 2)
else
J5 f d j p l o q e b false
def J3(f:Bx)(d:An)(j:AH)(p:Int)(l o:i6)(e:lr)(b:A4)(c:AN)(i:Ak)(w:Bool):=if w then(gt c.DH i.A).bind λaf=>(gt c.C9 i.A).bind λai=>J4 f d j p l o e b (AN.mk c.PC (c.DH.set i.A.toNat j.dn) (c.C9.set i.A.toNat [c.AB]) c.AB)
else
J4 f d j p l o e b c
def J2(f:Bx)(d:An)(e:lr)(b:A4)(c:AN)(i:Ak)(l o:i6)(j:AH)(p:Int):=if j.de==3 then
J3 f d j p l o e b c i true
else
J3 f d j p l o e b c i (j.de==23)
def J1(f:Bx)(d:An)(a:AH×Bool)(e:lr)(b:A4)(c:AN)(i:Ak)(t:Bool):=if t then
J2 f d e b c i b.di b.AL (AH.mk a.1.db a.1.de a.1.dq e.2.1 a.1.d7 a.1.Dy a.1.DS) c.PC
else
if a.1.de==3 then(gt b.di a.1.dq).bind λac=>J2 f d e b c i b.di b.AL (AH.mk a.1.db a.1.de a.1.dq ac a.1.d7 a.1.Dy a.1.DS) (A8 (c.PC+1))
else
if a.1.de==23 then(gt b.AL a.1.dq).bind λad=>J2 f d e b c i b.di b.AL (AH.mk a.1.db a.1.de a.1.dq ad a.1.d7 a.1.Dy a.1.DS) (A8 (c.PC+1))
else
if a.1.de==4 then(gt c.DH i.B).bind λu=>(gt b.di a.1.dq).bind λal=>J2 f d e b c i (b.di.set a.1.dq.toNat u) b.AL (AH.mk a.1.db a.1.de a.1.dq u a.1.d7 a.1.Dy a.1.DS) (A8 (c.PC+1))
else
if a.1.de==22 then(gt c.DH i.B).bind λv=>(gt b.AL a.1.dq).bind λao=>J2 f d e b c i b.di (b.AL.set a.1.dq.toNat v) (AH.mk a.1.db a.1.de a.1.dq v a.1.d7 a.1.Dy a.1.DS) (A8 (c.PC+1))
else
if a.1.de==5 then(gt c.DH i.A).bind λae=>if ae==0 then
J2 f d e b c i b.di b.AL (AH.mk a.1.db a.1.de a.1.dq 0 a.1.d7 a.1.Dy a.1.DS) i.B
else
J2 f d e b c i b.di b.AL (AH.mk a.1.db a.1.de a.1.dq 1 a.1.d7 a.1.Dy a.1.DS) (A8 (c.PC+1))
else
J2 f d e b c i b.di b.AL (AH.mk a.1.db a.1.de a.1.dq e.2.1 a.1.d7 a.1.Dy a.1.DS) (A8 (c.PC+1))
end Dq
section
open Dq
def Dq(f:Bx)(s:A4)(d:An):=(DE f s d.db).bind λa=>if !a.2 then
some ((A4.mk (AQ.mk [] 0 [] []) [] [] []),(AH.mk 0 0 0 0 0 [] []),false)
else(Du f.dc s.df d.db a.1.de a.1.dq d.Ou).bind λe=>if !e.2.2 then
some ((A4.mk (AQ.mk [] 0 [] []) [] [] []),(AH.mk 0 0 0 0 0 [] []),false)
else(Gq s).bind λb=>(gt b.AA d.db).bind λc=>(gt f.AA d.db).bind λaa=>(gt aa.CO c.PC).bind λi=>if a.1.de==1 then
J1 f d a e b c i (a.1.de==1)
else
if a.1.de==16 then
J1 f d a e b c i (a.1.de==16)
else
J1 f d a e b c i (a.1.de==2)
def fR{f:Bx}{s:A4}{d:An}{r:A4×AH×Bool}(h:Dq f s d=some r):Says prog 180 [.agg (Kg f),.agg (LY s),.agg (HW d)] (.Bo [.agg (N4 r.1),.agg (JN r.2.1),sb r.2.2]):=by refine wO mix func180 (I:=⟨f180c,f180g,f180r⟩) ?_;simp only[f180c,f180g,f180r];have a1:=@XJ;have a2:=@NU;have a3:=@fQ;have a4:=@Yj;have c2:=i5 2 λa=>∃(e:lr)(b:A4)(c:AN)(i:Ak)(l o:i6)(j:AH)(p:Int),(a 3=bA 7 (Kg f)/\a 4=bA 7 [vO 2 Bu e.1.AK,si e.1.Tx,vO 1 eB e.1.Br,vO 3 Ay e.1.AA,vO 1 eI l,vO 1 eI o,.own false 4 ((b.AA.map CW).set d.db.toNat [si c.PC,.dead,.dead,si c.AB])]/\a 5=bA 2 (HW d)/\a 6=bA 7 z4/\a 7=bA 7 z3/\a 9=bA 7 (JN j)/\a 14=bA 4 (CW c)/\a 15=bA 6 (Ew i)/\a 16=si p)/\J2 f d e b c i l o j p=some r;have c1:=i5 1 λg=>∃(a:AH×Bool)(e:lr)(b:A4)(c:AN)(i:Ak)(t:Bool),(g 3=bA 7 (Kg f)/\g 4=bA 7 [vO 2 Bu e.1.AK,si e.1.Tx,vO 1 eB e.1.Br,vO 3 Ay e.1.AA,vO 1 eI b.di,vO 1 eI b.AL,.own false 4 ((b.AA.map CW).set d.db.toNat [si c.PC,.dead,.dead,si c.AB])]/\g 5=bA 2 (HW d)/\g 6=bA 7 z4/\g 7=bA 7 z3/\g 9=bA 7 [si a.1.db,si a.1.de,si a.1.dq,si e.2.1,si a.1.d7,vO 1 eI a.1.Dy,vO 1 eI a.1.DS]/\g 14=bA 4 (CW c)/\g 15=bA 6 (Ew i)/\g 16=si (A8 (c.PC+1))/\g 77=si a.1.de/\g 78=sb t)/\J1 f d a e b c i t=some r;unfold Dq at h;exact walk
end
namespace BT
def J2:nw:=some (0,0)
def L2(a:AY)(L2:Bj->Int->ABi (Int×Int))(c:Bj)(b:Int):=if decide (b<(a.AA.length:Int))then(gt a.AA b).bind λs=>(FP BQ (Bj.mk c.p b c.HH c.NW c.dD) s.dz).bind λf=>if f.1 != 0 then
some (f.1,f.2.1)
else
L2 f.2.2 (A8 (b+1))
else
J2
def Bs(a:AY):Nat->Bj->Int->ABi (Int×Int)
|0,_,_=>none
|n+1,c,b=>L2 a (Bs a n) c b
def J1(a:AY)(l:Int):=if decide (l>60)then
some (2,0)
else
Bs a BQ (Bj.mk a 0 [] [] []) 0
def L1(a:AY)(L1:Int->Int->ABi (Int×Int))(e d:Int):=if decide (d<(a.AA.length:Int))then(gt a.AA d).bind λq=>(HY BQ q.dz).bind λp=>L1 (A8 (e+p)) (A8 (d+1))
else
J1 a e
def AR(a:AY):Nat->Int->Int->ABi (Int×Int)
|0,_,_=>none
|n+1,e,d=>L1 a (AR a n) e d
end BT
section
open BT
def BT(a:AY):=(C0 a).bind λo=>if !o then
some (3,0)
else(I1 a.ep).bind λi=>if i.1 != 0 then
some (i.1,i.2)
else
if decide ((a.AA.length:Int)>4)then
some (2,0)
else(Ch a).bind λj=>if j.1 != 0 then
some (j.1,j.2)
else
AR a BQ 0 0
def Lj{a:AY}{r:Int×Int}(h:BT a=some r):Says prog 181 [.agg (Ct a)] (.Bo [si r.1,si r.2]):=by refine kO mix func181 (hn [(1,[18,27,41,48,62,74]),(10,[68,70,71,73])]) ?_;have a1:=@YY;have a2:=@bP;have a3:=@XE;have a4:=@UO;have a5:=@Ya;have l2:=i4 λn d=>∃c b,(d 1=bA 2 (Ct a)/\d 10=bA 6 (IX c)/\d 11=si b)/\Bs a n c b=some r;have l1:=i4 λn b=>∃e d,(b 1=bA 2 (Ct a)/\b 8=si e/\b 9=si d)/\AR a n e d=some r;unfold BT at h;exact walk
end
namespace GU
def J1(b:Bool):ABi Bool:=some b
end GU
section
open GU
def GU(a:AE):=(B8 a.dc).bind λc=>if c then(Jj a.dc a.dg).bind λd=>if d then
if decide ((a.AB.length:Int)<=16)then(Cd a).bind λe=>if e then(BX a).bind λf=>if f then(Aj a).bind λi=>if i then(CA a.dg).bind λj=>if j then(BA a).bind λl=>J1 l
else
J1 false
else
J1 false
else
J1 false
else
J1 false
else
J1 false
else
J1 false
else
J1 false
def Qb{a:AE}{r:Bool}(h:GU a=some r):Says prog 16 [.agg (Av a)] (sb r):=by refine kO mix func16 (hn [(1,[3,7,9,14,32])]) ?_;have a1:=@Qd;have a2:=@dR;have a3:=@WY;have a4:=@QD;have a5:=@QC;have a6:=@QB;have a7:=@Uc;unfold GU at h;exact walk
end
end Go.Abs
