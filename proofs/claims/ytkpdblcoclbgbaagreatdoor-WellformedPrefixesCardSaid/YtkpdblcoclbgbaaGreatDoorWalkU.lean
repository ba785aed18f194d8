/- Typed programs of Go functions, and that the functions do what these say. -/
import Derived.Test.YtkpdblcoclbgbaaGreatDoorBaseA
import Derived.Test.YtkpdblcoclbgbaaGreatDoorWalkS
import Derived.Test.YtkpdblcoclbgbaaGreatDoorWalkA
import Derived.Test.YtkpdblcoclbgbaaGreatDoorWalkT
import Derived.Test.YtkpdblcoclbgbaaGreatDoorWalkQ
import Derived.Test.YtkpdblcoclbgbaaGreatDoorWalkO
import Derived.Test.YtkpdblcoclbgbaaGreatDoorWalkP
import Derived.Shelf.Slices.SearchI
set_option linter.unusedSimpArgs false
set_option linter.unusedVariables false
namespace Go.Abs
open Go.Proofs
set_option maxRecDepth 100000
set_option maxHeartbeats 4000000
def kU:IC:=(Ra 4 [.b 2 [13,20,28,40,46,58] (.bx 2 (.t 0)),.b 3 [10,11,17,18,25,34,38,48,56,65] (.bx 4 (.t 1)),.o (.bx 4 (.c (.agg z6))),.B 5 false]
(Sq (Bw 1 (Rc 10 [.m 3 1 3,.Z 11,.f 0 2,.O .neq 12 14,.C 15,.G 16 false,.m 3 2 3,.Z 18,.f 0 2,.O .neq 19 21,.e,.V 16 22])
(Ci 23 (Rb 24 [.o (.Dc z6 []),.S 4 4 24,.B 5 false])))
(Ra 25 [.y 3 (.ld true 4 (.t 3)),.c 130 [25] 3,.S 4 3 26]
(Sq (Ra 0 [.K 6 0]
(Bl 0 (Sq (Ra 27 [.C 6,.f 1 2,.Z 29,.O .leq 27 30]
(cX 31 0))
(Sq (Bk 1 (Sq (Bw 2 (Rc 34 [.f 0 3,.P .lss 35 0,.C 36,.G 37 false,.f 0 3,.f 1 2,.Z 41,.O .geq 39 42,.e,.V 37 43])
(Ci 44 (Rb 45 [.o (.Dc z6 []),.S 4 4 45,.B 5 false])))
(Ra 46 [.f 1 2,.f 0 3,.I 6 47 49,.A 6 50,.b 7 [52] (.bx 6 (.c (.agg z9))),.S 6 7 51]
(Sq (Ra 52 [.f 0 7,.c 126 [53] 0,.N 54]
(Ci 55 (Rb 56 [.y 3 (.ld true 4 (.t 3)),.S 4 4 56,.B 5 true])))
(Sq (Ra 57 [.C 6,.f 1 2,.Z 59,.O .eql 57 60]
(Ci 61 (Rb 62 [.o (.Dc z6 []),.S 4 4 62,.B 5 false])))
(Ra 64 [.A 6 7,.y 3 (.ld true 4 (.t 3)),.b 66 [63,67,68] (.call 131 [.t 64,.t 65] 3),.w 63,.y 66 (.cp (.t 66)),.w 67,.y 66 (.ext (.t 63) 0),.y 66 (.ext (.t 63) 1),.b 8 [72] (.bx 4 (.c (.agg z6))),.S 4 8 67,.b 9 [69] (.mv (.t 68))]
(Sq (Ra 69 [.y 9 (.cp (.t 9)),.N 69]
(Ci 70 (Rb 71 [.o (.Dc z6 []),.S 4 4 71,.B 5 false])))
(Rc 72 [.y 8 (.ld true 4 (.t 8)),.S 4 3 72]))))))))
(Rc 32 [.C 6,.P .add 32 1,.M 6 33])))))
(Rb 73 [.o (.Dc z6 []),.S 4 4 73,.B 5 false])))))
def kV:Gi:=⟨[(10,[3]),(11,[3]),(13,[2]),(17,[3]),(18,[3]),(20,[2]),(25,[3]),(28,[2]),(34,[3]),(38,[3]),(40,[2]),(46,[2]),(48,[3]),(52,[7]),(56,[3]),(58,[2]),(63,[66]),(65,[3]),(67,[66]),(68,[66]),(69,[9]),(72,[8])]⟩
def kW:List RV:=[.cell 4 true 4,.tmp 5]
namespace CZ
def J3:Option (AE×Bool):=
some ((AE.mk 0 [] [] 0),false)
def J2 (L1:AE->Int->Option (AE×Bool)) (a:Ak) (c:Int) (b:AE) (f:Bool):Option (AE×Bool):=
if f then
some ((AE.mk 0 [] [] 0),false)
else
(gt a.B3 b.PC).bind λj=>
(ED j.Op).bind λo=>
if !o then
some (b,true)
else
if c==(a.B3.length:Int)then
some ((AE.mk 0 [] [] 0),false)
else
(DE j b).bind λi=>
if !i.2 then
some ((AE.mk 0 [] [] 0),false)
else
L1 i.1 (BE (c+1))
def L1 (a:Ak) (L1:AE->Int->Option (AE×Bool)) (b:AE) (c:Int):Option (AE×Bool):=
if decide (c≤(a.B3.length:Int))then
if decide (b.PC<0)then
J2 L1 a c b true
else
J2 L1 a c b (decide (b.PC≥(a.B3.length:Int)))
else
J3
def Ac (a:Ak):Nat->AE->Int->Option (AE×Bool)
|0,_,_=>none
|n+1,b,c=>L1 a (Ac a n) b c
def J1 (a:Ak) (d:AE) (e:Bool):Option (AE×Bool):=
if e then
some ((AE.mk 0 [] [] 0),false)
else
(Dq d).bind λl=>
Ac a Bo l 0
end CZ
section
open CZ
def CZ (a:Ak) (d:AE):Option (AE×Bool):=
if(d.CN.length:Int) != a.CN then
J1 a d true
else
J1 a d ((d.Bt.length:Int) != a.CN)
theorem Ph {a:Ak} {d:AE} {r:AE×Bool} (h:CZ a d=some r):Says Tryz.prog 100 [.agg (Bq a),.agg (Dh d)] (.A9 [.agg (BN r.1),sb r.2]):=by
 refine wO mix Tryz.func100 (I:=⟨kU,kV,kW⟩) ?_
 simp only[kU,kV,kW]
 have a1:= @Lv
 have a2:= @Jj
 have a3:= @SL
 have l1:=λn1 n2 n3 n4:Nat=>BM λn τ=>∃(b:AE) (c:Int),(τ 2=bA 2 (Bq a)/\τ 3=bA 4 (BN b)/\τ 4=bA 4 z6/\τ 6=si c)/\Ac a n b c=some r
 have c2:=λn1 n2 n3 n4:Nat=>B7 2 λτ=>∃(c:Int) (b:AE) (f:Bool),(τ 2=bA 2 (Bq a)/\τ 3=bA 4 (BN b)/\τ 4=bA 4 z6/\τ 6=si c/\τ 44=sb f)/\J2 (Ac a n1) a c b f=some r
 have c1:=λn1 n2 n3 n4:Nat=>B7 1 λτ=>∃(e:Bool),(τ 2=bA 2 (Bq a)/\τ 3=bA 4 (Dh d)/\τ 4=bA 4 z6/\τ 23=sb e)/\J1 a d e=some r
 unfold CZ at h
 exact walk
end
def AAW:IC:=(Ra 6 [.b 3 [30,60,185] (.bx 7 (.t 0)),.b 4 [19,32,33,50,53,54,55,58,59,86,87,90,95,96,99,111,112,117,127,128,133,195,196,200,201] (.bx 7 (.t 1)),.b 5 [20,34,40,56,62,187,197] (.bx 2 (.t 2)),.o (.bx 7 (.c (.agg z2))),.o (.bx 7 (.c (.agg z3))),.B 8 false]
(Ra 18 [.A 7 3,.y 4 (.ld true 7 (.t 4)),.f 0 5,.b 22 [17,23,24] (.call 98 [.t 18,.t 19,.t 21] 2),.w 17,.y 22 (.cp (.t 22)),.w 23,.y 22 (.ext (.t 17) 0),.y 22 (.ext (.t 17) 1),.b 9 [36,38,75,76,88,92,97,101,110,113,115,126,129,131,136,144,147,151,159,176,180,202] (.bx 7 (.c (.agg z3))),.S 7 9 23,.b 10 [25] (.mv (.t 24))]
(Sq (Ra 25 [.y 10 (.cp (.t 10)),.N 25]
(Ci 26 (Rb 27 [.o (.Dc z2 []),.o (.Dc z3 []),.S 7 6 27,.S 7 7 28,.B 8 false])))
(Ra 30 [.F 0 3,.A 6 30,.F 0 4,.y 4 (.ld true 4 (.t 32)),.f 0 5,.f 1 9,.f 2 9,.f 1 5,.b 42 [29,43,44,45] (.call 50 [.t 31,.t 33,.t 35,.t 37,.t 39,.t 41] 2),.w 29,.y 42 (.cp (.t 42)),.w 43,.y 42 (.ext (.t 29) 0),.y 42 (.ext (.t 29) 1),.y 42 (.ext (.t 29) 2),.b 11 [52] (.bx 4 (.c (.agg z4))),.S 4 11 43,.b 12 [74] (.mv (.t 44)),.b 13 [46] (.mv (.t 45))]
(Sq (Ra 46 [.y 13 (.cp (.t 13)),.N 46]
(Ci 47 (Rb 48 [.o (.Dc z2 []),.o (.Dc z3 []),.S 7 6 48,.S 7 7 49,.B 8 false])))
(Ra 50 [.y 4 (.ld true 7 (.t 4)),.c 99 [50] 3,.S 7 4 51]
(Ra 52 [.y 11 (.ld true 4 (.t 11)),.F 0 4,.S 4 53 52]
(Ra 54 [.m 4 6 4,.f 0 5,.J 4 4 55 57,.y 4 (.ld true 4 (.t 58)),.b 14 [67,71,82,104,105,108,120,121,124,137,138,141,155,156,161,162,163,166,169,170,173,175,191,199] (.bx 4 (.c (.agg z6))),.S 4 14 59]
(Ra 60 [.f 6 3,.f 0 5,.I 2 61 63,.U 1 64,.f 0 14,.I 6 66 68,.A 6 69,.b 15 [106,122,139,145,157,164] (.bx 6 (.c (.agg z9))),.S 6 15 70]
(Ra 71 [.f 0 14,.P .add 72 1,.M 16 73]
(Ra 74 [.y 12 (.cp (.t 12)),.F 3 9,.S 1 75 74]
(Bw 2 (Ra 76 [.f 1 9]
(Bk 0 (Bw 1 (Ra 79 [.q 77 1 78]
(Cn 78 .skip (Ra 80 [.q 77 16 78]
(Cn 78 .skip (Rc 81 [.q 77 2 78])))))
(Cn 78 (Rc 82 [.f 0 14,.M 16 83]) (Ra 85 [.q 77 3 84]
(Cn 84 (Rc 86 [.m 4 4 4,.f 2 9,.J 4 1 87 89,.L 90,.F 3 9,.S 1 92 91]) (Ra 94 [.q 77 23 93]
(Cn 93 (Rc 95 [.m 4 5 4,.f 2 9,.J 4 1 96 98,.L 99,.F 3 9,.S 1 101 100]) (Ra 103 [.q 77 4 102]
(Cn 102 (Ra 104 [.m 14 1 14,.f 2 15,.J 14 1 105 107,.L 108,.F 3 9,.S 1 110 109]
(Rc 111 [.m 4 4 4,.f 2 9,.f 3 9,.J 4 1 112 114,.S 1 117 116])) (Ra 119 [.q 77 22 118]
(Cn 118 (Ra 120 [.m 14 1 14,.f 2 15,.J 14 1 121 123,.L 124,.F 3 9,.S 1 126 125]
(Rc 127 [.m 4 5 4,.f 2 9,.f 3 9,.J 4 1 128 130,.S 1 133 132])) (Ra 135 [.q 77 5 134]
(Ci 134 (Ra 136 [.F 3 9,.T 136 1]
(Ra 137 [.m 14 1 14,.f 1 15,.J 14 1 138 140,.L 141,.Q 142 0]
(Ci 143 (Ra 144 [.F 3 9,.T 144 0]
(Rc 145 [.f 2 15,.M 16 146])))))))))))))))))))
(Sq (Ra 147 [.f 1 9,.Q 148 3,.C 149,.G 150 false,.f 1 9,.P .eql 152 23,.e,.V 150 153]
(Ci 154 (Ra 155 [.m 14 1 14,.f 1 15,.f 3 9,.J 14 1 156 158,.S 1 161 160]
(.pg true 14 [(0,2,0)] (Rc 162 [.m 14 2 14,.f 1 15,.f 3 14,.o (.Eg 1 [[si 0]] [(0,.t 167)]),.J 14 1 163 165,.S 1 169 168])))))
(Ra 170 [.f 3 14,.P .add 171 1,.F 3 14,.S 1 173 172]
(Ra 174 [.C 16,.F 0 14,.S 1 175 174]
(Sq (Ra 176 [.f 1 9,.P .neq 177 16,.C 178,.G 179 true,.f 1 9,.P .neq 181 2,.e,.W 179 182]
(Ci 183 (.gz false 14 [(0,2,0)] (.gz false 14 [(0,1,0)] (.Vt [(192,8,9,184)] [LQ 185 3 6 3,iL 186 185,LQ 187 5 0 5,iL 188 187,iI 189 2 186 188,iA 190 2 189,i1 191 14 (.ld true 4 (.t 14)),⟨some ⟨192,[193],[]⟩,.call 100 [.t 190,.t 191] 3,none⟩,i0 184 (.jA (.t 192) 1),i1 193 192 (.ext (.t 192) 0),i0 194 .fl,iS 4 14 193])))))
(Ra 195 [.m 4 6 4,.f 0 5,.y 14 (.ld true 4 (.t 14)),.J 4 4 196 198,.S 4 200 199]
(Rb 201 [.y 4 (.ld true 7 (.t 4)),.y 9 (.ld true 7 (.t 9)),.S 7 6 201,.S 7 7 202,.B 8 true]))))))))))))))))))
def AAX:Gi:=⟨[(17,[22]),(19,[4]),(20,[5]),(23,[22]),(24,[22]),(25,[10]),(29,[42]),(30,[3]),(32,[4]),(33,[4]),(34,[5]),(36,[9]),(38,[9]),(40,[5]),(43,[42]),(44,[42]),(45,[42]),(46,[13]),(50,[4]),(52,[11]),(53,[4]),(54,[4]),(55,[4]),(56,[5]),(58,[4]),(59,[4]),(60,[3]),(62,[5]),(67,[14]),(71,[14]),(74,[12]),(75,[9]),(76,[9]),(82,[14]),(86,[4]),(87,[4]),(88,[9]),(90,[4]),(92,[9]),(95,[4]),(96,[4]),(97,[9]),(99,[4]),(101,[9]),(104,[14]),(105,[14]),(106,[15]),(108,[14]),(110,[9]),(111,[4]),(112,[4]),(113,[9]),(115,[9]),(117,[4]),(120,[14]),(121,[14]),(122,[15]),(124,[14]),(126,[9]),(127,[4]),(128,[4]),(129,[9]),(131,[9]),(133,[4]),(136,[9]),(137,[14]),(138,[14]),(139,[15]),(141,[14]),(144,[9]),(145,[15]),(147,[9]),(151,[9]),(155,[14]),(156,[14]),(157,[15]),(159,[9]),(161,[14]),(162,[14]),(163,[14]),(164,[15]),(166,[14]),(169,[14]),(170,[14]),(173,[14]),(175,[14]),(176,[9]),(180,[9]),(185,[3]),(187,[5]),(191,[14]),(193,[192]),(195,[4]),(196,[4]),(197,[5]),(199,[14]),(200,[4]),(201,[4]),(202,[9])]⟩
def AAY:List RV:=[.cell 6 true 7,.cell 7 true 7,.tmp 8]
namespace CL
def J6 (d:CC) (j:AN) (l o:List Int) (e:AO×Int×Bool) (b:AZ) (y:AE):Option (AZ×AN×Bool):=
(gt b.AA d.Thread).bind λaj=>
some ((AZ.mk e.1 l o (b.AA.set d.Thread.toNat y)),j,true)
def J5 (f:BB) (d:CC) (j:AN) (p:Int) (l o:List Int) (q:AE) (e:AO×Int×Bool) (b:AZ) (x:Bool):Option (AZ×AN×Bool):=
if x then
(gt f.AA d.Thread).bind λab=>
(CZ ab (AE.mk p q.CN q.Bt (BE (q.AX+1)))).bind λz=>
J6 d j l o e b z.1
else
J6 d j l o e b (AE.mk p q.CN q.Bt (BE (q.AX+1)))
def J4 (f:BB) (d:CC) (j:AN) (p:Int) (l o:List Int) (e:AO×Int×Bool) (b:AZ) (q:AE):Option (AZ×AN×Bool):=
if j.Kind != 16 then
J5 f d j p l o q e b (j.Kind != 2)
else
J5 f d j p l o q e b false
def J3 (f:BB) (d:CC) (j:AN) (p:Int) (l o:List Int) (e:AO×Int×Bool) (b:AZ) (c:AE) (i:AW) (w:Bool):Option (AZ×AN×Bool):=
if w then
(gt c.CN i.A).bind λaf=>
(gt c.Bt i.A).bind λai=>
J4 f d j p l o e b (AE.mk c.PC (c.CN.set i.A.toNat j.Value) (c.Bt.set i.A.toNat [c.AX]) c.AX)
else
J4 f d j p l o e b c
def J2 (f:BB) (d:CC) (e:AO×Int×Bool) (b:AZ) (c:AE) (i:AW) (l o:List Int) (j:AN) (p:Int):Option (AZ×AN×Bool):=
if j.Kind==3 then
J3 f d j p l o e b c i true
else
J3 f d j p l o e b c i (j.Kind==23)
def J1 (f:BB) (d:CC) (a:AN×Bool) (e:AO×Int×Bool) (b:AZ) (c:AE) (i:AW) (t:Bool):Option (AZ×AN×Bool):=
if t then
J2 f d e b c i b.Cells b.AH (AN.mk a.1.Thread a.1.Kind a.1.Obj e.2.1 a.1.Site a.1.Dy a.1.Db) c.PC
else
if a.1.Kind==3 then
(gt b.Cells a.1.Obj).bind λac=>
J2 f d e b c i b.Cells b.AH (AN.mk a.1.Thread a.1.Kind a.1.Obj ac a.1.Site a.1.Dy a.1.Db) (BE (c.PC+1))
else
if a.1.Kind==23 then
(gt b.AH a.1.Obj).bind λad=>
J2 f d e b c i b.Cells b.AH (AN.mk a.1.Thread a.1.Kind a.1.Obj ad a.1.Site a.1.Dy a.1.Db) (BE (c.PC+1))
else
if a.1.Kind==4 then
(gt c.CN i.B).bind λu=>
(gt b.Cells a.1.Obj).bind λal=>
J2 f d e b c i (b.Cells.set a.1.Obj.toNat u) b.AH (AN.mk a.1.Thread a.1.Kind a.1.Obj u a.1.Site a.1.Dy a.1.Db) (BE (c.PC+1))
else
if a.1.Kind==22 then
(gt c.CN i.B).bind λv=>
(gt b.AH a.1.Obj).bind λao=>
J2 f d e b c i b.Cells (b.AH.set a.1.Obj.toNat v) (AN.mk a.1.Thread a.1.Kind a.1.Obj v a.1.Site a.1.Dy a.1.Db) (BE (c.PC+1))
else
if a.1.Kind==5 then
(gt c.CN i.A).bind λae=>
if ae==0 then
J2 f d e b c i b.Cells b.AH (AN.mk a.1.Thread a.1.Kind a.1.Obj 0 a.1.Site a.1.Dy a.1.Db) i.B
else
J2 f d e b c i b.Cells b.AH (AN.mk a.1.Thread a.1.Kind a.1.Obj 1 a.1.Site a.1.Dy a.1.Db) (BE (c.PC+1))
else
J2 f d e b c i b.Cells b.AH (AN.mk a.1.Thread a.1.Kind a.1.Obj e.2.1 a.1.Site a.1.Dy a.1.Db) (BE (c.PC+1))
end CL
section
open CL
def CL (f:BB) (s:AZ) (d:CC):Option (AZ×AN×Bool):=
(Br f s d.Thread).bind λa=>
if !a.2 then
some ((AZ.mk (AO.mk [] 0 [] []) [] [] []),(AN.mk 0 0 0 0 0 [] []),false)
else
(Cj f.World s.Sync d.Thread a.1.Kind a.1.Obj d.QG).bind λe=>
if !e.2.2 then
some ((AZ.mk (AO.mk [] 0 [] []) [] [] []),(AN.mk 0 0 0 0 0 [] []),false)
else
(D7 s).bind λb=>
(gt b.AA d.Thread).bind λc=>
(gt f.AA d.Thread).bind λaa=>
(gt aa.B3 c.PC).bind λi=>
if a.1.Kind==1 then
J1 f d a e b c i (a.1.Kind==1)
else
if a.1.Kind==16 then
J1 f d a e b c i (a.1.Kind==16)
else
J1 f d a e b c i (a.1.Kind==2)
theorem SO {f:BB} {s:AZ} {d:CC} {r:AZ×AN×Bool} (h:CL f s d=some r):Says Tryz.prog 65 [.agg (Gp f),.agg (HM s),.agg (Gb d)] (.A9 [.agg (IZ r.1),.agg (Ln r.2.1),sb r.2.2]):=by
 refine wO mix Tryz.func65 (I:=⟨AAW,AAX,AAY⟩) ?_
 simp only[AAW,AAX,AAY]
 have a1:= @Oh
 have a2:= @O3
 have a3:= @SM
 have a4:= @Ph
 have c2:=λn1 n2 n3 n4:Nat=>B7 2 λτ=>∃(e:AO×Int×Bool) (b:AZ) (c:AE) (i:AW) (l o:List Int) (j:AN) (p:Int),(τ 3=bA 7 (Gp f)/\τ 4=bA 7 [vO 2 B5 e.1.AG,si e.1.Tx,vO 1 eB e.1.Ce,vO 3 A2 e.1.AA,vO 1 eI l,vO 1 eI o,.own false 4 ((b.AA.map BN).set d.Thread.toNat [si c.PC,.dead,.dead,si c.AX])]/\τ 5=bA 2 (Gb d)/\τ 6=bA 7 z2/\τ 7=bA 7 z3/\τ 9=bA 7 (Ln j)/\τ 14=bA 4 (BN c)/\τ 15=bA 6 (C7 i)/\τ 16=si p)/\J2 f d e b c i l o j p=some r
 have c1:=λn1 n2 n3 n4:Nat=>B7 1 λτ=>∃(a:AN×Bool) (e:AO×Int×Bool) (b:AZ) (c:AE) (i:AW) (t:Bool),(τ 3=bA 7 (Gp f)/\τ 4=bA 7 [vO 2 B5 e.1.AG,si e.1.Tx,vO 1 eB e.1.Ce,vO 3 A2 e.1.AA,vO 1 eI b.Cells,vO 1 eI b.AH,.own false 4 ((b.AA.map BN).set d.Thread.toNat [si c.PC,.dead,.dead,si c.AX])]/\τ 5=bA 2 (Gb d)/\τ 6=bA 7 z2/\τ 7=bA 7 z3/\τ 9=bA 7 [si a.1.Thread,si a.1.Kind,si a.1.Obj,si e.2.1,si a.1.Site,vO 1 eI a.1.Dy,vO 1 eI a.1.Db]/\τ 14=bA 4 (BN c)/\τ 15=bA 6 (C7 i)/\τ 16=si (BE (c.PC+1))/\τ 77=si a.1.Kind/\τ 78=sb t)/\J1 f d a e b c i t=some r
 unfold CL at h
 exact walk
end
def yO:IC:=(Ra 4 [.o (.bx 7 (.t 0)),.o (.bx 7 (.t 1)),.w 8,.o (.mv (.c (.own false 7 []))),.o (.bx 7 (.c (.agg z2)))]
(Sq (Ra 0 [.K 10 0]
(Bl 0 (Sq (Ra 14 [.C 10,.C 3,.Z 15,.O .lss 14 16,.C 17,.G 18 true,.y 2 (.cp (.t 2)),.Z 19,.P .lss 20 400,.e,.W 18 21]
(cX 22 0))
(Sq (Bk 1 (Ra 26 [.A 7 4,.A 7 5,.C 3,.C 10,.I 2 28 29,.A 2 30,.c 65 [26,27,31] 1,.w 25,.C 32,.w 33,.o (.ext (.t 25) 0),.o (.ext (.t 25) 1),.o (.ext (.t 25) 2),.w 11,.o (.bx 7 (.c (.agg z2))),.o (.bx 7 (.c (.agg z3))),.S 7 11 33,.S 7 12 34,.M 13 35]
(Ra 36 [.C 13]
(Ci 36 (Ra 37 [.A 7 11,.S 7 5 37]
(Rc 38 [.y 2 (.cp (.t 2)),.A 7 12,.o (.Eg 7 [z3] [(0,.t 39)]),.o (.app 7 88 (.t 38) (.t 40)),.b 2 [19,38,42] (.mv (.t 41))]))))))
(Rc 23 [.C 10,.P .add 23 1,.M 10 24])))))
(Rb 42 [.y 2 (.cp (.t 2)),.A 7 5,.M 8 42,.S 7 9 43])))
def yP:Gi:=⟨[(19,[2]),(38,[2]),(42,[2])]⟩
def yQ:List RV:=[.tmp 8,.cell 9 true 7]
namespace Dr
def J3 (o:List AN) (q:AZ):Option ((List AN)×AZ):=
some (o,q)
def J2 (L1:(List AN)->AZ->Int->Option ((List AN)×AZ)) (c:Int) (l:List AN) (p:AZ):Option ((List AN)×AZ):=
L1 l p (BE (c+1))
def J1 (L1:(List AN)->AZ->Int->Option ((List AN)×AZ)) (b:BB) (a:List CC) (c:Int) (d:List AN) (e:AZ) (s:Bool):Option ((List AN)×AZ):=
if s then
(gt a c).bind λt=>
(CL b e t).bind λj=>
if j.2.2 then
if Aq (d.length+1) 88=true then
J2 L1 c (d++[j.2.1]) j.1
else none
else
J2 L1 c d e
else
J3 d e
def L1 (b:BB) (a:List CC) (L1:(List AN)->AZ->Int->Option ((List AN)×AZ)) (d:List AN) (e:AZ) (c:Int):Option ((List AN)×AZ):=
if decide (c<(a.length:Int))then
J1 L1 b a c d e (decide ((d.length:Int)<400))
else
J1 L1 b a c d e false
def Ac (b:BB) (a:List CC):Nat->(List AN)->AZ->Int->Option ((List AN)×AZ)
|0,_,_,_=>none
|n+1,d,e,c=>L1 b a (Ac b a n) d e c
end Dr
section
open Dr
def Dr (b:BB) (i:AZ) (f:List AN) (a:List CC):Option ((List AN)×AZ):=
Ac b a Bo f i 0
theorem SQ {b:BB} {i:AZ} {f:List AN} {a:List CC} {r:(List AN)×AZ} (h:Dr b i f a=some r):Says Tryz.prog 37 [.agg (Gp b),.agg (HM i),vO 7 C4 f,vS 2 Gb a] (.A9 [vO 7 C4 r.1,.agg (HM r.2)]):=by
 refine wO mix Tryz.func37 (I:=⟨yO,yP,yQ⟩) ?_
 simp only[yO,yP,yQ]
 have a1:= @SO
 have l1:=λn1 n2 n3 n4:Nat=>BM λn τ=>∃(d:List AN) (e:AZ) (c:Int),(τ 2=vO 7 C4 d/\τ 3=vS 2 Gb a/\τ 4=bA 7 (Gp b)/\τ 5=bA 7 (HM e)/\τ 9=bA 7 z2/\τ 10=si c)/\Ac b a n d e c=some r
 unfold Dr at h
 exact walk
end
def wQ:IC:=(Ra 4 [.b 2 [21] (.bx 7 (.t 0)),.o (.bx 7 (.c (.agg z14))),.o (.bx 7 (.c (.agg z15)))]
(Sq (Ra 8 [.A 7 2,.c 36 [8] 0,.N 9]
(Ci 10 (Rb 11 [.o (.Dc z14 []),.o (.Dc z15 []),.S 7 4 11,.S 7 5 12])))
(Ra 14 [.A 7 2,.A 7 2,.c 38 [15] 1,.C 1,.b 18 [6,13,19,20,23] (.call 37 [.t 14,.t 16,.c (.own false 7 []),.t 17] 3),.w 13,.y 18 (.cp (.t 18)),.w 19,.y 18 (.ext (.t 13) 0),.y 18 (.ext (.t 13) 1),.b 7 [25] (.bx 7 (.c (.agg z15))),.w 6,.y 18 (.cp (.t 19)),.S 7 7 20]
(Rb 21 [.F 0 2,.A 6 21,.y 18 (.cp (.t 6)),.o (.Dc z14 [(0,6,.t 22),(6,1,.t 23)]),.y 7 (.ld true 7 (.t 7)),.S 7 4 24,.S 7 5 25]))))
def wR:Gi:=⟨[(6,[18]),(13,[18]),(19,[18]),(20,[18]),(21,[2]),(23,[18]),(25,[7])]⟩
def wS:List RV:=[.cell 4 true 7,.cell 5 true 7]
def Ix (a:BB) (b:List CC):Option (EJ×AZ):=
(CH a).bind λd=>
if !d then
some ((EJ.mk (AB.mk [] [] [] [] [] []) []),(AZ.mk (AO.mk [] 0 [] []) [] [] []))
else
(B6 a).bind λe=>
(Dr a e [] b).bind λc=>
some ((EJ.mk a.World c.1),c.2)
theorem T6 {a:BB} {b:List CC} {r:EJ×AZ} (h:Ix a b=some r):Says Tryz.prog 16 [.agg (Gp a),vS 2 Gb b] (.A9 [.agg (Rn r.1),.agg (HM r.2)]):=by
 refine wO mix Tryz.func16 (I:=⟨wQ,wR,wS⟩) ?_
 simp only[wQ,wR,wS]
 have a1:= @IQ
 have a2:= @RM
 have a3:= @SQ
 unfold Ix at h
 exact walk
end Go.Abs
