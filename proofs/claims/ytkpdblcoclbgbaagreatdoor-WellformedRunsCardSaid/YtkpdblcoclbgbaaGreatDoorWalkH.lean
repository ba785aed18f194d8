/- Typed programs of Go functions, and that the functions do what these say. -/
import Derived.Test.YtkpdblcoclbgbaaGreatDoorBaseA
import Derived.Test.YtkpdblcoclbgbaaGreatDoorWalkG
import Derived.Test.YtkpdblcoclbgbaaGreatDoorWalkA
import Derived.Test.YtkpdblcoclbgbaaGreatDoorWalkF
import Derived.Shelf.Slices.SearchI
set_option linter.unusedSimpArgs false
set_option linter.unusedVariables false
namespace Go.Abs
open Go.Proofs
set_option maxRecDepth 100000
set_option maxHeartbeats 4000000
def kU:IC:=(Ra 4 [.b 2 [13,20,28,40,46,58] (.bx 2 (.t 0)),.b 3 [10,11,17,18,25,34,38,48,56,65] (.bx 4 (.t 1)),.o (.bx 4 (.c (.agg z6))),.B 5 false]
(Sq (Bw 1 (Rc 10 [.m 3 1 3,.Z 11,.f 0 2,.O .neq 12 14,.C 15,.G 16 false,.m 3 2 3,.Z 18,.f 0 2,.O .neq 19 21,.e,.V 16 22])
(Ci 23 (Rb 24 [.o (.Dc z6 []),.S 4 4 24,.B 5 false])))
(Ra 25 [.y 3 (.ld true 4 (.t 3)),.c 130 [25] 3,.S 4 3 26]
(Sq (Ra 0 [.K 6 0]
(Bl 0 (Sq (Ra 27 [.C 6,.f 1 2,.Z 29,.O .leq 27 30]
(cX 31 0))
(Sq (Bk 1 (Sq (Bw 2 (Rc 34 [.f 0 3,.P .lss 35 0,.C 36,.G 37 false,.f 0 3,.f 1 2,.Z 41,.O .geq 39 42,.e,.V 37 43])
(Ci 44 (Rb 45 [.o (.Dc z6 []),.S 4 4 45,.B 5 false])))
(Ra 46 [.f 1 2,.f 0 3,.I 6 47 49,.A 6 50,.b 7 [52] (.bx 6 (.c (.agg z9))),.S 6 7 51]
(Sq (Ra 52 [.f 0 7,.c 126 [53] 0,.N 54]
(Ci 55 (Rb 56 [.y 3 (.ld true 4 (.t 3)),.S 4 4 56,.B 5 true])))
(Sq (Ra 57 [.C 6,.f 1 2,.Z 59,.O .eql 57 60]
(Ci 61 (Rb 62 [.o (.Dc z6 []),.S 4 4 62,.B 5 false])))
(Ra 64 [.A 6 7,.y 3 (.ld true 4 (.t 3)),.b 66 [63,67,68] (.call 131 [.t 64,.t 65] 3),.w 63,.y 66 (.cp (.t 66)),.w 67,.y 66 (.ext (.t 63) 0),.y 66 (.ext (.t 63) 1),.b 8 [72] (.bx 4 (.c (.agg z6))),.S 4 8 67,.b 9 [69] (.mv (.t 68))]
(Sq (Ra 69 [.y 9 (.cp (.t 9)),.N 69]
(Ci 70 (Rb 71 [.o (.Dc z6 []),.S 4 4 71,.B 5 false])))
(Rc 72 [.y 8 (.ld true 4 (.t 8)),.S 4 3 72]))))))))
(Rc 32 [.C 6,.P .add 32 1,.M 6 33])))))
(Rb 73 [.o (.Dc z6 []),.S 4 4 73,.B 5 false])))))
def kV:Gi:=⟨[(10,[3]),(11,[3]),(13,[2]),(17,[3]),(18,[3]),(20,[2]),(25,[3]),(28,[2]),(34,[3]),(38,[3]),(40,[2]),(46,[2]),(48,[3]),(52,[7]),(56,[3]),(58,[2]),(63,[66]),(65,[3]),(67,[66]),(68,[66]),(69,[9]),(72,[8])]⟩
def kW:List RV:=[.cell 4 true 4,.tmp 5]
namespace CZ
def J3:Option (AE×Bool):=
some ((AE.mk 0 [] [] 0),false)
def J2 (L1:AE->Int->Option (AE×Bool)) (a:Ak) (c:Int) (b:AE) (f:Bool):Option (AE×Bool):=
if f then
some ((AE.mk 0 [] [] 0),false)
else
(gt a.B3 b.PC).bind λj=>
(ED j.Op).bind λo=>
if !o then
some (b,true)
else
if c==(a.B3.length:Int)then
some ((AE.mk 0 [] [] 0),false)
else
(DE j b).bind λi=>
if !i.2 then
some ((AE.mk 0 [] [] 0),false)
else
L1 i.1 (BE (c+1))
def L1 (a:Ak) (L1:AE->Int->Option (AE×Bool)) (b:AE) (c:Int):Option (AE×Bool):=
if decide (c≤(a.B3.length:Int))then
if decide (b.PC<0)then
J2 L1 a c b true
else
J2 L1 a c b (decide (b.PC≥(a.B3.length:Int)))
else
J3
def Ac (a:Ak):Nat->AE->Int->Option (AE×Bool)
|0,_,_=>none
|n+1,b,c=>L1 a (Ac a n) b c
def J1 (a:Ak) (d:AE) (e:Bool):Option (AE×Bool):=
if e then
some ((AE.mk 0 [] [] 0),false)
else
(Dq d).bind λl=>
Ac a Bo l 0
end CZ
section
open CZ
def CZ (a:Ak) (d:AE):Option (AE×Bool):=
if(d.CN.length:Int) != a.CN then
J1 a d true
else
J1 a d ((d.Bt.length:Int) != a.CN)
theorem Ph {a:Ak} {d:AE} {r:AE×Bool} (h:CZ a d=some r):Says Tryz.prog 100 [.agg (Bq a),.agg (Dh d)] (.A9 [.agg (BN r.1),sb r.2]):=by
 refine wO mix Tryz.func100 (I:=⟨kU,kV,kW⟩) ?_
 simp only[kU,kV,kW]
 have a1:= @Lv
 have a2:= @Jj
 have a3:= @SL
 have l1:=λn1 n2 n3 n4:Nat=>BM λn τ=>∃(b:AE) (c:Int),(τ 2=bA 2 (Bq a)/\τ 3=bA 4 (BN b)/\τ 4=bA 4 z6/\τ 6=si c)/\Ac a n b c=some r
 have c2:=λn1 n2 n3 n4:Nat=>B7 2 λτ=>∃(c:Int) (b:AE) (f:Bool),(τ 2=bA 2 (Bq a)/\τ 3=bA 4 (BN b)/\τ 4=bA 4 z6/\τ 6=si c/\τ 44=sb f)/\J2 (Ac a n1) a c b f=some r
 have c1:=λn1 n2 n3 n4:Nat=>B7 1 λτ=>∃(e:Bool),(τ 2=bA 2 (Bq a)/\τ 3=bA 4 (Dh d)/\τ 4=bA 4 z6/\τ 23=sb e)/\J1 a d e=some r
 unfold CZ at h
 exact walk
end
def AAW:IC:=(Ra 6 [.b 3 [30,60,185] (.bx 7 (.t 0)),.b 4 [19,32,33,50,53,54,55,58,59,86,87,90,95,96,99,111,112,117,127,128,133,195,196,200,201] (.bx 7 (.t 1)),.b 5 [20,34,40,56,62,187,197] (.bx 2 (.t 2)),.o (.bx 7 (.c (.agg z2))),.o (.bx 7 (.c (.agg z3))),.B 8 false]
(Ra 18 [.A 7 3,.y 4 (.ld true 7 (.t 4)),.f 0 5,.b 22 [17,23,24] (.call 98 [.t 18,.t 19,.t 21] 2),.w 17,.y 22 (.cp (.t 22)),.w 23,.y 22 (.ext (.t 17) 0),.y 22 (.ext (.t 17) 1),.b 9 [36,38,75,76,88,92,97,101,110,113,115,126,129,131,136,144,147,151,159,176,180,202] (.bx 7 (.c (.agg z3))),.S 7 9 23,.b 10 [25] (.mv (.t 24))]
(Sq (Ra 25 [.y 10 (.cp (.t 10)),.N 25]
(Ci 26 (Rb 27 [.o (.Dc z2 []),.o (.Dc z3 []),.S 7 6 27,.S 7 7 28,.B 8 false])))
(Ra 30 [.F 0 3,.A 6 30,.F 0 4,.y 4 (.ld true 4 (.t 32)),.f 0 5,.f 1 9,.f 2 9,.f 1 5,.b 42 [29,43,44,45] (.call 50 [.t 31,.t 33,.t 35,.t 37,.t 39,.t 41] 2),.w 29,.y 42 (.cp (.t 42)),.w 43,.y 42 (.ext (.t 29) 0),.y 42 (.ext (.t 29) 1),.y 42 (.ext (.t 29) 2),.b 11 [52] (.bx 4 (.c (.agg z4))),.S 4 11 43,.b 12 [74] (.mv (.t 44)),.b 13 [46] (.mv (.t 45))]
(Sq (Ra 46 [.y 13 (.cp (.t 13)),.N 46]
(Ci 47 (Rb 48 [.o (.Dc z2 []),.o (.Dc z3 []),.S 7 6 48,.S 7 7 49,.B 8 false])))
(Ra 50 [.y 4 (.ld true 7 (.t 4)),.c 99 [50] 3,.S 7 4 51]
(Ra 52 [.y 11 (.ld true 4 (.t 11)),.F 0 4,.S 4 53 52]
(Ra 54 [.m 4 6 4,.f 0 5,.J 4 4 55 57,.y 4 (.ld true 4 (.t 58)),.b 14 [67,71,82,104,105,108,120,121,124,137,138,141,155,156,161,162,163,166,169,170,173,175,191,199] (.bx 4 (.c (.agg z6))),.S 4 14 59]
(Ra 60 [.f 6 3,.f 0 5,.I 2 61 63,.U 1 64,.f 0 14,.I 6 66 68,.A 6 69,.b 15 [106,122,139,145,157,164] (.bx 6 (.c (.agg z9))),.S 6 15 70]
(Ra 71 [.f 0 14,.P .add 72 1,.M 16 73]
(Ra 74 [.y 12 (.cp (.t 12)),.F 3 9,.S 1 75 74]
(Bw 2 (Ra 76 [.f 1 9]
(Bk 0 (Bw 1 (Ra 79 [.q 77 1 78]
(Cn 78 .skip (Ra 80 [.q 77 16 78]
(Cn 78 .skip (Rc 81 [.q 77 2 78])))))
(Cn 78 (Rc 82 [.f 0 14,.M 16 83]) (Ra 85 [.q 77 3 84]
(Cn 84 (Rc 86 [.m 4 4 4,.f 2 9,.J 4 1 87 89,.L 90,.F 3 9,.S 1 92 91]) (Ra 94 [.q 77 23 93]
(Cn 93 (Rc 95 [.m 4 5 4,.f 2 9,.J 4 1 96 98,.L 99,.F 3 9,.S 1 101 100]) (Ra 103 [.q 77 4 102]
(Cn 102 (Ra 104 [.m 14 1 14,.f 2 15,.J 14 1 105 107,.L 108,.F 3 9,.S 1 110 109]
(Rc 111 [.m 4 4 4,.f 2 9,.f 3 9,.J 4 1 112 114,.S 1 117 116])) (Ra 119 [.q 77 22 118]
(Cn 118 (Ra 120 [.m 14 1 14,.f 2 15,.J 14 1 121 123,.L 124,.F 3 9,.S 1 126 125]
(Rc 127 [.m 4 5 4,.f 2 9,.f 3 9,.J 4 1 128 130,.S 1 133 132])) (Ra 135 [.q 77 5 134]
(Ci 134 (Ra 136 [.F 3 9,.T 136 1]
(Ra 137 [.m 14 1 14,.f 1 15,.J 14 1 138 140,.L 141,.Q 142 0]
(Ci 143 (Ra 144 [.F 3 9,.T 144 0]
(Rc 145 [.f 2 15,.M 16 146])))))))))))))))))))
(Sq (Ra 147 [.f 1 9,.Q 148 3,.C 149,.G 150 false,.f 1 9,.P .eql 152 23,.e,.V 150 153]
(Ci 154 (Ra 155 [.m 14 1 14,.f 1 15,.f 3 9,.J 14 1 156 158,.S 1 161 160]
(.pg true 14 [(0,2,0)] (Rc 162 [.m 14 2 14,.f 1 15,.f 3 14,.o (.Eg 1 [[si 0]] [(0,.t 167)]),.J 14 1 163 165,.S 1 169 168])))))
(Ra 170 [.f 3 14,.P .add 171 1,.F 3 14,.S 1 173 172]
(Ra 174 [.C 16,.F 0 14,.S 1 175 174]
(Sq (Ra 176 [.f 1 9,.P .neq 177 16,.C 178,.G 179 true,.f 1 9,.P .neq 181 2,.e,.W 179 182]
(Ci 183 (.gz false 14 [(0,2,0)] (.gz false 14 [(0,1,0)] (.Vt [(192,8,9,184)] [LQ 185 3 6 3,iL 186 185,LQ 187 5 0 5,iL 188 187,iI 189 2 186 188,iA 190 2 189,i1 191 14 (.ld true 4 (.t 14)),⟨some ⟨192,[193],[]⟩,.call 100 [.t 190,.t 191] 3,none⟩,i0 184 (.jA (.t 192) 1),i1 193 192 (.ext (.t 192) 0),i0 194 .fl,iS 4 14 193])))))
(Ra 195 [.m 4 6 4,.f 0 5,.y 14 (.ld true 4 (.t 14)),.J 4 4 196 198,.S 4 200 199]
(Rb 201 [.y 4 (.ld true 7 (.t 4)),.y 9 (.ld true 7 (.t 9)),.S 7 6 201,.S 7 7 202,.B 8 true]))))))))))))))))))
def AAX:Gi:=⟨[(17,[22]),(19,[4]),(20,[5]),(23,[22]),(24,[22]),(25,[10]),(29,[42]),(30,[3]),(32,[4]),(33,[4]),(34,[5]),(36,[9]),(38,[9]),(40,[5]),(43,[42]),(44,[42]),(45,[42]),(46,[13]),(50,[4]),(52,[11]),(53,[4]),(54,[4]),(55,[4]),(56,[5]),(58,[4]),(59,[4]),(60,[3]),(62,[5]),(67,[14]),(71,[14]),(74,[12]),(75,[9]),(76,[9]),(82,[14]),(86,[4]),(87,[4]),(88,[9]),(90,[4]),(92,[9]),(95,[4]),(96,[4]),(97,[9]),(99,[4]),(101,[9]),(104,[14]),(105,[14]),(106,[15]),(108,[14]),(110,[9]),(111,[4]),(112,[4]),(113,[9]),(115,[9]),(117,[4]),(120,[14]),(121,[14]),(122,[15]),(124,[14]),(126,[9]),(127,[4]),(128,[4]),(129,[9]),(131,[9]),(133,[4]),(136,[9]),(137,[14]),(138,[14]),(139,[15]),(141,[14]),(144,[9]),(145,[15]),(147,[9]),(151,[9]),(155,[14]),(156,[14]),(157,[15]),(159,[9]),(161,[14]),(162,[14]),(163,[14]),(164,[15]),(166,[14]),(169,[14]),(170,[14]),(173,[14]),(175,[14]),(176,[9]),(180,[9]),(185,[3]),(187,[5]),(191,[14]),(193,[192]),(195,[4]),(196,[4]),(197,[5]),(199,[14]),(200,[4]),(201,[4]),(202,[9])]⟩
def AAY:List RV:=[.cell 6 true 7,.cell 7 true 7,.tmp 8]
namespace CL
def J6 (d:CC) (j:AN) (l o:List Int) (e:AO×Int×Bool) (b:AZ) (y:AE):Option (AZ×AN×Bool):=
(gt b.AA d.Thread).bind λaj=>
some ((AZ.mk e.1 l o (b.AA.set d.Thread.toNat y)),j,true)
def J5 (f:BB) (d:CC) (j:AN) (p:Int) (l o:List Int) (q:AE) (e:AO×Int×Bool) (b:AZ) (x:Bool):Option (AZ×AN×Bool):=
if x then
(gt f.AA d.Thread).bind λab=>
(CZ ab (AE.mk p q.CN q.Bt (BE (q.AX+1)))).bind λz=>
J6 d j l o e b z.1
else
J6 d j l o e b (AE.mk p q.CN q.Bt (BE (q.AX+1)))
def J4 (f:BB) (d:CC) (j:AN) (p:Int) (l o:List Int) (e:AO×Int×Bool) (b:AZ) (q:AE):Option (AZ×AN×Bool):=
if j.Kind != 16 then
J5 f d j p l o q e b (j.Kind != 2)
else
J5 f d j p l o q e b false
def J3 (f:BB) (d:CC) (j:AN) (p:Int) (l o:List Int) (e:AO×Int×Bool) (b:AZ) (c:AE) (i:AW) (w:Bool):Option (AZ×AN×Bool):=
if w then
(gt c.CN i.A).bind λaf=>
(gt c.Bt i.A).bind λai=>
J4 f d j p l o e b (AE.mk c.PC (c.CN.set i.A.toNat j.Value) (c.Bt.set i.A.toNat [c.AX]) c.AX)
else
J4 f d j p l o e b c
def J2 (f:BB) (d:CC) (e:AO×Int×Bool) (b:AZ) (c:AE) (i:AW) (l o:List Int) (j:AN) (p:Int):Option (AZ×AN×Bool):=
if j.Kind==3 then
J3 f d j p l o e b c i true
else
J3 f d j p l o e b c i (j.Kind==23)
def J1 (f:BB) (d:CC) (a:AN×Bool) (e:AO×Int×Bool) (b:AZ) (c:AE) (i:AW) (t:Bool):Option (AZ×AN×Bool):=
if t then
J2 f d e b c i b.Cells b.AH (AN.mk a.1.Thread a.1.Kind a.1.Obj e.2.1 a.1.Site a.1.Dy a.1.Db) c.PC
else
if a.1.Kind==3 then
(gt b.Cells a.1.Obj).bind λac=>
J2 f d e b c i b.Cells b.AH (AN.mk a.1.Thread a.1.Kind a.1.Obj ac a.1.Site a.1.Dy a.1.Db) (BE (c.PC+1))
else
if a.1.Kind==23 then
(gt b.AH a.1.Obj).bind λad=>
J2 f d e b c i b.Cells b.AH (AN.mk a.1.Thread a.1.Kind a.1.Obj ad a.1.Site a.1.Dy a.1.Db) (BE (c.PC+1))
else
if a.1.Kind==4 then
(gt c.CN i.B).bind λu=>
(gt b.Cells a.1.Obj).bind λal=>
J2 f d e b c i (b.Cells.set a.1.Obj.toNat u) b.AH (AN.mk a.1.Thread a.1.Kind a.1.Obj u a.1.Site a.1.Dy a.1.Db) (BE (c.PC+1))
else
if a.1.Kind==22 then
(gt c.CN i.B).bind λv=>
(gt b.AH a.1.Obj).bind λao=>
J2 f d e b c i b.Cells (b.AH.set a.1.Obj.toNat v) (AN.mk a.1.Thread a.1.Kind a.1.Obj v a.1.Site a.1.Dy a.1.Db) (BE (c.PC+1))
else
if a.1.Kind==5 then
(gt c.CN i.A).bind λae=>
if ae==0 then
J2 f d e b c i b.Cells b.AH (AN.mk a.1.Thread a.1.Kind a.1.Obj 0 a.1.Site a.1.Dy a.1.Db) i.B
else
J2 f d e b c i b.Cells b.AH (AN.mk a.1.Thread a.1.Kind a.1.Obj 1 a.1.Site a.1.Dy a.1.Db) (BE (c.PC+1))
else
J2 f d e b c i b.Cells b.AH (AN.mk a.1.Thread a.1.Kind a.1.Obj e.2.1 a.1.Site a.1.Dy a.1.Db) (BE (c.PC+1))
end CL
section
open CL
def CL (f:BB) (s:AZ) (d:CC):Option (AZ×AN×Bool):=
(Br f s d.Thread).bind λa=>
if !a.2 then
some ((AZ.mk (AO.mk [] 0 [] []) [] [] []),(AN.mk 0 0 0 0 0 [] []),false)
else
(Cj f.World s.Sync d.Thread a.1.Kind a.1.Obj d.QG).bind λe=>
if !e.2.2 then
some ((AZ.mk (AO.mk [] 0 [] []) [] [] []),(AN.mk 0 0 0 0 0 [] []),false)
else
(D7 s).bind λb=>
(gt b.AA d.Thread).bind λc=>
(gt f.AA d.Thread).bind λaa=>
(gt aa.B3 c.PC).bind λi=>
if a.1.Kind==1 then
J1 f d a e b c i (a.1.Kind==1)
else
if a.1.Kind==16 then
J1 f d a e b c i (a.1.Kind==16)
else
J1 f d a e b c i (a.1.Kind==2)
theorem SO {f:BB} {s:AZ} {d:CC} {r:AZ×AN×Bool} (h:CL f s d=some r):Says Tryz.prog 65 [.agg (Gp f),.agg (HM s),.agg (Gb d)] (.A9 [.agg (IZ r.1),.agg (Ln r.2.1),sb r.2.2]):=by
 refine wO mix Tryz.func65 (I:=⟨AAW,AAX,AAY⟩) ?_
 simp only[AAW,AAX,AAY]
 have a1:= @Oh
 have a2:= @O3
 have a3:= @SM
 have a4:= @Ph
 have c2:=λn1 n2 n3 n4:Nat=>B7 2 λτ=>∃(e:AO×Int×Bool) (b:AZ) (c:AE) (i:AW) (l o:List Int) (j:AN) (p:Int),(τ 3=bA 7 (Gp f)/\τ 4=bA 7 [vO 2 B5 e.1.AG,si e.1.Tx,vO 1 eB e.1.Ce,vO 3 A2 e.1.AA,vO 1 eI l,vO 1 eI o,.own false 4 ((b.AA.map BN).set d.Thread.toNat [si c.PC,.dead,.dead,si c.AX])]/\τ 5=bA 2 (Gb d)/\τ 6=bA 7 z2/\τ 7=bA 7 z3/\τ 9=bA 7 (Ln j)/\τ 14=bA 4 (BN c)/\τ 15=bA 6 (C7 i)/\τ 16=si p)/\J2 f d e b c i l o j p=some r
 have c1:=λn1 n2 n3 n4:Nat=>B7 1 λτ=>∃(a:AN×Bool) (e:AO×Int×Bool) (b:AZ) (c:AE) (i:AW) (t:Bool),(τ 3=bA 7 (Gp f)/\τ 4=bA 7 [vO 2 B5 e.1.AG,si e.1.Tx,vO 1 eB e.1.Ce,vO 3 A2 e.1.AA,vO 1 eI b.Cells,vO 1 eI b.AH,.own false 4 ((b.AA.map BN).set d.Thread.toNat [si c.PC,.dead,.dead,si c.AX])]/\τ 5=bA 2 (Gb d)/\τ 6=bA 7 z2/\τ 7=bA 7 z3/\τ 9=bA 7 [si a.1.Thread,si a.1.Kind,si a.1.Obj,si e.2.1,si a.1.Site,vO 1 eI a.1.Dy,vO 1 eI a.1.Db]/\τ 14=bA 4 (BN c)/\τ 15=bA 6 (C7 i)/\τ 16=si (BE (c.PC+1))/\τ 77=si a.1.Kind/\τ 78=sb t)/\J1 f d a e b c i t=some r
 unfold CL at h
 exact walk
end
def yO:IC:=(Ra 4 [.o (.bx 7 (.t 0)),.o (.bx 7 (.t 1)),.w 8,.o (.mv (.c (.own false 7 []))),.o (.bx 7 (.c (.agg z2)))]
(Sq (Ra 0 [.K 10 0]
(Bl 0 (Sq (Ra 14 [.C 10,.C 3,.Z 15,.O .lss 14 16,.C 17,.G 18 true,.y 2 (.cp (.t 2)),.Z 19,.P .lss 20 400,.e,.W 18 21]
(cX 22 0))
(Sq (Bk 1 (Ra 26 [.A 7 4,.A 7 5,.C 3,.C 10,.I 2 28 29,.A 2 30,.c 65 [26,27,31] 1,.w 25,.C 32,.w 33,.o (.ext (.t 25) 0),.o (.ext (.t 25) 1),.o (.ext (.t 25) 2),.w 11,.o (.bx 7 (.c (.agg z2))),.o (.bx 7 (.c (.agg z3))),.S 7 11 33,.S 7 12 34,.M 13 35]
(Ra 36 [.C 13]
(Ci 36 (Ra 37 [.A 7 11,.S 7 5 37]
(Rc 38 [.y 2 (.cp (.t 2)),.A 7 12,.o (.Eg 7 [z3] [(0,.t 39)]),.o (.app 7 88 (.t 38) (.t 40)),.b 2 [19,38,42] (.mv (.t 41))]))))))
(Rc 23 [.C 10,.P .add 23 1,.M 10 24])))))
(Rb 42 [.y 2 (.cp (.t 2)),.A 7 5,.M 8 42,.S 7 9 43])))
def yP:Gi:=⟨[(19,[2]),(38,[2]),(42,[2])]⟩
def yQ:List RV:=[.tmp 8,.cell 9 true 7]
namespace Dr
def J3 (o:List AN) (q:AZ):Option ((List AN)×AZ):=
some (o,q)
def J2 (L1:(List AN)->AZ->Int->Option ((List AN)×AZ)) (c:Int) (l:List AN) (p:AZ):Option ((List AN)×AZ):=
L1 l p (BE (c+1))
def J1 (L1:(List AN)->AZ->Int->Option ((List AN)×AZ)) (b:BB) (a:List CC) (c:Int) (d:List AN) (e:AZ) (s:Bool):Option ((List AN)×AZ):=
if s then
(gt a c).bind λt=>
(CL b e t).bind λj=>
if j.2.2 then
if Aq (d.length+1) 88=true then
J2 L1 c (d++[j.2.1]) j.1
else none
else
J2 L1 c d e
else
J3 d e
def L1 (b:BB) (a:List CC) (L1:(List AN)->AZ->Int->Option ((List AN)×AZ)) (d:List AN) (e:AZ) (c:Int):Option ((List AN)×AZ):=
if decide (c<(a.length:Int))then
J1 L1 b a c d e (decide ((d.length:Int)<400))
else
J1 L1 b a c d e false
def Ac (b:BB) (a:List CC):Nat->(List AN)->AZ->Int->Option ((List AN)×AZ)
|0,_,_,_=>none
|n+1,d,e,c=>L1 b a (Ac b a n) d e c
end Dr
section
open Dr
def Dr (b:BB) (i:AZ) (f:List AN) (a:List CC):Option ((List AN)×AZ):=
Ac b a Bo f i 0
theorem SQ {b:BB} {i:AZ} {f:List AN} {a:List CC} {r:(List AN)×AZ} (h:Dr b i f a=some r):Says Tryz.prog 37 [.agg (Gp b),.agg (HM i),vO 7 C4 f,vS 2 Gb a] (.A9 [vO 7 C4 r.1,.agg (HM r.2)]):=by
 refine wO mix Tryz.func37 (I:=⟨yO,yP,yQ⟩) ?_
 simp only[yO,yP,yQ]
 have a1:= @SO
 have l1:=λn1 n2 n3 n4:Nat=>BM λn τ=>∃(d:List AN) (e:AZ) (c:Int),(τ 2=vO 7 C4 d/\τ 3=vS 2 Gb a/\τ 4=bA 7 (Gp b)/\τ 5=bA 7 (HM e)/\τ 9=bA 7 z2/\τ 10=si c)/\Ac b a n d e c=some r
 unfold Dr at h
 exact walk
end
def wQ:IC:=(Ra 4 [.b 2 [21] (.bx 7 (.t 0)),.o (.bx 7 (.c (.agg z14))),.o (.bx 7 (.c (.agg z15)))]
(Sq (Ra 8 [.A 7 2,.c 36 [8] 0,.N 9]
(Ci 10 (Rb 11 [.o (.Dc z14 []),.o (.Dc z15 []),.S 7 4 11,.S 7 5 12])))
(Ra 14 [.A 7 2,.A 7 2,.c 38 [15] 1,.C 1,.b 18 [6,13,19,20,23] (.call 37 [.t 14,.t 16,.c (.own false 7 []),.t 17] 3),.w 13,.y 18 (.cp (.t 18)),.w 19,.y 18 (.ext (.t 13) 0),.y 18 (.ext (.t 13) 1),.b 7 [25] (.bx 7 (.c (.agg z15))),.w 6,.y 18 (.cp (.t 19)),.S 7 7 20]
(Rb 21 [.F 0 2,.A 6 21,.y 18 (.cp (.t 6)),.o (.Dc z14 [(0,6,.t 22),(6,1,.t 23)]),.y 7 (.ld true 7 (.t 7)),.S 7 4 24,.S 7 5 25]))))
def wR:Gi:=⟨[(6,[18]),(13,[18]),(19,[18]),(20,[18]),(21,[2]),(23,[18]),(25,[7])]⟩
def wS:List RV:=[.cell 4 true 7,.cell 5 true 7]
def Ix (a:BB) (b:List CC):Option (EJ×AZ):=
(CH a).bind λd=>
if !d then
some ((EJ.mk (AB.mk [] [] [] [] [] []) []),(AZ.mk (AO.mk [] 0 [] []) [] [] []))
else
(B6 a).bind λe=>
(Dr a e [] b).bind λc=>
some ((EJ.mk a.World c.1),c.2)
theorem T6 {a:BB} {b:List CC} {r:EJ×AZ} (h:Ix a b=some r):Says Tryz.prog 16 [.agg (Gp a),vS 2 Gb b] (.A9 [.agg (Rn r.1),.agg (HM r.2)]):=by
 refine wO mix Tryz.func16 (I:=⟨wQ,wR,wS⟩) ?_
 simp only[wQ,wR,wS]
 have a1:= @IQ
 have a2:= @RM
 have a3:= @SQ
 unfold Ix at h
 exact walk
def f8c:IC:=(Ra 4 [.o (.bx 7 (.c (.agg uQ)))]
(Ra 8 [.C 0,.c 17 [8] 1,.C 1,.c 18 [10] 1,.b 12 [7,13,14] (.call 16 [.t 9,.t 11] 3),.w 7,.y 12 (.cp (.t 12)),.w 13,.y 12 (.ext (.t 7) 0),.y 12 (.ext (.t 7) 1),.b 5 [15] (.bx 7 (.c (.agg uQ))),.w 6,.o (.bx 7 (.c (.agg z2))),.S 7 5 13,.S 7 6 14]
(Rb 15 [.y 5 (.ld true 7 (.t 5)),.S 7 4 15])))
def f8g:Gi:=⟨[(7,[12]),(13,[12]),(14,[12]),(15,[5])]⟩
def f8r:List RV:=[.cell 4 true 7]
def IL (a b:List Int):Option EJ:=
(I4 a).bind λc=>
(DP b).bind λd=>
(Ix c d).bind λe=>
some e.1
theorem SF {a b:List Int} {r:EJ} (h:IL a b=some r):Says Tryz.prog 8 [vS 1 UN a,vS 1 UN b] (.agg (Rn r)):=by
 refine wO mix Tryz.func8 (I:=⟨f8c,f8g,f8r⟩) ?_
 simp only[f8c,f8g,f8r]
 have a1:= @Tw
 have a2:= @PM
 have a3:= @T6
 unfold IL at h
 exact walk
def xB:IC:=(Ra 2 [.o (.mv (.c (.own false 1 []))),.B 3 false]
(Ra 0 [.b 4 [16,70] (.mv (.c (.own false 1 [])))]
(Sq (Ra 0 [.K 5 0]
(Bl 0 (Sq (Ra 8 [.C 5,.C 0,.Z 9,.O .lss 8 10]
(cX 11 0))
(Bk 1 (Ra 12 [.C 0,.C 5,.I 5 12 13,.A 5 14,.b 6 [17,21,24,29,33,38,42,50,56,67] (.bx 5 (.c (.agg sX))),.S 5 6 15]
(Ra 16 [.y 4 (.cp (.t 4)),.f 0 6,.o (.Eg 1 [[Ao ⟨#[]⟩]] [(0,.t 18)]),.o (.app 1 16 (.t 16) (.t 19)),.b 4 [16,70] (.mv (.t 20))]
(Sq (Ra 21 [.f 2 6,.Q 22 0]
(Ci 23 (Sq (Ra 24 [.f 1 6,.P .neq 25 0]
(Ci 26 (Rb 2 [.o (.mv (.c (.own false 1 []))),.B 3 false])))
(Ra 27 [.C 5,.P .add 27 1,.M 5 28]
(.exit 1)))))
(Sq (Bw 1 (Rc 29 [.f 2 6,.P .lss 30 1,.C 31,.G 32 false,.f 2 6,.P .gtr 34 4,.e,.V 32 35,.C 36,.G 37 false,.f 3 6,.e,.V 37 39,.C 40,.G 41 false,.f 2 6,.C 0,.Z 44,.C 5,.O .sub 45 46,.O .gtr 43 47,.e,.V 41 48])
(Ci 49 (Rb 2 [.o (.mv (.c (.own false 1 []))),.B 3 false])))
(Sq (Ra 50 [.f 2 6,.Y 0]
(Bl 2 (Ra 53 [.O .lss 52 51]
(Sq (cX 53 2)
(Sq (Bk 3 (Ra 54 [.C 52,.M 7 54]
(Ra 55 [.C 7,.F 1 6,.S 1 56 55]
(Ra 57 [.C 0,.C 5,.C 7,.O .add 58 59,.I 5 57 60,.A 5 61,.A 5 6,.o (.Vm true [2,1,1,0,1] (.t 62) (.t 63))]
(Ci 64 (Rb 2 [.o (.mv (.c (.own false 1 []))),.B 3 false]))))))
(Rc 65 [.P .add 52 1,.w 52,.C 65]))))))
(Rc 66 [.C 5,.f 2 6,.O .add 66 68,.M 5 69]))))))))))
(Rb 70 [.y 4 (.cp (.t 4)),.M 2 70,.B 3 true]))))
def xC:Gi:=⟨[(16,[4]),(17,[6]),(21,[6]),(24,[6]),(29,[6]),(33,[6]),(38,[6]),(42,[6]),(50,[6]),(56,[6]),(67,[6]),(70,[4])]⟩
def xD:List RV:=[.tmp 2,.tmp 3]
namespace AP
def J3 (l:List ByteArray):Option ((List ByteArray)×Bool):=
some (l,true)
def J2 (L1:(List ByteArray)->Int->Option ((List ByteArray)×Bool)) (c:Int) (d:List ByteArray) (b o:DJ):Option ((List ByteArray)×Bool):=
L1 (d++[b.Name]) (BE (c+o.Bn))
def L2 (L1:(List ByteArray)->Int->Option ((List ByteArray)×Bool)) (c:Int) (a:List DJ) (d:List ByteArray) (b:DJ) (L2:DJ->Int->Option ((List ByteArray)×Bool)) (e:DJ) (f:Int):Option ((List ByteArray)×Bool):=
if decide (f<b.Bn)then
(gt a (BE (c+f))).bind λi=>
if !(i.Name.toList==e.Name.toList&&(i.Index==f&&(i.Bn==e.Bn&&(i.E0==e.E0&&(i.Init==e.Init)))))then
some ([],false)
else
L2 (DJ.mk e.Name f e.Bn e.E0 e.Init) (BE (f+1))
else
J2 L1 c d b e
def Da (L1:(List ByteArray)->Int->Option ((List ByteArray)×Bool)) (c:Int) (a:List DJ) (d:List ByteArray) (b:DJ):Nat->DJ->Int->Option ((List ByteArray)×Bool)
|0,_,_=>none
|n+1,e,f=>L2 L1 c a d b (Da L1 c a d b n) e f
def J1 (L1:(List ByteArray)->Int->Option ((List ByteArray)×Bool)) (c:Int) (a:List DJ) (d:List ByteArray) (b:DJ) (j:Bool):Option ((List ByteArray)×Bool):=
if j then
some ([],false)
else
Da L1 c a d b Bo b 0
def L1 (a:List DJ) (L1:(List ByteArray)->Int->Option ((List ByteArray)×Bool)) (d:List ByteArray) (c:Int):Option ((List ByteArray)×Bool):=
if decide (c<(a.length:Int))then
(gt a c).bind λb=>
if Aq (d.length+1) 16=true then
if b.Bn==0 then
if b.Index != 0 then
some ([],false)
else
L1 (d++[b.Name]) (BE (c+1))
else
if decide (b.Bn<1)then
J1 L1 c a d b true
else
if decide (b.Bn>4)then
J1 L1 c a d b true
else
if b.E0 then
J1 L1 c a d b true
else
J1 L1 c a d b (decide (b.Bn>(BE ((a.length:Int)-c))))
else none
else
J3 d
def Ac (a:List DJ):Nat->(List ByteArray)->Int->Option ((List ByteArray)×Bool)
|0,_,_=>none
|n+1,d,c=>L1 a (Ac a n) d c
end AP
section
open AP
def AP (a:List DJ):Option ((List ByteArray)×Bool):=
Ac a Bo [] 0
theorem Jt {a:List DJ} {r:(List ByteArray)×Bool} (h:AP a=some r):Says Tryz.prog 23 [vS 5 Fg a] (.A9 [vO 1 eS r.1,sb r.2]):=by
 refine wO mix Tryz.func23 (I:=⟨xB,xC,xD⟩) ?_
 simp only[xB,xC,xD]
 have l1:=λn1 n2 n3 n4:Nat=>BM λn τ=>∃(d:List ByteArray) (c:Int),(τ 0=vS 5 Fg a/\τ 4=vO 1 eS d/\τ 5=si c)/\Ac a n d c=some r
 have l2:=λn1 n2 n3 n4:Nat=>BM λn τ=>∃(c:Int) (d:List ByteArray) (b e:DJ) (f:Int),(τ 0=vS 5 Fg a/\τ 4= .own false 1 ((d++[b.Name]).map eS)/\τ 5=si c/\τ 6=bA 5 (Fg e)/\τ 51=si b.Bn/\τ 52=si f)/\Da (Ac a n1) c a d b n e f=some r
 have c1:=λn1 n2 n3 n4:Nat=>B7 1 λτ=>∃(c:Int) (d:List ByteArray) (b:DJ) (j:Bool),(τ 0=vS 5 Fg a/\τ 4= .own false 1 ((d++[b.Name]).map eS)/\τ 5=si c/\τ 6=bA 5 (Fg b)/\τ 49=sb j)/\J1 (Ac a n1) c a d b j=some r
 unfold AP at h
 exact walk
end
def ABa:IC:=(Ra 0 [.B 2 false]
(Sq (Sq (.Z1 [.uA ⟨5,[],[]⟩ 0 22,.o (iU 6 0)])
(Bl 0 (Ra 7 [.P .lss 6 22]
(Sq (cX 7 0)
(Sq (Bk 1 (Ra 8 [.o (.idx false 22 1 (.t 5) (.t 6)),.M 4 8]
(Ra 9 [.C 0,.C 4,.O .eql 9 10]
(Ci 11 (Rb 0 [.B 2 true])))))
(Rc 12 [.P .add 6 1,.w 6,.C 12]))))))
(Rb 0 [.B 2 false])))
def ABb:Gi:=⟨[]⟩
def ABc:List RV:=[.tmp 2]
namespace Ch
def J1:Option Bool:=
some false
def L1 (a:ByteArray) (L1:Int->Option Bool) (b:Int):Option Bool:=
if decide (b<22)then
if b<22 then
(gt Ho b).bind λc=>
if a.toList==c.toList then
some true
else
L1 (BE (b+1))
else none
else
J1
def Ac (a:ByteArray):Nat->Int->Option Bool
|0,_=>none
|n+1,b=>L1 a (Ac a n) b
end Ch
section
open Ch
def Ch (a:ByteArray):Option Bool:=
Ac a Bo 0
theorem Mn {a:ByteArray} {r:Bool} (h:Ch a=some r):Says Tryz.prog 87 [Ao a] (sb r):=by
 refine wO mix Tryz.func87 (I:=⟨ABa,ABb,ABc⟩) ?_
 simp only[ABa,ABb,ABc]
 have l1:=λn1 n2 n3 n4:Nat=>BM λn τ=>∃(b:Int),(τ 0=Ao a/\τ 5= .agg (Ho.map Ao)/\τ 6=si b)/\Ac a n b=some r
 unfold Ch at h
 exact walk
end
def zS:Rp:=(.seq (.ic (Rc 0 [.B 2 false]))
(.seq (.ic (Hl (Rc 5 [.C 0,.o (.Pk (.t 5)),.P .lss 6 1,.C 7,.G 8 false,.C 0,.o (.Pk (.t 9)),.P .gtr 10 12,.e,.V 8 11,.C 12,.G 13 false,.C 0,.c 87 [14] 0,.e,.V 13 15])
(Ci 16 (Rb 0 [.B 2 false]))))
(U3 (.seq (.SH [.x (.o ⟨some ⟨17,[],[]⟩,.cp (.t 0),none⟩),.uO ⟨18,[],[]⟩ (.t 17)])
(.block 0 (.loop (.seq (.SH [.uJ ⟨19,[],[]⟩ (.t 18),.x (.o ⟨some ⟨20,[],[]⟩,.ext (.t 19) 0,none⟩)])
(.ic (Sq (cX 20 0)
(Bk 1 (Ra 21 [.o (.ext (.t 19) 1),.o (.ext (.t 19) 2),.M 3 21,.M 4 22]
(Bk 2 (Hl (Rc 24 [.C 4,.o (.bin .leq (.c (.sc (.int .i32 97))) (.t 24)),.C 25,.G 26 true,.C 4,.o (.bin .leq (.t 27) (.c (.sc (.int .i32 122)))),.e,.W 26 28,.C 29,.G 30 false,.C 4,.o (.bin .leq (.c (.sc (.int .i32 65))) (.t 31)),.C 32,.G 33 true,.C 4,.o (.bin .leq (.t 34) (.c (.sc (.int .i32 90)))),.G 30 false,.o (.pick (.t 33) (.t 35) (.c (sb false))),.e,.V 30 36,.M 23 37])
(Cn 23 .skip (Hl (Rc 39 [.C 3,.P .gtr 39 0,.C 40,.G 41 true,.C 4,.o (.bin .eql (.t 42) (.c (.sc (.int .i32 95)))),.C 43,.G 44 false,.C 4,.o (.bin .leq (.c (.sc (.int .i32 48))) (.t 45)),.C 46,.G 47 true,.C 4,.o (.bin .leq (.t 48) (.c (.sc (.int .i32 57)))),.G 44 false,.o (.pick (.t 47) (.t 49) (.c (sb false))),.G 41 true,.o (.pick (.t 44) (.c (sb true)) (.t 50)),.e,.W 41 51,.M 38 52])
(Cn 38 .skip (Rb 0 [.B 2 false]))))))))))))))
(.ic (Rb 0 [.B 2 true])))))
def zT:Gi:=⟨[]⟩
def zU:List RV:=[.tmp 2]
def f51:FIM:=⟨zS,zT,zU⟩
theorem vM:Xf Tryz.prog Tryz.f51 f51=true:=by kernel_rfl
namespace B0
def J4:Option Bool:=
some true
def J3 (L1:Nat->Option Bool) (pos:Nat) (s:ByteArray) (t38v:Bool):Option Bool:=
if t38v then
L1 (pos+(Utf8.decode s pos).2)
else
some false
def J2 (L1:Nat->Option Bool) (pos:Nat) (s:ByteArray) (t23v:Bool):Option Bool:=
if t23v then
L1 (pos+(Utf8.decode s pos).2)
else
if decide ((pos:Int)>0)then
if((Utf8.decode s pos).1:Int)==95 then
J3 L1 pos s true
else
if decide (48≤((Utf8.decode s pos).1:Int))then
J3 L1 pos s (decide (((Utf8.decode s pos).1:Int)≤57))
else
J3 L1 pos s false
else
J3 L1 pos s false
def L1 (s:ByteArray) (L1:Nat->Option Bool) (pos:Nat):Option Bool:=
if decide (pos<s.size)then
if decide (97≤((Utf8.decode s pos).1:Int))then
if decide (((Utf8.decode s pos).1:Int)≤122)then
J2 L1 pos s true
else
if decide (65≤((Utf8.decode s pos).1:Int))then
J2 L1 pos s (decide (((Utf8.decode s pos).1:Int)≤90))
else
J2 L1 pos s false
else
if decide (65≤((Utf8.decode s pos).1:Int))then
J2 L1 pos s (decide (((Utf8.decode s pos).1:Int)≤90))
else
J2 L1 pos s false
else
J4
def Ac (s:ByteArray):Nat->Nat->Option Bool
|0,_=>none
|n+1,pos=>L1 s (Ac s n) pos
def J1 (s:ByteArray) (t16v:Bool):Option Bool:=
if t16v then
some false
else
Ac s Bo 0
end B0
section
open B0
def B0 (s:ByteArray):Option Bool:=
if decide ((s.size:Int)<1)then
J1 s true
else
if decide ((s.size:Int)>12)then
J1 s true
else
(Ch s).bind λv=>
J1 s v
theorem Pp {s:ByteArray} {r:Bool} (h:B0 s=some r):Says Tryz.prog 51 [Ao s] (sb r):=by
 refine Vj mix Tryz.func51 vM (of_decide_eq_true (by kernel_rfl)) rfl ?_
 simp only[f51,zS,zT,zU]
 try simp +decide only[go_sem, *]
 refine II (λτ=>∃t16v:Bool,(τ 0=Ao s/\τ 16=sb t16v)/\J1 s t16v=some r) λM1 hM1=>⟨?_,?_⟩
 . try simp +decide only[go_sem, *]
   refine gI h (λ_ h=> ?_) λ_ h=> ?_
   . try simp +decide only[go_sem, *]
     refine hM1 _ ⟨_,?_,h⟩
     simp +decide only[go_sem, *]
   try simp +decide only[go_sem, *]
   refine gI h (λ_ h=> ?_) λ_ h=> ?_
   . try simp +decide only[go_sem, *]
     refine hM1 _ ⟨_,?_,h⟩
     simp +decide only[go_sem, *]
   obtain⟨v,g1,h⟩:=bS h
   try simp +decide only[go_sem, *]
   refine⟨_,Mn g1,?_⟩
   try simp +decide only[go_sem, *]
   refine hM1 _ ⟨_,?_,h⟩
   simp +decide only[go_sem, *]
 rintro τ1 ⟨t16v,s1,h⟩
 try simp +decide only[go_sem, *]
 refine cI h (λ_ h=> ?_) λ_ h=> ?_
 . obtain rfl:=Option.some.inj h
   simp +decide only[go_sem, *]
 try simp +decide only[go_sem, *]
 refine U4 (λτ ν=>(True)/\J4=some r) λM4 hM4=>⟨?_,?_⟩
 . try simp +decide only[go_sem, *]
   intro b1 hb1
   try simp +decide only[go_sem, *]
   refine dN (λn τ ν=>∃pos:Nat,(τ 18= .sc (.pointer (some ⟨b1,0,none⟩))/\ν b1=some (.it s pos))/\Ac s n pos=some r) ⟨_,?_,h⟩ λn1 τ1 ν1 N1=> ?_
   . simp +decide only[go_sem, *]
   rintro⟨pos,s1,h⟩ hN1
   cases n1 with
   |zero=>exact B9 h
   |succ n1=>
    rw[Ac]at h;generalize hL1:Ac s n1=L1 at h
    try simp +decide only[go_sem, *]
    rcases iO (decide (pos<s.size))with e4|e4
    . replace h:=ifT e4 h
      try simp +decide only[go_sem,(of_decide_eq_true e4),Ep,EH, *]
      refine II (λτ=>∃t23v:Bool,(τ 3=si (pos:Int)/\τ 4= .sc (.int .i32 ((Utf8.decode s pos).1:Int))/\τ 18= .sc (.pointer (some ⟨b1,0,none⟩))/\τ 23=sb t23v)/\J2 L1 pos s t23v=some r) λM2 hM2=>⟨?_,?_⟩
      . try simp +decide only[go_sem,(of_decide_eq_true e4),Ep,EH, *]
        refine gI h (λ_ h=> ?_) λ_ h=> ?_
        . try simp +decide only[go_sem,(of_decide_eq_true e4),Ep,EH, *]
          refine gI h (λ_ h=> ?_) λ_ h=> ?_
          . try simp +decide only[go_sem,(of_decide_eq_true e4),Ep,EH, *]
            refine hM2 _ ⟨_,?_,h⟩
            simp +decide only[go_sem,(of_decide_eq_true e4),Ep,EH, *]
          try simp +decide only[go_sem,(of_decide_eq_true e4),Ep,EH, *]
          refine gI h (λ_ h=> ?_) λ_ h=> ?_
          . try simp +decide only[go_sem,(of_decide_eq_true e4),Ep,EH, *]
            refine hM2 _ ⟨_,?_,h⟩
            simp +decide only[go_sem,(of_decide_eq_true e4),Ep,EH, *]
          try simp +decide only[go_sem,(of_decide_eq_true e4),Ep,EH, *]
          refine hM2 _ ⟨_,?_,h⟩
          simp +decide only[go_sem,(of_decide_eq_true e4),Ep,EH, *]
        try simp +decide only[go_sem,(of_decide_eq_true e4),Ep,EH, *]
        refine gI h (λ_ h=> ?_) λ_ h=> ?_
        . try simp +decide only[go_sem,(of_decide_eq_true e4),Ep,EH, *]
          refine hM2 _ ⟨_,?_,h⟩
          simp +decide only[go_sem,(of_decide_eq_true e4),Ep,EH, *]
        try simp +decide only[go_sem,(of_decide_eq_true e4),Ep,EH, *]
        refine hM2 _ ⟨_,?_,h⟩
        simp +decide only[go_sem,(of_decide_eq_true e4),Ep,EH, *]
      rintro τ2 ⟨t23v,s2,h⟩
      try simp +decide only[go_sem, *]
      refine cI h (λ_ h=> ?_) λ_ h=> ?_
      . try simp +decide only[go_sem, *]
        refine hN1 n1 (Nat.lt_succ_self _) _ _ ⟨_,?_,hL1.symm▸h⟩
        simp +decide only[go_sem, *]
      try simp +decide only[go_sem, *]
      refine II (λτ=>∃t38v:Bool,(τ 18= .sc (.pointer (some ⟨b1,0,none⟩))/\τ 38=sb t38v)/\J3 L1 pos s t38v=some r) λM3 hM3=>⟨?_,?_⟩
      . try simp +decide only[go_sem, *]
        refine gI h (λ_ h=> ?_) λ_ h=> ?_
        . try simp +decide only[go_sem, *]
          refine gI h (λ_ h=> ?_) λ_ h=> ?_
          . try simp +decide only[go_sem, *]
            refine hM3 _ ⟨_,?_,h⟩
            simp +decide only[go_sem, *]
          try simp +decide only[go_sem, *]
          refine gI h (λ_ h=> ?_) λ_ h=> ?_
          . try simp +decide only[go_sem, *]
            refine hM3 _ ⟨_,?_,h⟩
            simp +decide only[go_sem, *]
          try simp +decide only[go_sem, *]
          refine hM3 _ ⟨_,?_,h⟩
          simp +decide only[go_sem, *]
        try simp +decide only[go_sem, *]
        refine hM3 _ ⟨_,?_,h⟩
        simp +decide only[go_sem, *]
      rintro τ3 ⟨t38v,s3,h⟩
      try simp +decide only[go_sem, *]
      refine cI h (λ_ h=> ?_) λ_ h=> ?_
      . try simp +decide only[go_sem, *]
        refine hN1 n1 (Nat.lt_succ_self _) _ _ ⟨_,?_,hL1.symm▸h⟩
        simp +decide only[go_sem, *]
      obtain rfl:=Option.some.inj h
      simp +decide only[go_sem, *]
    . replace h:=ifF e4 h
      try simp +decide only[go_sem,(of_decide_eq_false e4),Ep,EH, *]
      refine hM4 _ _ ⟨?_,h⟩
      simp +decide only[go_sem,(of_decide_eq_false e4),Ep,EH, *]
 rintro τ4 ν4 ⟨_,h⟩
 obtain rfl:=Option.some.inj h
 simp +decide only[go_sem, *]
end
def xE:Rp:=(.seq (.ic (Rc 0 [.b 2 [16,29,43,47] (.bx 6 (.t 0)),.B 4 false]))
(.seq (.ic (Rc 0 [.b 5 [13,23,36,42,46,51,55] (.mv (.c (.own false 1 [])))]))
(.seq (.ic (Rc 13 [.y 5 (.cp (.t 5)),.C 1,.o (.app 1 16 (.t 13) (.t 14)),.b 5 [13,23,36,42,46,51,55] (.mv (.t 15))]))
(U3 (.ic (Ra 16 [.f 1 2,.Z 17,.Y 0]
(Bl 0 (Ra 20 [.O .lss 19 18]
(Sq (cX 20 0)
(Sq (Bk 1 (Ra 21 [.I 2 17 19,.A 2 21,.b 7 [24] (.bx 2 (.c (.agg [Ao ⟨#[]⟩,sb false]))),.S 2 7 22]
(Rc 23 [.y 5 (.cp (.t 5)),.f 0 7,.o (.Eg 1 [[Ao ⟨#[]⟩]] [(0,.t 25)]),.o (.app 1 16 (.t 23) (.t 26)),.b 5 [13,23,36,42,46,51,55] (.mv (.t 27))])))
(Rc 28 [.P .add 19 1,.w 19,.C 28])))))))
(U3 (.ic (Ra 29 [.f 2 2,.Z 30,.Y 0]
(Bl 2 (Ra 33 [.O .lss 32 31]
(Sq (cX 33 2)
(Sq (Bk 3 (Ra 34 [.I 2 30 32,.A 2 34,.b 9 [37] (.bx 2 (.c (.agg [Ao ⟨#[]⟩,si 0]))),.S 2 9 35]
(Rc 36 [.y 5 (.cp (.t 5)),.f 0 9,.o (.Eg 1 [[Ao ⟨#[]⟩]] [(0,.t 38)]),.o (.app 1 16 (.t 36) (.t 39)),.b 5 [13,23,36,42,46,51,55] (.mv (.t 40))])))
(Rc 41 [.P .add 32 1,.w 32,.C 41])))))))
(.seq (.ic (Rc 42 [.y 5 (.cp (.t 5)),.f 3 2,.o (.app 1 16 (.t 42) (.t 44)),.b 5 [13,23,36,42,46,51,55] (.mv (.t 45))]))
(.seq (.ic (Rc 46 [.y 5 (.cp (.t 5)),.f 4 2,.o (.app 1 16 (.t 46) (.t 48)),.b 5 [13,23,36,42,46,51,55] (.mv (.t 49))]))
(.seq (.SH [.uG ⟨50,[],[]⟩,.x (.o ⟨some ⟨10,[],[]⟩,.mv (.t 50),none⟩)])
(U3 (.seq (.ic (Rc 51 [.y 5 (.cp (.t 5)),.Z 51,.Y 0]))
(.block 4 (.loop (.seq (.ic (Rc 54 [.O .lss 53 52]))
(.seq (.ic (cX 54 4))
(.seq (.block 5 (.seq (.ic (Rc 55 [.J 5 1 51 53,.L 55,.M 12 56]))
(.seq (U3 (.SH [.x (.o ⟨some ⟨57,[],[]⟩,.cp (.t 12),none⟩),.x (.o ⟨some ⟨58,[],[]⟩,.call 51 [.t 57] 0,none⟩),.x (.o ⟨some ⟨59,[],[]⟩,.un .not (.t 58),none⟩),.x (.o ⟨some ⟨60,[],[]⟩,.cp (.t 59),none⟩),.x (.o ⟨some ⟨61,[],[]⟩,.cp (.t 10),some (60,false)⟩),.x (.o ⟨some ⟨62,[],[]⟩,.cp (.t 12),some (60,false)⟩),.uF (some (60,false)) ⟨63,[],[]⟩ (.t 61) (.t 62),.x (.o ⟨some ⟨64,[],[]⟩,.pick (.t 60) (.c (sb true)) (.t 63),none⟩)])
(.ic (Ci 64 (Rb 0 [.B 4 false]))))
(.SH [.x (.o ⟨some ⟨65,[],[]⟩,.cp (.t 10),none⟩),.x (.o ⟨some ⟨66,[],[]⟩,.cp (.t 12),none⟩),.uH (.t 65) (.t 66) (.c (sb true))]))))
(.ic (Rc 67 [.P .add 53 1,.w 53,.C 67]))))))))
(.ic (Rb 0 [.B 4 true])))))))))))
def xF:Gi:=⟨[(13,[5]),(16,[2]),(23,[5]),(24,[7]),(29,[2]),(36,[5]),(37,[9]),(42,[5]),(43,[2]),(46,[5]),(47,[2]),(51,[5]),(55,[5])]⟩
def xG:List RV:=[.tmp 4]
def f24:FIM:=⟨xE,xF,xG⟩
theorem vG:Xf Tryz.prog Tryz.f24 f24=true:=by kernel_rfl
namespace Ax
def J4 (seen:List ByteArray):Option Bool:=
some true
def J3 (L3:Int->(List ByteArray)->Option Bool) (seen:List ByteArray) (t53v:Int) (x_2:ByteArray) (t64v:Bool):Option Bool:=
if t64v then
some false
else
if(seen.any λζ=>ζ==x_2)=false then
L3 (BE (t53v+1)) (seen++[x_2])
else none
def L3 (all_3:List ByteArray) (wv:AB) (L3:Int->(List ByteArray)->Option Bool) (t53v:Int) (seen:List ByteArray):Option Bool:=
if decide (t53v<(((all_3++wv.AH)++wv.AA).length:Int))then
(gt ((all_3++wv.AH)++wv.AA) t53v).bind λx_2=>
(B0 x_2).bind λv=>
if !v then
J3 L3 seen t53v x_2 true
else
J3 L3 seen t53v x_2 (seen.any λζ=>ζ==x_2)
else
J4 seen
def Gx (all_3:List ByteArray) (wv:AB):Nat->Int->(List ByteArray)->Option Bool
|0,_,_=>none
|n+1,t53v,seen=>L3 all_3 wv (Gx all_3 wv n) t53v seen
def J2 (wv:AB) (all_3:List ByteArray):Option Bool:=
if Aq (all_3.length+wv.AH.length) 16=true then
if Aq ((all_3++wv.AH).length+wv.AA.length) 16=true then
Gx all_3 wv Bo 0 []
else none
else none
def L2 (wv:AB) (L2:(List ByteArray)->Int->Option Bool) (all_2:List ByteArray) (t32v:Int):Option Bool:=
if decide (t32v<(wv.Au.length:Int))then
(gt wv.Au t32v).bind λx_1=>
if Aq (all_2.length+1) 16=true then
L2 (all_2++[x_1.Name]) (BE (t32v+1))
else none
else
J2 wv all_2
def Da (wv:AB):Nat->(List ByteArray)->Int->Option Bool
|0,_,_=>none
|n+1,all_2,t32v=>L2 wv (Da wv n) all_2 t32v
def J1 (wv:AB) (all_1:List ByteArray):Option Bool:=
Da wv Bo all_1 0
def L1 (wv:AB) (L1:(List ByteArray)->Int->Option Bool) (all:List ByteArray) (t19v:Int):Option Bool:=
if decide (t19v<(wv.AG.length:Int))then
(gt wv.AG t19v).bind λx=>
if Aq (all.length+1) 16=true then
L1 (all++[x.Name]) (BE (t19v+1))
else none
else
J1 wv all
def Ac (wv:AB):Nat->(List ByteArray)->Int->Option Bool
|0,_,_=>none
|n+1,all,t19v=>L1 wv (Ac wv n) all t19v
end Ax
section
open Ax
def Ax (wv:AB) (variables:List ByteArray):Option Bool:=
if Aq (variables.length) 16=true then
Ac wv Bo variables 0
else none
theorem Ju {wv:AB} {variables:List ByteArray} {r:Bool} (h:Ax wv variables=some r):Says Tryz.prog 24 [.agg (Ap wv),vS 1 eS variables] (sb r):=by
 refine Vj mix Tryz.func24 vG (of_decide_eq_true (by kernel_rfl)) rfl ?_
 simp only[f24,xE,xF,xG]
 obtain⟨_,h⟩:=cS h
 try simp +decide only[go_sem, *]
 refine U4 (λτ ν=>∃all_1:List ByteArray,(τ 2=bA 6 (Ap wv)/\τ 5=vO 1 eS all_1)/\J1 wv all_1=some r) λM1 hM1=>⟨?_,?_⟩
 . try simp +decide only[go_sem, *]
   refine Jc (λn τ=>∃all:List ByteArray,∃t19v:Int,(τ 2=bA 6 (Ap wv)/\τ 5=vO 1 eS all/\τ 17=vS 2 HI wv.AG/\τ 18=si (wv.AG.length:Int)/\τ 19=si t19v)/\Ac wv n all t19v=some r) ⟨_,_,?_,h⟩ λn1 τ1 N1=> ?_
   . simp +decide only[go_sem, *]
   rintro⟨all,t19v,s1,h⟩ hN1
   cases n1 with
   |zero=>exact B9 h
   |succ n1=>
    rw[Ac]at h;generalize hL1:Ac wv n1=L1 at h
    try simp +decide only[go_sem, *]
    refine cI h (λ_ h=> ?_) λ_ h=> ?_
    . obtain⟨x,_,h⟩:=gB h
      obtain⟨_,h⟩:=cS h
      try simp +decide only[go_sem, *]
      refine hN1 n1 (Nat.lt_succ_self _) _ ⟨_,_,?_,hL1.symm▸h⟩
      simp +decide only[go_sem, *]
    try simp +decide only[go_sem, *]
    refine hM1 _ _ ⟨_,?_,h⟩
    simp +decide only[go_sem, *]
 rintro τ1 ν1 ⟨all_1,s1,h⟩
 try simp +decide only[go_sem, *]
 refine U4 (λτ ν=>∃all_3:List ByteArray,(τ 2=bA 6 (Ap wv)/\τ 5=vO 1 eS all_3)/\J2 wv all_3=some r) λM2 hM2=>⟨?_,?_⟩
 . try simp +decide only[go_sem, *]
   refine Jc (λn τ=>∃all_2:List ByteArray,∃t32v:Int,(τ 2=bA 6 (Ap wv)/\τ 5=vO 1 eS all_2/\τ 30=vS 2 HH wv.Au/\τ 31=si (wv.Au.length:Int)/\τ 32=si t32v)/\Da wv n all_2 t32v=some r) ⟨_,_,?_,h⟩ λn2 τ2 N2=> ?_
   . simp +decide only[go_sem, *]
   rintro⟨all_2,t32v,s2,h⟩ hN2
   cases n2 with
   |zero=>exact B9 h
   |succ n2=>
    rw[Da]at h;generalize hL2:Da wv n2=L2 at h
    try simp +decide only[go_sem, *]
    refine cI h (λ_ h=> ?_) λ_ h=> ?_
    . obtain⟨x_1,_,h⟩:=gB h
      obtain⟨_,h⟩:=cS h
      try simp +decide only[go_sem, *]
      refine hN2 n2 (Nat.lt_succ_self _) _ ⟨_,_,?_,hL2.symm▸h⟩
      simp +decide only[go_sem, *]
    try simp +decide only[go_sem, *]
    refine hM2 _ _ ⟨_,?_,h⟩
    simp +decide only[go_sem, *]
 rintro τ2 ν2 ⟨all_3,s2,h⟩
 obtain⟨_,h⟩:=cS h
 obtain⟨_,h⟩:=cS h
 try simp +decide only[go_sem, *]
 intro b1 hb1
 try simp +decide only[go_sem, *]
 refine U4 (λτ ν=>∃seen:List ByteArray,(ν b1=some (.mp (seen.map tv)))/\J4 seen=some r) λM4 hM4=>⟨?_,?_⟩
 . try simp +decide only[go_sem, *]
   refine dN (λn τ ν=>∃t53v:Int,∃seen:List ByteArray,(τ 5= .own false 1 (((all_3++wv.AH)++wv.AA).map eS)/\τ 10= .sc (.map (some b1))/\τ 51= .al 5 []/\τ 52=si (((all_3++wv.AH)++wv.AA).length:Int)/\τ 53=si t53v/\ν b1=some (.mp (seen.map tv)))/\Gx all_3 wv n t53v seen=some r) ⟨_,_,?_,h⟩ λn3 τ3 ν3 N3=> ?_
   . simp +decide only[go_sem, *]
   rintro⟨t53v,seen,s3,h⟩ hN3
   cases n3 with
   |zero=>exact B9 h
   |succ n3=>
    rw[Gx]at h;generalize hL3:Gx all_3 wv n3=L3 at h
    try simp +decide only[go_sem, *]
    refine cI h (λ_ h=> ?_) λ_ h=> ?_
    . obtain⟨x_2,_,h⟩:=gB h
      try simp +decide only[go_sem, *]
      refine U4 (λτ ν=>∃t64v:Bool,(τ 5= .own false 1 (((all_3++wv.AH)++wv.AA).map eS)/\τ 10= .sc (.map (some b1))/\τ 12=Ao x_2/\τ 51= .al 5 []/\τ 52=si (((all_3++wv.AH)++wv.AA).length:Int)/\τ 53=si t53v/\τ 64=sb t64v/\ν b1=some (.mp (seen.map tv)))/\J3 L3 seen t53v x_2 t64v=some r) λM3 hM3=>⟨?_,?_⟩
      . obtain⟨v,g9,h⟩:=bS h
        try simp +decide only[go_sem, *]
        refine⟨_,Pp g9,?_⟩
        try simp +decide only[go_sem, *]
        refine gI h (λ_ h=> ?_) λ_ h=> ?_
        . try simp +decide only[go_sem, *]
          refine hM3 _ _ ⟨_,?_,h⟩
          simp +decide only[go_sem, *]
        try simp +decide only[go_sem, *]
        refine hM3 _ _ ⟨_,?_,h⟩
        simp +decide only[go_sem, *]
      rintro τ3 ν3 ⟨t64v,s3,h⟩
      try simp +decide only[go_sem, *]
      refine cI h (λ_ h=> ?_) λ_ h=> ?_
      . obtain rfl:=Option.some.inj h
        simp +decide only[go_sem, *]
      obtain⟨_,h⟩:=cS h
      try simp +decide only[go_sem, *]
      refine hN3 n3 (Nat.lt_succ_self _) _ _ ⟨_,_,?_,hL3.symm▸h⟩
      simp +decide only[go_sem, *]
    try simp +decide only[go_sem, *]
    refine hM4 _ _ ⟨_,?_,h⟩
    simp +decide only[go_sem, *]
 rintro τ4 ν4 ⟨seen,s4,h⟩
 obtain rfl:=Option.some.inj h
 simp +decide only[go_sem, *]
end
def zV:IC:=(Ra 0 [.B 4 false]
(Rb 5 [.C 0,.P .geq 5 0,.C 6,.G 7 true,.C 0,.C 1,.O .lss 8 9,.e,.W 7 10,.M 4 11]))
def zW:Gi:=⟨[]⟩
def zX:List RV:=[.tmp 4]
namespace Dg
def J1 (c:Bool):Option Bool:=
some c
end Dg
section
open Dg
def Dg (a b:Int):Option Bool:=
if decide (a≥0)then
J1 (decide (a<b))
else
J1 false
theorem NC {a b:Int} {r:Bool} (h:Dg a b=some r):Says Tryz.prog 52 [si a,si b] (sb r):=by
 refine wO mix Tryz.func52 (I:=⟨zV,zW,zX⟩) ?_
 simp only[zV,zW,zX]
 unfold Dg at h
 exact walk
end
def xH:IC:=(Ra 0 [.b 3 [8,13] (.bx 6 (.t 0)),.B 6 false]
(Rb 7 [.C 1,.f 1 3,.Z 9,.c 52 [7,10] 0,.C 11,.G 12 true,.f 1 3,.C 1,.I 2 14 15,.U 1 16,.C 2,.o (.beq false (.t 18) (.t 19)),.e,.W 12 20,.M 6 21]))
def xI:Gi:=⟨[(8,[3]),(13,[3])]⟩
def xJ:List RV:=[.tmp 6]
namespace EG
def J1 (d:Bool):Option Bool:=
some d
end EG
section
open EG
def EG (b:AB) (a:Int) (c:Bool):Option Bool:=
(Dg a (b.AG.length:Int)).bind λe=>
if e then
(gt b.AG a).bind λf=>
J1 (f.RW==c)
else
J1 false
theorem NB {b:AB} {a:Int} {c r:Bool} (h:EG b a c=some r):Says Tryz.prog 25 [.agg (Ap b),si a,sb c] (sb r):=by
 refine wO mix Tryz.func25 (I:=⟨xH,xI,xJ⟩) ?_
 simp only[xH,xI,xJ]
 have a1:= @NC
 unfold EG at h
 exact walk
end
def xK:IC:=(Ra 0 [.b 1 [7,21] (.bx 6 (.t 0)),.B 2 false]
(Ra 0 [.K 3 0,.K 4 0]
(Sq (Ra 7 [.f 5 1,.Z 8,.Y 0]
(Bl 0 (Ra 11 [.O .lss 10 9]
(Sq (cX 11 0)
(Sq (Bk 1 (Ra 12 [.I 3 8 10,.A 3 12,.b 6 [14,19,26,30,32] (.bx 3 (.c (.agg [si 0,si 0,si 0]))),.S 3 6 13]
(Sq (Ra 14 [.f 0 6,.C 3,.O .lss 15 16,.C 17,.G 18 false,.f 0 6,.f 4 1,.Z 22,.O .geq 20 23,.e,.V 18 24]
(Ci 25 (Rb 0 [.B 2 false])))
(Sq (Ra 26 [.f 0 6,.C 3,.O .gtr 27 28]
(Ci 29 (Rc 30 [.f 0 6,.M 3 31,.K 4 0])))
(Sq (Ra 32 [.f 1 6,.C 4,.O .neq 33 34]
(Ci 35 (Rb 0 [.B 2 false])))
(Rc 36 [.C 4,.P .add 36 1,.M 4 37]))))))
(Rc 38 [.P .add 10 1,.w 10,.C 38]))))))
(Rb 0 [.B 2 true]))))
def xL:Gi:=⟨[(7,[1]),(14,[6]),(19,[6]),(21,[1]),(26,[6]),(30,[6]),(32,[6])]⟩
def xM:List RV:=[.tmp 2]
namespace Bm
def J3:Option Bool:=
some true
def J2 (L1:Int->Int->Int->Option Bool) (b:Int) (d:DO) (j f:Int):Option Bool:=
if d.Stmt != f then
some false
else
L1 j (BE (f+1)) (BE (b+1))
def J1 (L1:Int->Int->Int->Option Bool) (e b c:Int) (d:DO) (i:Bool):Option Bool:=
if i then
some false
else
if decide (d.Thread>c)then
J2 L1 b d d.Thread 0
else
J2 L1 b d c e
def L1 (a:AB) (L1:Int->Int->Int->Option Bool) (c e b:Int):Option Bool:=
if decide (b<(a.BA.length:Int))then
(gt a.BA b).bind λd=>
if decide (d.Thread<c)then
J1 L1 e b c d true
else
J1 L1 e b c d (decide (d.Thread≥(a.AA.length:Int)))
else
J3
def Ac (a:AB):Nat->Int->Int->Int->Option Bool
|0,_,_,_=>none
|n+1,c,e,b=>L1 a (Ac a n) c e b
end Bm
section
open Bm
def Bm (a:AB):Option Bool:=
Ac a Bo 0 0 0
theorem Jv {a:AB} {r:Bool} (h:Bm a=some r):Says Tryz.prog 26 [.agg (Ap a)] (sb r):=by
 refine wO mix Tryz.func26 (I:=⟨xK,xL,xM⟩) ?_
 simp only[xK,xL,xM]
 have l1:=λn1 n2 n3 n4:Nat=>BM λn τ=>∃(c e b:Int),(τ 1=bA 6 (Ap a)/\τ 3=si c/\τ 4=si e/\τ 8=vS 3 E7 a.BA/\τ 9=si (a.BA.length:Int)/\τ 10=si b)/\Ac a n c e b=some r
 unfold Bm at h
 exact walk
end
end Go.Abs
