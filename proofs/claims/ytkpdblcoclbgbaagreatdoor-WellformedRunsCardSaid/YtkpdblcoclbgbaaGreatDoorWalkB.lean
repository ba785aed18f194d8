/- Typed programs of Go functions, and that the functions do what these say. -/
import Derived.Test.YtkpdblcoclbgbaaGreatDoorBaseA
import Derived.Test.YtkpdblcoclbgbaaGreatDoorWalkA
import Derived.Shelf.Slices.SearchI
set_option linter.unusedSimpArgs false
set_option linter.unusedVariables false
namespace Go.Abs
open Go.Proofs
set_option maxRecDepth 100000
set_option maxHeartbeats 4000000
def oL:IC:=(Ra 4 [.o (.bx 4 (.t 1)),.o (.bx 4 (.t 2)),.o (.bx 4 (.c (.agg z12)))]
(Rb 7 [.C 0,.A 4 4,.A 4 5,.o (.Eg 4 [z12,z12] [(0,.t 8),(1,.t 9)]),.o (.Dc z12 [(0,1,.t 7),(3,1,.t 10)]),.S 4 6 11]))
def oM:Gi:=⟨[]⟩
def oN:List RV:=[.cell 6 true 4]
def Ft (c:Int) (a b:As):Option As:=
some (As.mk c 0 (⟨#[]⟩:ByteArray) [a,b])
theorem KT {c:Int} {a b r:As} (h:Ft c a b=some r):Says Tryz.prog 143 [si c,.agg [si a.Op,si a.N,Ao a.Name,vS 4 Av a.L],.agg [si b.Op,si b.N,Ao b.Name,vS 4 Av b.L]] (.agg [si r.Op,si r.N,Ao r.Name,vS 4 Av r.L]):=by
 refine wF mix Tryz.func143 (I:=⟨oL,oM,oN⟩) ?_
 simp only[oL,oM,oN]
 unfold Ft at h
 exact walk
def oI:IC:=(Ra 4 [.o (.bx 4 (.c (.agg z12)))]
(Ra 8 [.o (.Eg 1 [[Ao ⟨#[]⟩],[Ao ⟨#[]⟩],[Ao ⟨#[]⟩],[Ao ⟨#[]⟩],[Ao ⟨#[]⟩],[Ao ⟨#[]⟩],[Ao ⟨#[]⟩]] [(0,.c (Ao ⟨#[97]⟩)),(1,.c (Ao ⟨#[98]⟩)),(2,.c (Ao ⟨#[120]⟩)),(3,.c (Ao ⟨#[121]⟩)),(4,.c (Ao ⟨#[118]⟩)),(5,.c (Ao ⟨#[120]⟩)),(6,.c (Ao ⟨#[121]⟩))]),.b 5 [34,39,42] (.mv (.t 8))]
(Ra 9 [.r 0 0,.o (.EK 72 [] (.t 12) none [.c (si 10)]),.M 6 13]
(Sq (Bk 0 (Bw 1 (Rc 15 [.C 6,.P .lss 15 2,.C 16,.G 17 false,.C 1,.P .eql 18 0,.C 19,.G 20 true,.C 6,.P .geq 21 7,.G 17 false,.o (.pick (.t 20) (.t 22) (.c (sb false))),.e,.V 17 23,.M 14 24])
(Cn 14 (Rb 25 [.r 0 0,.o (.EK 72 [] (.t 28) none [.c (si 4)]),.c 75 [29] 1,.S 4 4 30]) (Ra 32 [.C 6,.P .lss 32 7,.M 31 33]
(Cn 31 (Rb 34 [.y 5 (.cp (.t 5)),.r 0 0,.y 5 (.cp (.t 5)),.Z 39,.o (.EK 72 [] (.t 38) none [.t 40]),.J 5 1 34 41,.L 42,.c 144 [43] 1,.S 4 4 44]) (Ra 46 [.C 6,.q 46 7 45]
(Ci 45 (Rb 48 [.y 0 (.cp (.t 0)),.o (.EK 142 [] (.t 48) none [.c (si 0)]),.o (.Eg 4 [z12] [(0,.t 49)]),.o (.Dc z12 [(0,1,.c (si 3)),(2,1,.c (Ao ⟨#[113]⟩)),(3,1,.t 50)]),.S 4 4 51]))))))))
(Ra 52 [.o (.Eg 1 [[si 0],[si 0],[si 0],[si 0],[si 0],[si 0]] [(0,.c (si 6)),(1,.c (si 7)),(2,.c (si 8)),(3,.c (si 11)),(4,.c (si 13)),(5,.c (si 17))]),.b 7 [53,58,61] (.mv (.t 52))]
(Sq (.Vt [(0,10,13,63),(0,14,17,67)] [i1 53 7 (.cp (.t 7)),i1 54 0 (.cp (.t 0)),i1 55 0 (.FF (.t 54)),LQ 56 0 0 55,VD 57 0 56,i1 58 7 (.cp (.t 7)),iZ 59 58,i0 60 (.EK 72 [] (.t 57) none [.t 59]),rV 61 7 1 53 60,iL 62 61,i0 63 .fl,iC 64 1,iP 65 .sub 64 1,i0 66 (.EK 142 [] (.t 0) none [.t 65]),i0 67 .fl,iC 68 1,iP 69 .sub 68 1,i0 70 (.EK 142 [] (.t 0) none [.t 69]),i0 71 (.call 143 [.t 62,.t 66,.t 70] 1),iS 4 4 71])
.ret))))))
def oJ:Gi:=⟨[(9,[0]),(10,[0]),(11,[0]),(12,[0]),(25,[0]),(26,[0]),(27,[0]),(28,[0]),(34,[5]),(35,[0]),(36,[0]),(37,[0]),(38,[0]),(39,[5]),(42,[5]),(48,[0]),(53,[7]),(54,[0]),(55,[0]),(56,[0]),(57,[0]),(58,[7]),(61,[7])]⟩
def oK:List RV:=[.cell 4 true 4]
namespace CD
def J1 (R142:AF->Int->Option (As×AF)) (c:Int) (a:AF) (b:Int×Cm) (d:Bool):Option (As×AF):=
if d then
(BF b.2 4).bind λe=>
(G4 e.1).bind λp=>
some (p,(AF.mk e.2 a.BG a.left a.E5 a.tx a.atomic a.loop a.held))
else
if decide (b.1<7)then
(BF b.2 7).bind λf=>
(gt [(⟨#[97]⟩:ByteArray),(⟨#[98]⟩:ByteArray),(⟨#[120]⟩:ByteArray),(⟨#[121]⟩:ByteArray),(⟨#[118]⟩:ByteArray),(⟨#[120]⟩:ByteArray),(⟨#[121]⟩:ByteArray)] f.1).bind λt=>
(GH t).bind λq=>
some (q,(AF.mk f.2 a.BG a.left a.E5 a.tx a.atomic a.loop a.held))
else
if b.1==7 then
(R142 (AF.mk b.2 a.BG a.left a.E5 a.tx a.atomic a.loop a.held) 0).bind λi=>
some ((As.mk 3 0 (⟨#[113]⟩:ByteArray) [i.1]),i.2)
else
(BF b.2 6).bind λj=>
(gt [6,7,8,11,13,17] j.1).bind λu=>
(R142 (AF.mk j.2 a.BG a.left a.E5 a.tx a.atomic a.loop a.held) (BE (c-1))).bind λl=>
(R142 l.2 (BE (c-1))).bind λo=>
(Ft u l.1 o.1).bind λs=>
some (s,o.2)
end CD
section
open CD
def CD (R142:AF->Int->Option (As×AF)) (a:AF) (c:Int):Option (As×AF):=
(BF a.t 10).bind λb=>
if decide (b.1<2)then
J1 R142 c a b true
else
if c==0 then
J1 R142 c a b (decide (b.1≥7))
else
J1 R142 c a b false
theorem MX {R142:AF->Int->Option (As×AF)} (H142:∀{x0 x1 r},R142 x0 x1=some r->A5 Tryz.prog 142 [bA 8 (Be x0),si x1] (.agg [si r.1.Op,si r.1.N,Ao r.1.Name,vS 4 Av r.1.L]) [bA 8 (Be r.2),.dead]) {a:AF} {c:Int} {r:As×AF} (h:CD R142 a c=some r):A5 Tryz.prog 142 [bA 8 (Be a),si c] (.agg [si r.1.Op,si r.1.N,Ao r.1.Name,vS 4 Av r.1.L]) [bA 8 (Be r.2),.dead]:=by
 refine wP mix Tryz.func142 (I:=⟨oI,oJ,oK⟩) ?_
 simp only[oI,oJ,oK]
 have a1:= @Fi
 have a2:= @KW
 have a3:= @NW
 have a4:= @H142
 have a5:= @KT
 have c1:=λn1 n2 n3 n4:Nat=>B7 1 λτ=>∃(b:Int×Cm) (d:Bool),(τ 0=bA 8 [bA 2 (Ot b.2),si a.BG,si a.left,sb a.E5,sb a.tx,sb a.atomic,sb a.loop,vO 1 eS a.held]/\τ 1=si c/\τ 4=bA 4 z12/\τ 5= .own false 1 ([[Ao ⟨#[97]⟩],[Ao ⟨#[98]⟩],[Ao ⟨#[120]⟩],[Ao ⟨#[121]⟩],[Ao ⟨#[118]⟩],[Ao ⟨#[120]⟩],[Ao ⟨#[121]⟩]])/\τ 6=si b.1/\τ 14=sb d)/\J1 R142 c a b d=some r
 unfold CD at h
 exact walk
end
def I5:Nat->(AF->Int->Option (As×AF))
|0=>(λ_ _=>none)
|n+1=>CD ((I5 n))
def BX (n:Nat):AF->Int->Option (As×AF):=(I5 n)
theorem LS (n:Nat):(∀{x0 x1 r},(BX n) x0 x1=some r->A5 Tryz.prog 142 [bA 8 (Be x0),si x1] (.agg [si r.1.Op,si r.1.N,Ao r.1.Name,.sl false 4 (r.1.L.map Av)]) [bA 8 (Be r.2),.dead]):=by
  induction n with
  |zero=>exactλh=>B9 h
  |succ n ih=>exactλh=>MX ih h
theorem LU {n:Nat}:∀{x0 x1 r},(BX n) x0 x1=some r->A5 Tryz.prog 142 [bA 8 (Be x0),si x1] (.agg [si r.1.Op,si r.1.N,Ao r.1.Name,.sl false 4 (r.1.L.map Av)]) [bA 8 (Be r.2),.dead]:=(LS n)
def AAx:IC:=(Ra 3 [.o (.bx 4 (.t 1)),.o (.bx 11 (.c (.agg z0)))]
(Rb 5 [.C 0,.A 4 3,.o (.Dc z0 [(0,1,.c (si 1)),(2,1,.t 5),(5,4,.t 6)]),.S 11 4 7]))
def AAy:Gi:=⟨[]⟩
def AAz:List RV:=[.cell 4 true 11]
def DX (b:ByteArray) (a:As):Option AK:=
some (AK.mk 1 0 b (⟨#[]⟩:ByteArray) [] a [] [])
theorem KS {b:ByteArray} {a:As} {r:AK} (h:DX b a=some r):Says Tryz.prog 74 [Ao b,.agg [si a.Op,si a.N,Ao a.Name,vS 4 Av a.L]] (.agg [si r.Op,si r.D4,Ao r.Name,Ao r.Arg,vS 4 Av r.Index,si r.Expr.Op,si r.Expr.N,Ao r.Expr.Name,vS 4 Av r.Expr.L,vS 11 An r.Body,vS 11 An r.Else]):=by
 refine wF mix Tryz.func74 (I:=⟨AAx,AAy,AAz⟩) ?_
 simp only[AAx,AAy,AAz]
 unfold DX at h
 exact walk
def zG:IC:=(Ra 0 [.K 4 0]
(Sq (Ra 0 [.K 5 0]
(Bl 0 (Sq (Ra 6 [.C 5,.C 0,.Z 7,.O .lss 6 8]
(cX 9 0))
(Sq (Bk 1 (Ra 12 [.C 0,.C 5,.I 1 12 13,.L 14,.C 1,.O .eql 15 16]
(Ci 17 (Rb 18 [.C 5,.M 4 18]))))
(Rc 10 [.C 5,.P .add 10 1,.M 5 11])))))
(Rb 0 [.K 4 (-1)])))
def zH:Gi:=⟨[]⟩
def zI:List RV:=[.tmp 4]
namespace CF
def J1:Option Int:=
some (-1)
def L1 (a:List ByteArray) (b:ByteArray) (L1:Int->Option Int) (c:Int):Option Int:=
if decide (c<(a.length:Int))then
(gt a c).bind λd=>
if d.toList==b.toList then
some c
else
L1 (BE (c+1))
else
J1
def Ac (a:List ByteArray) (b:ByteArray):Nat->Int->Option Int
|0,_=>none
|n+1,c=>L1 a b (Ac a b n) c
end CF
section
open CF
def CF (a:List ByteArray) (b:ByteArray):Option Int:=
Ac a b Bo 0
theorem FB {a:List ByteArray} {b:ByteArray} {r:Int} (h:CF a b=some r):Says Tryz.prog 43 [vS 1 eS a,Ao b] (si r):=by
 refine wO mix Tryz.func43 (I:=⟨zG,zH,zI⟩) ?_
 simp only[zG,zH,zI]
 have l1:=λn1 n2 n3 n4:Nat=>BM λn τ=>∃(c:Int),(τ 0=vS 1 eS a/\τ 1=Ao b/\τ 5=si c)/\Ac a b n c=some r
 unfold CF at h
 exact walk
end
def ABj:IC:=(.seq (.TO [⟨some ⟨2,[],[]⟩,.mv (.c (.own false 3 [])),none⟩])
(.seq (.seq (.Z1 [.o ⟨some ⟨3,[],[]⟩,.cp (.t 0),none⟩,
.Ty ⟨4,[],[]⟩ false (.t 3)])
(.cond (.t 4) (.seq (.TO [⟨some ⟨2,[],[]⟩,.mv (.c (.own false 3 [])),none⟩])
.ret) .skip))
(.seq (.TO [⟨some ⟨5,[],[]⟩,.Eg 3 [] [],none⟩,
⟨some ⟨6,[],[]⟩,.cp (.t 0),none⟩,
⟨some ⟨7,[],[]⟩,.app 3 24 (.t 5) (.t 6),none⟩,
⟨some ⟨2,[],[]⟩,.mv (.t 7),none⟩])
.ret)))
def ABk:Gi:=⟨[]⟩
def ABl:List RV:=[.tmp 2]
def f90:FI:=⟨ABj,ABk,ABl⟩
theorem vT:I2 Tryz.prog Tryz.f90 f90=true:=by kernel_rfl
def EU (l:List AD):Option (List AD):=if Aq l.length 24=true then some l else none
theorem HT {l:List AD} {r:List AD} (h:EU l=some r):Says Tryz.prog 90 [vS 3 A2 l] (vO 3 A2 r):=by
  obtain⟨g,h⟩:=HZ h
  obtain rfl:=Option.some.inj h
  refine Ij mix Tryz.func90 vT (of_decide_eq_true (by kernel_rfl)) rfl ?_
  simp only[f90,ABj,ABk,ABl]
  simp +decide only[go_sem,g]
  intro b hb
  cases b with
  |true=>
    have hl:l=[]:=by simpa using hb rfl
    subst hl
    simp +decide only[go_sem,g]
  |false=>simp +decide only[go_sem,g]
def AAK:IC:=(Ra 2 [.b 1 [6,7,10,11,16,17,29,30,31,33,34,35,37,38] (.bx 4 (.t 0)),.o (.bx 4 (.c (.agg z4)))]
(Ra 6 [.m 1 0 1,.Z 7,.o (.mk 2 32 kN (.t 8) (.t 8)),.b 3 [18,26,28] (.mv (.t 9))]
(Sq (Ra 10 [.m 1 0 1,.Z 11,.Y 0]
(Bl 0 (Ra 14 [.O .lss 13 12]
(Sq (cX 14 0)
(Sq (Bk 1 (Ra 15 [.C 13,.J 1 2 11 13,.y 1 (.ld true 2 (.t 16)),.b 5 [20,22,23] (.bx 2 (.c (.agg kN))),.M 4 15,.S 2 5 17]
(Rc 18 [.y 3 (.cp (.t 3)),.C 4,.f 0 5,.m 5 1 5,.c 35 [23] 2,.o (.Dc kN [(0,1,.t 21),(1,1,.t 24)]),.J 3 2 18 19,.S 2 26 25])))
(Rc 27 [.P .add 13 1,.w 13,.C 27]))))))
(Ra 28 [.y 3 (.cp (.t 3)),.F 0 1,.S 1 29 28]
(Ra 30 [.m 1 2 1,.c 89 [31] 2,.F 2 1,.S 1 33 32]
(Ra 34 [.m 1 3 1,.c 90 [35] 2,.F 3 1,.S 1 37 36]
(Rb 38 [.y 1 (.ld true 4 (.t 1)),.S 4 2 38])))))))
def AAL:Gi:=⟨[(6,[1]),(7,[1]),(10,[1]),(11,[1]),(16,[1]),(17,[1]),(18,[3]),(20,[5]),(22,[5]),(23,[5]),(26,[3]),(28,[3]),(29,[1]),(30,[1]),(31,[1]),(33,[1]),(34,[1]),(35,[1]),(37,[1]),(38,[1])]⟩
def AAM:List RV:=[.cell 2 true 4]
namespace C8
def J1 (a:AO) (e:List AY):Option AO:=
(HD a.Ce).bind λi=>
(EU a.AA).bind λj=>
some (AO.mk e a.Tx i j)
def L1 (a:AO) (L1:(List AY)->Int->Option AO) (c:List AY) (b:Int):Option AO:=
if decide (b<(a.AG.length:Int))then
(gt a.AG b).bind λd=>
(slices_Clone_int d.BW).bind λf=>
(gt c b).bind λl=>
L1 (c.set b.toNat (AY.mk d.En f)) (BE (b+1))
else
J1 a c
def Ac (a:AO):Nat->(List AY)->Int->Option AO
|0,_,_=>none
|n+1,c,b=>L1 a (Ac a n) c b
end C8
section
open C8
def C8 (a:AO):Option AO:=
if 0≤(a.AG.length:Int)/\(a.AG.length:Int)≤(a.AG.length:Int)/\Aq a.AG.length 32=true then
Ac a Bo (List.replicate a.AG.length (AY.mk 0 [])) 0
else none
theorem PT {a r:AO} (h:C8 a=some r):Says Tryz.prog 57 [.agg (GZ a)] (.agg (FK r)):=by
 refine wO mix Tryz.func57 (I:=⟨AAK,AAL,AAM⟩) ?_
 simp only[AAK,AAL,AAM]
 have a1:= @Ks
 have a2:= @HT
 have a3:= @Hp
 have l1:=λn1 n2 n3 n4:Nat=>BM λn τ=>∃(c:List AY) (b:Int),(τ 1=bA 4 (GZ a)/\τ 2=bA 4 z4/\τ 3=vO 2 B5 c/\τ 11=vS 2 Gg a.AG/\τ 12=si (a.AG.length:Int)/\τ 13=si b)/\Ac a n c b=some r
 unfold C8 at h
 exact walk
end
def ABm:IC:=(Ra 0 [.b 2 [5,9] (.bx 3 (.t 0)),.B 4 false]
(Rb 5 [.f 0 2,.Q 6 3,.C 7,.G 8 true,.f 1 2,.C 1,.O .eql 10 11,.e,.W 8 12,.M 4 13]))
def ABn:Gi:=⟨[(5,[2]),(9,[2])]⟩
def ABo:List RV:=[.tmp 4]
namespace EA
def J1 (c:Bool):Option Bool:=
some c
end EA
section
open EA
def EA (a:AD) (b:Int):Option Bool:=
if a.Status==3 then
J1 (a.Ef==b)
else
J1 false
theorem Jd {a:AD} {b:Int} {r:Bool} (h:EA a b=some r):Says Tryz.prog 94 [.agg (A2 a),si b] (sb r):=by
 refine wO mix Tryz.func94 (I:=⟨ABm,ABn,ABo⟩) ?_
 simp only[ABm,ABn,ABo]
 unfold EA at h
 exact walk
end
def AAN:IC:=(Sq (.Z1 [.rM ⟨3,[],[0]⟩ 4 0,.o (iK 6 0)])
(Ra 0 [.K 7 (-1)]
(Hl (Ra 10 [.m 0 3 3,.Z 11,.Y 0]
(Bl 0 (Ra 14 [.O .lss 13 12]
(Sq (cX 14 0)
(Hl (Bk 1 (Ra 15 [.C 13,.J 0 3 11 13,.A 3 16,.w 9,.o (.bx 3 (.c (.agg fD))),.M 8 15,.S 3 9 17]
(Hl (Rc 18 [.A 3 9,.C 1,.c 94 [18,19] 0,.C 20,.G 21 true,.C 7,.P .lss 22 0,.C 23,.G 24 false,.C 8,.C 2,.O .eql 25 26,.G 21 true,.o (.pick (.t 24) (.c (sb true)) (.t 27)),.e,.W 21 28])
(Ci 29 (Rc 30 [.C 8,.M 7 30])))))
(Rc 31 [.P .add 13 1,.w 13,.C 31]))))))
(Hl (Ra 32 [.C 7,.P .geq 32 0]
(Ci 33 (Rc 34 [.m 0 3 3,.C 7,.J 0 3 35 36,.H 0 0 37,.T 38 4])))
(Rb 39 [.C 7,.M 6 39])))))
def AAO:Gi:=⟨[(3,[0]),(10,[0]),(11,[0]),(16,[0]),(34,[0]),(35,[0]),(37,[0]),(38,[0])]⟩
def AAP:List RV:=[.tmp 6]
def f62:FI:=⟨AAN,AAO,AAP⟩
theorem vP:I2 Tryz.prog Tryz.f62 f62=true:=by kernel_rfl
namespace CU
def J4 (chosen_2:Int) (s:List AD):Option (Int×(List AD)):=
some (chosen_2,s)
def J3 (threads:List AD) (chosen_2:Int):Option (Int×(List AD)):=
if decide (chosen_2≥0)then
(gt threads chosen_2).bind λx_1=>
J4 chosen_2 (threads.set chosen_2.toNat (AD.mk 4 x_1.Ef x_1.Atomic))
else
J4 chosen_2 threads
def J2 (L1:Int->Int->Option (Int×(List AD))) (t13v chosen_1:Int):Option (Int×(List AD)):=
L1 chosen_1 (BE (t13v+1))
def J1 (L1:Int->Int->Option (Int×(List AD))) (chosen t13v:Int) (t29v:Bool):Option (Int×(List AD)):=
if t29v then
J2 L1 t13v t13v
else
J2 L1 t13v chosen
def L1 (cond:Int) (threads:List AD) (wake:Int) (L1:Int->Int->Option (Int×(List AD))) (chosen t13v:Int):Option (Int×(List AD)):=
if decide (t13v<(threads.length:Int))then
(gt threads t13v).bind λx=>
(EA x cond).bind λv=>
if v then
if decide (chosen<0)then
J1 L1 chosen t13v true
else
J1 L1 chosen t13v (t13v==wake)
else
J1 L1 chosen t13v false
else
J3 threads chosen
def Ac (cond:Int) (threads:List AD) (wake:Int):Nat->Int->Int->Option (Int×(List AD))
|0,_,_=>none
|n+1,chosen,t13v=>L1 cond threads wake (Ac cond threads wake n) chosen t13v
end CU
section
open CU
def CU (tx:Int) (threads:List AD) (cond wake:Int):Option (Int×(List AD)):=
Ac cond threads wake Bo (-1) 0
theorem OX {tx:Int} {threads:List AD} {cond wake:Int} {r:Int×(List AD)} (h:CU tx threads cond wake=some r):A5 Tryz.prog 62 [.agg [.dead,si tx,.dead,vO 3 A2 threads],si cond,si wake] (si r.1) [.agg [.dead,si tx,.dead,vO 3 A2 r.2],.dead,.dead]:=by
 refine RT mix Tryz.func62 vP (by kernel_rfl) (of_decide_eq_true (by kernel_rfl)) rfl rfl ?_
 simp only[f62,AAN,AAO,AAP]
 try simp +decide only[go_sem, *]
 intro us1 _
 try simp +decide only[go_sem, *]
 refine II (λτ=>∃chosen_2:Int,(τ 0= .agg [.dead,si tx,.dead,vO 3 A2 threads]/\τ 3= .vb 0 0 us1/\τ 7=si chosen_2)/\J3 threads chosen_2=some r) λM3 hM3=>⟨?_,?_⟩
 . try simp +decide only[go_sem, *]
   refine Jc (λn τ=>∃chosen:Int,∃t13v:Int,(τ 0= .agg [.dead,si tx,.dead,vO 3 A2 threads]/\τ 1=si cond/\τ 2=si wake/\τ 3= .vb 0 0 us1/\τ 7=si chosen/\τ 11= .al 0 [(0,3,0)]/\τ 12=si (threads.length:Int)/\τ 13=si t13v)/\Ac cond threads wake n chosen t13v=some r) ⟨_,_,?_,h⟩ λn1 τ1 N1=> ?_
   . simp +decide only[go_sem, *]
   rintro⟨chosen,t13v,s1,h⟩ hN1
   cases n1 with
   |zero=>exact B9 h
   |succ n1=>
    rw[Ac]at h;generalize hL1:Ac cond threads wake n1=L1 at h
    try simp +decide only[go_sem, *]
    refine cI h (λ_ h=> ?_) λ_ h=> ?_
    . try simp +decide only[go_sem, *]
      refine II (λτ=>∃chosen_1:Int,(τ 0= .agg [.dead,si tx,.dead,vO 3 A2 threads]/\τ 1=si cond/\τ 2=si wake/\τ 3= .vb 0 0 us1/\τ 7=si chosen_1/\τ 11= .al 0 [(0,3,0)]/\τ 12=si (threads.length:Int)/\τ 13=si t13v)/\J2 L1 t13v chosen_1=some r) λM2 hM2=>⟨?_,?_⟩
      . obtain⟨x,_,h⟩:=gB h
        try simp +decide only[go_sem, *]
        refine II (λτ=>∃t29v:Bool,(τ 0= .agg [.dead,si tx,.dead,vO 3 A2 threads]/\τ 1=si cond/\τ 2=si wake/\τ 3= .vb 0 0 us1/\τ 7=si chosen/\τ 8=si t13v/\τ 11= .al 0 [(0,3,0)]/\τ 12=si (threads.length:Int)/\τ 13=si t13v/\τ 29=sb t29v)/\J1 L1 chosen t13v t29v=some r) λM1 hM1=>⟨?_,?_⟩
        . obtain⟨v,g2,h⟩:=bS h
          try simp +decide only[go_sem, *]
          refine⟨_,Jd g2,?_⟩
          try simp +decide only[go_sem, *]
          refine gI h (λ_ h=> ?_) λ_ h=> ?_
          . try simp +decide only[go_sem, *]
            refine gI h (λ_ h=> ?_) λ_ h=> ?_
            . try simp +decide only[go_sem, *]
              refine hM1 _ ⟨_,?_,h⟩
              simp +decide only[go_sem, *]
            try simp +decide only[go_sem, *]
            refine hM1 _ ⟨_,?_,h⟩
            simp +decide only[go_sem, *]
          try simp +decide only[go_sem, *]
          refine hM1 _ ⟨_,?_,h⟩
          simp +decide only[go_sem, *]
        rintro τ1 ⟨t29v,s1,h⟩
        try simp +decide only[go_sem, *]
        refine cI h (λ_ h=> ?_) λ_ h=> ?_
        . try simp +decide only[go_sem, *]
          refine hM2 _ ⟨_,?_,h⟩
          simp +decide only[go_sem, *]
        try simp +decide only[go_sem, *]
        refine hM2 _ ⟨_,?_,h⟩
        simp +decide only[go_sem, *]
      rintro τ2 ⟨chosen_1,s2,h⟩
      try simp +decide only[go_sem, *]
      refine hN1 n1 (Nat.lt_succ_self _) _ ⟨_,_,?_,hL1.symm▸h⟩
      simp +decide only[go_sem, *]
    try simp +decide only[go_sem, *]
    refine hM3 _ ⟨_,?_,h⟩
    simp +decide only[go_sem, *]
 rintro τ3 ⟨chosen_2,s3,h⟩
 try simp +decide only[go_sem, *]
 refine II (λτ=>∃s:List AD,(τ 0= .agg [.dead,si tx,.dead,vO 3 A2 s]/\τ 7=si chosen_2)/\J4 chosen_2 s=some r) λM4 hM4=>⟨?_,?_⟩
 . try simp +decide only[go_sem, *]
   refine cI h (λ_ h=> ?_) λ_ h=> ?_
   . obtain⟨x_1,_,h⟩:=gB h
     try simp +decide only[go_sem, *]
     refine hM4 _ ⟨_,?_,h⟩
     simp +decide only[go_sem, *]
   try simp +decide only[go_sem, *]
   refine hM4 _ ⟨_,?_,h⟩
   simp +decide only[go_sem, *]
 rintro τ4 ⟨s,s4,h⟩
 obtain rfl:=Option.some.inj h
 simp +decide only[go_sem, *]
end
def qG:IC:=(Ra 0 [.b 1 [5,9,13,16,22,30,37,42,46,52,58] (.bx 4 (.t 0)),.B 2 false]
(Bw 1 (Rc 5 [.f 0 1,.Q 6 2,.C 7,.G 8 false,.f 0 1,.P .eql 10 3,.e,.V 8 11,.M 3 12])
(Sq (Bw 2 (Rc 13 [.f 0 1,.c 171 [14] 0,.f 3 1,.Z 17,.O .neq 15 18,.C 19,.G 20 false,.C 3,.f 2 1,.o (.bin .neq (.t 23) (.c (Ao ⟨#[]⟩))),.o (.beq true (.t 21) (.t 24)),.e,.V 20 25,.C 26,.G 27 false,.C 3,.C 28,.G 29 true,.f 2 1,.c 42 [31] 0,.N 32,.G 27 false,.o (.pick (.t 29) (.t 33) (.c (sb false))),.e,.V 27 34,.C 35,.G 36 false,.f 1 1,.P .lss 38 0,.e,.V 36 39,.C 40,.G 41 false,.f 0 1,.P .neq 43 1,.C 44,.G 45 true,.f 1 1,.P .neq 47 0,.G 41 false,.o (.pick (.t 45) (.t 48) (.c (sb false))),.e,.V 41 49])
(Ci 50 (Rb 0 [.B 2 false])))
(Sq (Ra 0 [.K 4 0]
(Bl 0 (Sq (Ra 51 [.C 4,.f 3 1,.Z 53,.O .lss 51 54]
(cX 55 0))
(Sq (Bk 1 (Ra 58 [.f 3 1,.C 4,.I 4 59 60,.A 4 61,.c 166 [62] 0,.N 63]
(Ci 64 (Rb 0 [.B 2 false]))))
(Rc 56 [.C 4,.P .add 56 1,.M 4 57])))))
(Rb 0 [.B 2 true])))))
def qH:Gi:=⟨[(5,[1]),(9,[1]),(13,[1]),(16,[1]),(22,[1]),(30,[1]),(37,[1]),(42,[1]),(46,[1]),(52,[1]),(58,[1])]⟩
def qI:List RV:=[.tmp 2]
namespace Bi
def J3:Option Bool:=
some true
def L1 (R166:As->Option Bool) (a:As) (L1:Int->Option Bool) (b:Int):Option Bool:=
if decide (b<(a.L.length:Int))then
(gt a.L b).bind λj=>
(R166 j).bind λi=>
if !i then
some false
else
L1 (BE (b+1))
else
J3
def Ac (R166:As->Option Bool) (a:As):Nat->Int->Option Bool
|0,_=>none
|n+1,b=>L1 R166 a (Ac R166 a n) b
def J2 (R166:As->Option Bool) (a:As) (d:Bool):Option Bool:=
if d then
some false
else
Ac R166 a Bo 0
def J1 (R166:As->Option Bool) (a:As) (c:Bool):Option Bool:=
(Cu a.Op).bind λe=>
if e != (a.L.length:Int)then
J2 R166 a true
else
if !(c==(!(a.Name.toList==(⟨#[]⟩:ByteArray).toList)))then
J2 R166 a true
else
if c then
(BV a.Name).bind λf=>
if !f then
J2 R166 a true
else
if decide (a.N<0)then
J2 R166 a true
else
if a.Op != 1 then
J2 R166 a (a.N != 0)
else
J2 R166 a false
else
if decide (a.N<0)then
J2 R166 a true
else
if a.Op != 1 then
J2 R166 a (a.N != 0)
else
J2 R166 a false
end Bi
section
open Bi
def Bi (R166:As->Option Bool) (a:As):Option Bool:=
if a.Op==2 then
J1 R166 a true
else
J1 R166 a (a.Op==3)
theorem LZ {R166:As->Option Bool} (H166:∀{x0 r},R166 x0=some r->Says Tryz.prog 166 [.agg [si x0.Op,si x0.N,Ao x0.Name,vS 4 Av x0.L]] (sb r)) {a:As} {r:Bool} (h:Bi R166 a=some r):Says Tryz.prog 166 [.agg [si a.Op,si a.N,Ao a.Name,vS 4 Av a.L]] (sb r):=by
 refine wO mix Tryz.func166 (I:=⟨qG,qH,qI⟩) ?_
 simp only[qG,qH,qI]
 have a1:= @H166
 have a2:= @Nn
 have a3:= @FV
 have l1:=λn1 n2 n3 n4:Nat=>BM λn τ=>∃(b:Int),(τ 1=bA 4 [si a.Op,si a.N,Ao a.Name,vS 4 Av a.L]/\τ 4=si b)/\Ac R166 a n b=some r
 have c2:=λn1 n2 n3 n4:Nat=>B7 2 λτ=>∃(d:Bool),(τ 1=bA 4 [si a.Op,si a.N,Ao a.Name,vS 4 Av a.L]/\τ 50=sb d)/\J2 R166 a d=some r
 have c1:=λn1 n2 n3 n4:Nat=>B7 1 λτ=>∃(c:Bool),(τ 1=bA 4 [si a.Op,si a.N,Ao a.Name,vS 4 Av a.L]/\τ 3=sb c)/\J1 R166 a c=some r
 unfold Bi at h
 exact walk
end
def Ih:Nat->(As->Option Bool)
|0=>(λ_=>none)
|n+1=>Bi ((Ih n))
def CE (n:Nat):As->Option Bool:=(Ih n)
theorem Kh (n:Nat):(∀{x0 r},(CE n) x0=some r->Says Tryz.prog 166 [.agg [si x0.Op,si x0.N,Ao x0.Name,.sl false 4 (x0.L.map Av)]] (sb r)):=by
  induction n with
  |zero=>exactλh=>B9 h
  |succ n ih=>exactλh=>LZ ih h
theorem Hf {n:Nat}:∀{x0 r},(CE n) x0=some r->Says Tryz.prog 166 [.agg [si x0.Op,si x0.N,Ao x0.Name,.sl false 4 (x0.L.map Av)]] (sb r):=(Kh n)
def qJ:IC:=(Ra 0 [.b 1 [3,7,12,17] (.bx 4 (.t 0)),.B 2 false]
(Rb 3 [.f 0 1,.Q 4 0,.C 5,.G 6 true,.f 1 1,.P .eql 8 0,.e,.W 6 9,.C 10,.G 11 true,.f 2 1,.o (.bin .eql (.t 13) (.c (Ao ⟨#[]⟩))),.e,.W 11 14,.C 15,.G 16 true,.f 3 1,.Z 18,.P .eql 19 0,.e,.W 16 20,.M 2 21]))
def qK:Gi:=⟨[(3,[1]),(7,[1]),(12,[1]),(17,[1])]⟩
def qL:List RV:=[.tmp 2]
namespace FA
def J1 (b:Bool):Option Bool:=
some b
end FA
section
open FA
def FA (a:As):Option Bool:=
if a.Op==0 then
if a.N==0 then
if a.Name.toList==(⟨#[]⟩:ByteArray).toList then
J1 ((a.L.length:Int)==0)
else
J1 false
else
J1 false
else
J1 false
theorem Q7 {a:As} {r:Bool} (h:FA a=some r):Says Tryz.prog 167 [.agg [si a.Op,si a.N,Ao a.Name,vS 4 Av a.L]] (sb r):=by
 refine wO mix Tryz.func167 (I:=⟨qJ,qK,qL⟩) ?_
 simp only[qJ,qK,qL]
 unfold FA at h
 exact walk
end
def nG:IC:=(Ra 0 [.B 2 false]
(Sq (Ra 0 [.K 3 0]
(Bl 0 (Sq (Ra 4 [.C 3,.C 0,.Z 5,.O .lss 4 6]
(cX 7 0))
(Sq (Bk 1 (Ra 10 [.C 0,.C 3,.I 11 10 11,.A 11 12,.c 157 [13] 0,.N 14]
(Ci 15 (Rb 0 [.B 2 false]))))
(Rc 8 [.C 3,.P .add 8 1,.M 3 9])))))
(Rb 0 [.B 2 true])))
def nH:Gi:=⟨[]⟩
def nI:List RV:=[.tmp 2]
namespace Bu
def J1:Option Bool:=
some true
def L1 (R157:AK->Option Bool) (a:List AK) (L1:Int->Option Bool) (b:Int):Option Bool:=
if decide (b<(a.length:Int))then
(gt a b).bind λd=>
(R157 d).bind λc=>
if !c then
some false
else
L1 (BE (b+1))
else
J1
def Ac (R157:AK->Option Bool) (a:List AK):Nat->Int->Option Bool
|0,_=>none
|n+1,b=>L1 R157 a (Ac R157 a n) b
end Bu
section
open Bu
def Bu (R157:AK->Option Bool) (a:List AK):Option Bool:=
Ac R157 a Bo 0
theorem Ki {R157:AK->Option Bool} (H157:∀{x0 r},R157 x0=some r->Says Tryz.prog 157 [.agg [si x0.Op,si x0.D4,Ao x0.Name,Ao x0.Arg,vS 4 Av x0.Index,si x0.Expr.Op,si x0.Expr.N,Ao x0.Expr.Name,vS 4 Av x0.Expr.L,vS 11 An x0.Body,vS 11 An x0.Else]] (sb r)) {a:List AK} {r:Bool} (h:Bu R157 a=some r):Says Tryz.prog 133 [vS 11 An a] (sb r):=by
 refine wO mix Tryz.func133 (I:=⟨nG,nH,nI⟩) ?_
 simp only[nG,nH,nI]
 have a1:= @H157
 have l1:=λn1 n2 n3 n4:Nat=>BM λn τ=>∃(b:Int),(τ 0=vS 11 An a/\τ 3=si b)/\Ac R157 a n b=some r
 unfold Bu at h
 exact walk
end
def pJ:IC:=(Ra 0 [.b 1 [6,10,14,18,23,28,34,42,48,52,58,62,67,72,76,83,88,96,100,105,110,116,125,131,135,142,148,152,158,162] (.bx 11 (.t 0)),.B 2 false]
(Sq (Bw 1 (Rc 6 [.f 0 1,.P .lss 7 1,.C 8,.G 9 false,.f 0 1,.P .gtr 11 15,.e,.V 9 12])
(Ci 13 (Rb 0 [.B 2 false])))
(Bw 2 (Rc 14 [.f 0 1,.Q 15 2,.C 16,.G 17 false,.f 0 1,.P .eql 19 3,.e,.V 17 20,.C 21,.G 22 false,.f 0 1,.P .eql 24 7,.e,.V 22 25,.C 26,.G 27 false,.f 0 1,.P .eql 29 8,.e,.V 27 30,.M 3 31])
(Sq (Bw 3 (Rc 32 [.C 3,.C 32,.G 33 true,.f 2 1,.o (.bin .neq (.t 35) (.c (Ao ⟨#[]⟩))),.e,.W 33 36,.C 37,.G 38 false,.C 3,.N 39,.C 40,.G 41 true,.f 2 1,.c 42 [43] 0,.N 44,.G 38 false,.o (.pick (.t 41) (.t 45) (.c (sb false))),.e,.V 38 46])
(Ci 47 (Rb 0 [.B 2 false])))
(Sq (Bw 4 (Rc 48 [.f 0 1,.Q 49 15,.C 50,.G 51 true,.f 3 1,.c 42 [53] 0,.N 54,.e,.W 51 55,.C 56,.G 57 false,.f 0 1,.P .neq 59 15,.C 60,.G 61 true,.f 3 1,.o (.bin .neq (.t 63) (.c (Ao ⟨#[]⟩))),.G 57 false,.o (.pick (.t 61) (.t 64) (.c (sb false))),.e,.V 57 65])
(Ci 66 (Rb 0 [.B 2 false])))
(Sq (Bw 5 (Rc 67 [.f 4 1,.Z 68,.P .gtr 69 1,.C 70,.G 71 false,.f 0 1,.P .neq 73 1,.C 74,.G 75 true,.f 4 1,.Z 77,.P .gtr 78 0,.G 71 false,.o (.pick (.t 75) (.t 79) (.c (sb false))),.e,.V 71 80,.C 81,.G 82 false,.f 4 1,.Z 84,.P .eql 85 1,.C 86,.G 87 true,.f 4 1,.o (.Lr 4 (.t 89) (.c (si 0))),.o (.ld true 4 (.t 90)),.c 166 [91] 0,.N 92,.G 82 false,.o (.pick (.t 87) (.t 93) (.c (sb false))),.e,.V 82 94])
(Ci 95 (Rb 0 [.B 2 false])))
(Bw 6 (Rc 96 [.f 0 1,.Q 97 1,.C 98,.G 99 false,.f 0 1,.P .eql 101 2,.e,.V 99 102,.C 103,.G 104 false,.f 0 1,.P .eql 106 3,.e,.V 104 107,.C 108,.G 109 false,.f 0 1,.P .eql 111 14,.e,.V 109 112,.M 4 113])
(Sq (Bw 7 (Rc 114 [.C 4,.C 114,.G 115 true,.F 5 1,.o (.ld true 4 (.t 116)),.c 166 [117] 0,.N 118,.e,.W 115 119,.C 120,.G 121 false,.C 4,.N 122,.C 123,.G 124 true,.F 5 1,.o (.ld true 4 (.t 125)),.c 167 [126] 0,.N 127,.G 121 false,.o (.pick (.t 124) (.t 128) (.c (sb false))),.e,.V 121 129])
(Ci 130 (Rb 0 [.B 2 false])))
(Bw 8 (Rc 131 [.f 0 1,.P .geq 132 2,.C 133,.G 134 true,.f 0 1,.P .leq 136 8,.e,.W 134 137,.M 5 138])
(Sq (Bw 9 (Rc 139 [.C 5,.N 139,.C 140,.G 141 true,.f 9 1,.Z 143,.P .gtr 144 0,.e,.W 141 145,.C 146,.G 147 false,.f 0 1,.P .neq 149 2,.C 150,.G 151 true,.f 10 1,.Z 153,.P .gtr 154 0,.G 147 false,.o (.pick (.t 151) (.t 155) (.c (sb false))),.e,.V 147 156])
(Ci 157 (Rb 0 [.B 2 false])))
(Rb 158 [.f 9 1,.c 133 [159] 0,.C 160,.G 161 true,.f 10 1,.c 133 [163] 0,.e,.W 161 164,.M 2 165])))))))))))
def pK:Gi:=⟨[(6,[1]),(10,[1]),(14,[1]),(18,[1]),(23,[1]),(28,[1]),(34,[1]),(42,[1]),(48,[1]),(52,[1]),(58,[1]),(62,[1]),(67,[1]),(72,[1]),(76,[1]),(83,[1]),(88,[1]),(96,[1]),(100,[1]),(105,[1]),(110,[1]),(116,[1]),(125,[1]),(131,[1]),(135,[1]),(142,[1]),(148,[1]),(152,[1]),(158,[1]),(162,[1])]⟩
def pL:List RV:=[.tmp 2]
namespace Aj
def Oj (p:Bool):Option Bool:=
some p
def J9 (R133:(List AK)->Option Bool) (a:AK) (f:Bool):Option Bool:=
if f then
some false
else
(R133 a.Body).bind λx=>
if x then
(R133 a.Else).bind λy=>
Oj y
else
Oj false
def J8 (R133:(List AK)->Option Bool) (a:AK) (b:Bool):Option Bool:=
if !b then
if decide ((a.Body.length:Int)>0)then
J9 R133 a true
else
if a.Op != 2 then
J9 R133 a (decide ((a.Else.length:Int)>0))
else
J9 R133 a false
else
if a.Op != 2 then
J9 R133 a (decide ((a.Else.length:Int)>0))
else
J9 R133 a false
def J7 (R133:(List AK)->Option Bool) (a:AK) (d:Bool):Option Bool:=
if d then
some false
else
if decide (a.Op≥2)then
J8 R133 a (decide (a.Op≤8))
else
J8 R133 a false
def J6 (R133:(List AK)->Option Bool) (a:AK) (o:Bool):Option Bool:=
if o then
(CE Bo a.Expr).bind λv=>
if !v then
J7 R133 a true
else
J7 R133 a false
else
(FA a.Expr).bind λw=>
J7 R133 a (!w)
def J5 (R133:(List AK)->Option Bool) (a:AK) (l:Bool):Option Bool:=
if l then
some false
else
if a.Op==1 then
J6 R133 a true
else
if a.Op==2 then
J6 R133 a true
else
if a.Op==3 then
J6 R133 a true
else
J6 R133 a (a.Op==14)
def J4 (R133:(List AK)->Option Bool) (a:AK) (j:Bool):Option Bool:=
if j then
some false
else
if decide ((a.Index.length:Int)>1)then
J5 R133 a true
else
if a.Op != 1 then
if decide ((a.Index.length:Int)>0)then
J5 R133 a true
else
if(a.Index.length:Int)==1 then
(gt a.Index 0).bind λz=>
(CE Bo z).bind λt=>
J5 R133 a (!t)
else
J5 R133 a false
else
if(a.Index.length:Int)==1 then
(gt a.Index 0).bind λaa=>
(CE Bo aa).bind λu=>
J5 R133 a (!u)
else
J5 R133 a false
def J3 (R133:(List AK)->Option Bool) (a:AK) (i:Bool):Option Bool:=
if i then
some false
else
if a.Op==15 then
(BV a.Arg).bind λs=>
if !s then
J4 R133 a true
else
if a.Op != 15 then
J4 R133 a (!(a.Arg.toList==(⟨#[]⟩:ByteArray).toList))
else
J4 R133 a false
else
if a.Op != 15 then
J4 R133 a (!(a.Arg.toList==(⟨#[]⟩:ByteArray).toList))
else
J4 R133 a false
def J2 (R133:(List AK)->Option Bool) (a:AK) (c:Bool):Option Bool:=
if c then
if !(a.Name.toList==(⟨#[]⟩:ByteArray).toList)then
J3 R133 a true
else
J3 R133 a false
else
(BV a.Name).bind λq=>
J3 R133 a (!q)
def J1 (R133:(List AK)->Option Bool) (a:AK) (e:Bool):Option Bool:=
if e then
some false
else
if a.Op==2 then
J2 R133 a true
else
if a.Op==3 then
J2 R133 a true
else
if a.Op==7 then
J2 R133 a true
else
J2 R133 a (a.Op==8)
end Aj
section
open Aj
def Aj (R133:(List AK)->Option Bool) (a:AK):Option Bool:=
if decide (a.Op<1)then
J1 R133 a true
else
J1 R133 a (decide (a.Op>15))
theorem La {R133:(List AK)->Option Bool} (H133:∀{x0 r},R133 x0=some r->Says Tryz.prog 133 [vS 11 An x0] (sb r)) {a:AK} {r:Bool} (h:Aj R133 a=some r):Says Tryz.prog 157 [.agg [si a.Op,si a.D4,Ao a.Name,Ao a.Arg,vS 4 Av a.Index,si a.Expr.Op,si a.Expr.N,Ao a.Expr.Name,vS 4 Av a.Expr.L,vS 11 An a.Body,vS 11 An a.Else]] (sb r):=by
 refine wO mix Tryz.func157 (I:=⟨pJ,pK,pL⟩) ?_
 simp only[pJ,pK,pL]
 have a1:= @H133
 have a2:= @Hf
 have a3:= @Q7
 have a4:= @FV
 have c9:=λn1 n2 n3 n4:Nat=>B7 9 λτ=>∃(f:Bool),(τ 1=bA 11 [si a.Op,si a.D4,Ao a.Name,Ao a.Arg,vS 4 Av a.Index,si a.Expr.Op,si a.Expr.N,Ao a.Expr.Name,vS 4 Av a.Expr.L,vS 11 An a.Body,vS 11 An a.Else]/\τ 157=sb f)/\J9 R133 a f=some r
 have c8:=λn1 n2 n3 n4:Nat=>B7 8 λτ=>∃(b:Bool),(τ 1=bA 11 [si a.Op,si a.D4,Ao a.Name,Ao a.Arg,vS 4 Av a.Index,si a.Expr.Op,si a.Expr.N,Ao a.Expr.Name,vS 4 Av a.Expr.L,vS 11 An a.Body,vS 11 An a.Else]/\τ 5=sb b)/\J8 R133 a b=some r
 have c7:=λn1 n2 n3 n4:Nat=>B7 7 λτ=>∃(d:Bool),(τ 1=bA 11 [si a.Op,si a.D4,Ao a.Name,Ao a.Arg,vS 4 Av a.Index,si a.Expr.Op,si a.Expr.N,Ao a.Expr.Name,vS 4 Av a.Expr.L,vS 11 An a.Body,vS 11 An a.Else]/\τ 130=sb d)/\J7 R133 a d=some r
 have c6:=λn1 n2 n3 n4:Nat=>B7 6 λτ=>∃(o:Bool),(τ 1=bA 11 [si a.Op,si a.D4,Ao a.Name,Ao a.Arg,vS 4 Av a.Index,si a.Expr.Op,si a.Expr.N,Ao a.Expr.Name,vS 4 Av a.Expr.L,vS 11 An a.Body,vS 11 An a.Else]/\τ 4=sb o)/\J6 R133 a o=some r
 have c5:=λn1 n2 n3 n4:Nat=>B7 5 λτ=>∃(l:Bool),(τ 1=bA 11 [si a.Op,si a.D4,Ao a.Name,Ao a.Arg,vS 4 Av a.Index,si a.Expr.Op,si a.Expr.N,Ao a.Expr.Name,vS 4 Av a.Expr.L,vS 11 An a.Body,vS 11 An a.Else]/\τ 95=sb l)/\J5 R133 a l=some r
 have c4:=λn1 n2 n3 n4:Nat=>B7 4 λτ=>∃(j:Bool),(τ 1=bA 11 [si a.Op,si a.D4,Ao a.Name,Ao a.Arg,vS 4 Av a.Index,si a.Expr.Op,si a.Expr.N,Ao a.Expr.Name,vS 4 Av a.Expr.L,vS 11 An a.Body,vS 11 An a.Else]/\τ 66=sb j)/\J4 R133 a j=some r
 have c3:=λn1 n2 n3 n4:Nat=>B7 3 λτ=>∃(i:Bool),(τ 1=bA 11 [si a.Op,si a.D4,Ao a.Name,Ao a.Arg,vS 4 Av a.Index,si a.Expr.Op,si a.Expr.N,Ao a.Expr.Name,vS 4 Av a.Expr.L,vS 11 An a.Body,vS 11 An a.Else]/\τ 47=sb i)/\J3 R133 a i=some r
 have c2:=λn1 n2 n3 n4:Nat=>B7 2 λτ=>∃(c:Bool),(τ 1=bA 11 [si a.Op,si a.D4,Ao a.Name,Ao a.Arg,vS 4 Av a.Index,si a.Expr.Op,si a.Expr.N,Ao a.Expr.Name,vS 4 Av a.Expr.L,vS 11 An a.Body,vS 11 An a.Else]/\τ 3=sb c)/\J2 R133 a c=some r
 have c1:=λn1 n2 n3 n4:Nat=>B7 1 λτ=>∃(e:Bool),(τ 1=bA 11 [si a.Op,si a.D4,Ao a.Name,Ao a.Arg,vS 4 Av a.Index,si a.Expr.Op,si a.Expr.N,Ao a.Expr.Name,vS 4 Av a.Expr.L,vS 11 An a.Body,vS 11 An a.Else]/\τ 13=sb e)/\J1 R133 a e=some r
 unfold Aj at h
 exact walk
end
def FM:Nat->((List AK)->Option Bool)×(AK->Option Bool)
|0=>((λ_=>none),(λ_=>none))
|n+1=>(Bu ((FM n).2),Aj ((FM n).1))
def Ed (n:Nat):(List AK)->Option Bool:=(FM n).1
def G7 (n:Nat):AK->Option Bool:=(FM n).2
theorem Jx (n:Nat):(∀{x0 r},(Ed n) x0=some r->Says Tryz.prog 133 [.sl false 11 (x0.map An)] (sb r))/\(∀{x0 r},(G7 n) x0=some r->Says Tryz.prog 157 [.agg [si x0.Op,si x0.D4,Ao x0.Name,Ao x0.Arg,.sl false 4 (x0.Index.map Av),si x0.Expr.Op,si x0.Expr.N,Ao x0.Expr.Name,.sl false 4 (x0.Expr.L.map Av),.sl false 11 (x0.Body.map An),.sl false 11 (x0.Else.map An)]] (sb r)):=by
  induction n with
  |zero=>exact⟨λh=>B9 h,λh=>B9 h⟩
  |succ n ih=>exact⟨λh=>Ki ih.2 h,λh=>La ih.1 h⟩
theorem Jy {n:Nat}:∀{x0 r},(Ed n) x0=some r->Says Tryz.prog 133 [.sl false 11 (x0.map An)] (sb r):=(Jx n).1
end Go.Abs
