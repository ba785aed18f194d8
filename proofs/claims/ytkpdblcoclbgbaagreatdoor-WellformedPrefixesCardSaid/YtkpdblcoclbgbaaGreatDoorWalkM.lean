/- Typed programs of Go functions, and that the functions do what these say. -/
import Derived.Test.YtkpdblcoclbgbaaGreatDoorBaseA
import Derived.Test.YtkpdblcoclbgbaaGreatDoorWalkK
import Derived.Test.YtkpdblcoclbgbaaGreatDoorWalkL
import Derived.Test.YtkpdblcoclbgbaaGreatDoorWalkJ
import Derived.Shelf.Slices.SearchI
set_option linter.unusedSimpArgs false
set_option linter.unusedVariables false
namespace Go.Abs
open Go.Proofs
set_option maxRecDepth 100000
set_option maxHeartbeats 4000000
def nV:IC:=(Ra 0 [.b 3 [18,40,47,66,103] (.bx 11 (.t 1))]
(Ra 8 [.p 0 8,.M 4 11]
(Ra 12 [.r 0 7,.Z 15,.M 5 16]
(Ra 17 [.y 0 (.cp (.t 0)),.F 5 3,.A 4 18,.r 0 6,.Z 23,.o (.EK 141 [] (.t 17) none [.t 19,.t 24])]
(Ra 26 [.r 0 7,.Z 29,.M 6 30]
(Ra 31 [.y 0 (.cp (.t 0)),.r 0 6,.Z 35,.o (.Dc z9 [(0,1,.c (si 10)),(1,1,.t 36)]),.o (.EK 69 [] (.t 31) none [.t 37])]
(Ra 39 [.y 0 (.cp (.t 0)),.f 9 3,.o (.EK 68 [] (.t 39) none [.t 41])]
(Ra 43 [.y 0 (.cp (.t 0)),.C 4,.y 0 (.FF (.t 43)),.H 0 8 45,.S 1 46 44]
(Sq (Ra 47 [.f 0 3,.Q 48 3]
(Ci 49 (Ra 50 [.y 0 (.cp (.t 0)),.C 5,.o (.Dc z9 [(0,1,.c (si 5)),(1,1,.t 51)]),.o (.EK 69 [] (.t 50) none [.t 52])]
(Rb 54 [.r 0 7,.C 6,.r 0 7,.Z 62,.J 0 6 57 58,.H 0 2 64,.S 1 65 63]))))
(Sq (Ra 66 [.f 10 3,.Z 67,.Q 68 0]
(Ci 69 (Rb 70 [.r 0 7,.C 6,.r 0 7,.Z 78,.J 0 6 73 74,.H 0 2 80,.S 1 81 79])))
(Ra 82 [.r 0 7,.Z 85,.M 7 86]
(Ra 87 [.y 0 (.cp (.t 0)),.o (.Dc z9 [(0,1,.c (si 5))]),.o (.EK 69 [] (.t 87) none [.t 88])]
(Ra 90 [.r 0 7,.C 6,.r 0 7,.Z 98,.J 0 6 93 94,.H 0 2 100,.S 1 101 99]
(Ra 102 [.y 0 (.cp (.t 0)),.f 10 3,.o (.EK 68 [] (.t 102) none [.t 104])]
(Rc 106 [.r 0 7,.C 7,.r 0 7,.Z 114,.J 0 6 109 110,.H 0 1 116,.S 1 117 115])))))))))))))))
def nW:Gi:=⟨[(8,[0]),(9,[0]),(10,[0]),(12,[0]),(13,[0]),(14,[0]),(15,[0]),(17,[0]),(18,[3]),(20,[0]),(21,[0]),(22,[0]),(23,[0]),(26,[0]),(27,[0]),(28,[0]),(29,[0]),(31,[0]),(32,[0]),(33,[0]),(34,[0]),(35,[0]),(39,[0]),(40,[3]),(43,[0]),(45,[0]),(46,[0]),(47,[3]),(50,[0]),(54,[0]),(55,[0]),(56,[0]),(57,[0]),(59,[0]),(60,[0]),(61,[0]),(62,[0]),(64,[0]),(65,[0]),(66,[3]),(70,[0]),(71,[0]),(72,[0]),(73,[0]),(75,[0]),(76,[0]),(77,[0]),(78,[0]),(80,[0]),(81,[0]),(82,[0]),(83,[0]),(84,[0]),(85,[0]),(87,[0]),(90,[0]),(91,[0]),(92,[0]),(93,[0]),(95,[0]),(96,[0]),(97,[0]),(98,[0]),(100,[0]),(101,[0]),(102,[0]),(103,[3]),(106,[0]),(107,[0]),(108,[0]),(109,[0]),(111,[0]),(112,[0]),(113,[0]),(114,[0]),(116,[0]),(117,[0])]⟩
def nX:List RV:=[]
def DM (R68:Aw->(List AK)->Option Aw) (c:Aw) (a:AK):Option Aw:=
(CX Bo c a.Expr (c.locals.length:Int)).bind λd=>
(Az d (AW.mk 10 (d.locals.length:Int) 0 0 0 0)).bind λq=>
(R68 q a.Body).bind λb=>
if a.Op==3 then
(Az (Aw.mk b.w b.locals b.out c.site b.next) (AW.mk 5 (c.out.length:Int) 0 0 0 0)).bind λe=>
(gt e.out (d.out.length:Int)).bind λj=>
some (Aw.mk e.w e.locals (e.out.set d.out.length (AW.mk j.Op j.A (e.out.length:Int) j.C j.N j.Site)) e.site e.next)
else
if(a.Else.length:Int)==0 then
(gt b.out (d.out.length:Int)).bind λl=>
some (Aw.mk b.w b.locals (b.out.set d.out.length (AW.mk l.Op l.A (b.out.length:Int) l.C l.N l.Site)) c.site b.next)
else
(Az (Aw.mk b.w b.locals b.out c.site b.next) (AW.mk 5 0 0 0 0 0)).bind λf=>
(gt f.out (d.out.length:Int)).bind λo=>
(R68 (Aw.mk f.w f.locals (f.out.set d.out.length (AW.mk o.Op o.A (f.out.length:Int) o.C o.N o.Site)) f.site f.next) a.Else).bind λi=>
(gt i.out (b.out.length:Int)).bind λp=>
some (Aw.mk i.w i.locals (i.out.set b.out.length (AW.mk p.Op (i.out.length:Int) p.B p.C p.N p.Site)) i.site i.next)
theorem Jz {R68:Aw->(List AK)->Option Aw} (H68:∀{x0 x1 r},R68 x0 x1=some r->A5 Tryz.prog 68 [bA 10 (DC x0),vS 11 An x1] (.A9 []) [bA 10 (DC r),.dead]) {c:Aw} {a:AK} {r:Aw} (h:DM R68 c a=some r):A5 Tryz.prog 138 [bA 10 (DC c),.agg [si a.Op,si a.D4,Ao a.Name,Ao a.Arg,vS 4 Av a.Index,si a.Expr.Op,si a.Expr.N,Ao a.Expr.Name,vS 4 Av a.Expr.L,vS 11 An a.Body,vS 11 An a.Else]] (.A9 []) [bA 10 (DC r),.dead]:=by
 refine wL mix Tryz.func138 (I:=⟨nV,nW,nX⟩) ?_
 simp only[nV,nW,nX]
 have a1:= @GU
 have a2:= @EZ
 have a3:= @H68
 unfold DM at h
 exact walk
def nY:IC:=(Ra 0 [.b 6 [21] (.bx 11 (.t 1))]
(Ra 11 [.p 0 8,.M 10 14]
(Ra 15 [.y 0 (.cp (.t 0)),.C 2,.C 4,.o (.Dc z9 [(0,1,.t 16),(1,1,.t 17)]),.o (.EK 69 [] (.t 15) none [.t 18])]
(Ra 20 [.y 0 (.cp (.t 0)),.f 9 6,.o (.EK 68 [] (.t 20) none [.t 22])]
(Ra 24 [.y 0 (.cp (.t 0)),.C 10,.y 0 (.FF (.t 24)),.H 0 8 26,.S 1 27 25]
(Rc 28 [.y 0 (.cp (.t 0)),.C 3,.C 4,.o (.Dc z9 [(0,1,.t 29),(1,1,.t 30)]),.o (.EK 69 [] (.t 28) none [.t 31])]))))))
def nZ:Gi:=⟨[(11,[0]),(12,[0]),(13,[0]),(15,[0]),(20,[0]),(21,[6]),(24,[0]),(26,[0]),(27,[0]),(28,[0])]⟩
def oA:List RV:=[]
def Du (R68:Aw->(List AK)->Option Aw) (b:Aw) (a:AK) (d e c:Int):Option Aw:=
(Az b (AW.mk d c 0 0 0 0)).bind λi=>
(R68 i a.Body).bind λf=>
(Az (Aw.mk f.w f.locals f.out b.site f.next) (AW.mk e c 0 0 0 0)).bind λj=>
some j
theorem Lc {R68:Aw->(List AK)->Option Aw} (H68:∀{x0 x1 r},R68 x0 x1=some r->A5 Tryz.prog 68 [bA 10 (DC x0),vS 11 An x1] (.A9 []) [bA 10 (DC r),.dead]) {b:Aw} {a:AK} {d e c:Int} {r:Aw} (h:Du R68 b a d e c=some r):A5 Tryz.prog 139 [bA 10 (DC b),.agg [si a.Op,si a.D4,Ao a.Name,Ao a.Arg,vS 4 Av a.Index,si a.Expr.Op,si a.Expr.N,Ao a.Expr.Name,vS 4 Av a.Expr.L,vS 11 An a.Body,vS 11 An a.Else],si d,si e,si c] (.A9 []) [bA 10 (DC r),.dead,.dead,.dead,.dead]:=by
 refine wL mix Tryz.func139 (I:=⟨nY,nZ,oA⟩) ?_
 simp only[nY,nZ,oA]
 have a1:= @EZ
 have a2:= @H68
 unfold Du at h
 exact walk
def DB:Nat->(Aw->(List AK)->Option Aw)×(Aw->AK->Option Aw)×(Aw->AK->Option Aw)×(Aw->AK->Int->Int->Int->Option Aw)
|0=>((λ_ _=>none),(λ_ _=>none),(λ_ _=>none),(λ_ _ _ _ _=>none))
|n+1=>(B8 ((DB n).2.1),Cc ((DB n).2.2.1) ((DB n).2.2.2),DM ((DB n).1),Du ((DB n).1))
def DD (n:Nat):Aw->(List AK)->Option Aw:=(DB n).1
def Jk (n:Nat):Aw->AK->Option Aw:=(DB n).2.1
def Le (n:Nat):Aw->AK->Option Aw:=(DB n).2.2.1
def Nu (n:Nat):Aw->AK->Int->Int->Int->Option Aw:=(DB n).2.2.2
theorem Lg (n:Nat):(∀{x0 x1 r},(DD n) x0 x1=some r->A5 Tryz.prog 68 [bA 10 (DC x0),.sl false 11 (x1.map An)] (.A9 []) [bA 10 (DC r),.dead])/\(∀{x0 x1 r},(Jk n) x0 x1=some r->A5 Tryz.prog 108 [bA 10 (DC x0),.agg [si x1.Op,si x1.D4,Ao x1.Name,Ao x1.Arg,.sl false 4 (x1.Index.map Av),si x1.Expr.Op,si x1.Expr.N,Ao x1.Expr.Name,.sl false 4 (x1.Expr.L.map Av),.sl false 11 (x1.Body.map An),.sl false 11 (x1.Else.map An)]] (.A9 []) [bA 10 (DC r),.dead])/\(∀{x0 x1 r},(Le n) x0 x1=some r->A5 Tryz.prog 138 [bA 10 (DC x0),.agg [si x1.Op,si x1.D4,Ao x1.Name,Ao x1.Arg,.sl false 4 (x1.Index.map Av),si x1.Expr.Op,si x1.Expr.N,Ao x1.Expr.Name,.sl false 4 (x1.Expr.L.map Av),.sl false 11 (x1.Body.map An),.sl false 11 (x1.Else.map An)]] (.A9 []) [bA 10 (DC r),.dead])/\(∀{x0 x1 x2 x3 x4 r},(Nu n) x0 x1 x2 x3 x4=some r->A5 Tryz.prog 139 [bA 10 (DC x0),.agg [si x1.Op,si x1.D4,Ao x1.Name,Ao x1.Arg,.sl false 4 (x1.Index.map Av),si x1.Expr.Op,si x1.Expr.N,Ao x1.Expr.Name,.sl false 4 (x1.Expr.L.map Av),.sl false 11 (x1.Body.map An),.sl false 11 (x1.Else.map An)],si x2,si x3,si x4] (.A9 []) [bA 10 (DC r),.dead,.dead,.dead,.dead]):=by
  induction n with
  |zero=>exact⟨λh=>B9 h,λh=>B9 h,λh=>B9 h,λh=>B9 h⟩
  |succ n ih=>exact⟨λh=>Mg ih.2.1 h,λh=>Nw ih.2.2.1 ih.2.2.2 h,λh=>Jz ih.1 h,λh=>Lc ih.1 h⟩
theorem Lh {n:Nat}:∀{x0 x1 r},(DD n) x0 x1=some r->A5 Tryz.prog 68 [bA 10 (DC x0),.sl false 11 (x1.map An)] (.A9 []) [bA 10 (DC r),.dead]:=(Lg n).1
def AAl:IC:=(Ra 2 [.b 1 [3,10,16,18,23,25,27,32,34,40,45,47] (.bx 6 (.t 0)),.o (.mv (.c (.own false 1 [])))]
(Sq (Ra 3 [.f 0 1]
(Bk 0 (Bw 1 (Ra 6 [.q 4 1 5]
(Cn 5 .skip (Ra 7 [.q 4 6 5]
(Cn 5 .skip (Ra 8 [.q 4 10 5]
(Cn 5 .skip (Rc 9 [.q 4 27 5])))))))
(Cn 5 (Rb 10 [.f 1 1,.o (.Eg 1 [[si 0]] [(0,.t 11)]),.M 2 12]) (Bw 2 (Ra 14 [.q 4 2 13]
(Cn 13 .skip (Rc 15 [.q 4 3 13])))
(Cn 13 (Rb 16 [.f 1 1,.f 2 1,.o (.Eg 1 [[si 0],[si 0]] [(0,.t 17),(1,.t 19)]),.M 2 20]) (Ra 22 [.q 4 4 21]
(Cn 21 (Rb 23 [.f 1 1,.f 2 1,.f 3 1,.o (.Eg 1 [[si 0],[si 0],[si 0]] [(0,.t 24),(1,.t 26),(2,.t 28)]),.M 2 29]) (Ra 31 [.q 4 7 30]
(Cn 30 (Rb 32 [.f 1 1,.f 3 1,.o (.Eg 1 [[si 0],[si 0]] [(0,.t 33),(1,.t 35)]),.M 2 36]) (Sq (Ra 38 [.q 4 8 37]
(Cn 37 .skip (Rc 39 [.q 4 26 37])))
(Cn 37 (Rb 40 [.f 2 1,.o (.Eg 1 [[si 0]] [(0,.t 41)]),.M 2 42]) (Ra 44 [.q 4 9 43]
(Ci 43 (Rb 45 [.f 2 1,.f 3 1,.o (.Eg 1 [[si 0],[si 0]] [(0,.t 46),(1,.t 48)]),.M 2 49])))))))))))))))
(Rb 2 [.o (.mv (.c (.own false 1 [])))])))
def AAm:Gi:=⟨[(3,[1]),(10,[1]),(16,[1]),(18,[1]),(23,[1]),(25,[1]),(27,[1]),(32,[1]),(34,[1]),(40,[1]),(45,[1]),(47,[1])]⟩
def AAn:List RV:=[.tmp 2]
namespace AQ
def J3 (a:AW) (d:Bool):Option (List Int):=
if d then
some [a.B]
else
if a.Op==9 then
some [a.B,a.C]
else
some []
def J2 (a:AW) (b:Bool):Option (List Int):=
if b then
some [a.A,a.B]
else
if a.Op==4 then
some [a.A,a.B,a.C]
else
if a.Op==7 then
some [a.A,a.C]
else
if a.Op==8 then
J3 a (a.Op==8)
else
J3 a (a.Op==26)
def J1 (a:AW) (c:Bool):Option (List Int):=
if c then
some [a.A]
else
if a.Op==2 then
J2 a (a.Op==2)
else
J2 a (a.Op==3)
end AQ
section
open AQ
def AQ (a:AW):Option (List Int):=
if a.Op==1 then
J1 a (a.Op==1)
else
if a.Op==6 then
J1 a (a.Op==6)
else
if a.Op==10 then
J1 a (a.Op==10)
else
J1 a (a.Op==27)
theorem Gm {a:AW} {r:List Int} (h:AQ a=some r):Says Tryz.prog 70 [.agg (C7 a)] (vO 1 eI r):=by
 refine wO mix Tryz.func70 (I:=⟨AAl,AAm,AAn⟩) ?_
 simp only[AAl,AAm,AAn]
 have c2:=λn1 n2 n3 n4:Nat=>B7 2 λτ=>∃(b:Bool),(τ 1=bA 6 (C7 a)/\τ 4=si a.Op/\τ 13=sb b)/\J2 a b=some r
 have c1:=λn1 n2 n3 n4:Nat=>B7 1 λτ=>∃(c:Bool),(τ 1=bA 6 (C7 a)/\τ 4=si a.Op/\τ 5=sb c)/\J1 a c=some r
 unfold AQ at h
 exact walk
end
def yU:IC:=(Ra 2 [.b 1 [29,37,47] (.bx 2 (.t 0)),.o (.bx 7 (.c (.agg z7))),.K 3 0,.K 4 0]
(Sq (Ra 16 [.A 2 1,.c 66 [16] 0,.w 15,.C 17,.w 18,.o (.ext (.t 15) 0),.o (.ext (.t 15) 1),.M 5 18,.M 6 19]
(Ra 20 [.C 5,.P .neq 20 0]
(Ci 21 (Rb 22 [.o (.Dc z7 []),.C 5,.C 6,.S 7 2 22,.M 3 23,.M 4 24]))))
(Ra 25 [.A 2 1,.c 67 [25] 1,.o (.Dc z7 [(0,6,.t 26)]),.b 7 [35,36,106,107,111,112] (.bx 7 (.c (.agg z7))),.S 7 7 27]
(Ra 0 [.K 8 0]
(Sq (Ra 0 [.K 9 0]
(Bl 0 (Sq (Ra 28 [.C 9,.f 1 1,.Z 30,.O .lss 28 31]
(cX 32 0))
(Sq (Bk 1 (Ra 35 [.F 0 7,.y 7 (.ld true 6 (.t 35)),.f 1 1,.C 9,.I 4 38 39,.U 2 40,.C 8,.o (.Dc [.own false 5 [],.own false 2 [],.own false 2 [],.own false 1 [],.own false 1 [],.own false 3 [],.own false 1 [],.own false 6 [],si 0,si 0] [(0,6,.t 36),(6,1,.t 42),(9,1,.t 43)]),.o (.bx 10 (.t 44)),.b 10 [46,54,55,56,58,59,60,61,64,65,66,67,69,70,71,72,75,76,77,78,83,84,85,86,88] (.mv (.t 45))]
(Ra 46 [.y 10 (.cp (.t 10)),.f 1 1,.C 9,.I 4 48 49,.U 3 50,.o (.EK 68 [] (.t 46) none [.t 52])]
(Ra 54 [.p 10 9,.M 8 57]
(Ra 58 [.D 10,.H 10 8 59,.T 60 (-1)]
(Ra 61 [.y 10 (.cp (.t 10)),.o (.Dc z9 [(0,1,.c (si 28))]),.o (.EK 69 [] (.t 61) none [.t 62])]
(Sq (.gz false 10 [(0,7,0)] (Rc 64 [.r 10 6,.Z 67,.r 10 7,.o (.Dc [si 0,.own false 6 []] [(0,1,.t 68),(1,1,.t 72)]),.b 11 [97,105,108] (.bx 2 (.c (.agg [si 0,.own false 6 []]))),.S 2 11 73]))
(Sq (Ra 0 [.K 12 0]
(Bl 2 (Sq (Ra 74 [.C 12,.r 10 7,.Z 78,.O .lss 74 79]
(cX 80 2))
(Sq (Bk 3 (Ra 83 [.r 10 7,.C 12,.J 10 6 86 87,.A 6 88,.c 70 [89] 2,.b 13 [92,99,101] (.mv (.t 90))]
(Ra 0 [.K 14 0]
(Bl 4 (Sq (Ra 91 [.C 14,.y 13 (.cp (.t 13)),.Z 92,.O .lss 91 93]
(cX 94 4))
(Sq (Bk 5 (Rc 97 [.f 0 11,.y 13 (.cp (.t 13)),.C 14,.J 13 1 99 100,.L 101,.P .add 102 1,.o (.mm true (.t 98) (.t 103)),.F 0 11,.S 1 105 104]))
(Rc 95 [.C 14,.P .add 95 1,.M 14 96])))))))
(Rc 81 [.C 12,.P .add 81 1,.M 12 82])))))
(Rc 106 [.m 7 6 7,.y 11 (.ld true 2 (.t 11)),.o (.Eg 2 [[si 0,.own false 6 []]] [(0,.t 108)]),.o (.app 2 32 (.t 107) (.t 109)),.F 6 7,.S 1 111 110])))))))))
(Rc 33 [.C 9,.P .add 33 1,.M 9 34])))))
(Rb 112 [.y 7 (.ld true 7 (.t 7)),.S 7 2 112,.K 3 0,.K 4 0]))))))
def yV:Gi:=⟨[(29,[1]),(35,[7]),(36,[7]),(37,[1]),(46,[10]),(47,[1]),(54,[10]),(55,[10]),(56,[10]),(58,[10]),(59,[10]),(60,[10]),(61,[10]),(64,[10]),(65,[10]),(66,[10]),(67,[10]),(69,[10]),(70,[10]),(71,[10]),(72,[10]),(75,[10]),(76,[10]),(77,[10]),(78,[10]),(83,[10]),(84,[10]),(85,[10]),(86,[10]),(88,[10]),(92,[13]),(97,[11]),(99,[13]),(101,[13]),(105,[11]),(106,[7]),(107,[7]),(108,[11]),(111,[7]),(112,[7])]⟩
def yW:List RV:=[.cell 2 true 7,.tmp 3,.tmp 4]
namespace BC
def J4 (v:BB):Option (BB×Int×Int):=
some (v,0,0)
def J3 (L1:BB->Int->Int->Option (BB×Int×Int)) (b:Int) (u:BB) (w:Int):Option (BB×Int×Int):=
L1 u w (BE (b+1))
def J2 (L1:BB->Int->Int->Option (BB×Int×Int)) (a:BB) (b:Int) (e:Aw) (y:Ak):Option (BB×Int×Int):=
if Aq (a.AA.length+1) 32=true then
J3 L1 b (BB.mk a.World (a.AA++[y])) e.next
else none
def J1 (L2:Ak->Int->Option (BB×Int×Int)) (c:Int) (x:Ak):Option (BB×Int×Int):=
L2 x (BE (c+1))
def L3 (L2:Ak->Int->Option (BB×Int×Int)) (c:Int) (i:List Int) (L3:Ak->Int->Option (BB×Int×Int)) (j:Ak) (l:Int):Option (BB×Int×Int):=
if decide (l<(i.length:Int))then
(gt i l).bind λt=>
L3 (Ak.mk (if(BE (t+1))>j.CN then(BE (t+1))else j.CN) j.B3) (BE (l+1))
else
J1 L2 c j
def Gx (L2:Ak->Int->Option (BB×Int×Int)) (c:Int) (i:List Int):Nat->Ak->Int->Option (BB×Int×Int)
|0,_,_=>none
|n+1,j,l=>L3 L2 c i (Gx L2 c i n) j l
def L2 (L1:BB->Int->Int->Option (BB×Int×Int)) (a:BB) (b:Int) (e f:Aw) (L2:Ak->Int->Option (BB×Int×Int)) (o:Ak) (c:Int):Option (BB×Int×Int):=
if decide (c<(f.out.length:Int))then
(gt f.out c).bind λaa=>
(AQ aa).bind λi=>
Gx L2 c i Bo o 0
else
J2 L1 a b e o
def Da (L1:BB->Int->Int->Option (BB×Int×Int)) (a:BB) (b:Int) (e f:Aw):Nat->Ak->Int->Option (BB×Int×Int)
|0,_,_=>none
|n+1,o,c=>L2 L1 a b e f (Da L1 a b e f n) o c
def L1 (d:AL) (L1:BB->Int->Int->Option (BB×Int×Int)) (a:BB) (p b:Int):Option (BB×Int×Int):=
if decide (b<(d.AA.length:Int))then
(gt d.AA b).bind λs=>
(DD Bo (Aw.mk a.World s.EY [] 0 p) s.Body).bind λe=>
(Az (Aw.mk e.w e.locals e.out (-1) e.next) (AW.mk 28 0 0 0 0 0)).bind λf=>
Da L1 a b e f Bo (Ak.mk (f.locals.length:Int) f.out) 0
else
J4 a
def Ac (d:AL):Nat->BB->Int->Int->Option (BB×Int×Int)
|0,_,_,_=>none
|n+1,a,p,b=>L1 d (Ac d n) a p b
end BC
section
open BC
def BC (d:AL):Option (BB×Int×Int):=
(BH d).bind λq=>
if q.1 != 0 then
some ((BB.mk (AB.mk [] [] [] [] [] []) []),q.1,q.2)
else
(CI d).bind λz=>
Ac d Bo (BB.mk z []) 0 0
theorem Oe {d:AL} {r:BB×Int×Int} (h:BC d=some r):Says Tryz.prog 39 [.agg (Bb d)] (.A9 [.agg (Gp r.1),si r.2.1,si r.2.2]):=by
 refine wF mix Tryz.func39 (I:=⟨yU,yV,yW⟩) ?_
 simp only[yU,yV,yW]
 have a1:= @HS
 have a2:= @RF
 have a3:= @Lh
 have a4:= @EZ
 have a5:= @Gm
 have l1:=λn1 n2 n3 n4:Nat=>BM λn τ=>∃(a:BB) (p b:Int),(τ 1=bA 2 (Bb d)/\τ 2=bA 7 z7/\τ 7=bA 7 [vS 5 Fg a.World.Cells,vS 2 HI a.World.AG,vS 2 HH a.World.Au,vS 1 eS a.World.AH,vS 1 eS a.World.AA,vS 3 E7 a.World.BA,vO 2 Bq a.AA]/\τ 8=si p/\τ 9=si b)/\Ac d n a p b=some r
 have l2:=λn1 n2 n3 n4:Nat=>BM λn τ=>∃(a:BB) (b:Int) (e f:Aw) (o:Ak) (c:Int),(τ 1=bA 2 (Bb d)/\τ 2=bA 7 z7/\τ 7=bA 7 [vS 5 Fg a.World.Cells,vS 2 HI a.World.AG,vS 2 HH a.World.Au,vS 1 eS a.World.AH,vS 1 eS a.World.AA,vS 3 E7 a.World.BA,vO 2 Bq a.AA]/\τ 8=si e.next/\τ 9=si b/\τ 10=bA 10 (rQ f)/\τ 11=bA 2 (Bq o)/\τ 12=si c)/\Da (Ac d n1) a b e f n o c=some r
 have l3:=λn1 n2 n3 n4:Nat=>BM λn τ=>∃(a:BB) (b:Int) (e f:Aw) (c:Int) (i:List Int) (j:Ak) (l:Int),(τ 1=bA 2 (Bb d)/\τ 2=bA 7 z7/\τ 7=bA 7 [vS 5 Fg a.World.Cells,vS 2 HI a.World.AG,vS 2 HH a.World.Au,vS 1 eS a.World.AH,vS 1 eS a.World.AA,vS 3 E7 a.World.BA,vO 2 Bq a.AA]/\τ 8=si e.next/\τ 9=si b/\τ 10=bA 10 (rQ f)/\τ 11=bA 2 (Bq j)/\τ 12=si c/\τ 13=vO 1 eI i/\τ 14=si l)/\Gx (Da (Ac d n1) a b e f n2) c i n j l=some r
 unfold BC at h
 exact walk
end
end Go.Abs
