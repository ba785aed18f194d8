/- Typed programs of Go functions, and that the functions do what these say. -/
import Derived.Test.YtkpdblcoclbgbaaGreatDoorBaseA
import Derived.Test.YtkpdblcoclbgbaaGreatDoorWalkF
import Derived.Test.YtkpdblcoclbgbaaGreatDoorWalkG
import Derived.Test.YtkpdblcoclbgbaaGreatDoorWalkI
import Derived.Test.YtkpdblcoclbgbaaGreatDoorWalkA
import Derived.Test.YtkpdblcoclbgbaaGreatDoorWalkE
import Derived.Test.YtkpdblcoclbgbaaGreatDoorWalkC
import Derived.Shelf.Slices.SearchI
set_option linter.unusedSimpArgs false
set_option linter.unusedVariables false
namespace Go.Abs
open Go.Proofs
set_option maxRecDepth 100000
set_option maxHeartbeats 4000000
def AAZ:IC:=(Ra 0 [.b 1 [18,27,41,48,62,74] (.bx 2 (.t 0)),.K 2 0,.K 3 0]
(Sq (Ra 14 [.A 2 1,.c 101 [14] 0,.N 15]
(Ci 16 (Rb 0 [.K 2 3,.K 3 0])))
(Sq (Ra 18 [.f 0 1,.c 102 [19] 0,.w 17,.C 20,.w 21,.o (.ext (.t 17) 0),.o (.ext (.t 17) 1),.M 4 21,.M 5 22]
(Ra 23 [.C 4,.P .neq 23 0]
(Ci 24 (Rb 25 [.C 4,.C 5,.M 2 25,.M 3 26]))))
(Sq (Ra 27 [.f 1 1,.Z 28,.P .gtr 29 4]
(Ci 30 (Rb 0 [.K 2 2,.K 3 0])))
(Sq (Ra 32 [.A 2 1,.c 103 [32] 0,.w 31,.C 33,.w 34,.o (.ext (.t 31) 0),.o (.ext (.t 31) 1),.M 6 34,.M 7 35]
(Ra 36 [.C 6,.P .neq 36 0]
(Ci 37 (Rb 38 [.C 6,.C 7,.M 2 38,.M 3 39]))))
(Ra 0 [.K 8 0]
(Sq (Ra 0 [.K 9 0]
(Bl 0 (Sq (Ra 40 [.C 9,.f 1 1,.Z 42,.O .lss 40 43]
(cX 44 0))
(Sq (Bk 1 (Rc 47 [.C 8,.f 1 1,.C 9,.I 4 49 50,.U 3 51,.c 104 [53] 0,.O .add 47 54,.M 8 55]))
(Rc 45 [.C 9,.P .add 45 1,.M 9 46])))))
(Sq (Ra 56 [.C 8,.P .gtr 56 60]
(Ci 57 (Rb 0 [.K 2 2,.K 3 0])))
(Ra 58 [.A 2 1,.o (.Dc [.own false 6 [],.own false 4 [],si 0,.own false 11 [],.own false 1 [],.own false 1 []] [(0,2,.t 58)]),.o (.bx 6 (.t 59)),.b 10 [68,70,71,73] (.mv (.t 60))]
(Sq (Ra 0 [.K 11 0]
(Bl 2 (Sq (Ra 61 [.C 11,.f 1 1,.Z 63,.O .lss 61 64]
(cX 65 2))
(Sq (Bk 3 (Ra 68 [.y 10 (.cp (.t 10)),.C 11,.y 10 (.FF (.t 68)),.H 10 2 70,.S 1 71 69]
(Ra 73 [.y 10 (.cp (.t 10)),.f 1 1,.C 11,.I 4 75 76,.U 3 77,.o (.EK 105 [] (.t 73) none [.t 79]),.w 72,.C 80,.w 81,.o (.ext (.t 72) 0),.o (.ext (.t 72) 1),.M 12 81,.M 13 82]
(Ra 83 [.C 12,.P .neq 83 0]
(Ci 84 (Rb 85 [.C 12,.C 13,.M 2 85,.M 3 86]))))))
(Rc 66 [.C 11,.P .add 66 1,.M 11 67])))))
(Rb 0 [.K 2 0,.K 3 0])))))))))))
def AAa:Gi:=⟨[(18,[1]),(27,[1]),(41,[1]),(48,[1]),(62,[1]),(68,[10]),(70,[10]),(71,[10]),(73,[10]),(74,[1])]⟩
def AAb:List RV:=[.tmp 2,.tmp 3]
namespace BH
def J2:Option (Int×Int):=
some (0,0)
def L2 (a:AL) (L2:A1->Int->Option (Int×Int)) (c:A1) (b:Int):Option (Int×Int):=
if decide (b<(a.AA.length:Int))then
(gt a.AA b).bind λs=>
(DR Bo (A1.mk c.p b c.EN c.IU c.RZ) s.Body).bind λf=>
if f.1 != 0 then
some (f.1,f.2.1)
else
L2 f.2.2 (BE (b+1))
else
J2
def Da (a:AL):Nat->A1->Int->Option (Int×Int)
|0,_,_=>none
|n+1,c,b=>L2 a (Da a n) c b
def J1 (a:AL) (l:Int):Option (Int×Int):=
if decide (l>60)then
some (2,0)
else
Da a Bo (A1.mk a 0 [] [] []) 0
def L1 (a:AL) (L1:Int->Int->Option (Int×Int)) (e d:Int):Option (Int×Int):=
if decide (d<(a.AA.length:Int))then
(gt a.AA d).bind λq=>
(FW Bo q.Body).bind λp=>
L1 (BE (e+p)) (BE (d+1))
else
J1 a e
def Ac (a:AL):Nat->Int->Int->Option (Int×Int)
|0,_,_=>none
|n+1,e,d=>L1 a (Ac a n) e d
end BH
section
open BH
def BH (a:AL):Option (Int×Int):=
(Bh a).bind λo=>
if !o then
some (3,0)
else
(FC a.Decls).bind λi=>
if i.1 != 0 then
some (i.1,i.2)
else
if decide ((a.AA.length:Int)>4)then
some (2,0)
else
(BU a).bind λj=>
if j.1 != 0 then
some (j.1,j.2)
else
Ac a Bo 0 0
theorem HS {a:AL} {r:Int×Int} (h:BH a=some r):Says Tryz.prog 66 [.agg (Bb a)] (.A9 [si r.1,si r.2]):=by
 refine wO mix Tryz.func66 (I:=⟨AAZ,AAa,AAb⟩) ?_
 simp only[AAZ,AAa,AAb]
 have a1:= @PW
 have a2:= @RA
 have a3:= @Od
 have a4:= @Mf
 have a5:= @PY
 have l2:=λn1 n2 n3 n4:Nat=>BM λn τ=>∃(c:A1) (b:Int),(τ 1=bA 2 (Bb a)/\τ 10=bA 6 (Es c)/\τ 11=si b)/\Da a n c b=some r
 have l1:=λn1 n2 n3 n4:Nat=>BM λn τ=>∃(e d:Int),(τ 1=bA 2 (Bb a)/\τ 8=si e/\τ 9=si d)/\Ac a n e d=some r
 unfold BH at h
 exact walk
end
def yX:IC:=(Ra 2 [.o (.bx 2 (.c (.agg z17)))]
(Ra 12 [.C 0,.o (.Dc [.own false 1 [],si 0] [(0,1,.t 12)]),.o (.bx 2 (.t 13)),.o (.Dc [.sc (.pointer none),si 0,si 0,sb false,sb false,sb false,sb false,.own false 1 []] [(0,1,.t 14),(2,1,.c (si 20))]),.o (.bx 8 (.t 15)),.b 3 [19,20,21,22,31,33,34,61,62,63,64,73,74,75,76] (.mv (.t 16))]
(Ra 17 [.c 71 [] 2,.o (.Dc z17 [(0,1,.t 17)]),.b 4 [89,90,94,96,110] (.bx 2 (.c (.agg z17))),.S 2 4 18]
(Ra 19 [.r 3 0,.o (.EK 72 [] (.t 22) none [.c (si 3)]),.o (.bin .add (.c (si 2)) (.t 23)),.M 5 24]
(Ra 25 [.o (.Eg 1 [[Ao ⟨#[]⟩],[Ao ⟨#[]⟩],[Ao ⟨#[]⟩],[Ao ⟨#[]⟩]] [(0,.c (Ao ⟨#[109,97,105,110]⟩)),(1,.c (Ao ⟨#[116,49]⟩)),(2,.c (Ao ⟨#[116,50]⟩)),(3,.c (Ao ⟨#[116,51]⟩))]),.b 6 [35,37,50,52,82,83] (.mv (.t 25))]
(Sq (Ra 0 [.K 7 0]
(Bl 0 (Sq (Ra 26 [.C 7,.C 5,.O .lss 26 27]
(cX 28 0))
(Sq (Bk 1 (Ra 31 [.y 3 (.cp (.t 3)),.C 7,.y 3 (.FF (.t 31)),.H 3 1 33,.S 1 34 32]
(Ra 35 [.y 6 (.cp (.t 6)),.C 7,.J 6 1 35 36,.L 37,.o (.Eg 1 z20 [(0,.c (Ao ⟨#[97]⟩)),(1,.c (Ao ⟨#[98]⟩))]),.o (.Dc kM [(0,1,.t 38),(2,1,.t 39)]),.b 8 [48,49,57,58,59,69,80,81,88,91] (.bx 4 (.c (.agg kM))),.S 4 8 40]
(Sq (Ra 41 [.C 7,.Q 41 0]
(Ci 42 (Ra 0 [.K 9 1]
(Bl 2 (Sq (Ra 43 [.C 9,.C 5,.O .lss 43 44]
(cX 45 2))
(Sq (Bk 3 (Rc 48 [.m 8 3 8,.y 6 (.cp (.t 6)),.C 9,.J 6 1 50 51,.L 52,.o (.Dc z8 [(0,1,.c (si 12)),(2,1,.t 53)]),.o (.Eg 11 [z8] [(0,.t 54)]),.o (.app 11 176 (.t 49) (.t 55)),.F 3 8,.S 1 57 56]))
(Rc 46 [.C 9,.P .add 46 1,.M 9 47])))))))
(Sq (.Vt [(3,2,9,60)] [LQ 58 8 3 8,VD 59 8 58,i0 60 .fl,i1 61 3 (.cp (.t 3)),i1 62 3 (.FF (.t 61)),LQ 63 3 0 62,VD 64 3 63,i0 65 (.EK 72 [] (.t 64) none [.c (si 3)]),i0 66 (.bin .add (.c (si 1)) (.t 65)),i0 67 (.EK 73 [] (.t 3) none [.c (si 2),.t 66]),i0 68 (.app 11 176 (.t 59) (.t 67)),LQ 69 8 3 8,iS 1 69 68])
(Sq (Ra 70 [.C 7,.Q 70 0,.C 71,.G 72 true,.r 3 0,.o (.EK 72 [] (.t 76) none [.c (si 3)]),.P .eql 77 2,.e,.W 72 78]
(Ci 79 (Rc 80 [.m 8 3 8,.y 6 (.cp (.t 6)),.y 6 (.Lr 1 (.t 82) (.c (si 1))),.L 83,.o (.Dc z8 [(0,1,.c (si 13)),(2,1,.t 84)]),.o (.Eg 11 [z8] [(0,.t 85)]),.o (.app 11 176 (.t 81) (.t 86)),.F 3 8,.S 1 88 87])))
(.gz false 8 [(0,3,0)] (.gz false 8 [(0,2,0)] (Rc 89 [.m 4 1 4,.y 8 (.ld true 4 (.t 8)),.o (.Eg 4 [kM] [(0,.t 91)]),.o (.app 4 72 (.t 90) (.t 92)),.F 1 4,.S 1 94 93])))))))))
(Rc 29 [.C 7,.P .add 29 1,.M 7 30])))))
(Sq (Ra 96 [.y 4 (.ld true 2 (.t 4)),.c 66 [96] 0,.w 95,.C 97,.w 98,.o (.ext (.t 95) 0),.o (.ext (.t 95) 1),.M 10 98,.M 11 99]
(Ra 100 [.C 10,.P .neq 100 0]
(Ci 101 (Rb 102 [.c 71 [] 2,.o (.Eg 1 z20 [(0,.c (Ao ⟨#[97]⟩)),(1,.c (Ao ⟨#[98]⟩))]),.o (.call 75 [.c (si 1)] 1),.o (.call 74 [.c (Ao ⟨#[120]⟩),.t 104] 1),.o (.Eg 11 [z8] [(0,.t 105)]),.o (.Dc kM [(0,1,.c (Ao ⟨#[109,97,105,110]⟩)),(2,1,.t 103),(3,1,.t 106)]),.o (.Eg 4 [kM] [(0,.t 107)]),.o (.Dc z17 [(0,1,.t 102),(1,1,.t 108)]),.S 2 2 109]))))
(Rb 110 [.y 4 (.ld true 2 (.t 4)),.S 2 2 110]))))))))
def yY:Gi:=⟨[(19,[3]),(20,[3]),(21,[3]),(22,[3]),(31,[3]),(33,[3]),(34,[3]),(35,[6]),(37,[6]),(48,[8]),(49,[8]),(50,[6]),(52,[6]),(57,[8]),(58,[8]),(59,[8]),(61,[3]),(62,[3]),(63,[3]),(64,[3]),(69,[8]),(73,[3]),(74,[3]),(75,[3]),(76,[3]),(80,[8]),(81,[8]),(82,[6]),(83,[6]),(88,[8]),(89,[4]),(90,[4]),(91,[8]),(94,[4]),(96,[4]),(110,[4])]⟩
def yZ:List RV:=[.cell 2 true 2]
def f40:FI:=⟨yX,yY,yZ⟩
theorem vK:I2 Tryz.prog Tryz.f40 f40=true:=by kernel_rfl
namespace BL
def J5 (p_2:AL):Option AL:=
(BH p_2).bind λv_5=>
if v_5.1 != 0 then
(Dz).bind λv_6=>
(G4 1).bind λv_7=>
(DX (⟨#[120]⟩:ByteArray) v_7).bind λv_8=>
some (AL.mk v_6 [(CA.mk (⟨#[109,97,105,110]⟩:ByteArray) 0 [(⟨#[97]⟩:ByteArray),(⟨#[98]⟩:ByteArray)] [v_8])])
else
some p_2
def J4 (L1:AF->AL->Int->Option AL) (i:Int) (m_3:AF) (p_1:AL):Option AL:=
L1 m_3 p_1 (BE (i+1))
def J3 (L1:AF->AL->Int->Option AL) (i:Int) (p:AL) (m_2:AF) (t_2:CA):Option AL:=
if Aq (p.AA.length+1) 72=true then
J4 L1 i m_2 (AL.mk p.Decls (p.AA++[t_2]))
else none
def J2 (L1:AF->AL->Int->Option AL) (i:Int) (p:AL) (t_1:CA) (v_3:(List AK)×AF) (m_1:AF) (t79v:Bool):Option AL:=
if t79v then
if Aq ((t_1.Body++v_3.1).length+1) 176=true then
J3 L1 i p m_1 (CA.mk t_1.Name t_1.D4 t_1.EY ((t_1.Body++v_3.1)++[(AK.mk 13 0 (⟨#[116,49]⟩:ByteArray) (⟨#[]⟩:ByteArray) [] (As.mk 0 0 (⟨#[]⟩:ByteArray) []) [] [])]))
else none
else
J3 L1 i p m_1 (CA.mk t_1.Name t_1.D4 t_1.EY (t_1.Body++v_3.1))
def J1 (L1:AF->AL->Int->Option AL) (i:Int) (m:AF) (p:AL) (t_1:CA):Option AL:=
(BF m.t 3).bind λv_2=>
(Cp Bo (AF.mk v_2.2 i m.left m.E5 m.tx m.atomic m.loop m.held) 2 (BE (1+v_2.1))).bind λv_3=>
if Aq (t_1.Body.length+v_3.1.length) 176=true then
if i==0 then
(BF v_3.2.t 3).bind λv_4=>
J2 L1 i p t_1 v_3 (AF.mk v_4.2 v_3.2.BG v_3.2.left v_3.2.E5 v_3.2.tx v_3.2.atomic v_3.2.loop v_3.2.held) (v_4.1==2)
else
J2 L1 i p t_1 v_3 v_3.2 false
else none
def L2 (L1:AF->AL->Int->Option AL) (i:Int) (m:AF) (p:AL) (v_1:Int×Cm) (L2:CA->Int->Option AL) (t:CA) (k:Int):Option AL:=
if decide (k<(BE (2+v_1.1)))then
(gt [(⟨#[109,97,105,110]⟩:ByteArray),(⟨#[116,49]⟩:ByteArray),(⟨#[116,50]⟩:ByteArray),(⟨#[116,51]⟩:ByteArray)] k).bind λx_1=>
if Aq (t.Body.length+1) 176=true then
L2 (CA.mk t.Name t.D4 t.EY (t.Body++[(AK.mk 12 0 x_1 (⟨#[]⟩:ByteArray) [] (As.mk 0 0 (⟨#[]⟩:ByteArray) []) [] [])])) (BE (k+1))
else none
else
J1 L1 i m p t
def Da (L1:AF->AL->Int->Option AL) (i:Int) (m:AF) (p:AL) (v_1:Int×Cm):Nat->CA->Int->Option AL
|0,_,_=>none
|n+1,t,k=>L2 L1 i m p v_1 (Da L1 i m p v_1 n) t k
def L1 (v_1:Int×Cm) (L1:AF->AL->Int->Option AL) (m:AF) (p:AL) (i:Int):Option AL:=
if decide (i<(BE (2+v_1.1)))then
(gt [(⟨#[109,97,105,110]⟩:ByteArray),(⟨#[116,49]⟩:ByteArray),(⟨#[116,50]⟩:ByteArray),(⟨#[116,51]⟩:ByteArray)] i).bind λx=>
if i==0 then
Da L1 i m p v_1 Bo (CA.mk x 0 [(⟨#[97]⟩:ByteArray),(⟨#[98]⟩:ByteArray)] []) 1
else
J1 L1 i m p (CA.mk x 0 [(⟨#[97]⟩:ByteArray),(⟨#[98]⟩:ByteArray)] [])
else
J5 p
def Ac (v_1:Int×Cm):Nat->AF->AL->Int->Option AL
|0,_,_,_=>none
|n+1,m,p,i=>L1 v_1 (Ac v_1 n) m p i
end BL
section
open BL
def BL (l:List Int):Option AL:=
(Dz).bind λv=>
(BF (Cm.mk l 0) 3).bind λv_1=>
Ac v_1 Bo (AF.mk v_1.2 0 20 false false false false []) (AL.mk v []) 0
theorem PN {l:List Int} {r:AL} (h:BL l=some r):Says Tryz.prog 40 [vS 1 UN l] (.agg (Bb r)):=by
 refine Vi mix Tryz.func40 vK (of_decide_eq_true (by kernel_rfl)) rfl ?_
 simp only[f40,yX,yY,yZ]
 repeat' first
  |with_reducible exact B9 h
  |with_reducible refine gBm eS h λ_ _ h=> ?_
  |with_reducible refine gBe h (by assumption) λh=> ?_
  |with_reducible refine gBk h λ_ _ h=> ?_
  | (with_reducible refine cSk h λg h=> ?_
     try simp only[List.length_nil,List.nil_append,Nat.zero_add]at g)
  | (with_reducible refine bSs h λh=> ?_
     try simp +decide only[go_sem, *]
     refine⟨_,by first|exact Ls (by assumption),?_⟩)
  | (with_reducible refine bSk h λ_ g h=> ?_
     try simp +decide only[go_sem, *]
     refine⟨_,by first|exact Ls g|exact HS g|exact KW g|exact KS g,?_⟩)
  | (with_reducible refine bSk h λ_ g h=> ?_
     try simp +decide only[go_sem, *]
     refine YC.intro (by first|exact Fi g|exact KV g) rfl ?_ ?_ ?_
     . rfl
     . first|rfl|simp +decide only[go_sem, *])
  | (with_reducible cases h
     simp +decide only[go_sem, *]
     done)
  |simp only[eq_self,if_true,if_false,Bool.false_eq_true]at h
  |simp +decide only[go_sem, *]
  | (with_reducible refine Jc (λn τ=>∃v_1:Int×Cm,∃m:AF,∃p:AL,∃i:Int,(τ 2=bA 2 z17/\τ 3=bA 8 (Be m)/\τ 4=bA 2 [vO 6 G2 p.Decls,vO 4 GD p.AA]/\τ 5=si (BE (2+v_1.1))/\τ 6= .own false 1 (z21)/\τ 7=si i)/\Ac v_1 n m p i=some r) ⟨_,_,_,_,?_,h⟩ ?_
     rotate_left
     rintro(_|n1) τ N ⟨v_1,_,_,_,_,h⟩ k1
     . exact B9 h
     rw[Ac]at h)
  | (with_reducible refine Jc (λn τ=>∃i:Int,∃m:AF,∃p:AL,∃t:CA,∃k:Int,(τ 2=bA 2 z17/\τ 3=bA 8 [bA 2 (Ot m.t),si i,si m.left,sb m.E5,sb m.tx,sb m.atomic,sb m.loop,vO 1 eS m.held]/\τ 4=bA 2 [vO 6 G2 p.Decls,vO 4 GD p.AA]/\τ 5=si (BE (2+v_1.1))/\τ 6= .own false 1 (z21)/\τ 7=si i/\τ 8=bA 4 (U6 t)/\τ 9=si k)/\Da (Ac v_1 n1) i m p v_1 n t k=some r) ⟨_,_,_,_,_,?_,h⟩ ?_
     rotate_left
     rintro(_|n2) τ N ⟨i,m,p,_,_,_,h⟩ k2
     . exact B9 h
     rw[Da]at h)
  |with_reducible refine bO k2 ⟨_,_,_,_,_,?_,h⟩
  |with_reducible refine bO k1 ⟨_,_,_,_,?_,h⟩
  |simp only[*,eq_self,if_true,if_false,Bool.false_eq_true,decide_true,decide_false]at h
  | (with_reducible refine bI h ?_ ?_
     all_goals clear h;intro _ h)
  | (simp[GD,eS];done)
  |unfold BL at h
  |unfold J5 at h
  |unfold J4 at h
  |unfold J3 at h
  |unfold J2 at h
  |unfold J1 at h
  |unfold L2 at h
  |unfold L1 at h
end
def lM:IC:=(Ra 0 [.K 4 0]
(Sq (Ra 0 [.K 5 0]
(Bl 0 (Sq (Ra 6 [.C 5,.C 0,.Z 7,.O .lss 6 8]
(cX 9 0))
(Sq (Bk 1 (Ra 12 [.C 0,.C 5,.I 2 12 13,.U 0 14,.C 1,.O .eql 16 17]
(Ci 18 (Rb 19 [.C 5,.M 4 19]))))
(Rc 10 [.C 5,.P .add 10 1,.M 5 11])))))
(Rb 0 [.K 4 (-1)])))
def lN:Gi:=⟨[]⟩
def lO:List RV:=[.tmp 4]
namespace Cr
def J1:Option Int:=
some (-1)
def L1 (a:List Iy) (b:ByteArray) (L1:Int->Option Int) (c:Int):Option Int:=
if decide (c<(a.length:Int))then
(gt a c).bind λd=>
if d.Name.toList==b.toList then
some c
else
L1 (BE (c+1))
else
J1
def Ac (a:List Iy) (b:ByteArray):Nat->Int->Option Int
|0,_=>none
|n+1,c=>L1 a b (Ac a b n) c
end Cr
section
open Cr
def Cr (a:List Iy) (b:ByteArray):Option Int:=
Ac a b Bo 0
theorem Jl {a:List Iy} {b:ByteArray} {r:Int} (h:Cr a b=some r):Says Tryz.prog 106 [vS 2 HI a,Ao b] (si r):=by
 refine wO mix Tryz.func106 (I:=⟨lM,lN,lO⟩) ?_
 simp only[lM,lN,lO]
 have l1:=λn1 n2 n3 n4:Nat=>BM λn τ=>∃(c:Int),(τ 0=vS 2 HI a/\τ 1=Ao b/\τ 5=si c)/\Ac a b n c=some r
 unfold Cr at h
 exact walk
end
def lP:IC:=(Ra 8 [.o (.mv (.c (.own false 3 []))),.K 9 0]
(Sq (Ra 0 [.K 10 0]
(Bl 0 (Sq (Ra 11 [.C 10,.C 3,.Z 12,.O .lss 11 13]
(cX 14 0))
(Sq (Bk 1 (Ra 17 [.y 0 (.cp (.t 0)),.C 1,.y 2 (.cp (.t 2)),.C 3,.C 10,.I 11 20 21,.U 1 22,.o (.Dc [si 0,si 0,si 0] [(0,1,.t 18),(1,1,.t 19),(2,1,.t 24)]),.o (.Eg 3 [[si 0,si 0,si 0]] [(0,.t 25)]),.o (.app 3 24 (.t 17) (.t 26)),.b 0 [17,31,43,54] (.mv (.t 27))]
(Ra 28 [.y 2 (.cp (.t 2)),.P .add 28 1,.b 2 [19,28,33,45,55] (.mv (.t 29))]
(Ra 31 [.y 0 (.cp (.t 0)),.C 1,.y 2 (.cp (.t 2)),.C 3,.C 10,.I 11 34 35,.U 9 36,.b 39 [30,40,41] (.call 107 [.t 31,.t 32,.t 33,.t 38] 3),.w 30,.y 39 (.cp (.t 39)),.w 40,.y 39 (.ext (.t 30) 0),.y 39 (.ext (.t 30) 1),.b 0 [17,31,43,54] (.mv (.t 40)),.b 2 [19,28,33,45,55] (.mv (.t 41))]
(Rc 43 [.y 0 (.cp (.t 0)),.C 1,.y 2 (.cp (.t 2)),.C 3,.C 10,.I 11 46 47,.U 10 48,.b 51 [42,52,53] (.call 107 [.t 43,.t 44,.t 45,.t 50] 3),.w 42,.y 51 (.cp (.t 51)),.w 52,.y 51 (.ext (.t 42) 0),.y 51 (.ext (.t 42) 1),.b 0 [17,31,43,54] (.mv (.t 52)),.b 2 [19,28,33,45,55] (.mv (.t 53))])))))
(Rc 15 [.C 10,.P .add 15 1,.M 10 16])))))
(Rb 54 [.y 0 (.cp (.t 0)),.y 2 (.cp (.t 2)),.M 8 54,.M 9 55])))
def lQ:Gi:=⟨[(17,[0]),(19,[2]),(28,[2]),(30,[39]),(31,[0]),(33,[2]),(40,[39]),(41,[39]),(42,[51]),(43,[0]),(45,[2]),(52,[51]),(53,[51]),(54,[0]),(55,[2])]⟩
def lR:List RV:=[.tmp 8,.tmp 9]
namespace C2
def J1 (q:List DO) (p:Int):Option ((List DO)×Int):=
some (q,p)
def L1 (R107:(List DO)->Int->Int->(List AK)->Option ((List DO)×Int)) (b:List AK) (a:Int) (L1:(List DO)->Int->Int->Option ((List DO)×Int)) (e:List DO) (d c:Int):Option ((List DO)×Int):=
if decide (c<(b.length:Int))then
(gt b c).bind λj=>
if Aq (e.length+1) 24=true then
(R107 (e++[(DO.mk a d j.D4)]) a (BE (d+1)) j.Body).bind λl=>
(R107 l.1 a l.2 j.Else).bind λo=>
L1 o.1 o.2 (BE (c+1))
else none
else
J1 e d
def Ac (R107:(List DO)->Int->Int->(List AK)->Option ((List DO)×Int)) (b:List AK) (a:Int):Nat->(List DO)->Int->Int->Option ((List DO)×Int)
|0,_,_,_=>none
|n+1,e,d,c=>L1 R107 b a (Ac R107 b a n) e d c
end C2
section
open C2
def C2 (R107:(List DO)->Int->Int->(List AK)->Option ((List DO)×Int)) (i:List DO) (a f:Int) (b:List AK):Option ((List DO)×Int):=
Ac R107 b a Bo i f 0
theorem RJ {R107:(List DO)->Int->Int->(List AK)->Option ((List DO)×Int)} (H107:∀{x0 x1 x2 x3 r},R107 x0 x1 x2 x3=some r->Says Tryz.prog 107 [vO 3 E7 x0,si x1,si x2,vS 11 An x3] (.A9 [vO 3 E7 r.1,si r.2])) {i:List DO} {a f:Int} {b:List AK} {r:(List DO)×Int} (h:C2 R107 i a f b=some r):Says Tryz.prog 107 [vO 3 E7 i,si a,si f,vS 11 An b] (.A9 [vO 3 E7 r.1,si r.2]):=by
 refine wO mix Tryz.func107 (I:=⟨lP,lQ,lR⟩) ?_
 simp only[lP,lQ,lR]
 have a1:= @H107
 have l1:=λn1 n2 n3 n4:Nat=>BM λn τ=>∃(e:List DO) (d c:Int),(τ 0=vO 3 E7 e/\τ 1=si a/\τ 2=si d/\τ 3=vS 11 An b/\τ 10=si c)/\Ac R107 b a n e d c=some r
 unfold C2 at h
 exact walk
end
def Ny:Nat->((List DO)->Int->Int->(List AK)->Option ((List DO)×Int))
|0=>(λ_ _ _ _=>none)
|n+1=>C2 ((Ny n))
def FY (n:Nat):(List DO)->Int->Int->(List AK)->Option ((List DO)×Int):=(Ny n)
theorem Pf (n:Nat):(∀{x0 x1 x2 x3 r},(FY n) x0 x1 x2 x3=some r->Says Tryz.prog 107 [.own false 3 (x0.map E7),si x1,si x2,.sl false 11 (x3.map An)] (.A9 [.own false 3 (r.1.map E7),si r.2])):=by
  induction n with
  |zero=>exactλh=>B9 h
  |succ n ih=>exactλh=>RJ ih h
theorem Pg {n:Nat}:∀{x0 x1 x2 x3 r},(FY n) x0 x1 x2 x3=some r->Says Tryz.prog 107 [.own false 3 (x0.map E7),si x1,si x2,.sl false 11 (x3.map An)] (.A9 [.own false 3 (r.1.map E7),si r.2]):=(Pf n)
end Go.Abs
