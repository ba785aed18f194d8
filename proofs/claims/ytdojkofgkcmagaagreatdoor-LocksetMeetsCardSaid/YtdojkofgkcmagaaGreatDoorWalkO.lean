/- Typed programs of Go functions, and that the functions do what these say. -/
import Derived.Test.YtdojkofgkcmagaaGreatDoorWalkN
set_option linter.defProp false
set_option linter.unusedSimpArgs false
set_option linter.unusedVariables false
namespace Go.Abs
open Go.Proofs Tryz
set_option maxRecDepth 1000000
set_option maxHeartbeats 4000000
def f140c:IC:=(Ra 2 [.o (.bx 2 (.c (.agg z14)))]
(Ra 12 [.C 0,.o (.TK [.own false 1 [],si 0] [(0,1,.t 12)]),.o (.bx 2 (.t 13)),.o (.TK z19 [(0,1,.t 14),(2,1,.c (si 20))]),.o (.bx 8 (.t 15)),.b 3 [19,20,21,22,31,33,34,61,62,63,64,73,74,75,76] (.mv (.t 16))]
(Ra 17 [.c 186 [] 2,.o (.TK z14 [(0,1,.t 17)]),.b 4 [89,90,94,96,110] (.bx 2 (.c (.agg z14))),.S 2 4 18]
(Ra 19 [.r 3 0,.o (.Vx 132 [] (.t 22) none [.c (si 3)]),.o (.bin .add (.c (si 2)) (.t 23)),.M 5 24]
(Ra 25 [.o (.OR 1 [[Bq ⟨#[]⟩],[Bq ⟨#[]⟩],[Bq ⟨#[]⟩],[Bq ⟨#[]⟩]] [(0,.c (Bq ⟨#[109,97,105,110]⟩)),(1,.c (Bq ⟨#[116,49]⟩)),(2,.c (Bq ⟨#[116,50]⟩)),(3,.c (Bq ⟨#[116,51]⟩))]),.b 6 [35,37,50,52,82,83] (.mv (.t 25))]
(Sq (Ra 0 [.K 7 0]
(Bl 0 (Sq (Ra 26 [.C 7,.C 5,.O .lss 26 27]
(cX 28 0))
(Sq (Bk 1 (Ra 31 [.y 3 (.cp (.t 3)),.C 7,.y 3 (.I6 (.t 31)),.H 3 1 33,.S 1 34 32]
(Ra 35 [.y 6 (.cp (.t 6)),.C 7,.J 6 1 35 36,.L 37,.o (.OR 1 [[Bq ⟨#[]⟩],[Bq ⟨#[]⟩]] [(0,.c (Bq ⟨#[97]⟩)),(1,.c (Bq ⟨#[98]⟩))]),.o (.TK z11 [(0,1,.t 38),(2,1,.t 39)]),.b 8 [48,49,57,58,59,69,80,81,88,91] (.bx 4 (.c (.agg z11))),.S 4 8 40]
(Sq (Ra 41 [.C 7,.Q 41 0]
(Ci 42 (Ra 0 [.K 9 1]
(Bl 2 (Sq (Ra 43 [.C 9,.C 5,.O .lss 43 44]
(cX 45 2))
(Sq (Bk 3 (Rc 48 [.m 8 3 8,.y 6 (.cp (.t 6)),.C 9,.J 6 1 50 51,.L 52,.o (.TK z6 [(0,1,.c (si 12)),(2,1,.t 53)]),.o (.OR 11 [z6] [(0,.t 54)]),.o (.app 11 176 (.t 49) (.t 55)),.F 3 8,.S 1 57 56]))
(Rc 46 [.C 9,.P .add 46 1,.M 9 47])))))))
(Sq (.jB [(3,2,9,60)] [Kf 58 8 3 8,Vg 59 8 58,i0 60 .fl,i1 61 3 (.cp (.t 3)),i1 62 3 (.I6 (.t 61)),Kf 63 3 0 62,Vg 64 3 63,i0 65 (.Vx 132 [] (.t 64) none [.c (si 3)]),i0 66 (.bin .add (.c (si 1)) (.t 65)),i0 67 (.Vx 187 [] (.t 3) none [.c (si 2),.t 66]),i0 68 (.app 11 176 (.t 59) (.t 67)),Kf 69 8 3 8,iS 1 69 68])
(Sq (Ra 70 [.C 7,.Q 70 0,.C 71,.G 72 true,.r 3 0,.o (.Vx 132 [] (.t 76) none [.c (si 3)]),.P .eql 77 2,.e,.W 72 78]
(Ci 79 (Rc 80 [.m 8 3 8,.y 6 (.cp (.t 6)),.y 6 (.ZG 1 (.t 82) (.c (si 1))),.L 83,.o (.TK z6 [(0,1,.c (si 13)),(2,1,.t 84)]),.o (.OR 11 [z6] [(0,.t 85)]),.o (.app 11 176 (.t 81) (.t 86)),.F 3 8,.S 1 88 87])))
(.gz false 8 [(0,3,0)] (.gz false 8 [(0,2,0)] (Rc 89 [.m 4 1 4,.y 8 (.ld true 4 (.t 8)),.o (.OR 4 [z11] [(0,.t 91)]),.o (.app 4 72 (.t 90) (.t 92)),.F 1 4,.S 1 94 93])))))))))
(Rc 29 [.C 7,.P .add 29 1,.M 7 30])))))
(Sq (Ra 96 [.y 4 (.ld true 2 (.t 4)),.c 181 [96] 0,.w 95,.C 97,.w 98,.o (.ext (.t 95) 0),.o (.ext (.t 95) 1),.M 10 98,.M 11 99]
(Ra 100 [.C 10,.P .neq 100 0]
(Ci 101 (Rb 102 [.c 186 [] 2,.o (.OR 1 [[Bq ⟨#[]⟩],[Bq ⟨#[]⟩]] [(0,.c (Bq ⟨#[97]⟩)),(1,.c (Bq ⟨#[98]⟩))]),.o (.call 189 [.c (si 1)] 1),.o (.call 188 [.c (Bq ⟨#[120]⟩),.t 104] 1),.o (.OR 11 [z6] [(0,.t 105)]),.o (.TK z11 [(0,1,.c (Bq ⟨#[109,97,105,110]⟩)),(2,1,.t 103),(3,1,.t 106)]),.o (.OR 4 [z11] [(0,.t 107)]),.o (.TK z14 [(0,1,.t 102),(1,1,.t 108)]),.S 2 2 109]))))
(Rb 110 [.y 4 (.ld true 2 (.t 4)),.S 2 2 110]))))))))
def f140g:Gi:=⟨[(19,[3]),(20,[3]),(21,[3]),(22,[3]),(31,[3]),(33,[3]),(34,[3]),(35,[6]),(37,[6]),(48,[8]),(49,[8]),(50,[6]),(52,[6]),(57,[8]),(58,[8]),(59,[8]),(61,[3]),(62,[3]),(63,[3]),(64,[3]),(69,[8]),(73,[3]),(74,[3]),(75,[3]),(76,[3]),(80,[8]),(81,[8]),(82,[6]),(83,[6]),(88,[8]),(89,[4]),(90,[4]),(91,[8]),(94,[4]),(96,[4]),(110,[4])]⟩
def f140r:List RV:=[.cell 2 true 2]
def f140:FI:=⟨f140c,f140g,f140r⟩
def chk140:OT prog Tryz.f140 f140=true:=by kernel_rfl
namespace CD
def J5(p_2:AU):ABu AU:=
(BF p_2).bind λv_5=>
if v_5.1 != 0 then
(E7).bind λv_6=>
(Ku 1).bind λv_7=>
(FH (⟨#[120]⟩:ABv) v_7).bind λv_8=>
some (AU.mk v_6 [(C7.mk (⟨#[109,97,105,110]⟩:ABv) 0 [(⟨#[97]⟩:ABv),(⟨#[98]⟩:ABv)] [v_8])])
else
some p_2
def J4(L1:la)(i:Int)(m_3:AP)(p_1:AU):=
L1 m_3 p_1 (A6 (i+1))
def J3(L1:la)(i:Int)(p:AU)(m_2:AP)(t_2:C7):=
if Am (p.AA.length+1) 72=true then
J4 L1 i m_2 (AU.mk p.d9 (p.AA++[t_2]))
else none
def J2(L1:la)(i:Int)(p:AU)(t_1:C7)(qR:(List AR)×AP)(m_1:AP)(t79v:Bool):=
if t79v then
if Am ((t_1.dx++qR.1).length+1) 176=true then
J3 L1 i p m_1 (C7.mk t_1.di t_1.GH t_1.G0 ((t_1.dx++qR.1)++[(AR.mk 13 0 (⟨#[116,49]⟩:ABv) (⟨#[]⟩:ABv) [] (BO.mk 0 0 (⟨#[]⟩:ABv) []) [] [])]))
else none
else
J3 L1 i p m_1 (C7.mk t_1.di t_1.GH t_1.G0 (t_1.dx++qR.1))
def J1(L1:la)(i:Int)(m:AP)(p:AU)(t_1:C7):=
(Al m.t 3).bind λv_2=>
(EK BT (AP.mk v_2.2 i m.left m.IQ m.tx m.d5 m.ea m.d6) 2 (A6 (1+v_2.1))).bind λqR=>
if Am (t_1.dx.length+qR.1.length) 176=true then
if i==0 then
(Al qR.2.t 3).bind λv_4=>
J2 L1 i p t_1 qR (AP.mk v_4.2 qR.2.Bt qR.2.left qR.2.IQ qR.2.tx qR.2.d5 qR.2.ea qR.2.d6) (v_4.1==2)
else
J2 L1 i p t_1 qR qR.2 false
else none
def L2(L1:la)(i:Int)(m:AP)(p:AU)(gF:jr)(L2:C7->Int->ABu AU)(t:C7)(k:Int):=
if decide (k<(A6 (2+gF.1)))then
(gt [(⟨#[109,97,105,110]⟩:ABv),(⟨#[116,49]⟩:ABv),(⟨#[116,50]⟩:ABv),(⟨#[116,51]⟩:ABv)] k).bind λx_1=>
if Am (t.dx.length+1) 176=true then
L2 (C7.mk t.di t.GH t.G0 (t.dx++[(AR.mk 12 0 x_1 (⟨#[]⟩:ABv) [] (BO.mk 0 0 (⟨#[]⟩:ABv) []) [] [])])) (A6 (k+1))
else none
else
J1 L1 i m p t
def CC(L1:la)(i:Int)(m:AP)(p:AU)(gF:jr):Nat->C7->Int->ABu AU
|0,_,_=>none
|n+1,t,k=>L2 L1 i m p gF (CC L1 i m p gF n) t k
def L1(gF:jr)(L1:la)(m:AP)(p:AU)(i:Int):=
if decide (i<(A6 (2+gF.1)))then
(gt [(⟨#[109,97,105,110]⟩:ABv),(⟨#[116,49]⟩:ABv),(⟨#[116,50]⟩:ABv),(⟨#[116,51]⟩:ABv)] i).bind λx=>
if i==0 then
CC L1 i m p gF BT (C7.mk x 0 [(⟨#[97]⟩:ABv),(⟨#[98]⟩:ABv)] []) 1
else
J1 L1 i m p (C7.mk x 0 [(⟨#[97]⟩:ABv),(⟨#[98]⟩:ABv)] [])
else
J5 p
def AW(gF:jr):Nat->AP->AU->Int->ABu AU
|0,_,_,_=>none
|n+1,m,p,i=>L1 gF (AW gF n) m p i
end CD
section
open CD
def CD(l:iq):=
(E7).bind λv=>
(Al (AX.mk l 0) 3).bind λgF=>
AW gF BT (AP.mk gF.2 0 20 false false false false []) (AU.mk v []) 0
def XW{l:iq}{r:AU}(h:CD l=some r):Says prog 140 [vS 1 iX l] (.agg (Cf r)):=by
 refine pP mix func140 chk140 (AAc (by kernel_rfl)) rfl ?_;simp only[f140,f140c,f140g,f140r]
 repeat' first
  |with_reducible exact Et h
  |with_reducible refine gBm eS h λ_ _ h=> ?_
  |with_reducible refine gBe h bn λh=> ?_
  |with_reducible refine gBk h λ_ _ h=> ?_
  | (with_reducible refine cSk h λg h=> ?_
     try simp only[ABc,List.nil_append,ABW]at g)
  | (with_reducible refine bSs h λh=> ?_
     try simp +decide only[go_sem, *]
     refine⟨_,by first|exact Sv bn,?_⟩)
  | (with_reducible refine bSk h λ_ g h=> ?_
     try simp +decide only[go_sem, *]
     refine⟨_,by first|exact Sv g|exact LY g|exact Qp g|exact Ql g,?_⟩)
  | (with_reducible refine bSk h λ_ g h=> ?_
     try simp +decide only[go_sem, *]
     refine yD.intro (by first|exact DT g|exact Qo g) rfl ?_ ?_ ?_
     . rfl
     . first|rfl|simp +decide only[go_sem, *])
  | (with_reducible cases h
     simp +decide only[go_sem, *]
     done)
  |simp only[eq_self,AAy,AAk,AAd]at h
  |simp +decide only[go_sem, *]
  | (with_reducible refine oJ (λn a=>∃gF:Int×AX,∃m:AP,∃p:AU,∃i:Int,(a 2=bA 2 z14/\a 3=bA 8 (Co m)/\a 4=bA 2 [vO 6 Kq p.d9,vO 4 JU p.AA]/\a 5=si (A6 (2+gF.1))/\a 6= .own false 1 (z16)/\a 7=si i)/\AW gF n m p i=some r) ⟨_,_,_,_,?_,h⟩ ?_
     rotate_left;rintro(_|n1) a N ⟨gF,_,_,_,_,h⟩ k1
     . exact Et h
     rw[AW]at h)
  | (with_reducible refine oJ (λn a=>∃i:Int,∃m:AP,∃p:AU,∃t:C7,∃k:Int,(a 2=bA 2 z14/\a 3=bA 8 [bA 2 (GO m.t),si i,si m.left,sb m.IQ,sb m.tx,sb m.d5,sb m.ea,vO 1 eS m.d6]/\a 4=bA 2 [vO 6 Kq p.d9,vO 4 JU p.AA]/\a 5=si (A6 (2+gF.1))/\a 6= .own false 1 (z16)/\a 7=si i/\a 8=bA 4 (nH t)/\a 9=si k)/\CC (AW gF n1) i m p gF n t k=some r) ⟨_,_,_,_,_,?_,h⟩ ?_
     rotate_left;rintro(_|n2) a N ⟨i,m,p,_,_,_,h⟩ k2
     . exact Et h
     rw[CC]at h)
  |with_reducible refine backI k2 ⟨_,_,_,_,_,?_,h⟩
  |with_reducible refine backI k1 ⟨_,_,_,_,?_,h⟩
  |simp only[*,eq_self,AAy,AAk,AAd,decide_true,decide_false]at h
  | (with_reducible refine bI h ?_ ?_
     all_goals clear h;intro _ h)
  | (simp[JU,eS];done)
  |unfold CD at h
  |unfold J5 at h
  |unfold J4 at h
  |unfold J3 at h
  |unfold J2 at h
  |unfold J1 at h
  |unfold L2 at h
  |unfold L1 at h
end
namespace CA
def J5(w:AF):ABu AF:=
some w
def L3(d:AU)(L3:kf)(f:AF)(i:Int):=
if decide (i<(d.AA.length:Int))then
(gt d.AA i).bind λo=>
if Am (f.AA.length+1) 16=true then
(HG BT f.Be i 0 o.dx).bind λt=>
L3 (AF.mk f.df f.AK f.Ak f.AL (f.AA++[o.di]) t.1) (A6 (i+1))
else none
else
J5 f
def Gc(d:AU):Nat->AF->Int->ABu AF
|0,_,_=>none
|n+1,f,i=>L3 d (Gc d n) f i
def J4(d:AU)(v:AF):=
Gc d BT v 0
def J3(L1:kf)(c:Int)(u:AF):=
L1 u (A6 (c+1))
def L2(L1:kf)(c:Int)(b:Ey)(L2:kf)(e:AF)(j:Int):=
if decide (j<(if 1>b.B3 then 1 else b.B3))then
if Am (e.df.length+1) 48=true then
L2 (AF.mk (e.df++[(Du.mk b.di j b.B3 (b.da==2) b.db)]) e.AK e.Ak e.AL e.AA e.Be) (A6 (j+1))
else none
else
J3 L1 c e
def CC(L1:kf)(c:Int)(b:Ey):Nat->AF->Int->ABu AF
|0,_,_=>none
|n+1,e,j=>L2 L1 c b (CC L1 c b n) e j
def J2(L1:kf)(c:Int)(a:AF)(b:Ey)(p:Bool):=
if p then
if Am (a.AK.length+1) 24=true then
J3 L1 c (AF.mk a.df (a.AK++[(Kj.mk b.di (b.da==4))]) a.Ak a.AL a.AA a.Be)
else none
else
if b.da==5 then
(EL a.AK b.On).bind λs=>
if Am (a.Ak.length+1) 24=true then
J3 L1 c (AF.mk a.df a.AK (a.Ak++[(T8.mk b.di s)]) a.AL a.AA a.Be)
else none
else
if Am (a.AL.length+1) 16=true then
J3 L1 c (AF.mk a.df a.AK a.Ak (a.AL++[b.di]) a.AA a.Be)
else none
def J1(L1:kf)(c:Int)(a:AF)(b:Ey)(l:Bool):=
if l then
CC L1 c b BT a 0
else
if b.da==3 then
J2 L1 c a b (b.da==3)
else
J2 L1 c a b (b.da==4)
def L1(d:AU)(L1:kf)(a:AF)(c:Int):=
if decide (c<(d.d9.length:Int))then
(gt d.d9 c).bind λb=>
if b.da==1 then
J1 L1 c a b (b.da==1)
else
J1 L1 c a b (b.da==2)
else
J4 d a
def AW(d:AU):Nat->AF->Int->ABu AF
|0,_,_=>none
|n+1,a,c=>L1 d (AW d n) a c
end CA
section
open CA
def CA(d:AU):=
(BF d).bind λq=>
if q.1 != 0 then
some (AF.mk [] [] [] [] [] [])
else
AW d BT (AF.mk [] [] [] [] [] []) 0
def Zu{d:AU}{r:AF}(h:CA d=some r):Says prog 182 [.agg (Cf d)] (.agg (Mc r)):=by refine kO mix func182 (hn [(1,[19,25,95,103,116]),(3,[17,32,33,38,49,50,64,68,69,78,81,82,85,86,93,101,102,111,113,114,125,126]),(7,[30,34,43,51,54,56,59,70,72,83,87]),(122,[123])] [(13,1)] (E:=[(26,(.jB [(122,10,11,112)] [Kf 113 3 5 3,Vg 114 3 113,iC 115 9,Kf 116 1 1 1,iL 117 116,iC 118 9,iI 119 4 117 118,iF 120 3 119,iL 121 120,⟨some ⟨122,[123],[]⟩,.call 221 [.t 114,.t 115,.c (si 0),.t 121] 3,none⟩,i0 112 (.flk (.t 122) 1),i1 123 122 (.ext (.t 122) 0),i0 124 .fl,Kf 125 3 5 3,iS 1 125 123]))])) ?_;have a1:= @LY;have a2:= @Xp;have a3:= @P2;have l3:=im λ_ _ _ _ n a=>∃f i,(a 1=bA 2 (Cf d)/\a 2=bA 6 z8/\a 3=bA 6 (Mc f)/\a 9=si i)/\Gc d n f i=some r;have l1:=im λ_ _ _ _ n b=>∃a c,(b 1=bA 2 (Cf d)/\b 2=bA 6 z8/\b 3=bA 6 (Mc a)/\b 6=si c)/\AW d n a c=some r;have l2:=im λa _ _ _ n f=>∃c b e j,(f 1=bA 2 (Cf d)/\f 2=bA 6 z8/\f 3=bA 6 (Mc e)/\f 6=si c/\f 7=bA 6 (Kq b)/\f 8=si j)/\CC (AW d a) c b n e j=some r;have c1:=ip 1 λe _ _ _ f=>∃(c:Int)(a:AF)(b:Ey)(l:Bool),(f 1=bA 2 (Cf d)/\f 2=bA 6 z8/\f 3=bA 6 (Mc a)/\f 6=si c/\f 7=bA 6 (Kq b)/\f 31=si b.da/\f 39=sb l)/\J1 (AW d e) c a b l=some r;unfold CA at h;exact walk
end
namespace Ft
def J3(o:jm)(q:As):ABu ((List AH)×As):=
some (o,q)
def J2(L1:lh)(c:Int)(l:jm)(p:As):=
L1 l p (A6 (c+1))
def J1(L1:lh)(b:Bj)(a:kv)(c:Int)(d:jm)(e:As)(s:Bool):=
if s then
(gt a c).bind λt=>
(Db b e t).bind λj=>
if j.2.2 then
if Am (d.length+1) 88=true then
J2 L1 c (d++[j.2.1]) j.1
else none
else
J2 L1 c d e
else
J3 d e
def L1(b:Bj)(a:kv)(L1:lh)(d:jm)(e:As)(c:Int):=
if decide (c<(a.length:Int))then
J1 L1 b a c d e (decide ((d.length:Int)<400))
else
J1 L1 b a c d e false
def AW(b:Bj)(a:kv):Nat->(List AH)->As->Int->ABu ((List AH)×As)
|0,_,_,_=>none
|n+1,d,e,c=>L1 b a (AW b a n) d e c
end Ft
section
open Ft
def Ft(b:Bj)(i:As)(f:jm)(a:kv):=
AW b a BT f i 0
def dA{b:Bj}{i:As}{f:jm}{a:kv}{r:(List AH)×As}(h:Ft b i f a=some r):Says prog 137 [.agg (KV b),.agg (LO i),vO 7 A7 f,vS 2 HD a] (.BZ [vO 7 A7 r.1,.agg (LO r.2)]):=by refine kO mix func137 (hn [(2,[19,38,42])]) ?_;have a1:= @cY;have l1:=im λ_ _ _ _ n f=>∃d e c,(f 2=vO 7 A7 d/\f 3=vS 2 HD a/\f 4=bA 7 (KV b)/\f 5=bA 7 (LO e)/\f 9=bA 7 z4/\f 10=si c)/\AW b a n d e c=some r;unfold Ft at h;exact walk
end
namespace Es
def J1(b c:Int)(a:AG)(d:Bool):ABu Bool:=
if d then
some false
else
(Hj a).bind λf=>
(gt f.d4 b).bind λi=>
(gt i c).bind λj=>
some j
end Es
section
open Es
def Es(a:AG)(b c:Int):=
if decide (b<0)then
J1 b c a true
else
if decide (c<0)then
J1 b c a true
else
if decide (b>=(a.AB.length:Int))then
J1 b c a true
else
if decide (c>=(a.AB.length:Int))then
J1 b c a true
else
(FU a).bind λe=>
J1 b c a (!e)
def Qq{a:AG}{b c:Int}{r:Bool}(h:Es a b c=some r):Says prog 28 [.agg (A4 a),si b,si c] (sb r):=by refine kO mix func28 (hn [(3,[15,22]),(33,[34,35,36,38,39,41])] [(2,1)]) ?_;have a1:= @cP;have a2:= @MV;have c1:=ip 1 λ_ _ _ _ e=>∃d,(e 1=si b/\e 2=si c/\e 3=bA 15 (A4 a)/\e 31=sb d)/\J1 b c a d=some r;unfold Es at h;exact walk
end
def oK(a:AG):ABu (List (List Int)):=
(FU a).bind λb=>
if !b then
some []
else
(Hj a).bind λc=>
(Hr c).bind λd=>
some d.1
def LW(a:AG):ABu (List Em):=
(FU a).bind λb=>
if !b then
some []
else
(Gn a.cT a.db a.AB).bind λc=>
some c
def Ug{a:AG}{r:nf}(h:LW a=some r):Says prog 20 [.agg (A4 a)] (vS 2 NZ r):=by refine kF mix func20 (hn [(1,[6,8,10])]) ?_;have a1:= @MV;have a2:= @Uh;unfold LW at h;exact walk
def I8(a:AG)(b:Int):ABu (List Int):=
(FU a).bind λc=>
if !c then
some []
else
(Bi a b).bind λd=>
some d
def Ti{a:AG}{b:Int}{r:iq}(h:I8 a b=some r):Says prog 31 [.agg (A4 a),si b] (vO 1 eI r):=by refine kO mix func31 hn ?_;have a1:= @MV;have a2:= @M7;unfold I8 at h;exact walk
end Go.Abs
