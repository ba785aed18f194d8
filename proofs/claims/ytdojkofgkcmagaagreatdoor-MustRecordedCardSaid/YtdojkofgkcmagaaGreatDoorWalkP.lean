/- Go functions do what typed programs say. -/
import Derived.Test.YtdojkofgkcmagaaGreatDoorWalkO
import Derived.Shelf.Slices.SearchI
set_option linter.all false
namespace Go.Abs
open Go.Proofs Tryz
set_option maxRecDepth 1000000
set_option maxHeartbeats 4000000
def f140c:IC:=(Ra 2 [.o (.bx 2 (.c (.agg z14)))]
(Ra 12 [.C 0,.o (.To [.own false 1 [],si 0] [(0,1,.t 12)]),.o (.bx 2 (.t 13)),.o (.To z19 [(0,1,.t 14),(2,1,.c (si 20))]),.o (.bx 8 (.t 15)),.b 3 [19,20,21,22,31,33,34,61,62,63,64,73,74,75,76] (.mv (.t 16))]
(Ra 17 [.c 186 [] 2,.o (.To z14 [(0,1,.t 17)]),.b 4 [89,90,94,96,110] (.bx 2 (.c (.agg z14))),.S 2 4 18]
(Ra 19 [.r 3 0,.o (.W0 132 [] (.t 22) none [.c (si 3)]),.o (.bin .add (.c (si 2)) (.t 23)),.M 5 24]
(Ra 25 [.o (.Ox 1 [[B4 ⟨#[]⟩],[B4 ⟨#[]⟩],[B4 ⟨#[]⟩],[B4 ⟨#[]⟩]] [(0,.c (B4 ⟨#[109,97,105,110]⟩)),(1,.c (B4 ⟨#[116,49]⟩)),(2,.c (B4 ⟨#[116,50]⟩)),(3,.c (B4 ⟨#[116,51]⟩))]),.b 6 [35,37,50,52,82,83] (.mv (.t 25))]
(Sq (Ra 0 [.K 7 0]
(Bl 0 (Sq (Ra 26 [.C 7,.C 5,.O .lss 26 27]
(cX 28 0))
(Sq (Bk 1 (Ra 31 [.y 3 (.cp (.t 3)),.C 7,.y 3 (.JQ (.t 31)),.H 3 1 33,.S 1 34 32]
(Ra 35 [.y 6 (.cp (.t 6)),.C 7,.J 6 1 35 36,.L 37,.o (.Ox 1 [[B4 ⟨#[]⟩],[B4 ⟨#[]⟩]] [(0,.c (B4 ⟨#[97]⟩)),(1,.c (B4 ⟨#[98]⟩))]),.o (.To z11 [(0,1,.t 38),(2,1,.t 39)]),.b 8 [48,49,57,58,59,69,80,81,88,91] (.bx 4 (.c (.agg z11))),.S 4 8 40]
(Sq (Ra 41 [.C 7,.Q 41 0]
(Ci 42 (Ra 0 [.K 9 1]
(Bl 2 (Sq (Ra 43 [.C 9,.C 5,.O .lss 43 44]
(cX 45 2))
(Sq (Bk 3 (Rc 48 [.m 8 3 8,.y 6 (.cp (.t 6)),.C 9,.J 6 1 50 51,.L 52,.o (.To z6 [(0,1,.c (si 12)),(2,1,.t 53)]),.o (.Ox 11 [z6] [(0,.t 54)]),.o (.app 11 176 (.t 49) (.t 55)),.F 3 8,.S 1 57 56]))
(Rc 46 [.C 9,.P .add 46 1,.M 9 47])))))))
(Sq (.l7 [(3,2,9,60)] [Ko 58 8 3 8,We 59 8 58,i0 60 .fl,i1 61 3 (.cp (.t 3)),i1 62 3 (.JQ (.t 61)),Ko 63 3 0 62,We 64 3 63,i0 65 (.W0 132 [] (.t 64) none [.c (si 3)]),i0 66 (.bin .add (.c (si 1)) (.t 65)),i0 67 (.W0 187 [] (.t 3) none [.c (si 2),.t 66]),i0 68 (.app 11 176 (.t 59) (.t 67)),Ko 69 8 3 8,iS 1 69 68])
(Sq (Ra 70 [.C 7,.Q 70 0,.C 71,.G 72 true,.r 3 0,.o (.W0 132 [] (.t 76) none [.c (si 3)]),.P .eql 77 2,.e,.W 72 78]
(Ci 79 (Rc 80 [.m 8 3 8,.y 6 (.cp (.t 6)),.y 6 (.Wu 1 (.t 82) (.c (si 1))),.L 83,.o (.To z6 [(0,1,.c (si 13)),(2,1,.t 84)]),.o (.Ox 11 [z6] [(0,.t 85)]),.o (.app 11 176 (.t 81) (.t 86)),.F 3 8,.S 1 88 87])))
(.gz false 8 [(0,3,0)] (.gz false 8 [(0,2,0)] (Rc 89 [.m 4 1 4,.y 8 (.ld true 4 (.t 8)),.o (.Ox 4 [z11] [(0,.t 91)]),.o (.app 4 72 (.t 90) (.t 92)),.F 1 4,.S 1 94 93])))))))))
(Rc 29 [.C 7,.P .add 29 1,.M 7 30])))))
(Sq (Ra 96 [.y 4 (.ld true 2 (.t 4)),.c 181 [96] 0,.w 95,.C 97,.w 98,.o (.ext (.t 95) 0),.o (.ext (.t 95) 1),.M 10 98,.M 11 99]
(Ra 100 [.C 10,.P .neq 100 0]
(Ci 101 (Rb 102 [.c 186 [] 2,.o (.Ox 1 [[B4 ⟨#[]⟩],[B4 ⟨#[]⟩]] [(0,.c (B4 ⟨#[97]⟩)),(1,.c (B4 ⟨#[98]⟩))]),.o (.call 189 [.c (si 1)] 1),.o (.call 188 [.c (B4 ⟨#[120]⟩),.t 104] 1),.o (.Ox 11 [z6] [(0,.t 105)]),.o (.To z11 [(0,1,.c (B4 ⟨#[109,97,105,110]⟩)),(2,1,.t 103),(3,1,.t 106)]),.o (.Ox 4 [z11] [(0,.t 107)]),.o (.To z14 [(0,1,.t 102),(1,1,.t 108)]),.S 2 2 109]))))
(Rb 110 [.y 4 (.ld true 2 (.t 4)),.S 2 2 110]))))))))
def f140g:Gi:=⟨[(19,[3]),(20,[3]),(21,[3]),(22,[3]),(31,[3]),(33,[3]),(34,[3]),(35,[6]),(37,[6]),(48,[8]),(49,[8]),(50,[6]),(52,[6]),(57,[8]),(58,[8]),(59,[8]),(61,[3]),(62,[3]),(63,[3]),(64,[3]),(69,[8]),(73,[3]),(74,[3]),(75,[3]),(76,[3]),(80,[8]),(81,[8]),(82,[6]),(83,[6]),(88,[8]),(89,[4]),(90,[4]),(91,[8]),(94,[4]),(96,[4]),(110,[4])]⟩
def f140r:List RV:=[.cell 2 true 2]
def f140:FI:=⟨f140c,f140g,f140r⟩
def chk140:OW prog Tryz.f140 f140:=by kernel_rfl
namespace CS
def J5(p_2:AY):ABi AY:=(BT p_2).bind λv_5=>if v_5.1 != 0 then(FW).bind λUY=>(K5 1).bind λv_7=>(Fl (⟨#[120]⟩:ABj) v_7).bind λv_8=>some (AY.mk UY [(DM.mk (⟨#[109,97,105,110]⟩:ABj) 0 [(⟨#[97]⟩:ABj),(⟨#[98]⟩:ABj)] [v_8])])
else
some p_2
def J4(L1:lz)(i:Int)(m_3:AP)(p_1:AY):=L1 m_3 p_1 (A8 (i+1))
def J3(L1:lz)(i:Int)(p:AY)(m_2:AP)(t_2:DM):=if Ap (p.AA.length+1) 72=true then
J4 L1 i m_2 (AY.mk p.ep (p.AA++[t_2]))
else none
def J2(L1:lz)(i:Int)(p:AY)(t_1:DM)(dO:(List AU)×AP)(m_1:AP)(t79v:Bool):=if t79v then
if Ap ((t_1.dz++dO.1).length+1) 176=true then
J3 L1 i p m_1 (DM.mk t_1.dv t_1.Gd t_1.HE ((t_1.dz++dO.1)++[(AU.mk 13 0 (⟨#[116,49]⟩:ABj) (⟨#[]⟩:ABj) [] (Ba.mk 0 0 (⟨#[]⟩:ABj) []) [] [])]))
else none
else
J3 L1 i p m_1 (DM.mk t_1.dv t_1.Gd t_1.HE (t_1.dz++dO.1))
def J1(L1:lz)(i:Int)(m:AP)(p:AY)(t_1:DM):=(Aq m.t 3).bind λyS=>(Ec BQ (AP.mk yS.2 i m.left m.Ir m.tx m.ea m.eu m.eb) 2 (A8 (1+yS.1))).bind λdO=>if Ap (t_1.dz.length+dO.1.length) 176=true then
if i==0 then(Aq dO.2.t 3).bind λv_4=>J2 L1 i p t_1 dO (AP.mk v_4.2 dO.2.B7 dO.2.left dO.2.Ir dO.2.tx dO.2.ea dO.2.eu dO.2.eb) (v_4.1==2)
else
J2 L1 i p t_1 dO dO.2 false
else none
def L2(L1:lz)(i:Int)(m:AP)(p:AY)(ZG:j9)(L2:DM->Int->ABi AY)(t:DM)(k:Int):=if decide (k<(A8 (2+ZG.1)))then(gt [(⟨#[109,97,105,110]⟩:ABj),(⟨#[116,49]⟩:ABj),(⟨#[116,50]⟩:ABj),(⟨#[116,51]⟩:ABj)] k).bind λPV=>if Ap (t.dz.length+1) 176=true then
L2 (DM.mk t.dv t.Gd t.HE (t.dz++[(AU.mk 12 0 PV (⟨#[]⟩:ABj) [] (Ba.mk 0 0 (⟨#[]⟩:ABj) []) [] [])])) (A8 (k+1))
else none
else
J1 L1 i m p t
def Bs(L1:lz)(i:Int)(m:AP)(p:AY)(ZG:j9):Nat->DM->Int->ABi AY
|0,_,_=>none
|n+1,t,k=>L2 L1 i m p ZG (Bs L1 i m p ZG n) t k
def L1(ZG:j9)(L1:lz)(m:AP)(p:AY)(i:Int):=if decide (i<(A8 (2+ZG.1)))then(gt [(⟨#[109,97,105,110]⟩:ABj),(⟨#[116,49]⟩:ABj),(⟨#[116,50]⟩:ABj),(⟨#[116,51]⟩:ABj)] i).bind λx=>if i==0 then
Bs L1 i m p ZG BQ (DM.mk x 0 [(⟨#[97]⟩:ABj),(⟨#[98]⟩:ABj)] []) 1
else
J1 L1 i m p (DM.mk x 0 [(⟨#[97]⟩:ABj),(⟨#[98]⟩:ABj)] [])
else
J5 p
def AR(ZG:j9):Nat->AP->AY->Int->ABi AY
|0,_,_,_=>none
|n+1,m,p,i=>L1 ZG (AR ZG n) m p i
end CS
section
open CS
def CS(l:i6):=(FW).bind λv=>(Aq (AZ.mk l 0) 3).bind λZG=>AR ZG BQ (AP.mk ZG.2 0 20 false false false false []) (AY.mk v []) 0
def YQ{l:i6}{r:AY}(h:CS l=some r):Says prog 140 [vS 1 l5 l] (.agg (Ct r)):=by
 refine sI mix func140 chk140 (AAQ (by kernel_rfl)) rfl ?_;simp only[f140,f140c,f140g,f140r];repeat' first
  |with_reducible exact DT h
  |with_reducible refine gBm eS h λ_ _ h=>?_
  |with_reducible refine gBe h bm λh=>?_
  |with_reducible refine gBk h λ_ _ h=>?_
  | (with_reducible refine cSk h λg h=>?_
     try simp only[ABS,List.nil_append,AA7]at g)
  | (with_reducible refine bSs h λh=>?_
     (try simp +decide only[go_sem, *]);refine⟨_,by first|exact TR bm,?_⟩)
  | (with_reducible refine bSk h λ_ g h=>?_
     (try simp +decide only[go_sem, *]);refine⟨_,by first|exact TR g|exact Lj g|exact RJ g|exact RF g,?_⟩)
  | (with_reducible refine bSk h λ_ g h=>?_
     (try simp +decide only[go_sem, *]);refine LndE.intro (by first|exact Dj g|exact RI g) rfl ?_ ?_ ?_;rfl;first|rfl|simp +decide only[go_sem, *])
  | (with_reducible cases h
     simp +decide only[go_sem, *];done)
  |simp only[eq_self,AAl,AAY,AAR]at h
  |simp +decide only[go_sem, *]
  | (with_reducible refine NK (λn a=>∃ZG:Int×AZ,∃m:AP,∃p:AY,∃i:Int,(a 2=bA 2 z14/\a 3=bA 8 (Cy m)/\a 4=bA 2 [vO 6 Ky p.ep,vO 4 Jl p.AA]/\a 5=si (A8 (2+ZG.1))/\a 6=.own false 1 (z16)/\a 7=si i)/\AR ZG n m p i=some r) ⟨_,_,_,_,?_,h⟩ ?_
     rotate_left;rintro(_|n1) a N ⟨ZG,_,_,_,_,h⟩ k1;exact DT h;rw[AR]at h)
  | (with_reducible refine NK (λn a=>∃i:Int,∃m:AP,∃p:AY,∃t:DM,∃k:Int,(a 2=bA 2 z14/\a 3=bA 8 [bA 2 (Gg m.t),si i,si m.left,sb m.Ir,sb m.tx,sb m.ea,sb m.eu,vO 1 eS m.eb]/\a 4=bA 2 [vO 6 Ky p.ep,vO 4 Jl p.AA]/\a 5=si (A8 (2+ZG.1))/\a 6=.own false 1 (z16)/\a 7=si i/\a 8=bA 4 (qE t)/\a 9=si k)/\Bs (AR ZG n1) i m p ZG n t k=some r) ⟨_,_,_,_,_,?_,h⟩ ?_
     rotate_left;rintro(_|n2) a N ⟨i,m,p,_,_,_,h⟩ k2;exact DT h;rw[Bs]at h)
  |with_reducible refine Ow k2 ⟨_,_,_,_,_,?_,h⟩
  |with_reducible refine Ow k1 ⟨_,_,_,_,?_,h⟩
  |simp only[*,eq_self,AAl,AAY,AAR,decide_true,decide_false]at h
  | (with_reducible refine bI h ?_ ?_
     all_goals clear h;intro _ h)
  | (simp[Jl,eS];done)
  |unfold CS at h
  |unfold J5 at h
  |unfold J4 at h
  |unfold J3 at h
  |unfold J2 at h
  |unfold J1 at h
  |unfold L2 at h
  |unfold L1 at h
end
namespace CP
def J5(w:AG):ABi AG:=some w
def L3(d:AY)(L3:la)(f:AG)(i:Int):=if decide (i<(d.AA.length:Int))then(gt d.AA i).bind λo=>if Ap (f.AA.length+1) 16=true then(HZ BQ f.Bt i 0 o.dz).bind λt=>L3 (AG.mk f.di f.AK f.Al f.AL (f.AA++[o.dv]) t.1) (A8 (i+1))
else none
else
J5 f
def E3(d:AY):Nat->AG->Int->ABi AG
|0,_,_=>none
|n+1,f,i=>L3 d (E3 d n) f i
def J4(d:AY)(v:AG):=E3 d BQ v 0
def J3(L1:la)(c:Int)(u:AG):=L1 u (A8 (c+1))
def L2(L1:la)(c:Int)(b:FF)(L2:la)(e:AG)(j:Int):=if decide (j<(if 1>b.CM then 1 else b.CM))then
if Ap (e.di.length+1) 48=true then
L2 (AG.mk (e.di++[(ED.mk b.dv j b.CM (b.de==2) b.dg)]) e.AK e.Al e.AL e.AA e.Bt) (A8 (j+1))
else none
else
J3 L1 c e
def Bs(L1:la)(c:Int)(b:FF):Nat->AG->Int->ABi AG
|0,_,_=>none
|n+1,e,j=>L2 L1 c b (Bs L1 c b n) e j
def J2(L1:la)(c:Int)(a:AG)(b:FF)(p:Bool):=if p then
if Ap (a.AK.length+1) 24=true then
J3 L1 c (AG.mk a.di (a.AK++[(Kt.mk b.dv (b.de==4))]) a.Al a.AL a.AA a.Bt)
else none
else
if b.de==5 then(Ee a.AK b.On).bind λs=>if Ap (a.Al.length+1) 24=true then
J3 L1 c (AG.mk a.di a.AK (a.Al++[(Uk.mk b.dv s)]) a.AL a.AA a.Bt)
else none
else
if Ap (a.AL.length+1) 16=true then
J3 L1 c (AG.mk a.di a.AK a.Al (a.AL++[b.dv]) a.AA a.Bt)
else none
def J1(L1:la)(c:Int)(a:AG)(b:FF)(l:Bool):=if l then
Bs L1 c b BQ a 0
else
if b.de==3 then
J2 L1 c a b (b.de==3)
else
J2 L1 c a b (b.de==4)
def L1(d:AY)(L1:la)(a:AG)(c:Int):=if decide (c<(d.ep.length:Int))then(gt d.ep c).bind λb=>if b.de==1 then
J1 L1 c a b (b.de==1)
else
J1 L1 c a b (b.de==2)
else
J4 d a
def AR(d:AY):Nat->AG->Int->ABi AG
|0,_,_=>none
|n+1,a,c=>L1 d (AR d n) a c
end CP
section
open CP
def CP(d:AY):=(BT d).bind λq=>if q.1 != 0 then
some (AG.mk [] [] [] [] [] [])
else
AR d BQ (AG.mk [] [] [] [] [] []) 0
def bU{d:AY}{r:AG}(h:CP d=some r):Says prog 182 [.agg (Ct d)] (.agg (Mo r)):=by refine kO mix func182 (hn [(1,[19,25,95,103,116]),(3,[17,32,33,38,49,50,64,68,69,78,81,82,85,86,93,101,102,111,113,114,125,126]),(7,[30,34,43,51,54,56,59,70,72,83,87]),(122,[123])] [(13,1)] (E:=[(26,(.l7 [(122,10,11,112)] [Ko 113 3 5 3,We 114 3 113,iC 115 9,Ko 116 1 1 1,iL 117 116,iC 118 9,iI 119 4 117 118,iF 120 3 119,iL 121 120,⟨some ⟨122,[123],[]⟩,.call 221 [.t 114,.t 115,.c (si 0),.t 121] 3,none⟩,i0 112 (.flk (.t 122) 1),i1 123 122 (.ext (.t 122) 0),i0 124 .fl,Ko 125 3 5 3,iS 1 125 123]))])) ?_;have a1:=@Lj;have a2:=@Yi;have a3:=@QV;have l3:=i4 λn a=>∃f i,(a 1=bA 2 (Ct d)/\a 2=bA 6 z8/\a 3=bA 6 (Mo f)/\a 9=si i)/\E3 d n f i=some r;have l1:=i4 λn b=>∃a c,(b 1=bA 2 (Ct d)/\b 2=bA 6 z8/\b 3=bA 6 (Mo a)/\b 6=si c)/\AR d n a c=some r;have l2:=iy λa _ _ _ n f=>∃c b e j,(f 1=bA 2 (Ct d)/\f 2=bA 6 z8/\f 3=bA 6 (Mo e)/\f 6=si c/\f 7=bA 6 (Ky b)/\f 8=si j)/\Bs (AR d a) c b n e j=some r;have c1:=iz 1 λe _ _ _ f=>∃(c:Int)(a:AG)(b:FF)(l:Bool),(f 1=bA 2 (Ct d)/\f 2=bA 6 z8/\f 3=bA 6 (Mo a)/\f 6=si c/\f 7=bA 6 (Ky b)/\f 31=si b.de/\f 39=sb l)/\J1 (AR d e) c a b l=some r;unfold CP at h;exact walk
end
namespace GN
def J3(o:js)(q:A4):ABi ((List AH)×A4):=some (o,q)
def J2(L1:l8)(c:Int)(l:js)(p:A4):=L1 l p (A8 (c+1))
def J1(L1:l8)(b:Bx)(a:lm)(c:Int)(d:js)(e:A4)(s:Bool):=if s then(gt a c).bind λt=>(Dq b e t).bind λj=>if j.2.2 then
if Ap (d.length+1) 88=true then
J2 L1 c (d++[j.2.1]) j.1
else none
else
J2 L1 c d e
else
J3 d e
def L1(b:Bx)(a:lm)(L1:l8)(d:js)(e:A4)(c:Int):=if decide (c<(a.length:Int))then
J1 L1 b a c d e (decide ((d.length:Int)<400))
else
J1 L1 b a c d e false
def AR(b:Bx)(a:lm):Nat->(List AH)->A4->Int->ABi ((List AH)×A4)
|0,_,_,_=>none
|n+1,d,e,c=>L1 b a (AR b a n) d e c
end GN
section
open GN
def GN(b:Bx)(i:A4)(f:js)(a:lm):=AR b a BQ f i 0
def fT{b:Bx}{i:A4}{f:js}{a:lm}{r:(List AH)×A4}(h:GN b i f a=some r):Says prog 137 [.agg (Kg b),.agg (LY i),vO 7 Aw f,vS 2 HW a] (.Bo [vO 7 Aw r.1,.agg (LY r.2)]):=by refine kO mix func137 (hn [(2,[19,38,42])]) ?_;have a1:=@fR;have l1:=i4 λn f=>∃d e c,(f 2=vO 7 Aw d/\f 3=vS 2 HW a/\f 4=bA 7 (Kg b)/\f 5=bA 7 (LY e)/\f 9=bA 7 z4/\f 10=si c)/\AR b a n d e c=some r;unfold GN at h;exact walk
end
namespace Co
def J1(b c:Int)(a:AE)(d:Bool):ABi Bool:=if d then
some false
else(Ej a).bind λf=>(gt f.d9 b).bind λi=>(gt i c).bind λj=>some j
end Co
section
open Co
def Co(a:AE)(b c:Int):=if decide (b<0)then
J1 b c a true
else
if decide (c<0)then
J1 b c a true
else
if decide (b>=(a.AB.length:Int))then
J1 b c a true
else
if decide (c>=(a.AB.length:Int))then
J1 b c a true
else(GU a).bind λe=>J1 b c a (!e)
def K6{a:AE}{b c:Int}{r:Bool}(h:Co a b c=some r):Says prog 28 [.agg (Av a),si b,si c] (sb r):=by refine kO mix func28 (hn [(3,[15,22]),(33,[34,35,36,38,39,41])] [(2,1)]) ?_;have a1:=@fL;have a2:=@Qb;have c1:=i5 1 λe=>∃d,(e 1=si b/\e 2=si c/\e 3=bA 15 (Av a)/\e 31=sb d)/\J1 b c a d=some r;unfold Co at h;exact walk
end
def rG(a:AE):ABi (List (List Int)):=(GU a).bind λb=>if !b then
some []
else(Ej a).bind λc=>(IM c).bind λd=>some d.1
def LO(a:AE)(b:Int):ABi (List Int):=(GU a).bind λc=>if !c then
some []
else(BN a b).bind λd=>some d
def UG{a:AE}{b:Int}{r:i6}(h:LO a b=some r):Says prog 31 [.agg (Av a),si b] (vO 1 eI r):=by refine kO mix func31 hn ?_;have a1:=@Qb;have a2:=@NM;unfold LO at h;exact walk
end Go.Abs
