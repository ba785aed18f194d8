/- Go functions do what typed programs say. -/
import Derived.Test.YtdojkofgkcmagaaGreatDoorWalkN
import Derived.Shelf.Slices.SearchI
set_option linter.all false
namespace Go.Abs
open Go.Proofs Tryz
set_option maxRecDepth 1000000
set_option maxHeartbeats 4000000
def f140c:IC:=(Ra 2 [.o (.bx 2 (.c (.agg z14)))]
(Ra 12 [.C 0,.o (.UG [.own false 1 [],si 0] [(0,1,.t 12)]),.o (.bx 2 (.t 13)),.o (.UG z19 [(0,1,.t 14),(2,1,.c (si 20))]),.o (.bx 8 (.t 15)),.b 3 [19,20,21,22,31,33,34,61,62,63,64,73,74,75,76] (.mv (.t 16))]
(Ra 17 [.c 186 [] 2,.o (.UG z14 [(0,1,.t 17)]),.b 4 [89,90,94,96,110] (.bx 2 (.c (.agg z14))),.S 2 4 18]
(Ra 19 [.r 3 0,.o (.YR 132 [] (.t 22) none [.c (si 3)]),.o (.bin .add (.c (si 2)) (.t 23)),.M 5 24]
(Ra 25 [.o (.Ot 1 [[B0 ⟨#[]⟩],[B0 ⟨#[]⟩],[B0 ⟨#[]⟩],[B0 ⟨#[]⟩]] [(0,.c (B0 ⟨#[109,97,105,110]⟩)),(1,.c (B0 ⟨#[116,49]⟩)),(2,.c (B0 ⟨#[116,50]⟩)),(3,.c (B0 ⟨#[116,51]⟩))]),.b 6 [35,37,50,52,82,83] (.mv (.t 25))]
(Sq (Ra 0 [.K 7 0]
(Bl 0 (Sq (Ra 26 [.C 7,.C 5,.O .lss 26 27]
(cX 28 0))
(Sq (Bk 1 (Ra 31 [.y 3 (.cp (.t 3)),.C 7,.y 3 (.I6 (.t 31)),.H 3 1 33,.S 1 34 32]
(Ra 35 [.y 6 (.cp (.t 6)),.C 7,.J 6 1 35 36,.L 37,.o (.Ot 1 [[B0 ⟨#[]⟩],[B0 ⟨#[]⟩]] [(0,.c (B0 ⟨#[97]⟩)),(1,.c (B0 ⟨#[98]⟩))]),.o (.UG z11 [(0,1,.t 38),(2,1,.t 39)]),.b 8 [48,49,57,58,59,69,80,81,88,91] (.bx 4 (.c (.agg z11))),.S 4 8 40]
(Sq (Ra 41 [.C 7,.Q 41 0]
(Ci 42 (Ra 0 [.K 9 1]
(Bl 2 (Sq (Ra 43 [.C 9,.C 5,.O .lss 43 44]
(cX 45 2))
(Sq (Bk 3 (Rc 48 [.m 8 3 8,.y 6 (.cp (.t 6)),.C 9,.J 6 1 50 51,.L 52,.o (.UG z5 [(0,1,.c (si 12)),(2,1,.t 53)]),.o (.Ot 11 [z5] [(0,.t 54)]),.o (.app 11 176 (.t 49) (.t 55)),.F 3 8,.S 1 57 56]))
(Rc 46 [.C 9,.P .add 46 1,.M 9 47])))))))
(Sq (.iH [(3,2,9,60)] [KK 58 8 3 8,Un 59 8 58,i0 60 .fl,i1 61 3 (.cp (.t 3)),i1 62 3 (.I6 (.t 61)),KK 63 3 0 62,Un 64 3 63,i0 65 (.YR 132 [] (.t 64) none [.c (si 3)]),i0 66 (.bin .add (.c (si 1)) (.t 65)),i0 67 (.YR 187 [] (.t 3) none [.c (si 2),.t 66]),i0 68 (.app 11 176 (.t 59) (.t 67)),KK 69 8 3 8,iS 1 69 68])
(Sq (Ra 70 [.C 7,.Q 70 0,.C 71,.G 72 true,.r 3 0,.o (.YR 132 [] (.t 76) none [.c (si 3)]),.P .eql 77 2,.e,.W 72 78]
(Ci 79 (Rc 80 [.m 8 3 8,.y 6 (.cp (.t 6)),.y 6 (.WL 1 (.t 82) (.c (si 1))),.L 83,.o (.UG z5 [(0,1,.c (si 13)),(2,1,.t 84)]),.o (.Ot 11 [z5] [(0,.t 85)]),.o (.app 11 176 (.t 81) (.t 86)),.F 3 8,.S 1 88 87])))
(.gz false 8 [(0,3,0)] (.gz false 8 [(0,2,0)] (Rc 89 [.m 4 1 4,.y 8 (.ld true 4 (.t 8)),.o (.Ot 4 [z11] [(0,.t 91)]),.o (.app 4 72 (.t 90) (.t 92)),.F 1 4,.S 1 94 93])))))))))
(Rc 29 [.C 7,.P .add 29 1,.M 7 30])))))
(Sq (Ra 96 [.y 4 (.ld true 2 (.t 4)),.c 181 [96] 0,.w 95,.C 97,.w 98,.o (.ext (.t 95) 0),.o (.ext (.t 95) 1),.M 10 98,.M 11 99]
(Ra 100 [.C 10,.P .neq 100 0]
(Ci 101 (Rb 102 [.c 186 [] 2,.o (.Ot 1 [[B0 ⟨#[]⟩],[B0 ⟨#[]⟩]] [(0,.c (B0 ⟨#[97]⟩)),(1,.c (B0 ⟨#[98]⟩))]),.o (.call 189 [.c (si 1)] 1),.o (.call 188 [.c (B0 ⟨#[120]⟩),.t 104] 1),.o (.Ot 11 [z5] [(0,.t 105)]),.o (.UG z11 [(0,1,.c (B0 ⟨#[109,97,105,110]⟩)),(2,1,.t 103),(3,1,.t 106)]),.o (.Ot 4 [z11] [(0,.t 107)]),.o (.UG z14 [(0,1,.t 102),(1,1,.t 108)]),.S 2 2 109]))))
(Rb 110 [.y 4 (.ld true 2 (.t 4)),.S 2 2 110]))))))))
def f140g:Gi:=⟨[(19,[3]),(20,[3]),(21,[3]),(22,[3]),(31,[3]),(33,[3]),(34,[3]),(35,[6]),(37,[6]),(48,[8]),(49,[8]),(50,[6]),(52,[6]),(57,[8]),(58,[8]),(59,[8]),(61,[3]),(62,[3]),(63,[3]),(64,[3]),(69,[8]),(73,[3]),(74,[3]),(75,[3]),(76,[3]),(80,[8]),(81,[8]),(82,[6]),(83,[6]),(88,[8]),(89,[4]),(90,[4]),(91,[8]),(94,[4]),(96,[4]),(110,[4])]⟩
def f140r:List RV:=[.cell 2 true 2]
def f140:FI:=⟨f140c,f140g,f140r⟩
def chk140:Nt prog Tryz.f140 f140:=by kernel_rfl
namespace Cx
def J5(p_2:Aa):ABm Aa:=(Bz p_2).bind λv_5=>if v_5.1 != 0 then(HG).bind λT7=>(Lc 1).bind λv_7=>(F8 (⟨#[120]⟩:ABn) v_7).bind λv_8=>some (Aa.mk T7 [(DB.mk (⟨#[109,97,105,110]⟩:ABn) 0 [(⟨#[97]⟩:ABn),(⟨#[98]⟩:ABn)] [v_8])])
else
some p_2
def J4(L1:lp)(i:Int)(m_3:AO)(p_1:Aa):=L1 m_3 p_1 (A9 (i+1))
def J3(L1:lp)(i:Int)(p:Aa)(m_2:AO)(t_2:DB):=if Aq (p.AB.length+1) 72=true then
J4 L1 i m_2 (Aa.mk p.ek (p.AB++[t_2]))
else none
def J2(L1:lp)(i:Int)(p:Aa)(t_1:DB)(aZ:(List AX)×AO)(m_1:AO)(t79v:Bool):=if t79v then
if Aq ((t_1.dz++aZ.1).length+1) 176=true then
J3 L1 i p m_1 (DB.mk t_1.dq t_1.Fq t_1.Hp ((t_1.dz++aZ.1)++[(AX.mk 13 0 (⟨#[116,49]⟩:ABn) (⟨#[]⟩:ABn) [] (BU.mk 0 0 (⟨#[]⟩:ABn) []) [] [])]))
else none
else
J3 L1 i p m_1 (DB.mk t_1.dq t_1.Fq t_1.Hp (t_1.dz++aZ.1))
def J1(L1:lp)(i:Int)(m:AO)(p:Aa)(t_1:DB):=(Ao m.t 3).bind λvQ=>(FU BQ (AO.mk vQ.2 i m.left m.Ik m.tx m.d9 m.ej m.eb) 2 (A9 (1+vQ.1))).bind λaZ=>if Aq (t_1.dz.length+aZ.1.length) 176=true then
if i==0 then(Ao aZ.2.t 3).bind λv_4=>J2 L1 i p t_1 aZ (AO.mk v_4.2 aZ.2.CA aZ.2.left aZ.2.Ik aZ.2.tx aZ.2.d9 aZ.2.ej aZ.2.eb) (v_4.1==2)
else
J2 L1 i p t_1 aZ aZ.2 false
else none
def L2(L1:lp)(i:Int)(m:AO)(p:Aa)(YX:j7)(L2:DB->Int->ABm Aa)(t:DB)(k:Int):=if decide (k<(A9 (2+YX.1)))then(gt [(⟨#[109,97,105,110]⟩:ABn),(⟨#[116,49]⟩:ABn),(⟨#[116,50]⟩:ABn),(⟨#[116,51]⟩:ABn)] k).bind λOy=>if Aq (t.dz.length+1) 176=true then
L2 (DB.mk t.dq t.Fq t.Hp (t.dz++[(AX.mk 12 0 Oy (⟨#[]⟩:ABn) [] (BU.mk 0 0 (⟨#[]⟩:ABn) []) [] [])])) (A9 (k+1))
else none
else
J1 L1 i m p t
def B9(L1:lp)(i:Int)(m:AO)(p:Aa)(YX:j7):Nat->DB->Int->ABm Aa
|0,_,_=>none
|n+1,t,k=>L2 L1 i m p YX (B9 L1 i m p YX n) t k
def L1(YX:j7)(L1:lp)(m:AO)(p:Aa)(i:Int):=if decide (i<(A9 (2+YX.1)))then(gt [(⟨#[109,97,105,110]⟩:ABn),(⟨#[116,49]⟩:ABn),(⟨#[116,50]⟩:ABn),(⟨#[116,51]⟩:ABn)] i).bind λx=>if i==0 then
B9 L1 i m p YX BQ (DB.mk x 0 [(⟨#[97]⟩:ABn),(⟨#[98]⟩:ABn)] []) 1
else
J1 L1 i m p (DB.mk x 0 [(⟨#[97]⟩:ABn),(⟨#[98]⟩:ABn)] [])
else
J5 p
def AU(YX:j7):Nat->AO->Aa->Int->ABm Aa
|0,_,_,_=>none
|n+1,m,p,i=>L1 YX (AU YX n) m p i
end Cx
section
open Cx
def Cx(l:iT):=(HG).bind λv=>(Ao (AZ.mk l 0) 3).bind λYX=>AU YX BQ (AO.mk YX.2 0 20 false false false false []) (Aa.mk v []) 0
def Xi{l:iT}{r:Aa}(h:Cx l=some r):Says prog 140 [vS 1 lG l] (.agg (Cf r)):=by
 refine o9 mix func140 chk140 (AAV (by kernel_rfl)) rfl ?_;simp only[f140,f140c,f140g,f140r];repeat' first
  |with_reducible exact Cy h
  |with_reducible refine gBm eS h λ_ _ h=>?_
  |with_reducible refine gBe h bg λh=>?_
  |with_reducible refine gBk h λ_ _ h=>?_
  | (with_reducible refine cSk h λg h=>?_
     try simp only[List.length_nil,ABe,AA6]at g)
  | (with_reducible refine bSs h λh=>?_
     (try simp +decide only[go_sem, *]);refine⟨_,by first|exact Sp bg,?_⟩)
  | (with_reducible refine bSk h λ_ g h=>?_
     (try simp +decide only[go_sem, *]);refine⟨_,by first|exact Sp g|exact LH g|exact Qx g|exact Qt g,?_⟩)
  | (with_reducible refine bSk h λ_ g h=>?_
     (try simp +decide only[go_sem, *]);refine yQ.intro (by first|exact DD g|exact Qw g) rfl ?_ ?_ ?_;rfl;first|rfl|simp +decide only[go_sem, *])
  | (with_reducible cases h
     simp +decide only[go_sem, *];done)
  |simp only[eq_self,AAq,AAd,AAU]at h
  |simp +decide only[go_sem, *]
  | (with_reducible refine Mw (λn a=>∃YX:Int×AZ,∃m:AO,∃p:Aa,∃i:Int,(a 2=bA 2 z14/\a 3=bA 8 (Ch m)/\a 4=bA 2 [vO 6 Kb p.ek,vO 4 JO p.AB]/\a 5=si (A9 (2+YX.1))/\a 6=.own false 1 (z16)/\a 7=si i)/\AU YX n m p i=some r) ⟨_,_,_,_,?_,h⟩ ?_
     rotate_left;rintro(_|n1) a N ⟨YX,_,_,_,_,h⟩ k1;exact Cy h;rw[AU]at h)
  | (with_reducible refine Mw (λn a=>∃i:Int,∃m:AO,∃p:Aa,∃t:DB,∃k:Int,(a 2=bA 2 z14/\a 3=bA 8 [bA 2 (Ft m.t),si i,si m.left,sb m.Ik,sb m.tx,sb m.d9,sb m.ej,vO 1 eS m.eb]/\a 4=bA 2 [vO 6 Kb p.ek,vO 4 JO p.AB]/\a 5=si (A9 (2+YX.1))/\a 6=.own false 1 (z16)/\a 7=si i/\a 8=bA 4 (mR t)/\a 9=si k)/\B9 (AU YX n1) i m p YX n t k=some r) ⟨_,_,_,_,_,?_,h⟩ ?_
     rotate_left;rintro(_|n2) a N ⟨i,m,p,_,_,_,h⟩ k2;exact Cy h;rw[B9]at h)
  |with_reducible refine OK k2 ⟨_,_,_,_,_,?_,h⟩
  |with_reducible refine OK k1 ⟨_,_,_,_,?_,h⟩
  |simp only[*,eq_self,AAq,AAd,AAU,decide_true,decide_false]at h
  | (with_reducible refine bI h ?_ ?_
     all_goals clear h;intro _ h)
  | (simp[JO,eS];done)
  |unfold Cx at h
  |unfold J5 at h
  |unfold J4 at h
  |unfold J3 at h
  |unfold J2 at h
  |unfold J1 at h
  |unfold L2 at h
  |unfold L1 at h
end
namespace C2
def J5(w:AG):ABm AG:=some w
def L3(d:Aa)(L3:kv)(f:AG)(i:Int):=if decide (i<(d.AB.length:Int))then(gt d.AB i).bind λo=>if Aq (f.AB.length+1) 16=true then(Ig BQ f.Bu i 0 o.dz).bind λt=>L3 (AG.mk f.dg f.AK f.Aj f.AM (f.AB++[o.dq]) t.1) (A9 (i+1))
else none
else
J5 f
def Fw(d:Aa):Nat->AG->Int->ABm AG
|0,_,_=>none
|n+1,f,i=>L3 d (Fw d n) f i
def J4(d:Aa)(v:AG):=Fw d BQ v 0
def J3(L1:kv)(c:Int)(u:AG):=L1 u (A9 (c+1))
def L2(L1:kv)(c:Int)(b:E1)(L2:kv)(e:AG)(j:Int):=if decide (j<(if 1>b.Ca then 1 else b.Ca))then
if Aq (e.dg.length+1) 48=true then
L2 (AG.mk (e.dg++[(Dy.mk b.dq j b.Ca (b.da==2) b.de)]) e.AK e.Aj e.AM e.AB e.Bu) (A9 (j+1))
else none
else
J3 L1 c e
def B9(L1:kv)(c:Int)(b:E1):Nat->AG->Int->ABm AG
|0,_,_=>none
|n+1,e,j=>L2 L1 c b (B9 L1 c b n) e j
def J2(L1:kv)(c:Int)(a:AG)(b:E1)(p:Bool):=if p then
if Aq (a.AK.length+1) 24=true then
J3 L1 c (AG.mk a.dg (a.AK++[(KH.mk b.dq (b.da==4))]) a.Aj a.AM a.AB a.Bu)
else none
else
if b.da==5 then(Er a.AK b.On).bind λs=>if Aq (a.Aj.length+1) 24=true then
J3 L1 c (AG.mk a.dg a.AK (a.Aj++[(Rf.mk b.dq s)]) a.AM a.AB a.Bu)
else none
else
if Aq (a.AM.length+1) 16=true then
J3 L1 c (AG.mk a.dg a.AK a.Aj (a.AM++[b.dq]) a.AB a.Bu)
else none
def J1(L1:kv)(c:Int)(a:AG)(b:E1)(l:Bool):=if l then
B9 L1 c b BQ a 0
else
if b.da==3 then
J2 L1 c a b (b.da==3)
else
J2 L1 c a b (b.da==4)
def L1(d:Aa)(L1:kv)(a:AG)(c:Int):=if decide (c<(d.ek.length:Int))then(gt d.ek c).bind λb=>if b.da==1 then
J1 L1 c a b (b.da==1)
else
J1 L1 c a b (b.da==2)
else
J4 d a
def AU(d:Aa):Nat->AG->Int->ABm AG
|0,_,_=>none
|n+1,a,c=>L1 d (AU d n) a c
end C2
section
open C2
def C2(d:Aa):=(Bz d).bind λq=>if q.1 != 0 then
some (AG.mk [] [] [] [] [] [])
else
AU d BQ (AG.mk [] [] [] [] [] []) 0
def Zx{d:Aa}{r:AG}(h:C2 d=some r):Says prog 182 [.agg (Cf d)] (.agg (MR r)):=by refine kO mix func182 (hn [(1,[19,25,95,103,116]),(3,[17,32,33,38,49,50,64,68,69,78,81,82,85,86,93,101,102,111,113,114,125,126]),(7,[30,34,43,51,54,56,59,70,72,83,87]),(122,[123])] [(13,1)] (E:=[(26,(.iH [(122,10,11,112)] [KK 113 3 5 3,Un 114 3 113,iC 115 9,KK 116 1 1 1,iL 117 116,iC 118 9,iI 119 4 117 118,iF 120 3 119,iL 121 120,⟨some ⟨122,[123],[]⟩,.call 221 [.t 114,.t 115,.c (si 0),.t 121] 3,none⟩,i0 112 (.flk (.t 122) 1),i1 123 122 (.ext (.t 122) 0),i0 124 .fl,KK 125 3 5 3,iS 1 125 123]))])) ?_;have a1:=@LH;have a2:=@Xz;have a3:=@P2;have l3:=iJ λn a=>∃f i,(a 1=bA 2 (Cf d)/\a 2=bA 6 z8/\a 3=bA 6 (MR f)/\a 9=si i)/\Fw d n f i=some r;have l1:=iJ λn b=>∃a c,(b 1=bA 2 (Cf d)/\b 2=bA 6 z8/\b 3=bA 6 (MR a)/\b 6=si c)/\AU d n a c=some r;have l2:=iy λa _ _ _ n f=>∃c b e j,(f 1=bA 2 (Cf d)/\f 2=bA 6 z8/\f 3=bA 6 (MR e)/\f 6=si c/\f 7=bA 6 (Kb b)/\f 8=si j)/\B9 (AU d a) c b n e j=some r;have c1:=iz 1 λe _ _ _ f=>∃(c:Int)(a:AG)(b:E1)(l:Bool),(f 1=bA 2 (Cf d)/\f 2=bA 6 z8/\f 3=bA 6 (MR a)/\f 6=si c/\f 7=bA 6 (Kb b)/\f 31=si b.da/\f 39=sb l)/\J1 (AU d e) c a b l=some r;unfold C2 at h;exact walk
end
namespace HH
def J3(o:jo)(q:A3):ABm ((List AH)×A3):=some (o,q)
def J2(L1:ls)(c:Int)(l:jo)(p:A3):=L1 l p (A9 (c+1))
def J1(L1:ls)(b:B5)(a:nd)(c:Int)(d:jo)(e:A3)(s:Bool):=if s then(gt a c).bind λt=>(Ek b e t).bind λj=>if j.2.2 then
if Aq (d.length+1) 88=true then
J2 L1 c (d++[j.2.1]) j.1
else none
else
J2 L1 c d e
else
J3 d e
def L1(b:B5)(a:nd)(L1:ls)(d:jo)(e:A3)(c:Int):=if decide (c<(a.length:Int))then
J1 L1 b a c d e (decide ((d.length:Int)<400))
else
J1 L1 b a c d e false
def AU(b:B5)(a:nd):Nat->(List AH)->A3->Int->ABm ((List AH)×A3)
|0,_,_,_=>none
|n+1,d,e,c=>L1 b a (AU b a n) d e c
end HH
section
open HH
def HH(b:B5)(i:A3)(f:jo)(a:nd):=AU b a BQ f i 0
def dK{b:B5}{i:A3}{f:jo}{a:nd}{r:(List AH)×A3}(h:HH b i f a=some r):Says prog 137 [.agg (KI b),.agg (K6 i),vO 7 Am f,vS 2 Ju a] (.Bp [vO 7 Am r.1,.agg (K6 r.2)]):=by refine kO mix func137 (hn [(2,[19,38,42])]) ?_;have a1:=@dI;have l1:=iJ λn f=>∃d e c,(f 2=vO 7 Am d/\f 3=vS 2 Ju a/\f 4=bA 7 (KI b)/\f 5=bA 7 (K6 e)/\f 9=bA 7 z4/\f 10=si c)/\AU b a n d e c=some r;unfold HH at h;exact walk
end
namespace EO
def J1(b c:Int)(a:AF)(d:Bool):ABm Bool:=if d then
some false
else(EP a).bind λf=>(gt f.d7 b).bind λi=>(gt i c).bind λj=>some j
end EO
section
open EO
def EO(a:AF)(b c:Int):=if decide (b<0)then
J1 b c a true
else
if decide (c<0)then
J1 b c a true
else
if decide (b>=(a.AA.length:Int))then
J1 b c a true
else
if decide (c>=(a.AA.length:Int))then
J1 b c a true
else(Fe a).bind λe=>J1 b c a (!e)
def Mx{a:AF}{b c:Int}{r:Bool}(h:EO a b c=some r):Says prog 28 [.agg (A5 a),si b,si c] (sb r):=by refine kO mix func28 (hn [(3,[15,22]),(33,[34,35,36,38,39,41])] [(2,1)]) ?_;have a1:=@Ss;have a2:=@MA;have c1:=iR 1 λe=>∃d,(e 1=si b/\e 2=si c/\e 3=bA 15 (A5 a)/\e 31=sb d)/\J1 b c a d=some r;unfold EO at h;exact walk
end
def JC(a:AF):ABm (List (List Int)):=(Fe a).bind λb=>if !b then
some []
else(EP a).bind λc=>(BO c).bind λd=>some d.1
def My{a:AF}{r:je}(h:JC a=some r):Says prog 37 [.agg (A5 a)] (vO 1 KS r):=by refine kO mix func37 hn ?_;have a1:=@MA;have a2:=@Ss;have a3:=@OZ;unfold JC at h;exact walk
def KU(a:AF)(b:Int):ABm (List Int):=(Fe a).bind λc=>if !c then
some []
else(BH a b).bind λd=>some d
def Tj{a:AF}{b:Int}{r:iT}(h:KU a b=some r):Says prog 31 [.agg (A5 a),si b] (vO 1 eI r):=by refine kO mix func31 hn ?_;have a1:=@MA;have a2:=@Mz;unfold KU at h;exact walk
end Go.Abs
