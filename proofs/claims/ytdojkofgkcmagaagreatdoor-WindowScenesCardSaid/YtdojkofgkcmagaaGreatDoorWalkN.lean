/- Typed programs of Go functions, and that the functions do what these say. -/
import Derived.Test.YtdojkofgkcmagaaGreatDoorWalkG
import Derived.Test.YtdojkofgkcmagaaGreatDoorWalkM
set_option linter.unusedSimpArgs false
set_option linter.unusedVariables false
namespace Go.Abs
open Go.Proofs
set_option maxRecDepth 1000000
set_option maxHeartbeats 4000000
def f140c:IC:=(Ra 2 [.o (.bx 2 (.c (.agg z14)))]
(Ra 12 [.C 0,.o (.T2 [.own false 1 [],si 0] [(0,1,.t 12)]),.o (.bx 2 (.t 13)),.o (.T2 z19 [(0,1,.t 14),(2,1,.c (si 20))]),.o (.bx 8 (.t 15)),.b 3 [19,20,21,22,31,33,34,61,62,63,64,73,74,75,76] (.mv (.t 16))]
(Ra 17 [.c 186 [] 2,.o (.T2 z14 [(0,1,.t 17)]),.b 4 [89,90,94,96,110] (.bx 2 (.c (.agg z14))),.S 2 4 18]
(Ra 19 [.r 3 0,.o (.Uv 132 [] (.t 22) none [.c (si 3)]),.o (.bin .add (.c (si 2)) (.t 23)),.M 5 24]
(Ra 25 [.o (.Nk 1 [[BZ ⟨#[]⟩],[BZ ⟨#[]⟩],[BZ ⟨#[]⟩],[BZ ⟨#[]⟩]] [(0,.c (BZ ⟨#[109,97,105,110]⟩)),(1,.c (BZ ⟨#[116,49]⟩)),(2,.c (BZ ⟨#[116,50]⟩)),(3,.c (BZ ⟨#[116,51]⟩))]),.b 6 [35,37,50,52,82,83] (.mv (.t 25))]
(Sq (Ra 0 [.K 7 0]
(Bl 0 (Sq (Ra 26 [.C 7,.C 5,.O .lss 26 27]
(cX 28 0))
(Sq (Bk 1 (Ra 31 [.y 3 (.cp (.t 3)),.C 7,.y 3 (.Jp (.t 31)),.H 3 1 33,.S 1 34 32]
(Ra 35 [.y 6 (.cp (.t 6)),.C 7,.J 6 1 35 36,.L 37,.o (.Nk 1 [[BZ ⟨#[]⟩],[BZ ⟨#[]⟩]] [(0,.c (BZ ⟨#[97]⟩)),(1,.c (BZ ⟨#[98]⟩))]),.o (.T2 z11 [(0,1,.t 38),(2,1,.t 39)]),.b 8 [48,49,57,58,59,69,80,81,88,91] (.bx 4 (.c (.agg z11))),.S 4 8 40]
(Sq (Ra 41 [.C 7,.Q 41 0]
(Ci 42 (Ra 0 [.K 9 1]
(Bl 2 (Sq (Ra 43 [.C 9,.C 5,.O .lss 43 44]
(cX 45 2))
(Sq (Bk 3 (Rc 48 [.m 8 3 8,.y 6 (.cp (.t 6)),.C 9,.J 6 1 50 51,.L 52,.o (.T2 z6 [(0,1,.c (si 12)),(2,1,.t 53)]),.o (.Nk 11 [z6] [(0,.t 54)]),.o (.app 11 176 (.t 49) (.t 55)),.F 3 8,.S 1 57 56]))
(Rc 46 [.C 9,.P .add 46 1,.M 9 47])))))))
(Sq (.bY [(3,2,9,60)] [LU 58 8 3 8,Zk 59 8 58,i0 60 .fl,i1 61 3 (.cp (.t 3)),i1 62 3 (.Jp (.t 61)),LU 63 3 0 62,Zk 64 3 63,i0 65 (.Uv 132 [] (.t 64) none [.c (si 3)]),i0 66 (.bin .add (.c (si 1)) (.t 65)),i0 67 (.Uv 187 [] (.t 3) none [.c (si 2),.t 66]),i0 68 (.app 11 176 (.t 59) (.t 67)),LU 69 8 3 8,iS 1 69 68])
(Sq (Ra 70 [.C 7,.Q 70 0,.C 71,.G 72 true,.r 3 0,.o (.Uv 132 [] (.t 76) none [.c (si 3)]),.P .eql 77 2,.e,.W 72 78]
(Ci 79 (Rc 80 [.m 8 3 8,.y 6 (.cp (.t 6)),.y 6 (.WX 1 (.t 82) (.c (si 1))),.L 83,.o (.T2 z6 [(0,1,.c (si 13)),(2,1,.t 84)]),.o (.Nk 11 [z6] [(0,.t 85)]),.o (.app 11 176 (.t 81) (.t 86)),.F 3 8,.S 1 88 87])))
(.gz false 8 [(0,3,0)] (.gz false 8 [(0,2,0)] (Rc 89 [.m 4 1 4,.y 8 (.ld true 4 (.t 8)),.o (.Nk 4 [z11] [(0,.t 91)]),.o (.app 4 72 (.t 90) (.t 92)),.F 1 4,.S 1 94 93])))))))))
(Rc 29 [.C 7,.P .add 29 1,.M 7 30])))))
(Sq (Ra 96 [.y 4 (.ld true 2 (.t 4)),.c 181 [96] 0,.w 95,.C 97,.w 98,.o (.ext (.t 95) 0),.o (.ext (.t 95) 1),.M 10 98,.M 11 99]
(Ra 100 [.C 10,.P .neq 100 0]
(Ci 101 (Rb 102 [.c 186 [] 2,.o (.Nk 1 [[BZ ⟨#[]⟩],[BZ ⟨#[]⟩]] [(0,.c (BZ ⟨#[97]⟩)),(1,.c (BZ ⟨#[98]⟩))]),.o (.call 189 [.c (si 1)] 1),.o (.call 188 [.c (BZ ⟨#[120]⟩),.t 104] 1),.o (.Nk 11 [z6] [(0,.t 105)]),.o (.T2 z11 [(0,1,.c (BZ ⟨#[109,97,105,110]⟩)),(2,1,.t 103),(3,1,.t 106)]),.o (.Nk 4 [z11] [(0,.t 107)]),.o (.T2 z14 [(0,1,.t 102),(1,1,.t 108)]),.S 2 2 109]))))
(Rb 110 [.y 4 (.ld true 2 (.t 4)),.S 2 2 110]))))))))
def f140g:Gi:=⟨[(19,[3]),(20,[3]),(21,[3]),(22,[3]),(31,[3]),(33,[3]),(34,[3]),(35,[6]),(37,[6]),(48,[8]),(49,[8]),(50,[6]),(52,[6]),(57,[8]),(58,[8]),(59,[8]),(61,[3]),(62,[3]),(63,[3]),(64,[3]),(69,[8]),(73,[3]),(74,[3]),(75,[3]),(76,[3]),(80,[8]),(81,[8]),(82,[6]),(83,[6]),(88,[8]),(89,[4]),(90,[4]),(91,[8]),(94,[4]),(96,[4]),(110,[4])]⟩
def f140r:List RV:=[.cell 2 true 2]
def f140:FI:=⟨f140c,f140g,f140r⟩
theorem chk140:M6 Tryz.prog Tryz.f140 f140=true:=by kernel_rfl
namespace Bu
def J5 (p_2:AR):ABd AR:=
(A5 p_2).bind λv_5=>
if v_5.1 != 0 then
(Ei).bind λv_6=>
(Jo 1).bind λv_7=>
(En (⟨#[120]⟩:ABe) v_7).bind λv_8=>
some (AR.mk v_6 [(Cq.mk (⟨#[109,97,105,110]⟩:ABe) 0 [(⟨#[97]⟩:ABe),(⟨#[98]⟩:ABe)] [v_8])])
else
some p_2
def J4 (L1:AO->AR->Int->ABd AR) (i:Int) (m_3:AO) (p_1:AR):ABd AR:=
L1 m_3 p_1 (BA (i+1))
def J3 (L1:AO->AR->Int->ABd AR) (i:Int) (p:AR) (m_2:AO) (t_2:Cq):ABd AR:=
if Ap (p.AA.length+1) 72=true then
J4 L1 i m_2 (AR.mk p.Decls (p.AA++[t_2]))
else none
def J2 (L1:AO->AR->Int->ABd AR) (i:Int) (p:AR) (zF:Cq) (mI:(List AQ)×AO) (m_1:AO) (t79v:Bool):ABd AR:=
if t79v then
if Ap ((zF.Body++mI.1).length+1) 176=true then
J3 L1 i p m_1 (Cq.mk zF.Name zF.FK zF.GA ((zF.Body++mI.1)++[(AQ.mk 13 0 (⟨#[116,49]⟩:ABe) (⟨#[]⟩:ABe) [] (BE.mk 0 0 (⟨#[]⟩:ABe) []) [] [])]))
else none
else
J3 L1 i p m_1 (Cq.mk zF.Name zF.FK zF.GA (zF.Body++mI.1))
def J1 (L1:AO->AR->Int->ABd AR) (i:Int) (m:AO) (p:AR) (zF:Cq):ABd AR:=
(Ah m.t 3).bind λv_2=>
(Du BW (AO.mk v_2.2 i m.left m.HR m.tx m.atomic m.loop m.held) 2 (BA (1+v_2.1))).bind λmI=>
if Ap (zF.Body.length+mI.1.length) 176=true then
if i==0 then
(Ah mI.2.t 3).bind λv_4=>
J2 L1 i p zF mI (AO.mk v_4.2 mI.2.Bb mI.2.left mI.2.HR mI.2.tx mI.2.atomic mI.2.loop mI.2.held) (v_4.1==2)
else
J2 L1 i p zF mI mI.2 false
else none
def L2 (L1:AO->AR->Int->ABd AR) (i:Int) (m:AO) (p:AR) (bV:Int×AU) (L2:Cq->Int->ABd AR) (t:Cq) (k:Int):ABd AR:=
if decide (k<(BA (2+bV.1)))then
(gt [(⟨#[109,97,105,110]⟩:ABe),(⟨#[116,49]⟩:ABe),(⟨#[116,50]⟩:ABe),(⟨#[116,51]⟩:ABe)] k).bind λx_1=>
if Ap (t.Body.length+1) 176=true then
L2 (Cq.mk t.Name t.FK t.GA (t.Body++[(AQ.mk 12 0 x_1 (⟨#[]⟩:ABe) [] (BE.mk 0 0 (⟨#[]⟩:ABe) []) [] [])])) (BA (k+1))
else none
else
J1 L1 i m p t
def DF (L1:AO->AR->Int->ABd AR) (i:Int) (m:AO) (p:AR) (bV:Int×AU):Nat->Cq->Int->ABd AR
|0,_,_=>none
|n+1,t,k=>L2 L1 i m p bV (DF L1 i m p bV n) t k
def L1 (bV:Int×AU) (L1:AO->AR->Int->ABd AR) (m:AO) (p:AR) (i:Int):ABd AR:=
if decide (i<(BA (2+bV.1)))then
(gt [(⟨#[109,97,105,110]⟩:ABe),(⟨#[116,49]⟩:ABe),(⟨#[116,50]⟩:ABe),(⟨#[116,51]⟩:ABe)] i).bind λx=>
if i==0 then
DF L1 i m p bV BW (Cq.mk x 0 [(⟨#[97]⟩:ABe),(⟨#[98]⟩:ABe)] []) 1
else
J1 L1 i m p (Cq.mk x 0 [(⟨#[97]⟩:ABe),(⟨#[98]⟩:ABe)] [])
else
J5 p
def Aa (bV:Int×AU):Nat->AO->AR->Int->ABd AR
|0,_,_,_=>none
|n+1,m,p,i=>L1 bV (Aa bV n) m p i
end Bu
section
open Bu
def Bu (l:List Int):ABd AR:=
(Ei).bind λv=>
(Ah (AU.mk l 0) 3).bind λbV=>
Aa bV BW (AO.mk bV.2 0 20 false false false false []) (AR.mk v []) 0
theorem Vb {l:List Int} {r:AR} (h:Bu l=some r):Says Tryz.prog 140 [vS 1 cZ l] (.agg (CS r)):=by
 refine lM mix Tryz.func140 chk140 (AAO (by kernel_rfl)) rfl ?_;simp only[f140,f140c,f140g,f140r]
 repeat' first
  |with_reducible exact ET h
  |with_reducible refine gBm eS h λ_ _ h=> ?_
  |with_reducible refine gBe h (by assumption) λh=> ?_
  |with_reducible refine gBk h λ_ _ h=> ?_
  | (with_reducible refine cSk h λg h=> ?_
     try simp only[ABK,List.nil_append,ABM]at g)
  | (with_reducible refine bSs h λh=> ?_
     try simp +decide only[go_sem, *]
     refine⟨_,by first|exact Qy (by assumption),?_⟩)
  | (with_reducible refine bSk h λ_ g h=> ?_
     try simp +decide only[go_sem, *]
     refine⟨_,by first|exact Qy g|exact Kc g|exact Pc g|exact PY g,?_⟩)
  | (with_reducible refine bSk h λ_ g h=> ?_
     try simp +decide only[go_sem, *]
     refine uF.intro (by first|exact DD g|exact Pb g) rfl ?_ ?_ ?_
     . rfl
     . first|rfl|simp +decide only[go_sem, *])
  | (with_reducible cases h
     simp +decide only[go_sem, *]
     done)
  |simp only[eq_self,AAi,AAT,AAM]at h
  |simp +decide only[go_sem, *]
  | (with_reducible refine kC (λn τ=>∃bV:Int×AU,∃m:AO,∃p:AR,∃i:Int,(τ 2=bA 2 z14/\τ 3=bA 8 (CX m)/\τ 4=bA 2 [vO 6 Jj p.Decls,vO 4 Ie p.AA]/\τ 5=si (BA (2+bV.1))/\τ 6= .own false 1 (z16)/\τ 7=si i)/\Aa bV n m p i=some r) ⟨_,_,_,_,?_,h⟩ ?_
     rotate_left;rintro(_|n1) τ N ⟨bV,_,_,_,_,h⟩ k1
     . exact ET h
     rw[Aa]at h)
  | (with_reducible refine kC (λn τ=>∃i:Int,∃m:AO,∃p:AR,∃t:Cq,∃k:Int,(τ 2=bA 2 z14/\τ 3=bA 8 [bA 2 (FO m.t),si i,si m.left,sb m.HR,sb m.tx,sb m.atomic,sb m.loop,vO 1 eS m.held]/\τ 4=bA 2 [vO 6 Jj p.Decls,vO 4 Ie p.AA]/\τ 5=si (BA (2+bV.1))/\τ 6= .own false 1 (z16)/\τ 7=si i/\τ 8=bA 4 (iT t)/\τ 9=si k)/\DF (Aa bV n1) i m p bV n t k=some r) ⟨_,_,_,_,_,?_,h⟩ ?_
     rotate_left;rintro(_|n2) τ N ⟨i,m,p,_,_,_,h⟩ k2
     . exact ET h
     rw[DF]at h)
  |with_reducible refine backI k2 ⟨_,_,_,_,_,?_,h⟩
  |with_reducible refine backI k1 ⟨_,_,_,_,?_,h⟩
  |simp only[*,eq_self,AAi,AAT,AAM,decide_true,decide_false]at h
  | (with_reducible refine bI h ?_ ?_
     all_goals clear h;intro _ h)
  | (simp[Ie,eS];done)
  |unfold Bu at h
  |unfold J5 at h
  |unfold J4 at h
  |unfold J3 at h
  |unfold J2 at h
  |unfold J1 at h
  |unfold L2 at h
  |unfold L1 at h
end
namespace Bt
def J5 (w:AD):ABd AD:=
some w
def L3 (d:AR) (L3:AD->Int->ABd AD) (f:AD) (i:Int):ABd AD:=
if decide (i<(d.AA.length:Int))then
(gt d.AA i).bind λo=>
if Ap (f.AA.length+1) 16=true then
(GZ BW f.BU i 0 o.Body).bind λt=>
L3 (AD.mk f.Cells f.AF f.Ai f.AK (f.AA++[o.Name]) t.1) (BA (i+1))
else none
else
J5 f
def Gg (d:AR):Nat->AD->Int->ABd AD
|0,_,_=>none
|n+1,f,i=>L3 d (Gg d n) f i
def J4 (d:AR) (v:AD):ABd AD:=
Gg d BW v 0
def J3 (L1:AD->Int->ABd AD) (c:Int) (u:AD):ABd AD:=
L1 u (BA (c+1))
def L2 (L1:AD->Int->ABd AD) (c:Int) (b:EX) (L2:AD->Int->ABd AD) (e:AD) (j:Int):ABd AD:=
if decide (j<(if 1>b.Bq then 1 else b.Bq))then
if Ap (e.Cells.length+1) 48=true then
L2 (AD.mk (e.Cells++[(DR.mk b.Name j b.Bq (b.Kind==2) b.Init)]) e.AF e.Ai e.AK e.AA e.BU) (BA (j+1))
else none
else
J3 L1 c e
def DF (L1:AD->Int->ABd AD) (c:Int) (b:EX):Nat->AD->Int->ABd AD
|0,_,_=>none
|n+1,e,j=>L2 L1 c b (DF L1 c b n) e j
def J2 (L1:AD->Int->ABd AD) (c:Int) (a:AD) (b:EX) (p:Bool):ABd AD:=
if p then
if Ap (a.AF.length+1) 24=true then
J3 L1 c (AD.mk a.Cells (a.AF++[(I7.mk b.Name (b.Kind==4))]) a.Ai a.AK a.AA a.BU)
else none
else
if b.Kind==5 then
(Dv a.AF b.On).bind λs=>
if Ap (a.Ai.length+1) 24=true then
J3 L1 c (AD.mk a.Cells a.AF (a.Ai++[(O3.mk b.Name s)]) a.AK a.AA a.BU)
else none
else
if Ap (a.AK.length+1) 16=true then
J3 L1 c (AD.mk a.Cells a.AF a.Ai (a.AK++[b.Name]) a.AA a.BU)
else none
def J1 (L1:AD->Int->ABd AD) (c:Int) (a:AD) (b:EX) (l:Bool):ABd AD:=
if l then
DF L1 c b BW a 0
else
if b.Kind==3 then
J2 L1 c a b (b.Kind==3)
else
J2 L1 c a b (b.Kind==4)
def L1 (d:AR) (L1:AD->Int->ABd AD) (a:AD) (c:Int):ABd AD:=
if decide (c<(d.Decls.length:Int))then
(gt d.Decls c).bind λb=>
if b.Kind==1 then
J1 L1 c a b (b.Kind==1)
else
J1 L1 c a b (b.Kind==2)
else
J4 d a
def Aa (d:AR):Nat->AD->Int->ABd AD
|0,_,_=>none
|n+1,a,c=>L1 d (Aa d n) a c
end Bt
section
open Bt
def Bt (d:AR):ABd AD:=
(A5 d).bind λq=>
if q.1 != 0 then
some (AD.mk [] [] [] [] [] [])
else
Aa d BW (AD.mk [] [] [] [] [] []) 0
theorem YC {d:AR} {r:AD} (h:Bt d=some r):Says Tryz.prog 182 [.agg (CS d)] (.agg (K5 r)):=by refine kO mix Tryz.func182 (hn [(1,[19,25,95,103,116]),(3,[17,32,33,38,49,50,64,68,69,78,81,82,85,86,93,101,102,111,113,114,125,126]),(7,[30,34,43,51,54,56,59,70,72,83,87]),(122,[123])] [(13,1)] (E:=[(26,(.bY [(122,10,11,112)] [LU 113 3 5 3,Zk 114 3 113,iC 115 9,LU 116 1 1 1,iL 117 116,iC 118 9,iI 119 4 117 118,iF 120 3 119,iL 121 120,⟨some ⟨122,[123],[]⟩,.call 221 [.t 114,.t 115,.c (si 0),.t 121] 3,none⟩,i0 112 (.flk (.t 122) 1),i1 123 122 (.ext (.t 122) 0),i0 124 .fl,LU 125 3 5 3,iS 1 125 123]))])) ?_;have a1:= @Kc;have a2:= @Vu;have a3:= @Oa;have l3:=λn1 n2 n3 n4:Nat=>A3 λn τ=>∃(f:AD) (i:Int),(τ 1=bA 2 (CS d)/\τ 2=bA 6 z8/\τ 3=bA 6 (K5 f)/\τ 9=si i)/\Gg d n f i=some r;have l1:=λn1 n2 n3 n4:Nat=>A3 λn τ=>∃(a:AD) (c:Int),(τ 1=bA 2 (CS d)/\τ 2=bA 6 z8/\τ 3=bA 6 (K5 a)/\τ 6=si c)/\Aa d n a c=some r;have l2:=λn1 n2 n3 n4:Nat=>A3 λn τ=>∃(c:Int) (b:EX) (e:AD) (j:Int),(τ 1=bA 2 (CS d)/\τ 2=bA 6 z8/\τ 3=bA 6 (K5 e)/\τ 6=si c/\τ 7=bA 6 (Jj b)/\τ 8=si j)/\DF (Aa d n1) c b n e j=some r;have c1:=λn1 n2 n3 n4:Nat=>Bs 1 λτ=>∃(c:Int) (a:AD) (b:EX) (l:Bool),(τ 1=bA 2 (CS d)/\τ 2=bA 6 z8/\τ 3=bA 6 (K5 a)/\τ 6=si c/\τ 7=bA 6 (Jj b)/\τ 31=si b.Kind/\τ 39=sb l)/\J1 (Aa d n1) c a b l=some r;unfold Bt at h;exact walk
end
namespace E7
def J3 (o:List AG) (q:Al):ABd ((List AG)×Al):=
some (o,q)
def J2 (L1:(List AG)->Al->Int->ABd ((List AG)×Al)) (c:Int) (l:List AG) (p:Al):ABd ((List AG)×Al):=
L1 l p (BA (c+1))
def J1 (L1:(List AG)->Al->Int->ABd ((List AG)×Al)) (b:BT) (a:List C5) (c:Int) (d:List AG) (e:Al) (s:Bool):ABd ((List AG)×Al):=
if s then
(gt a c).bind λt=>
(DK b e t).bind λj=>
if j.2.2 then
if Ap (d.length+1) 88=true then
J2 L1 c (d++[j.2.1]) j.1
else none
else
J2 L1 c d e
else
J3 d e
def L1 (b:BT) (a:List C5) (L1:(List AG)->Al->Int->ABd ((List AG)×Al)) (d:List AG) (e:Al) (c:Int):ABd ((List AG)×Al):=
if decide (c<(a.length:Int))then
J1 L1 b a c d e (decide ((d.length:Int)<400))
else
J1 L1 b a c d e false
def Aa (b:BT) (a:List C5):Nat->(List AG)->Al->Int->ABd ((List AG)×Al)
|0,_,_,_=>none
|n+1,d,e,c=>L1 b a (Aa b a n) d e c
end E7
section
open E7
def E7 (b:BT) (i:Al) (f:List AG) (a:List C5):ABd ((List AG)×Al):=
Aa b a BW f i 0
theorem ZX {b:BT} {i:Al} {f:List AG} {a:List C5} {r:(List AG)×Al} (h:E7 b i f a=some r):Says Tryz.prog 137 [.agg (JS b),.agg (KQ i),vO 7 B1 f,vS 2 JC a] (.BQ [vO 7 B1 r.1,.agg (KQ r.2)]):=by refine kO mix Tryz.func137 (hn [(2,[19,38,42])]) ?_;have a1:= @ZV;have l1:=λn1 n2 n3 n4:Nat=>A3 λn τ=>∃(d:List AG) (e:Al) (c:Int),(τ 2=vO 7 B1 d/\τ 3=vS 2 JC a/\τ 4=bA 7 (JS b)/\τ 5=bA 7 (KQ e)/\τ 9=bA 7 z4/\τ 10=si c)/\Aa b a n d e c=some r;unfold E7 at h;exact walk
end
end Go.Abs
