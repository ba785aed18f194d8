/- Typed programs of Go functions, and that the functions do what these say. -/
import Derived.Test.YthmijagacgnmkaaGreatDoorWalkM
set_option linter.unusedSimpArgs false
set_option linter.unusedVariables false
namespace Go.Abs
open Go.Proofs
set_option maxRecDepth 1000000
set_option maxHeartbeats 4000000
def f159c:IC:=(Ra 2 [.o (.bx 2 (.c (.agg z15)))]
(Ra 12 [.C 0,.o (.Uc [.own false 1 [],si 0] [(0,1,.t 12)]),.o (.bx 2 (.t 13)),.o (.Uc z22 [(0,1,.t 14),(2,1,.c (si 20))]),.o (.bx 8 (.t 15)),.b 3 [19,20,21,22,31,33,34,61,62,63,64,73,74,75,76] (.mv (.t 16))]
(Ra 17 [.c 186 [] 2,.o (.Uc z15 [(0,1,.t 17)]),.b 4 [89,90,94,96,110] (.bx 2 (.c (.agg z15))),.S 2 4 18]
(Ra 19 [.r 3 0,.o (.VW 104 [] (.t 22) none [.c (si 3)]),.o (.bin .add (.c (si 2)) (.t 23)),.M 5 24]
(Ra 25 [.o (.Na 1 [[BZ ⟨#[]⟩],[BZ ⟨#[]⟩],[BZ ⟨#[]⟩],[BZ ⟨#[]⟩]] [(0,.c (BZ ⟨#[109,97,105,110]⟩)),(1,.c (BZ ⟨#[116,49]⟩)),(2,.c (BZ ⟨#[116,50]⟩)),(3,.c (BZ ⟨#[116,51]⟩))]),.b 6 [35,37,50,52,82,83] (.mv (.t 25))]
(Sq (Ra 0 [.K 7 0]
(Bl 0 (Sq (Ra 26 [.C 7,.C 5,.O .lss 26 27]
(cX 28 0))
(Sq (Bk 1 (Ra 31 [.y 3 (.cp (.t 3)),.C 7,.y 3 (.KK (.t 31)),.H 3 1 33,.S 1 34 32]
(Ra 35 [.y 6 (.cp (.t 6)),.C 7,.J 6 1 35 36,.L 37,.o (.Na 1 [[BZ ⟨#[]⟩],[BZ ⟨#[]⟩]] [(0,.c (BZ ⟨#[97]⟩)),(1,.c (BZ ⟨#[98]⟩))]),.o (.Uc z12 [(0,1,.t 38),(2,1,.t 39)]),.b 8 [48,49,57,58,59,69,80,81,88,91] (.bx 4 (.c (.agg z12))),.S 4 8 40]
(Sq (Ra 41 [.C 7,.Q 41 0]
(Ci 42 (Ra 0 [.K 9 1]
(Bl 2 (Sq (Ra 43 [.C 9,.C 5,.O .lss 43 44]
(cX 45 2))
(Sq (Bk 3 (Rc 48 [.m 8 3 8,.y 6 (.cp (.t 6)),.C 9,.J 6 1 50 51,.L 52,.o (.Uc z5 [(0,1,.c (si 12)),(2,1,.t 53)]),.o (.Na 11 [z5] [(0,.t 54)]),.o (.app 11 176 (.t 49) (.t 55)),.F 3 8,.S 1 57 56]))
(Rc 46 [.C 9,.P .add 46 1,.M 9 47])))))))
(Sq (.aY [(3,2,9,60)] [Ll 58 8 3 8,Zm 59 8 58,i0 60 .fl,i1 61 3 (.cp (.t 3)),i1 62 3 (.KK (.t 61)),Ll 63 3 0 62,Zm 64 3 63,i0 65 (.VW 104 [] (.t 64) none [.c (si 3)]),i0 66 (.bin .add (.c (si 1)) (.t 65)),i0 67 (.VW 187 [] (.t 3) none [.c (si 2),.t 66]),i0 68 (.app 11 176 (.t 59) (.t 67)),Ll 69 8 3 8,iS 1 69 68])
(Sq (Ra 70 [.C 7,.Q 70 0,.C 71,.G 72 true,.r 3 0,.o (.VW 104 [] (.t 76) none [.c (si 3)]),.P .eql 77 2,.e,.W 72 78]
(Ci 79 (Rc 80 [.m 8 3 8,.y 6 (.cp (.t 6)),.y 6 (.W4 1 (.t 82) (.c (si 1))),.L 83,.o (.Uc z5 [(0,1,.c (si 13)),(2,1,.t 84)]),.o (.Na 11 [z5] [(0,.t 85)]),.o (.app 11 176 (.t 81) (.t 86)),.F 3 8,.S 1 88 87])))
(.gz false 8 [(0,3,0)] (.gz false 8 [(0,2,0)] (Rc 89 [.m 4 1 4,.y 8 (.ld true 4 (.t 8)),.o (.Na 4 [z12] [(0,.t 91)]),.o (.app 4 72 (.t 90) (.t 92)),.F 1 4,.S 1 94 93])))))))))
(Rc 29 [.C 7,.P .add 29 1,.M 7 30])))))
(Sq (Ra 96 [.y 4 (.ld true 2 (.t 4)),.c 181 [96] 0,.w 95,.C 97,.w 98,.o (.ext (.t 95) 0),.o (.ext (.t 95) 1),.M 10 98,.M 11 99]
(Ra 100 [.C 10,.P .neq 100 0]
(Ci 101 (Rb 102 [.c 186 [] 2,.o (.Na 1 [[BZ ⟨#[]⟩],[BZ ⟨#[]⟩]] [(0,.c (BZ ⟨#[97]⟩)),(1,.c (BZ ⟨#[98]⟩))]),.o (.call 189 [.c (si 1)] 1),.o (.call 188 [.c (BZ ⟨#[120]⟩),.t 104] 1),.o (.Na 11 [z5] [(0,.t 105)]),.o (.Uc z12 [(0,1,.c (BZ ⟨#[109,97,105,110]⟩)),(2,1,.t 103),(3,1,.t 106)]),.o (.Na 4 [z12] [(0,.t 107)]),.o (.Uc z15 [(0,1,.t 102),(1,1,.t 108)]),.S 2 2 109]))))
(Rb 110 [.y 4 (.ld true 2 (.t 4)),.S 2 2 110]))))))))
def f159g:Gi:=⟨[(19,[3]),(20,[3]),(21,[3]),(22,[3]),(31,[3]),(33,[3]),(34,[3]),(35,[6]),(37,[6]),(48,[8]),(49,[8]),(50,[6]),(52,[6]),(57,[8]),(58,[8]),(59,[8]),(61,[3]),(62,[3]),(63,[3]),(64,[3]),(69,[8]),(73,[3]),(74,[3]),(75,[3]),(76,[3]),(80,[8]),(81,[8]),(82,[6]),(83,[6]),(88,[8]),(89,[4]),(90,[4]),(91,[8]),(94,[4]),(96,[4]),(110,[4])]⟩
def f159r:List RV:=[.cell 2 true 2]
def f159:FI:=⟨f159c,f159g,f159r⟩
theorem chk159:Lj Tryz.prog Tryz.f159 f159=true:=by kernel_rfl
namespace Bu
def J5 (p_2:AR):AB8 AR:=
(A5 p_2).bind λv_5=>
if v_5.1 != 0 then
(Ew).bind λv_6=>
(KJ 1).bind λv_7=>
(E2 (⟨#[120]⟩:AB9) v_7).bind λv_8=>
some (AR.mk v_6 [(Co.mk (⟨#[109,97,105,110]⟩:AB9) 0 [(⟨#[97]⟩:AB9),(⟨#[98]⟩:AB9)] [v_8])])
else
some p_2
def J4 (L1:AN->AR->Int->AB8 AR) (i:Int) (m_3:AN) (p_1:AR):AB8 AR:=
L1 m_3 p_1 (A1 (i+1))
def J3 (L1:AN->AR->Int->AB8 AR) (i:Int) (p:AR) (m_2:AN) (t_2:Co):AB8 AR:=
if Ak (p.AA.length+1) 72=true then
J4 L1 i m_2 (AR.mk p.Decls (p.AA++[t_2]))
else none
def J2 (L1:AN->AR->Int->AB8 AR) (i:Int) (p:AR) (xZ:Co) (lV:(List AQ)×AN) (m_1:AN) (t79v:Bool):AB8 AR:=
if t79v then
if Ak ((xZ.Body++lV.1).length+1) 176=true then
J3 L1 i p m_1 (Co.mk xZ.Name xZ.FA xZ.GZ ((xZ.Body++lV.1)++[(AQ.mk 13 0 (⟨#[116,49]⟩:AB9) (⟨#[]⟩:AB9) [] (BB.mk 0 0 (⟨#[]⟩:AB9) []) [] [])]))
else none
else
J3 L1 i p m_1 (Co.mk xZ.Name xZ.FA xZ.GZ (xZ.Body++lV.1))
def J1 (L1:AN->AR->Int->AB8 AR) (i:Int) (m:AN) (p:AR) (xZ:Co):AB8 AR:=
(Ae m.t 3).bind λv_2=>
(Dv BP (AN.mk v_2.2 i m.left m.Ho m.tx m.atomic m.loop m.held) 2 (A1 (1+v_2.1))).bind λlV=>
if Ak (xZ.Body.length+lV.1.length) 176=true then
if i==0 then
(Ae lV.2.t 3).bind λv_4=>
J2 L1 i p xZ lV (AN.mk v_4.2 lV.2.Be lV.2.left lV.2.Ho lV.2.tx lV.2.atomic lV.2.loop lV.2.held) (v_4.1==2)
else
J2 L1 i p xZ lV lV.2 false
else none
def L2 (L1:AN->AR->Int->AB8 AR) (i:Int) (m:AN) (p:AR) (cP:Int×AU) (L2:Co->Int->AB8 AR) (t:Co) (k:Int):AB8 AR:=
if decide (k<(A1 (2+cP.1)))then
(gt [(⟨#[109,97,105,110]⟩:AB9),(⟨#[116,49]⟩:AB9),(⟨#[116,50]⟩:AB9),(⟨#[116,51]⟩:AB9)] k).bind λx_1=>
if Ak (t.Body.length+1) 176=true then
L2 (Co.mk t.Name t.FA t.GZ (t.Body++[(AQ.mk 12 0 x_1 (⟨#[]⟩:AB9) [] (BB.mk 0 0 (⟨#[]⟩:AB9) []) [] [])])) (A1 (k+1))
else none
else
J1 L1 i m p t
def Cr (L1:AN->AR->Int->AB8 AR) (i:Int) (m:AN) (p:AR) (cP:Int×AU):Nat->Co->Int->AB8 AR
|0,_,_=>none
|n+1,t,k=>L2 L1 i m p cP (Cr L1 i m p cP n) t k
def L1 (cP:Int×AU) (L1:AN->AR->Int->AB8 AR) (m:AN) (p:AR) (i:Int):AB8 AR:=
if decide (i<(A1 (2+cP.1)))then
(gt [(⟨#[109,97,105,110]⟩:AB9),(⟨#[116,49]⟩:AB9),(⟨#[116,50]⟩:AB9),(⟨#[116,51]⟩:AB9)] i).bind λx=>
if i==0 then
Cr L1 i m p cP BP (Co.mk x 0 [(⟨#[97]⟩:AB9),(⟨#[98]⟩:AB9)] []) 1
else
J1 L1 i m p (Co.mk x 0 [(⟨#[97]⟩:AB9),(⟨#[98]⟩:AB9)] [])
else
J5 p
def AZ (cP:Int×AU):Nat->AN->AR->Int->AB8 AR
|0,_,_,_=>none
|n+1,m,p,i=>L1 cP (AZ cP n) m p i
end Bu
section
open Bu
def Bu (l:List Int):AB8 AR:=
(Ew).bind λv=>
(Ae (AU.mk l 0) 3).bind λcP=>
AZ cP BP (AN.mk cP.2 0 20 false false false false []) (AR.mk v []) 0
theorem V7 {l:List Int} {r:AR} (h:Bu l=some r):Says Tryz.prog 159 [vS 1 Ww l] (.agg (CN r)):=by
 refine kY mix Tryz.func159 chk159 (AAq (by kernel_rfl)) rfl ?_;simp only[f159,f159c,f159g,f159r]
 repeat' first
  |with_reducible exact DP h
  |with_reducible refine gBm eS h λ_ _ h=> ?_
  |with_reducible refine gBe h (by assumption) λh=> ?_
  |with_reducible refine gBk h λ_ _ h=> ?_
  | (with_reducible refine cSk h λg h=> ?_
     try simp only[ABo,List.nil_append,ABr]at g)
  | (with_reducible refine bSs h λh=> ?_
     try simp +decide only[go_sem, *]
     refine⟨_,by first|exact RT (by assumption),?_⟩)
  | (with_reducible refine bSk h λ_ g h=> ?_
     try simp +decide only[go_sem, *]
     refine⟨_,by first|exact RT g|exact Kv g|exact Py g|exact Pu g,?_⟩)
  | (with_reducible refine bSk h λ_ g h=> ?_
     try simp +decide only[go_sem, *]
     refine sR.intro (by first|exact Cp g|exact Px g) rfl ?_ ?_ ?_
     . rfl
     . first|rfl|simp +decide only[go_sem, *])
  | (with_reducible cases h
     simp +decide only[go_sem, *]
     done)
  |simp only[eq_self,AA5,AAx,AAr]at h
  |simp +decide only[go_sem, *]
  | (with_reducible refine Pt (λn τ=>∃cP:Int×AU,∃m:AN,∃p:AR,∃i:Int,(τ 2=bA 2 z15/\τ 3=bA 8 (CS m)/\τ 4=bA 2 [vO 6 KG p.Decls,vO 4 Iv p.AA]/\τ 5=si (A1 (2+cP.1))/\τ 6= .own false 1 (z19)/\τ 7=si i)/\AZ cP n m p i=some r) ⟨_,_,_,_,?_,h⟩ ?_
     rotate_left;rintro(_|n1) τ N ⟨cP,_,_,_,_,h⟩ k1
     . exact DP h
     rw[AZ]at h)
  | (with_reducible refine Pt (λn τ=>∃i:Int,∃m:AN,∃p:AR,∃t:Co,∃k:Int,(τ 2=bA 2 z15/\τ 3=bA 8 [bA 2 (FE m.t),si i,si m.left,sb m.Ho,sb m.tx,sb m.atomic,sb m.loop,vO 1 eS m.held]/\τ 4=bA 2 [vO 6 KG p.Decls,vO 4 Iv p.AA]/\τ 5=si (A1 (2+cP.1))/\τ 6= .own false 1 (z19)/\τ 7=si i/\τ 8=bA 4 (iT t)/\τ 9=si k)/\Cr (AZ cP n1) i m p cP n t k=some r) ⟨_,_,_,_,_,?_,h⟩ ?_
     rotate_left;rintro(_|n2) τ N ⟨i,m,p,_,_,_,h⟩ k2
     . exact DP h
     rw[Cr]at h)
  |with_reducible refine S6 k2 ⟨_,_,_,_,_,?_,h⟩
  |with_reducible refine S6 k1 ⟨_,_,_,_,?_,h⟩
  |simp only[*,eq_self,AA5,AAx,AAr,decide_true,decide_false]at h
  | (with_reducible refine bI h ?_ ?_
     all_goals clear h;intro _ h)
  | (simp[Iv,eS];done)
  |unfold Bu at h
  |unfold J5 at h
  |unfold J4 at h
  |unfold J3 at h
  |unfold J2 at h
  |unfold J1 at h
  |unfold L2 at h
  |unfold L1 at h
end
namespace Bs
def J5 (w:AD):AB8 AD:=
some w
def L3 (d:AR) (L3:AD->Int->AB8 AD) (f:AD) (i:Int):AB8 AD:=
if decide (i<(d.AA.length:Int))then
(gt d.AA i).bind λo=>
if Ak (f.AA.length+1) 16=true then
(Gu BP f.BL i 0 o.Body).bind λt=>
L3 (AD.mk f.Cells f.AE f.Af f.AK (f.AA++[o.Name]) t.1) (A1 (i+1))
else none
else
J5 f
def Gq (d:AR):Nat->AD->Int->AB8 AD
|0,_,_=>none
|n+1,f,i=>L3 d (Gq d n) f i
def J4 (d:AR) (v:AD):AB8 AD:=
Gq d BP v 0
def J3 (L1:AD->Int->AB8 AD) (c:Int) (u:AD):AB8 AD:=
L1 u (A1 (c+1))
def L2 (L1:AD->Int->AB8 AD) (c:Int) (b:Eg) (L2:AD->Int->AB8 AD) (e:AD) (j:Int):AB8 AD:=
if decide (j<(if 1>b.Bw then 1 else b.Bw))then
if Ak (e.Cells.length+1) 48=true then
L2 (AD.mk (e.Cells++[(DL.mk b.Name j b.Bw (b.Kind==2) b.Init)]) e.AE e.Af e.AK e.AA e.BL) (A1 (j+1))
else none
else
J3 L1 c e
def Cr (L1:AD->Int->AB8 AD) (c:Int) (b:Eg):Nat->AD->Int->AB8 AD
|0,_,_=>none
|n+1,e,j=>L2 L1 c b (Cr L1 c b n) e j
def J2 (L1:AD->Int->AB8 AD) (c:Int) (a:AD) (b:Eg) (p:Bool):AB8 AD:=
if p then
if Ak (a.AE.length+1) 24=true then
J3 L1 c (AD.mk a.Cells (a.AE++[(Ia.mk b.Name (b.Kind==4))]) a.Af a.AK a.AA a.BL)
else none
else
if b.Kind==5 then
(Dy a.AE b.On).bind λs=>
if Ak (a.Af.length+1) 24=true then
J3 L1 c (AD.mk a.Cells a.AE (a.Af++[(Nc.mk b.Name s)]) a.AK a.AA a.BL)
else none
else
if Ak (a.AK.length+1) 16=true then
J3 L1 c (AD.mk a.Cells a.AE a.Af (a.AK++[b.Name]) a.AA a.BL)
else none
def J1 (L1:AD->Int->AB8 AD) (c:Int) (a:AD) (b:Eg) (l:Bool):AB8 AD:=
if l then
Cr L1 c b BP a 0
else
if b.Kind==3 then
J2 L1 c a b (b.Kind==3)
else
J2 L1 c a b (b.Kind==4)
def L1 (d:AR) (L1:AD->Int->AB8 AD) (a:AD) (c:Int):AB8 AD:=
if decide (c<(d.Decls.length:Int))then
(gt d.Decls c).bind λb=>
if b.Kind==1 then
J1 L1 c a b (b.Kind==1)
else
J1 L1 c a b (b.Kind==2)
else
J4 d a
def AZ (d:AR):Nat->AD->Int->AB8 AD
|0,_,_=>none
|n+1,a,c=>L1 d (AZ d n) a c
end Bs
section
open Bs
def Bs (d:AR):AB8 AD:=
(A5 d).bind λq=>
if q.1 != 0 then
some (AD.mk [] [] [] [] [] [])
else
AZ d BP (AD.mk [] [] [] [] [] []) 0
theorem Ym {d:AR} {r:AD} (h:Bs d=some r):Says Tryz.prog 182 [.agg (CN d)] (.agg (K0 r)):=by refine kO mix Tryz.func182 (hn [(1,[19,25,95,103,116]),(3,[17,32,33,38,49,50,64,68,69,78,81,82,85,86,93,101,102,111,113,114,125,126]),(7,[30,34,43,51,54,56,59,70,72,83,87]),(122,[123])] [(13,1)] (E:=[(26,(.aY [(122,10,11,112)] [Ll 113 3 5 3,Zm 114 3 113,iC 115 9,Ll 116 1 1 1,iL 117 116,iC 118 9,iI 119 4 117 118,iF 120 3 119,iL 121 120,⟨some ⟨122,[123],[]⟩,.call 219 [.t 114,.t 115,.c (si 0),.t 121] 3,none⟩,i0 112 (.flk (.t 122) 1),i1 123 122 (.ext (.t 122) 0),i0 124 .fl,Ll 125 3 5 3,iS 1 125 123]))])) ?_;have a1:= @Kv;have a2:= @WY;have a3:= @O0;have l3:=λn1 n2 n3 n4:Nat=>Av λn τ=>∃(f:AD) (i:Int),(τ 1=bA 2 (CN d)/\τ 2=bA 6 z8/\τ 3=bA 6 (K0 f)/\τ 9=si i)/\Gq d n f i=some r;have l1:=λn1 n2 n3 n4:Nat=>Av λn τ=>∃(a:AD) (c:Int),(τ 1=bA 2 (CN d)/\τ 2=bA 6 z8/\τ 3=bA 6 (K0 a)/\τ 6=si c)/\AZ d n a c=some r;have l2:=λn1 n2 n3 n4:Nat=>Av λn τ=>∃(c:Int) (b:Eg) (e:AD) (j:Int),(τ 1=bA 2 (CN d)/\τ 2=bA 6 z8/\τ 3=bA 6 (K0 e)/\τ 6=si c/\τ 7=bA 6 (KG b)/\τ 8=si j)/\Cr (AZ d n1) c b n e j=some r;have c1:=λn1 n2 n3 n4:Nat=>Bm 1 λτ=>∃(c:Int) (a:AD) (b:Eg) (l:Bool),(τ 1=bA 2 (CN d)/\τ 2=bA 6 z8/\τ 3=bA 6 (K0 a)/\τ 6=si c/\τ 7=bA 6 (KG b)/\τ 31=si b.Kind/\τ 39=sb l)/\J1 (AZ d n1) c a b l=some r;unfold Bs at h;exact walk
end
namespace FP
def J3 (o:List AG) (q:Aj):AB8 ((List AG)×Aj):=
some (o,q)
def J2 (L1:(List AG)->Aj->Int->AB8 ((List AG)×Aj)) (c:Int) (l:List AG) (p:Aj):AB8 ((List AG)×Aj):=
L1 l p (A1 (c+1))
def J1 (L1:(List AG)->Aj->Int->AB8 ((List AG)×Aj)) (b:BT) (a:List C6) (c:Int) (d:List AG) (e:Aj) (s:Bool):AB8 ((List AG)×Aj):=
if s then
(gt a c).bind λt=>
(DJ b e t).bind λj=>
if j.2.2 then
if Ak (d.length+1) 88=true then
J2 L1 c (d++[j.2.1]) j.1
else none
else
J2 L1 c d e
else
J3 d e
def L1 (b:BT) (a:List C6) (L1:(List AG)->Aj->Int->AB8 ((List AG)×Aj)) (d:List AG) (e:Aj) (c:Int):AB8 ((List AG)×Aj):=
if decide (c<(a.length:Int))then
J1 L1 b a c d e (decide ((d.length:Int)<400))
else
J1 L1 b a c d e false
def AZ (b:BT) (a:List C6):Nat->(List AG)->Aj->Int->AB8 ((List AG)×Aj)
|0,_,_,_=>none
|n+1,d,e,c=>L1 b a (AZ b a n) d e c
end FP
section
open FP
def FP (b:BT) (i:Aj) (f:List AG) (a:List C6):AB8 ((List AG)×Aj):=
AZ b a BP f i 0
theorem Z1 {b:BT} {i:Aj} {f:List AG} {a:List C6} {r:(List AG)×Aj} (h:FP b i f a=some r):Says Tryz.prog 156 [.agg (Jo b),.agg (Kj i),vO 7 BX f,vS 2 JT a] (.BM [vO 7 BX r.1,.agg (Kj r.2)]):=by refine kO mix Tryz.func156 (hn [(2,[19,38,42])]) ?_;have a1:= @Zz;have l1:=λn1 n2 n3 n4:Nat=>Av λn τ=>∃(d:List AG) (e:Aj) (c:Int),(τ 2=vO 7 BX d/\τ 3=vS 2 JT a/\τ 4=bA 7 (Jo b)/\τ 5=bA 7 (Kj e)/\τ 9=bA 7 z3/\τ 10=si c)/\AZ b a n d e c=some r;unfold FP at h;exact walk
end
def Ks (a:AO):AB8 (List D5):=
(Gk a).bind λb=>
if !b then
some []
else
(FH a.World a.Init a.AF).bind λc=>
some c
theorem Tf {a:AO} {r:List D5} (h:Ks a=some r):Says Tryz.prog 40 [.agg (BV a)] (vS 2 K6 r):=by refine kF mix Tryz.func40 (hn [(1,[6,8,10])]) ?_;have a1:= @La;have a2:= @Mp;unfold Ks at h;exact walk
end Go.Abs
