/- Typed programs of Go functions, and that the functions do what these say. -/
import Derived.Test.YtdadohkcmclilaaGreatDoorWalkM
import Derived.Shelf.Slices.SearchI
set_option linter.unusedSimpArgs false
set_option linter.unusedVariables false
namespace Go.Abs
open Go.Proofs
set_option maxRecDepth 1000000
set_option maxHeartbeats 4000000
def f28c:IC:=(Ra 2 [.o (.bx 2 (.c (.agg z13)))]
(Ra 12 [.C 0,.o (.TY [.own false 1 [],si 0] [(0,1,.t 12)]),.o (.bx 2 (.t 13)),.o (.TY z17 [(0,1,.t 14),(2,1,.c (si 20))]),.o (.bx 8 (.t 15)),.b 3 [19,20,21,22,31,33,34,61,62,63,64,73,74,75,76] (.mv (.t 16))]
(Ra 17 [.c 62 [] 2,.o (.TY z13 [(0,1,.t 17)]),.b 4 [89,90,94,96,110] (.bx 2 (.c (.agg z13))),.S 2 4 18]
(Ra 19 [.r 3 0,.o (.Ww 63 [] (.t 22) none [.c (si 3)]),.o (.bin .add (.c (si 2)) (.t 23)),.M 5 24]
(Ra 25 [.o (.NH 1 [[BZ ⟨#[]⟩],[BZ ⟨#[]⟩],[BZ ⟨#[]⟩],[BZ ⟨#[]⟩]] [(0,.c (BZ ⟨#[109,97,105,110]⟩)),(1,.c (BZ ⟨#[116,49]⟩)),(2,.c (BZ ⟨#[116,50]⟩)),(3,.c (BZ ⟨#[116,51]⟩))]),.b 6 [35,37,50,52,82,83] (.mv (.t 25))]
(Sq (Ra 0 [.K 7 0]
(Bl 0 (Sq (Ra 26 [.C 7,.C 5,.O .lss 26 27]
(cX 28 0))
(Sq (Bk 1 (Ra 31 [.y 3 (.cp (.t 3)),.C 7,.y 3 (.JW (.t 31)),.H 3 1 33,.S 1 34 32]
(Ra 35 [.y 6 (.cp (.t 6)),.C 7,.J 6 1 35 36,.L 37,.o (.NH 1 [[BZ ⟨#[]⟩],[BZ ⟨#[]⟩]] [(0,.c (BZ ⟨#[97]⟩)),(1,.c (BZ ⟨#[98]⟩))]),.o (.TY z10 [(0,1,.t 38),(2,1,.t 39)]),.b 8 [48,49,57,58,59,69,80,81,88,91] (.bx 4 (.c (.agg z10))),.S 4 8 40]
(Sq (Ra 41 [.C 7,.Q 41 0]
(Ci 42 (Ra 0 [.K 9 1]
(Bl 2 (Sq (Ra 43 [.C 9,.C 5,.O .lss 43 44]
(cX 45 2))
(Sq (Bk 3 (Rc 48 [.m 8 3 8,.y 6 (.cp (.t 6)),.C 9,.J 6 1 50 51,.L 52,.o (.TY z4 [(0,1,.c (si 12)),(2,1,.t 53)]),.o (.NH 11 [z4] [(0,.t 54)]),.o (.app 11 176 (.t 49) (.t 55)),.F 3 8,.S 1 57 56]))
(Rc 46 [.C 9,.P .add 46 1,.M 9 47])))))))
(Sq (.bE [(3,2,9,60)] [ML 58 8 3 8,bL 59 8 58,i0 60 .fl,i1 61 3 (.cp (.t 3)),i1 62 3 (.JW (.t 61)),ML 63 3 0 62,bL 64 3 63,i0 65 (.Ww 63 [] (.t 64) none [.c (si 3)]),i0 66 (.bin .add (.c (si 1)) (.t 65)),i0 67 (.Ww 64 [] (.t 3) none [.c (si 2),.t 66]),i0 68 (.app 11 176 (.t 59) (.t 67)),ML 69 8 3 8,iS 1 69 68])
(Sq (Ra 70 [.C 7,.Q 70 0,.C 71,.G 72 true,.r 3 0,.o (.Ww 63 [] (.t 76) none [.c (si 3)]),.P .eql 77 2,.e,.W 72 78]
(Ci 79 (Rc 80 [.m 8 3 8,.y 6 (.cp (.t 6)),.y 6 (.Va 1 (.t 82) (.c (si 1))),.L 83,.o (.TY z4 [(0,1,.c (si 13)),(2,1,.t 84)]),.o (.NH 11 [z4] [(0,.t 85)]),.o (.app 11 176 (.t 81) (.t 86)),.F 3 8,.S 1 88 87])))
(.gz false 8 [(0,3,0)] (.gz false 8 [(0,2,0)] (Rc 89 [.m 4 1 4,.y 8 (.ld true 4 (.t 8)),.o (.NH 4 [z10] [(0,.t 91)]),.o (.app 4 72 (.t 90) (.t 92)),.F 1 4,.S 1 94 93])))))))))
(Rc 29 [.C 7,.P .add 29 1,.M 7 30])))))
(Sq (Ra 96 [.y 4 (.ld true 2 (.t 4)),.c 57 [96] 0,.w 95,.C 97,.w 98,.o (.ext (.t 95) 0),.o (.ext (.t 95) 1),.M 10 98,.M 11 99]
(Ra 100 [.C 10,.P .neq 100 0]
(Ci 101 (Rb 102 [.c 62 [] 2,.o (.NH 1 [[BZ ⟨#[]⟩],[BZ ⟨#[]⟩]] [(0,.c (BZ ⟨#[97]⟩)),(1,.c (BZ ⟨#[98]⟩))]),.o (.call 66 [.c (si 1)] 1),.o (.call 65 [.c (BZ ⟨#[120]⟩),.t 104] 1),.o (.NH 11 [z4] [(0,.t 105)]),.o (.TY z10 [(0,1,.c (BZ ⟨#[109,97,105,110]⟩)),(2,1,.t 103),(3,1,.t 106)]),.o (.NH 4 [z10] [(0,.t 107)]),.o (.TY z13 [(0,1,.t 102),(1,1,.t 108)]),.S 2 2 109]))))
(Rb 110 [.y 4 (.ld true 2 (.t 4)),.S 2 2 110]))))))))
def f28g:Gi:=⟨[(19,[3]),(20,[3]),(21,[3]),(22,[3]),(31,[3]),(33,[3]),(34,[3]),(35,[6]),(37,[6]),(48,[8]),(49,[8]),(50,[6]),(52,[6]),(57,[8]),(58,[8]),(59,[8]),(61,[3]),(62,[3]),(63,[3]),(64,[3]),(69,[8]),(73,[3]),(74,[3]),(75,[3]),(76,[3]),(80,[8]),(81,[8]),(82,[6]),(83,[6]),(88,[8]),(89,[4]),(90,[4]),(91,[8]),(94,[4]),(96,[4]),(110,[4])]⟩
def f28r:List RV:=[.cell 2 true 2]
def f28:FI:=⟨f28c,f28g,f28r⟩
theorem chk28:K9 Tryz.prog Tryz.f28 f28=true:=by kernel_rfl
namespace Bs
def J5 (p_2:AU):ABh AU:=
(A4 p_2).bind λv_5=>
if v_5.1 != 0 then
(Ed).bind λv_6=>
(JV 1).bind λv_7=>
(Eh (⟨#[120]⟩:ABi) v_7).bind λv_8=>
some (AU.mk v_6 [(Cj.mk (⟨#[109,97,105,110]⟩:ABi) 0 [(⟨#[97]⟩:ABi),(⟨#[98]⟩:ABi)] [v_8])])
else
some p_2
def J4 (L1:AO->AU->Int->ABh AU) (i:Int) (m_3:AO) (p_1:AU):ABh AU:=
L1 m_3 p_1 (Aq (i+1))
def J3 (L1:AO->AU->Int->ABh AU) (i:Int) (p:AU) (m_2:AO) (t_2:Cj):ABh AU:=
if Ap (p.AA.length+1) 72=true then
J4 L1 i m_2 (AU.mk p.Decls (p.AA++[t_2]))
else none
def J2 (L1:AO->AU->Int->ABh AU) (i:Int) (p:AU) (uC:Cj) (gO:(List AR)×AO) (m_1:AO) (t79v:Bool):ABh AU:=
if t79v then
if Ap ((uC.Body++gO.1).length+1) 176=true then
J3 L1 i p m_1 (Cj.mk uC.Name uC.E8 uC.Fh ((uC.Body++gO.1)++[(AR.mk 13 0 (⟨#[116,49]⟩:ABi) (⟨#[]⟩:ABi) [] (BA.mk 0 0 (⟨#[]⟩:ABi) []) [] [])]))
else none
else
J3 L1 i p m_1 (Cj.mk uC.Name uC.E8 uC.Fh (uC.Body++gO.1))
def J1 (L1:AO->AU->Int->ABh AU) (i:Int) (m:AO) (p:AU) (uC:Cj):ABh AU:=
(Bc m.t 3).bind λv_2=>
(Dl Bg (AO.mk v_2.2 i m.left m.HB m.tx m.atomic m.loop m.held) 2 (Aq (1+v_2.1))).bind λgO=>
if Ap (uC.Body.length+gO.1.length) 176=true then
if i==0 then
(Bc gO.2.t 3).bind λv_4=>
J2 L1 i p uC gO (AO.mk v_4.2 gO.2.Be gO.2.left gO.2.HB gO.2.tx gO.2.atomic gO.2.loop gO.2.held) (v_4.1==2)
else
J2 L1 i p uC gO gO.2 false
else none
def L2 (L1:AO->AU->Int->ABh AU) (i:Int) (m:AO) (p:AU) (ZQ:Int×Dh) (L2:Cj->Int->ABh AU) (t:Cj) (k:Int):ABh AU:=
if decide (k<(Aq (2+ZQ.1)))then
(gt [(⟨#[109,97,105,110]⟩:ABi),(⟨#[116,49]⟩:ABi),(⟨#[116,50]⟩:ABi),(⟨#[116,51]⟩:ABi)] k).bind λx_1=>
if Ap (t.Body.length+1) 176=true then
L2 (Cj.mk t.Name t.E8 t.Fh (t.Body++[(AR.mk 12 0 x_1 (⟨#[]⟩:ABi) [] (BA.mk 0 0 (⟨#[]⟩:ABi) []) [] [])])) (Aq (k+1))
else none
else
J1 L1 i m p t
def DI (L1:AO->AU->Int->ABh AU) (i:Int) (m:AO) (p:AU) (ZQ:Int×Dh):Nat->Cj->Int->ABh AU
|0,_,_=>none
|n+1,t,k=>L2 L1 i m p ZQ (DI L1 i m p ZQ n) t k
def L1 (ZQ:Int×Dh) (L1:AO->AU->Int->ABh AU) (m:AO) (p:AU) (i:Int):ABh AU:=
if decide (i<(Aq (2+ZQ.1)))then
(gt [(⟨#[109,97,105,110]⟩:ABi),(⟨#[116,49]⟩:ABi),(⟨#[116,50]⟩:ABi),(⟨#[116,51]⟩:ABi)] i).bind λx=>
if i==0 then
DI L1 i m p ZQ Bg (Cj.mk x 0 [(⟨#[97]⟩:ABi),(⟨#[98]⟩:ABi)] []) 1
else
J1 L1 i m p (Cj.mk x 0 [(⟨#[97]⟩:ABi),(⟨#[98]⟩:ABi)] [])
else
J5 p
def AZ (ZQ:Int×Dh):Nat->AO->AU->Int->ABh AU
|0,_,_,_=>none
|n+1,m,p,i=>L1 ZQ (AZ ZQ n) m p i
end Bs
section
open Bs
def Bs (l:List Int):ABh AU:=
(Ed).bind λv=>
(Bc (Dh.mk l 0) 3).bind λZQ=>
AZ ZQ Bg (AO.mk ZQ.2 0 20 false false false false []) (AU.mk v []) 0
theorem Ut {l:List Int} {r:AU} (h:Bs l=some r):Says Tryz.prog 28 [vS 1 WL l] (.agg (CL r)):=by
 refine fF mix Tryz.func28 chk28 (AAT (by kernel_rfl)) rfl ?_;simp only[f28,f28c,f28g,f28r]
 repeat' first
  |with_reducible exact Dm h
  |with_reducible refine gBm eS h λ_ _ h=> ?_
  |with_reducible refine gBe h (by assumption) λh=> ?_
  |with_reducible refine gBk h λ_ _ h=> ?_
  | (with_reducible refine cSk h λg h=> ?_
     try simp only[ABA,ABB,ABN]at g)
  | (with_reducible refine bSs h λh=> ?_
     try simp +decide only[go_sem, *]
     refine⟨_,by first|exact Qa (by assumption),?_⟩)
  | (with_reducible refine bSk h λ_ g h=> ?_
     try simp +decide only[go_sem, *]
     refine⟨_,by first|exact Qa g|exact KB g|exact O0 g|exact Ow g,?_⟩)
  | (with_reducible refine bSk h λ_ g h=> ?_
     try simp +decide only[go_sem, *]
     refine pL.intro (by first|exact Hh g|exact Oz g) rfl ?_ ?_ ?_
     . rfl
     . first|rfl|simp +decide only[go_sem, *])
  | (with_reducible cases h
     simp +decide only[go_sem, *]
     done)
  |simp only[eq_self,AAo,AAY,AAQ]at h
  |simp +decide only[go_sem, *]
  | (with_reducible refine UQ (λn τ=>∃ZQ:Int×Dh,∃m:AO,∃p:AU,∃i:Int,(τ 2=bA 2 z13/\τ 3=bA 8 (CR m)/\τ 4=bA 2 [vO 6 JR p.Decls,vO 4 IE p.AA]/\τ 5=si (Aq (2+ZQ.1))/\τ 6= .own false 1 (z14)/\τ 7=si i)/\AZ ZQ n m p i=some r) ⟨_,_,_,_,?_,h⟩ ?_
     rotate_left;rintro(_|n1) τ N ⟨ZQ,_,_,_,_,h⟩ k1
     . exact Dm h
     rw[AZ]at h)
  | (with_reducible refine UQ (λn τ=>∃i:Int,∃m:AO,∃p:AU,∃t:Cj,∃k:Int,(τ 2=bA 2 z13/\τ 3=bA 8 [bA 2 (UF m.t),si i,si m.left,sb m.HB,sb m.tx,sb m.atomic,sb m.loop,vO 1 eS m.held]/\τ 4=bA 2 [vO 6 JR p.Decls,vO 4 IE p.AA]/\τ 5=si (Aq (2+ZQ.1))/\τ 6= .own false 1 (z14)/\τ 7=si i/\τ 8=bA 4 (dD t)/\τ 9=si k)/\DI (AZ ZQ n1) i m p ZQ n t k=some r) ⟨_,_,_,_,_,?_,h⟩ ?_
     rotate_left;rintro(_|n2) τ N ⟨i,m,p,_,_,_,h⟩ k2
     . exact Dm h
     rw[DI]at h)
  |with_reducible refine yF k2 ⟨_,_,_,_,_,?_,h⟩
  |with_reducible refine yF k1 ⟨_,_,_,_,?_,h⟩
  |simp only[*,eq_self,AAo,AAY,AAQ,decide_true,decide_false]at h
  | (with_reducible refine bI h ?_ ?_
     all_goals clear h;intro _ h)
  | (simp[IE,eS];done)
  |unfold Bs at h
  |unfold J5 at h
  |unfold J4 at h
  |unfold J3 at h
  |unfold J2 at h
  |unfold J1 at h
  |unfold L2 at h
  |unfold L1 at h
end
namespace Br
def J5 (w:AD):ABh AD:=
some w
def L3 (d:AU) (L3:AD->Int->ABh AD) (f:AD) (i:Int):ABh AD:=
if decide (i<(d.AA.length:Int))then
(gt d.AA i).bind λo=>
if Ap (f.AA.length+1) 16=true then
(GC Bg f.BL i 0 o.Body).bind λt=>
L3 (AD.mk f.Cells f.AG f.Af f.AH (f.AA++[o.Name]) t.1) (Aq (i+1))
else none
else
J5 f
def GL (d:AU):Nat->AD->Int->ABh AD
|0,_,_=>none
|n+1,f,i=>L3 d (GL d n) f i
def J4 (d:AU) (v:AD):ABh AD:=
GL d Bg v 0
def J3 (L1:AD->Int->ABh AD) (c:Int) (u:AD):ABh AD:=
L1 u (Aq (c+1))
def L2 (L1:AD->Int->ABh AD) (c:Int) (b:EV) (L2:AD->Int->ABh AD) (e:AD) (j:Int):ABh AD:=
if decide (j<(if 1>b.CG then 1 else b.CG))then
if Ap (e.Cells.length+1) 48=true then
L2 (AD.mk (e.Cells++[(DR.mk b.Name j b.CG (b.Kind==2) b.Init)]) e.AG e.Af e.AH e.AA e.BL) (Aq (j+1))
else none
else
J3 L1 c e
def DI (L1:AD->Int->ABh AD) (c:Int) (b:EV):Nat->AD->Int->ABh AD
|0,_,_=>none
|n+1,e,j=>L2 L1 c b (DI L1 c b n) e j
def J2 (L1:AD->Int->ABh AD) (c:Int) (a:AD) (b:EV) (p:Bool):ABh AD:=
if p then
if Ap (a.AG.length+1) 24=true then
J3 L1 c (AD.mk a.Cells (a.AG++[(I6.mk b.Name (b.Kind==4))]) a.Af a.AH a.AA a.BL)
else none
else
if b.Kind==5 then
(Dq a.AG b.On).bind λs=>
if Ap (a.Af.length+1) 24=true then
J3 L1 c (AD.mk a.Cells a.AG (a.Af++[(Nj.mk b.Name s)]) a.AH a.AA a.BL)
else none
else
if Ap (a.AH.length+1) 16=true then
J3 L1 c (AD.mk a.Cells a.AG a.Af (a.AH++[b.Name]) a.AA a.BL)
else none
def J1 (L1:AD->Int->ABh AD) (c:Int) (a:AD) (b:EV) (l:Bool):ABh AD:=
if l then
DI L1 c b Bg a 0
else
if b.Kind==3 then
J2 L1 c a b (b.Kind==3)
else
J2 L1 c a b (b.Kind==4)
def L1 (d:AU) (L1:AD->Int->ABh AD) (a:AD) (c:Int):ABh AD:=
if decide (c<(d.Decls.length:Int))then
(gt d.Decls c).bind λb=>
if b.Kind==1 then
J1 L1 c a b (b.Kind==1)
else
J1 L1 c a b (b.Kind==2)
else
J4 d a
def AZ (d:AU):Nat->AD->Int->ABh AD
|0,_,_=>none
|n+1,a,c=>L1 d (AZ d n) a c
end Br
section
open Br
def Br (d:AU):ABh AD:=
(A4 d).bind λq=>
if q.1 != 0 then
some (AD.mk [] [] [] [] [] [])
else
AZ d Bg (AD.mk [] [] [] [] [] []) 0
theorem XI {d:AU} {r:AD} (h:Br d=some r):Says Tryz.prog 58 [.agg (CL d)] (.agg (NK r)):=by refine kO mix Tryz.func58 (hn [(1,[19,25,95,103,116]),(3,[17,32,33,38,49,50,64,68,69,78,81,82,85,86,93,101,102,111,113,114,125,126]),(7,[30,34,43,51,54,56,59,70,72,83,87]),(122,[123])] [(13,1)] (E:=[(26,(.bE [(122,10,11,112)] [ML 113 3 5 3,bL 114 3 113,iC 115 9,ML 116 1 1 1,iL 117 116,iC 118 9,iI 119 4 117 118,iF 120 3 119,iL 121 120,⟨some ⟨122,[123],[]⟩,.call 113 [.t 114,.t 115,.c (si 0),.t 121] 3,none⟩,i0 112 (.flk (.t 122) 1),i1 123 122 (.ext (.t 122) 0),i0 124 .fl,ML 125 3 5 3,iS 1 125 123]))])) ?_;have a1:= @KB;have a2:= @VF;have a3:= @N4;have l3:=λn1 n2 n3 n4:Nat=>A7 λn τ=>∃(f:AD) (i:Int),(τ 1=bA 2 (CL d)/\τ 2=bA 6 z7/\τ 3=bA 6 (NK f)/\τ 9=si i)/\GL d n f i=some r;have l1:=λn1 n2 n3 n4:Nat=>A7 λn τ=>∃(a:AD) (c:Int),(τ 1=bA 2 (CL d)/\τ 2=bA 6 z7/\τ 3=bA 6 (NK a)/\τ 6=si c)/\AZ d n a c=some r;have l2:=λn1 n2 n3 n4:Nat=>A7 λn τ=>∃(c:Int) (b:EV) (e:AD) (j:Int),(τ 1=bA 2 (CL d)/\τ 2=bA 6 z7/\τ 3=bA 6 (NK e)/\τ 6=si c/\τ 7=bA 6 (JR b)/\τ 8=si j)/\DI (AZ d n1) c b n e j=some r;have c1:=λn1 n2 n3 n4:Nat=>Bu 1 λτ=>∃(c:Int) (a:AD) (b:EV) (l:Bool),(τ 1=bA 2 (CL d)/\τ 2=bA 6 z7/\τ 3=bA 6 (NK a)/\τ 6=si c/\τ 7=bA 6 (JR b)/\τ 31=si b.Kind/\τ 39=sb l)/\J1 (AZ d n1) c a b l=some r;unfold Br at h;exact walk
end
namespace C2
def J3 (o:List AK) (q:Ae):ABh ((List AK)×Ae):=
some (o,q)
def J2 (L1:(List AK)->Ae->Int->ABh ((List AK)×Ae)) (c:Int) (l:List AK) (p:Ae):ABh ((List AK)×Ae):=
L1 l p (Aq (c+1))
def J1 (L1:(List AK)->Ae->Int->ABh ((List AK)×Ae)) (b:BB) (a:List BJ) (c:Int) (d:List AK) (e:Ae) (s:Bool):ABh ((List AK)×Ae):=
if s then
(gt a c).bind λt=>
(Ay b e t).bind λj=>
if j.2.2 then
if Ap (d.length+1) 88=true then
J2 L1 c (d++[j.2.1]) j.1
else none
else
J2 L1 c d e
else
J3 d e
def L1 (b:BB) (a:List BJ) (L1:(List AK)->Ae->Int->ABh ((List AK)×Ae)) (d:List AK) (e:Ae) (c:Int):ABh ((List AK)×Ae):=
if decide (c<(a.length:Int))then
J1 L1 b a c d e (decide ((d.length:Int)<400))
else
J1 L1 b a c d e false
def AZ (b:BB) (a:List BJ):Nat->(List AK)->Ae->Int->ABh ((List AK)×Ae)
|0,_,_,_=>none
|n+1,d,e,c=>L1 b a (AZ b a n) d e c
end C2
section
open C2
def C2 (b:BB) (i:Ae) (f:List AK) (a:List BJ):ABh ((List AK)×Ae):=
AZ b a Bg f i 0
theorem YQ {b:BB} {i:Ae} {f:List AK} {a:List BJ} {r:(List AK)×Ae} (h:C2 b i f a=some r):Says Tryz.prog 37 [.agg (He b),.agg (Iz i),vO 7 BQ f,vS 2 Hc a] (.BT [vO 7 BQ r.1,.agg (Iz r.2)]):=by refine kO mix Tryz.func37 (hn [(2,[19,38,42])]) ?_;have a1:= @YO;have l1:=λn1 n2 n3 n4:Nat=>A7 λn τ=>∃(d:List AK) (e:Ae) (c:Int),(τ 2=vO 7 BQ d/\τ 3=vS 2 Hc a/\τ 4=bA 7 (He b)/\τ 5=bA 7 (Iz e)/\τ 9=bA 7 z2/\τ 10=si c)/\AZ b a n d e c=some r;unfold C2 at h;exact walk
end
end Go.Abs
