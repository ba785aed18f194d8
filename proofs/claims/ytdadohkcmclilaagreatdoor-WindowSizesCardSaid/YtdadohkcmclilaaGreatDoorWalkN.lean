/- Typed programs of Go functions, and that the functions do what these say. -/
import Derived.Test.YtdadohkcmclilaaGreatDoorWalkM
import Derived.Shelf.Slices.SearchI
set_option linter.unusedSimpArgs false
set_option linter.unusedVariables false
namespace Go.Abs
open Go.Proofs
set_option maxRecDepth 1000000
set_option maxHeartbeats 4000000
def f28c:IC:=(Ra 2 [.o (.bx 2 (.c (.agg z13)))]
(Ra 12 [.C 0,.o (.RD [.own false 1 [],si 0] [(0,1,.t 12)]),.o (.bx 2 (.t 13)),.o (.RD z16 [(0,1,.t 14),(2,1,.c (si 20))]),.o (.bx 8 (.t 15)),.b 3 [19,20,21,22,31,33,34,61,62,63,64,73,74,75,76] (.mv (.t 16))]
(Ra 17 [.c 62 [] 2,.o (.RD z13 [(0,1,.t 17)]),.b 4 [89,90,94,96,110] (.bx 2 (.c (.agg z13))),.S 2 4 18]
(Ra 19 [.r 3 0,.o (.WN 63 [] (.t 22) none [.c (si 3)]),.o (.bin .add (.c (si 2)) (.t 23)),.M 5 24]
(Ra 25 [.o (.Mr 1 [[BM ⟨#[]⟩],[BM ⟨#[]⟩],[BM ⟨#[]⟩],[BM ⟨#[]⟩]] [(0,.c (BM ⟨#[109,97,105,110]⟩)),(1,.c (BM ⟨#[116,49]⟩)),(2,.c (BM ⟨#[116,50]⟩)),(3,.c (BM ⟨#[116,51]⟩))]),.b 6 [35,37,50,52,82,83] (.mv (.t 25))]
(Sq (Ra 0 [.K 7 0]
(Bl 0 (Sq (Ra 26 [.C 7,.C 5,.O .lss 26 27]
(cX 28 0))
(Sq (Bk 1 (Ra 31 [.y 3 (.cp (.t 3)),.C 7,.y 3 (.JT (.t 31)),.H 3 1 33,.S 1 34 32]
(Ra 35 [.y 6 (.cp (.t 6)),.C 7,.J 6 1 35 36,.L 37,.o (.Mr 1 [[BM ⟨#[]⟩],[BM ⟨#[]⟩]] [(0,.c (BM ⟨#[97]⟩)),(1,.c (BM ⟨#[98]⟩))]),.o (.RD z10 [(0,1,.t 38),(2,1,.t 39)]),.b 8 [48,49,57,58,59,69,80,81,88,91] (.bx 4 (.c (.agg z10))),.S 4 8 40]
(Sq (Ra 41 [.C 7,.Q 41 0]
(Ci 42 (Ra 0 [.K 9 1]
(Bl 2 (Sq (Ra 43 [.C 9,.C 5,.O .lss 43 44]
(cX 45 2))
(Sq (Bk 3 (Rc 48 [.m 8 3 8,.y 6 (.cp (.t 6)),.C 9,.J 6 1 50 51,.L 52,.o (.RD z2 [(0,1,.c (si 12)),(2,1,.t 53)]),.o (.Mr 11 [z2] [(0,.t 54)]),.o (.app 11 176 (.t 49) (.t 55)),.F 3 8,.S 1 57 56]))
(Rc 46 [.C 9,.P .add 46 1,.M 9 47])))))))
(Sq (.Zq [(3,2,9,60)] [Lt 58 8 3 8,Zu 59 8 58,i0 60 .fl,i1 61 3 (.cp (.t 3)),i1 62 3 (.JT (.t 61)),Lt 63 3 0 62,Zu 64 3 63,i0 65 (.WN 63 [] (.t 64) none [.c (si 3)]),i0 66 (.bin .add (.c (si 1)) (.t 65)),i0 67 (.WN 64 [] (.t 3) none [.c (si 2),.t 66]),i0 68 (.app 11 176 (.t 59) (.t 67)),Lt 69 8 3 8,iS 1 69 68])
(Sq (Ra 70 [.C 7,.Q 70 0,.C 71,.G 72 true,.r 3 0,.o (.WN 63 [] (.t 76) none [.c (si 3)]),.P .eql 77 2,.e,.W 72 78]
(Ci 79 (Rc 80 [.m 8 3 8,.y 6 (.cp (.t 6)),.y 6 (.VA 1 (.t 82) (.c (si 1))),.L 83,.o (.RD z2 [(0,1,.c (si 13)),(2,1,.t 84)]),.o (.Mr 11 [z2] [(0,.t 85)]),.o (.app 11 176 (.t 81) (.t 86)),.F 3 8,.S 1 88 87])))
(.gz false 8 [(0,3,0)] (.gz false 8 [(0,2,0)] (Rc 89 [.m 4 1 4,.y 8 (.ld true 4 (.t 8)),.o (.Mr 4 [z10] [(0,.t 91)]),.o (.app 4 72 (.t 90) (.t 92)),.F 1 4,.S 1 94 93])))))))))
(Rc 29 [.C 7,.P .add 29 1,.M 7 30])))))
(Sq (Ra 96 [.y 4 (.ld true 2 (.t 4)),.c 57 [96] 0,.w 95,.C 97,.w 98,.o (.ext (.t 95) 0),.o (.ext (.t 95) 1),.M 10 98,.M 11 99]
(Ra 100 [.C 10,.P .neq 100 0]
(Ci 101 (Rb 102 [.c 62 [] 2,.o (.Mr 1 [[BM ⟨#[]⟩],[BM ⟨#[]⟩]] [(0,.c (BM ⟨#[97]⟩)),(1,.c (BM ⟨#[98]⟩))]),.o (.call 66 [.c (si 1)] 1),.o (.call 65 [.c (BM ⟨#[120]⟩),.t 104] 1),.o (.Mr 11 [z2] [(0,.t 105)]),.o (.RD z10 [(0,1,.c (BM ⟨#[109,97,105,110]⟩)),(2,1,.t 103),(3,1,.t 106)]),.o (.Mr 4 [z10] [(0,.t 107)]),.o (.RD z13 [(0,1,.t 102),(1,1,.t 108)]),.S 2 2 109]))))
(Rb 110 [.y 4 (.ld true 2 (.t 4)),.S 2 2 110]))))))))
def f28g:Gi:=⟨[(19,[3]),(20,[3]),(21,[3]),(22,[3]),(31,[3]),(33,[3]),(34,[3]),(35,[6]),(37,[6]),(48,[8]),(49,[8]),(50,[6]),(52,[6]),(57,[8]),(58,[8]),(59,[8]),(61,[3]),(62,[3]),(63,[3]),(64,[3]),(69,[8]),(73,[3]),(74,[3]),(75,[3]),(76,[3]),(80,[8]),(81,[8]),(82,[6]),(83,[6]),(88,[8]),(89,[4]),(90,[4]),(91,[8]),(94,[4]),(96,[4]),(110,[4])]⟩
def f28r:List RV:=[.cell 2 true 2]
def f28:FI:=⟨f28c,f28g,f28r⟩
theorem chk28:JP Tryz.prog Tryz.f28 f28=true:=by kernel_rfl
namespace C5
def J5 (p_2:AQ):ABp AQ:=
(Bg p_2).bind λv_5=>
if v_5.1 != 0 then
(G0).bind λv_6=>
(Kh 1).bind λv_7=>
(Fh (⟨#[120]⟩:ABq) v_7).bind λv_8=>
some (AQ.mk v_6 [(CZ.mk (⟨#[109,97,105,110]⟩:ABq) 0 [(⟨#[97]⟩:ABq),(⟨#[98]⟩:ABq)] [v_8])])
else
some p_2
def J4 (L1:AM->AQ->Int->ABp AQ) (i:Int) (m_3:AM) (p_1:AQ):ABp AQ:=
L1 m_3 p_1 (Ap (i+1))
def J3 (L1:AM->AQ->Int->ABp AQ) (i:Int) (p:AQ) (m_2:AM) (t_2:CZ):ABp AQ:=
if Al (p.AA.length+1) 72=true then
J4 L1 i m_2 (AQ.mk p.Decls (p.AA++[t_2]))
else none
def J2 (L1:AM->AQ->Int->ABp AQ) (i:Int) (p:AQ) (qP:CZ) (dV:(List AP)×AM) (m_1:AM) (t79v:Bool):ABp AQ:=
if t79v then
if Al ((qP.Body++dV.1).length+1) 176=true then
J3 L1 i p m_1 (CZ.mk qP.Name qP.Ep qP.HB ((qP.Body++dV.1)++[(AP.mk 13 0 (⟨#[116,49]⟩:ABq) (⟨#[]⟩:ABq) [] (A4.mk 0 0 (⟨#[]⟩:ABq) []) [] [])]))
else none
else
J3 L1 i p m_1 (CZ.mk qP.Name qP.Ep qP.HB (qP.Body++dV.1))
def J1 (L1:AM->AQ->Int->ABp AQ) (i:Int) (m:AM) (p:AQ) (qP:CZ):ABp AQ:=
(BU m.t 3).bind λv_2=>
(FP BT (AM.mk v_2.2 i m.left m.HY m.tx m.atomic m.loop m.held) 2 (Ap (1+v_2.1))).bind λdV=>
if Al (qP.Body.length+dV.1.length) 176=true then
if i==0 then
(BU dV.2.t 3).bind λv_4=>
J2 L1 i p qP dV (AM.mk v_4.2 dV.2.BV dV.2.left dV.2.HY dV.2.tx dV.2.atomic dV.2.loop dV.2.held) (v_4.1==2)
else
J2 L1 i p qP dV dV.2 false
else none
def L2 (L1:AM->AQ->Int->ABp AQ) (i:Int) (m:AM) (p:AQ) (XD:Int×EH) (L2:CZ->Int->ABp AQ) (t:CZ) (k:Int):ABp AQ:=
if decide (k<(Ap (2+XD.1)))then
(gt [(⟨#[109,97,105,110]⟩:ABq),(⟨#[116,49]⟩:ABq),(⟨#[116,50]⟩:ABq),(⟨#[116,51]⟩:ABq)] k).bind λUx=>
if Al (t.Body.length+1) 176=true then
L2 (CZ.mk t.Name t.Ep t.HB (t.Body++[(AP.mk 12 0 Ux (⟨#[]⟩:ABq) [] (A4.mk 0 0 (⟨#[]⟩:ABq) []) [] [])])) (Ap (k+1))
else none
else
J1 L1 i m p t
def C2 (L1:AM->AQ->Int->ABp AQ) (i:Int) (m:AM) (p:AQ) (XD:Int×EH):Nat->CZ->Int->ABp AQ
|0,_,_=>none
|n+1,t,k=>L2 L1 i m p XD (C2 L1 i m p XD n) t k
def L1 (XD:Int×EH) (L1:AM->AQ->Int->ABp AQ) (m:AM) (p:AQ) (i:Int):ABp AQ:=
if decide (i<(Ap (2+XD.1)))then
(gt [(⟨#[109,97,105,110]⟩:ABq),(⟨#[116,49]⟩:ABq),(⟨#[116,50]⟩:ABq),(⟨#[116,51]⟩:ABq)] i).bind λx=>
if i==0 then
C2 L1 i m p XD BT (CZ.mk x 0 [(⟨#[97]⟩:ABq),(⟨#[98]⟩:ABq)] []) 1
else
J1 L1 i m p (CZ.mk x 0 [(⟨#[97]⟩:ABq),(⟨#[98]⟩:ABq)] [])
else
J5 p
def Aa (XD:Int×EH):Nat->AM->AQ->Int->ABp AQ
|0,_,_,_=>none
|n+1,m,p,i=>L1 XD (Aa XD n) m p i
end C5
section
open C5
def C5 (l:List Int):ABp AQ:=
(G0).bind λv=>
(BU (EH.mk l 0) 3).bind λXD=>
Aa XD BT (AM.mk XD.2 0 20 false false false false []) (AQ.mk v []) 0
theorem UT {l:List Int} {r:AQ} (h:C5 l=some r):Says Tryz.prog 28 [vS 1 YL l] (.agg (Bu r)):=by
 refine cU mix Tryz.func28 chk28 (AAa (by kernel_rfl)) rfl ?_
 simp only[f28,f28c,f28g,f28r]
 repeat' first
  |with_reducible exact Bi h
  |with_reducible refine gBm eS h λ_ _ h=> ?_
  |with_reducible refine gBe h (by assumption) λh=> ?_
  |with_reducible refine gBk h λ_ _ h=> ?_
  | (with_reducible refine cSk h λg h=> ?_
     try simp only[ABR,ABI,ABS]at g)
  | (with_reducible refine bSs h λh=> ?_
     try simp +decide only[go_sem, *]
     refine⟨_,by first|exact QG (by assumption),?_⟩)
  | (with_reducible refine bSk h λ_ g h=> ?_
     try simp +decide only[go_sem, *]
     refine⟨_,by first|exact QG g|exact Jy g|exact Og g|exact Oc g,?_⟩)
  | (with_reducible refine bSk h λ_ g h=> ?_
     try simp +decide only[go_sem, *]
     refine mF.intro (by first|exact Hh g|exact Of g) rfl ?_ ?_ ?_
     . rfl
     . first|rfl|simp +decide only[go_sem, *])
  | (with_reducible cases h
     simp +decide only[go_sem, *]
     done)
  |simp only[eq_self,AAs,AAe,AAW]at h
  |simp +decide only[go_sem, *]
  | (with_reducible refine Ir (λn τ=>∃XD:Int×EH,∃m:AM,∃p:AQ,∃i:Int,(τ 2=bA 2 z13/\τ 3=bA 8 (Bw m)/\τ 4=bA 2 [vO 6 JQ p.Decls,vO 4 Hz p.AA]/\τ 5=si (Ap (2+XD.1))/\τ 6= .own false 1 (z14)/\τ 7=si i)/\Aa XD n m p i=some r) ⟨_,_,_,_,?_,h⟩ ?_
     rotate_left
     rintro(_|n1) τ N ⟨XD,_,_,_,_,h⟩ k1
     . exact Bi h
     rw[Aa]at h)
  | (with_reducible refine Ir (λn τ=>∃i:Int,∃m:AM,∃p:AQ,∃t:CZ,∃k:Int,(τ 2=bA 2 z13/\τ 3=bA 8 [bA 2 (Tt m.t),si i,si m.left,sb m.HY,sb m.tx,sb m.atomic,sb m.loop,vO 1 eS m.held]/\τ 4=bA 2 [vO 6 JQ p.Decls,vO 4 Hz p.AA]/\τ 5=si (Ap (2+XD.1))/\τ 6= .own false 1 (z14)/\τ 7=si i/\τ 8=bA 4 (aU t)/\τ 9=si k)/\C2 (Aa XD n1) i m p XD n t k=some r) ⟨_,_,_,_,_,?_,h⟩ ?_
     rotate_left
     rintro(_|n2) τ N ⟨i,m,p,_,_,_,h⟩ k2
     . exact Bi h
     rw[C2]at h)
  |with_reducible refine RJ k2 ⟨_,_,_,_,_,?_,h⟩
  |with_reducible refine RJ k1 ⟨_,_,_,_,?_,h⟩
  |simp only[*,eq_self,AAs,AAe,AAW,decide_true,decide_false]at h
  | (with_reducible refine bI h ?_ ?_
     all_goals clear h;intro _ h)
  | (simp[Hz,eS];done)
  |unfold C5 at h
  |unfold J5 at h
  |unfold J4 at h
  |unfold J3 at h
  |unfold J2 at h
  |unfold J1 at h
  |unfold L2 at h
  |unfold L1 at h
end
namespace DD
def J5 (w:AD):ABp AD:=
some w
def L3 (d:AQ) (L3:AD->Int->ABp AD) (f:AD) (i:Int):ABp AD:=
if decide (i<(d.AA.length:Int))then
(gt d.AA i).bind λo=>
if Al (f.AA.length+1) 16=true then
(IG BT f.A7 i 0 o.Body).bind λt=>
L3 (AD.mk f.Cells f.AG f.Af f.AK (f.AA++[o.Name]) t.1) (Ap (i+1))
else none
else
J5 f
def Gm (d:AQ):Nat->AD->Int->ABp AD
|0,_,_=>none
|n+1,f,i=>L3 d (Gm d n) f i
def J4 (d:AQ) (v:AD):ABp AD:=
Gm d BT v 0
def J3 (L1:AD->Int->ABp AD) (c:Int) (u:AD):ABp AD:=
L1 u (Ap (c+1))
def L2 (L1:AD->Int->ABp AD) (c:Int) (b:EM) (L2:AD->Int->ABp AD) (e:AD) (j:Int):ABp AD:=
if decide (j<(if 1>b.B0 then 1 else b.B0))then
if Al (e.Cells.length+1) 48=true then
L2 (AD.mk (e.Cells++[(DB.mk b.Name j b.B0 (b.Kind==2) b.Init)]) e.AG e.Af e.AK e.AA e.A7) (Ap (j+1))
else none
else
J3 L1 c e
def C2 (L1:AD->Int->ABp AD) (c:Int) (b:EM):Nat->AD->Int->ABp AD
|0,_,_=>none
|n+1,e,j=>L2 L1 c b (C2 L1 c b n) e j
def J2 (L1:AD->Int->ABp AD) (c:Int) (a:AD) (b:EM) (p:Bool):ABp AD:=
if p then
if Al (a.AG.length+1) 24=true then
J3 L1 c (AD.mk a.Cells (a.AG++[(Ic.mk b.Name (b.Kind==4))]) a.Af a.AK a.AA a.A7)
else none
else
if b.Kind==5 then
(EY a.AG b.On).bind λs=>
if Al (a.Af.length+1) 24=true then
J3 L1 c (AD.mk a.Cells a.AG (a.Af++[(LL.mk b.Name s)]) a.AK a.AA a.A7)
else none
else
if Al (a.AK.length+1) 16=true then
J3 L1 c (AD.mk a.Cells a.AG a.Af (a.AK++[b.Name]) a.AA a.A7)
else none
def J1 (L1:AD->Int->ABp AD) (c:Int) (a:AD) (b:EM) (l:Bool):ABp AD:=
if l then
C2 L1 c b BT a 0
else
if b.Kind==3 then
J2 L1 c a b (b.Kind==3)
else
J2 L1 c a b (b.Kind==4)
def L1 (d:AQ) (L1:AD->Int->ABp AD) (a:AD) (c:Int):ABp AD:=
if decide (c<(d.Decls.length:Int))then
(gt d.Decls c).bind λb=>
if b.Kind==1 then
J1 L1 c a b (b.Kind==1)
else
J1 L1 c a b (b.Kind==2)
else
J4 d a
def Aa (d:AQ):Nat->AD->Int->ABp AD
|0,_,_=>none
|n+1,a,c=>L1 d (Aa d n) a c
end DD
section
open DD
def DD (d:AQ):ABp AD:=
(Bg d).bind λq=>
if q.1 != 0 then
some (AD.mk [] [] [] [] [] [])
else
Aa d BT (AD.mk [] [] [] [] [] []) 0
theorem Wh {d:AQ} {r:AD} (h:DD d=some r):Says Tryz.prog 58 [.agg (Bu d)] (.agg (Mx r)):=by
 refine kO mix Tryz.func58 (hn [(1,[19,25,95,103,116]),(3,[17,32,33,38,49,50,64,68,69,78,81,82,85,86,93,101,102,111,113,114,125,126]),(7,[30,34,43,51,54,56,59,70,72,83,87]),(122,[123])] [(13,1)] (E:=[(26,(.Zq [(122,10,11,112)] [Lt 113 3 5 3,Zu 114 3 113,iC 115 9,Lt 116 1 1 1,iL 117 116,iC 118 9,iI 119 4 117 118,iF 120 3 119,iL 121 120,⟨some ⟨122,[123],[]⟩,.call 113 [.t 114,.t 115,.c (si 0),.t 121] 3,none⟩,i0 112 (.flk (.t 122) 1),i1 123 122 (.ext (.t 122) 0),i0 124 .fl,Lt 125 3 5 3,iS 1 125 123]))])) ?_
 have a1:= @Jy
 have a2:= @Ul
 have a3:= @Ni
 have l3:=λn1 n2 n3 n4:Nat=>Ax λn τ=>∃(f:AD) (i:Int),(τ 1=bA 2 (Bu d)/\τ 2=bA 6 z7/\τ 3=bA 6 (Mx f)/\τ 9=si i)/\Gm d n f i=some r
 have l1:=λn1 n2 n3 n4:Nat=>Ax λn τ=>∃(a:AD) (c:Int),(τ 1=bA 2 (Bu d)/\τ 2=bA 6 z7/\τ 3=bA 6 (Mx a)/\τ 6=si c)/\Aa d n a c=some r
 have l2:=λn1 n2 n3 n4:Nat=>Ax λn τ=>∃(c:Int) (b:EM) (e:AD) (j:Int),(τ 1=bA 2 (Bu d)/\τ 2=bA 6 z7/\τ 3=bA 6 (Mx e)/\τ 6=si c/\τ 7=bA 6 (JQ b)/\τ 8=si j)/\C2 (Aa d n1) c b n e j=some r
 have c1:=λn1 n2 n3 n4:Nat=>Bh 1 λτ=>∃(c:Int) (a:AD) (b:EM) (l:Bool),(τ 1=bA 2 (Bu d)/\τ 2=bA 6 z7/\τ 3=bA 6 (Mx a)/\τ 6=si c/\τ 7=bA 6 (JQ b)/\τ 31=si b.Kind/\τ 39=sb l)/\J1 (Aa d n1) c a b l=some r
 unfold DD at h
 exact walk
end
namespace Gk
def J3 (o:List AH) (q:Ad):ABp ((List AH)×Ad):=
some (o,q)
def J2 (L1:(List AH)->Ad->Int->ABp ((List AH)×Ad)) (c:Int) (l:List AH) (p:Ad):ABp ((List AH)×Ad):=
L1 l p (Ap (c+1))
def J1 (L1:(List AH)->Ad->Int->ABp ((List AH)×Ad)) (b:BF) (a:List BK) (c:Int) (d:List AH) (e:Ad) (s:Bool):ABp ((List AH)×Ad):=
if s then
(gt a c).bind λt=>
(BE b e t).bind λj=>
if j.2.2 then
if Al (d.length+1) 88=true then
J2 L1 c (d++[j.2.1]) j.1
else none
else
J2 L1 c d e
else
J3 d e
def L1 (b:BF) (a:List BK) (L1:(List AH)->Ad->Int->ABp ((List AH)×Ad)) (d:List AH) (e:Ad) (c:Int):ABp ((List AH)×Ad):=
if decide (c<(a.length:Int))then
J1 L1 b a c d e (decide ((d.length:Int)<400))
else
J1 L1 b a c d e false
def Aa (b:BF) (a:List BK):Nat->(List AH)->Ad->Int->ABp ((List AH)×Ad)
|0,_,_,_=>none
|n+1,d,e,c=>L1 b a (Aa b a n) d e c
end Gk
section
open Gk
def Gk (b:BF) (i:Ad) (f:List AH) (a:List BK):ABp ((List AH)×Ad):=
Aa b a BT f i 0
theorem Xz {b:BF} {i:Ad} {f:List AH} {a:List BK} {r:(List AH)×Ad} (h:Gk b i f a=some r):Says Tryz.prog 37 [.agg (I6 b),.agg (Jp i),vO 7 BG f,vS 2 Iu a] (.BJ [vO 7 BG r.1,.agg (Jp r.2)]):=by
 refine kO mix Tryz.func37 (hn [(2,[19,38,42])]) ?_
 have a1:= @Xx
 have l1:=λn1 n2 n3 n4:Nat=>Ax λn τ=>∃(d:List AH) (e:Ad) (c:Int),(τ 2=vO 7 BG d/\τ 3=vS 2 Iu a/\τ 4=bA 7 (I6 b)/\τ 5=bA 7 (Jp e)/\τ 9=bA 7 z4/\τ 10=si c)/\Aa b a n d e c=some r
 unfold Gk at h
 exact walk
end
end Go.Abs
