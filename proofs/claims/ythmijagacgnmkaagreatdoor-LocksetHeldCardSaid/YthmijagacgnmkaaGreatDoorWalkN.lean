/- Typed programs of Go functions, and that the functions do what these say. -/
import Derived.Test.YthmijagacgnmkaaGreatDoorWalkM
set_option linter.unusedSimpArgs false
set_option linter.unusedVariables false
namespace Go.Abs
open Go.Proofs
set_option maxRecDepth 1000000
set_option maxHeartbeats 4000000
def f159c:IC:=(Ra 2 [.o (.bx 2 (.c (.agg z15)))]
(Ra 12 [.C 0,.o (.T6 [.own false 1 [],si 0] [(0,1,.t 12)]),.o (.bx 2 (.t 13)),.o (.T6 z22 [(0,1,.t 14),(2,1,.c (si 20))]),.o (.bx 8 (.t 15)),.b 3 [19,20,21,22,31,33,34,61,62,63,64,73,74,75,76] (.mv (.t 16))]
(Ra 17 [.c 186 [] 2,.o (.T6 z15 [(0,1,.t 17)]),.b 4 [89,90,94,96,110] (.bx 2 (.c (.agg z15))),.S 2 4 18]
(Ra 19 [.r 3 0,.o (.Up 104 [] (.t 22) none [.c (si 3)]),.o (.bin .add (.c (si 2)) (.t 23)),.M 5 24]
(Ra 25 [.o (.OD 1 [[BR ⟨#[]⟩],[BR ⟨#[]⟩],[BR ⟨#[]⟩],[BR ⟨#[]⟩]] [(0,.c (BR ⟨#[109,97,105,110]⟩)),(1,.c (BR ⟨#[116,49]⟩)),(2,.c (BR ⟨#[116,50]⟩)),(3,.c (BR ⟨#[116,51]⟩))]),.b 6 [35,37,50,52,82,83] (.mv (.t 25))]
(Sq (Ra 0 [.K 7 0]
(Bl 0 (Sq (Ra 26 [.C 7,.C 5,.O .lss 26 27]
(cX 28 0))
(Sq (Bk 1 (Ra 31 [.y 3 (.cp (.t 3)),.C 7,.y 3 (.Hx (.t 31)),.H 3 1 33,.S 1 34 32]
(Ra 35 [.y 6 (.cp (.t 6)),.C 7,.J 6 1 35 36,.L 37,.o (.OD 1 [[BR ⟨#[]⟩],[BR ⟨#[]⟩]] [(0,.c (BR ⟨#[97]⟩)),(1,.c (BR ⟨#[98]⟩))]),.o (.T6 z12 [(0,1,.t 38),(2,1,.t 39)]),.b 8 [48,49,57,58,59,69,80,81,88,91] (.bx 4 (.c (.agg z12))),.S 4 8 40]
(Sq (Ra 41 [.C 7,.Q 41 0]
(Ci 42 (Ra 0 [.K 9 1]
(Bl 2 (Sq (Ra 43 [.C 9,.C 5,.O .lss 43 44]
(cX 45 2))
(Sq (Bk 3 (Rc 48 [.m 8 3 8,.y 6 (.cp (.t 6)),.C 9,.J 6 1 50 51,.L 52,.o (.T6 z5 [(0,1,.c (si 12)),(2,1,.t 53)]),.o (.OD 11 [z5] [(0,.t 54)]),.o (.app 11 176 (.t 49) (.t 55)),.F 3 8,.S 1 57 56]))
(Rc 46 [.C 9,.P .add 46 1,.M 9 47])))))))
(Sq (.dS [(3,2,9,60)] [Np 58 8 3 8,Zu 59 8 58,i0 60 .fl,i1 61 3 (.cp (.t 3)),i1 62 3 (.Hx (.t 61)),Np 63 3 0 62,Zu 64 3 63,i0 65 (.Up 104 [] (.t 64) none [.c (si 3)]),i0 66 (.bin .add (.c (si 1)) (.t 65)),i0 67 (.Up 187 [] (.t 3) none [.c (si 2),.t 66]),i0 68 (.app 11 176 (.t 59) (.t 67)),Np 69 8 3 8,iS 1 69 68])
(Sq (Ra 70 [.C 7,.Q 70 0,.C 71,.G 72 true,.r 3 0,.o (.Up 104 [] (.t 76) none [.c (si 3)]),.P .eql 77 2,.e,.W 72 78]
(Ci 79 (Rc 80 [.m 8 3 8,.y 6 (.cp (.t 6)),.y 6 (.Yz 1 (.t 82) (.c (si 1))),.L 83,.o (.T6 z5 [(0,1,.c (si 13)),(2,1,.t 84)]),.o (.OD 11 [z5] [(0,.t 85)]),.o (.app 11 176 (.t 81) (.t 86)),.F 3 8,.S 1 88 87])))
(.gz false 8 [(0,3,0)] (.gz false 8 [(0,2,0)] (Rc 89 [.m 4 1 4,.y 8 (.ld true 4 (.t 8)),.o (.OD 4 [z12] [(0,.t 91)]),.o (.app 4 72 (.t 90) (.t 92)),.F 1 4,.S 1 94 93])))))))))
(Rc 29 [.C 7,.P .add 29 1,.M 7 30])))))
(Sq (Ra 96 [.y 4 (.ld true 2 (.t 4)),.c 181 [96] 0,.w 95,.C 97,.w 98,.o (.ext (.t 95) 0),.o (.ext (.t 95) 1),.M 10 98,.M 11 99]
(Ra 100 [.C 10,.P .neq 100 0]
(Ci 101 (Rb 102 [.c 186 [] 2,.o (.OD 1 [[BR ⟨#[]⟩],[BR ⟨#[]⟩]] [(0,.c (BR ⟨#[97]⟩)),(1,.c (BR ⟨#[98]⟩))]),.o (.call 189 [.c (si 1)] 1),.o (.call 188 [.c (BR ⟨#[120]⟩),.t 104] 1),.o (.OD 11 [z5] [(0,.t 105)]),.o (.T6 z12 [(0,1,.c (BR ⟨#[109,97,105,110]⟩)),(2,1,.t 103),(3,1,.t 106)]),.o (.OD 4 [z12] [(0,.t 107)]),.o (.T6 z15 [(0,1,.t 102),(1,1,.t 108)]),.S 2 2 109]))))
(Rb 110 [.y 4 (.ld true 2 (.t 4)),.S 2 2 110]))))))))
def f159g:Gi:=⟨[(19,[3]),(20,[3]),(21,[3]),(22,[3]),(31,[3]),(33,[3]),(34,[3]),(35,[6]),(37,[6]),(48,[8]),(49,[8]),(50,[6]),(52,[6]),(57,[8]),(58,[8]),(59,[8]),(61,[3]),(62,[3]),(63,[3]),(64,[3]),(69,[8]),(73,[3]),(74,[3]),(75,[3]),(76,[3]),(80,[8]),(81,[8]),(82,[6]),(83,[6]),(88,[8]),(89,[4]),(90,[4]),(91,[8]),(94,[4]),(96,[4]),(110,[4])]⟩
def f159r:List RV:=[.cell 2 true 2]
def f159:FI:=⟨f159c,f159g,f159r⟩
theorem chk159:OY Tryz.prog Tryz.f159 f159=true:=by kernel_rfl
namespace Bn
def J5 (p_2:AQ):ABr AQ:=
(A2 p_2).bind λv_5=>
if v_5.1 != 0 then
(Eg).bind λv_6=>
(Jq 1).bind λv_7=>
(Em (⟨#[120]⟩:ABs) v_7).bind λv_8=>
some (AQ.mk v_6 [(Cd.mk (⟨#[109,97,105,110]⟩:ABs) 0 [(⟨#[97]⟩:ABs),(⟨#[98]⟩:ABs)] [v_8])])
else
some p_2
def J4 (L1:AO->AQ->Int->ABr AQ) (i:Int) (m_3:AO) (p_1:AQ):ABr AQ:=
L1 m_3 p_1 (Ay (i+1))
def J3 (L1:AO->AQ->Int->ABr AQ) (i:Int) (p:AQ) (m_2:AO) (t_2:Cd):ABr AQ:=
if Af (p.AA.length+1) 72=true then
J4 L1 i m_2 (AQ.mk p.Decls (p.AA++[t_2]))
else none
def J2 (L1:AO->AQ->Int->ABr AQ) (i:Int) (p:AQ) (vZ:Cd) (kH:(List AP)×AO) (m_1:AO) (t79v:Bool):ABr AQ:=
if t79v then
if Af ((vZ.Body++kH.1).length+1) 176=true then
J3 L1 i p m_1 (Cd.mk vZ.Name vZ.FG vZ.GG ((vZ.Body++kH.1)++[(AP.mk 13 0 (⟨#[116,49]⟩:ABs) (⟨#[]⟩:ABs) [] (A7.mk 0 0 (⟨#[]⟩:ABs) []) [] [])]))
else none
else
J3 L1 i p m_1 (Cd.mk vZ.Name vZ.FG vZ.GG (vZ.Body++kH.1))
def J1 (L1:AO->AQ->Int->ABr AQ) (i:Int) (m:AO) (p:AQ) (vZ:Cd):ABr AQ:=
(Ak m.t 3).bind λv_2=>
(Dl BU (AO.mk v_2.2 i m.left m.HY m.tx m.atomic m.loop m.held) 2 (Ay (1+v_2.1))).bind λkH=>
if Af (vZ.Body.length+kH.1.length) 176=true then
if i==0 then
(Ak kH.2.t 3).bind λv_4=>
J2 L1 i p vZ kH (AO.mk v_4.2 kH.2.BX kH.2.left kH.2.HY kH.2.tx kH.2.atomic kH.2.loop kH.2.held) (v_4.1==2)
else
J2 L1 i p vZ kH kH.2 false
else none
def L2 (L1:AO->AQ->Int->ABr AQ) (i:Int) (m:AO) (p:AQ) (aR:Int×Ab) (L2:Cd->Int->ABr AQ) (t:Cd) (k:Int):ABr AQ:=
if decide (k<(Ay (2+aR.1)))then
(gt [(⟨#[109,97,105,110]⟩:ABs),(⟨#[116,49]⟩:ABs),(⟨#[116,50]⟩:ABs),(⟨#[116,51]⟩:ABs)] k).bind λx_1=>
if Af (t.Body.length+1) 176=true then
L2 (Cd.mk t.Name t.FG t.GG (t.Body++[(AP.mk 12 0 x_1 (⟨#[]⟩:ABs) [] (A7.mk 0 0 (⟨#[]⟩:ABs) []) [] [])])) (Ay (k+1))
else none
else
J1 L1 i m p t
def Cf (L1:AO->AQ->Int->ABr AQ) (i:Int) (m:AO) (p:AQ) (aR:Int×Ab):Nat->Cd->Int->ABr AQ
|0,_,_=>none
|n+1,t,k=>L2 L1 i m p aR (Cf L1 i m p aR n) t k
def L1 (aR:Int×Ab) (L1:AO->AQ->Int->ABr AQ) (m:AO) (p:AQ) (i:Int):ABr AQ:=
if decide (i<(Ay (2+aR.1)))then
(gt [(⟨#[109,97,105,110]⟩:ABs),(⟨#[116,49]⟩:ABs),(⟨#[116,50]⟩:ABs),(⟨#[116,51]⟩:ABs)] i).bind λx=>
if i==0 then
Cf L1 i m p aR BU (Cd.mk x 0 [(⟨#[97]⟩:ABs),(⟨#[98]⟩:ABs)] []) 1
else
J1 L1 i m p (Cd.mk x 0 [(⟨#[97]⟩:ABs),(⟨#[98]⟩:ABs)] [])
else
J5 p
def AZ (aR:Int×Ab):Nat->AO->AQ->Int->ABr AQ
|0,_,_,_=>none
|n+1,m,p,i=>L1 aR (AZ aR n) m p i
end Bn
section
open Bn
def Bn (l:List Int):ABr AQ:=
(Eg).bind λv=>
(Ak (Ab.mk l 0) 3).bind λaR=>
AZ aR BU (AO.mk aR.2 0 20 false false false false []) (AQ.mk v []) 0
theorem VN {l:List Int} {r:AQ} (h:Bn l=some r):Says Tryz.prog 159 [vS 1 Yf l] (.agg (CC r)):=by
 refine jB mix Tryz.func159 chk159 (AAc (by kernel_rfl)) rfl ?_;simp only[f159,f159c,f159g,f159r]
 repeat' first
  |with_reducible exact EO h
  |with_reducible refine gBm eS h λ_ _ h=> ?_
  |with_reducible refine gBe h (by assumption) λh=> ?_
  |with_reducible refine gBk h λ_ _ h=> ?_
  | (with_reducible refine cSk h λg h=> ?_
     try simp only[ABM,ABN,ABX]at g)
  | (with_reducible refine bSs h λh=> ?_
     try simp +decide only[go_sem, *]
     refine⟨_,by first|exact Qt (by assumption),?_⟩)
  | (with_reducible refine bSk h λ_ g h=> ?_
     try simp +decide only[go_sem, *]
     refine⟨_,by first|exact Qt g|exact Kb g|exact PU g|exact PQ g,?_⟩)
  | (with_reducible refine bSk h λ_ g h=> ?_
     try simp +decide only[go_sem, *]
     refine rE.intro (by first|exact DO g|exact PT g) rfl ?_ ?_ ?_
     . rfl
     . first|rfl|simp +decide only[go_sem, *])
  | (with_reducible cases h
     simp +decide only[go_sem, *]
     done)
  |simp only[eq_self,AAq,AAd,AAY]at h
  |simp +decide only[go_sem, *]
  | (with_reducible refine gS (λn τ=>∃aR:Int×Ab,∃m:AO,∃p:AQ,∃i:Int,(τ 2=bA 2 z15/\τ 3=bA 8 (CH m)/\τ 4=bA 2 [vO 6 Jm p.Decls,vO 4 Ie p.AA]/\τ 5=si (Ay (2+aR.1))/\τ 6= .own false 1 (z19)/\τ 7=si i)/\AZ aR n m p i=some r) ⟨_,_,_,_,?_,h⟩ ?_
     rotate_left;rintro(_|n1) τ N ⟨aR,_,_,_,_,h⟩ k1
     . exact EO h
     rw[AZ]at h)
  | (with_reducible refine gS (λn τ=>∃i:Int,∃m:AO,∃p:AQ,∃t:Cd,∃k:Int,(τ 2=bA 2 z15/\τ 3=bA 8 [bA 2 (Gz m.t),si i,si m.left,sb m.HY,sb m.tx,sb m.atomic,sb m.loop,vO 1 eS m.held]/\τ 4=bA 2 [vO 6 Jm p.Decls,vO 4 Ie p.AA]/\τ 5=si (Ay (2+aR.1))/\τ 6= .own false 1 (z19)/\τ 7=si i/\τ 8=bA 4 (fM t)/\τ 9=si k)/\Cf (AZ aR n1) i m p aR n t k=some r) ⟨_,_,_,_,_,?_,h⟩ ?_
     rotate_left;rintro(_|n2) τ N ⟨i,m,p,_,_,_,h⟩ k2
     . exact EO h
     rw[Cf]at h)
  |with_reducible refine zA k2 ⟨_,_,_,_,_,?_,h⟩
  |with_reducible refine zA k1 ⟨_,_,_,_,?_,h⟩
  |simp only[*,eq_self,AAq,AAd,AAY,decide_true,decide_false]at h
  | (with_reducible refine bI h ?_ ?_
     all_goals clear h;intro _ h)
  | (simp[Ie,eS];done)
  |unfold Bn at h
  |unfold J5 at h
  |unfold J4 at h
  |unfold J3 at h
  |unfold J2 at h
  |unfold J1 at h
  |unfold L2 at h
  |unfold L1 at h
end
namespace BV
def J5 (s:List Int):ABr ((List Int)×Int):=
some (s,0)
def J4 (L2:(List Ae)->(List Int)->Int->ABr ((List Int)×Int)) (c:Int) (t:List Ae) (q:List Int):ABr ((List Int)×Int):=
L2 t q (Ay (c+1))
def J3 (L2:(List Ae)->(List Int)->Int->ABr ((List Int)×Int)) (d:List Int) (f:List Ae) (c:Int) (l:Ae×Bool) (e:AE) (u:Bool):ABr ((List Int)×Int):=
if u then
(gt d e.Obj).bind λaa=>
J4 L2 c (f.set e.Obj.toNat l.1) (d.set e.Obj.toNat c)
else
J4 L2 c (f.set e.Obj.toNat l.1) d
def J2 (L2:(List Ae)->(List Int)->Int->ABr ((List Int)×Int)) (d:List Int) (f:List Ae) (a:Ac) (c:Int) (b:(List Be)×Int) (e:AE) (o:Bool):ABr ((List Int)×Int):=
if o then
J4 L2 c f d
else
(gt a.World.Cells e.Obj).bind λv=>
if !v.F6 then
(gt f e.Obj).bind λw=>
(gt b.1 c).bind λx=>
(Dw w e.Thread (e.Kind==4) x).bind λl=>
if l.2 then
(gt d e.Obj).bind λy=>
J3 L2 d f c l e (decide (y<0))
else
J3 L2 d f c l e false
else
J4 L2 c f d
def L2 (a:Ac) (b:(List Be)×Int) (L2:(List Ae)->(List Int)->Int->ABr ((List Int)×Int)) (f:List Ae) (d:List Int) (c:Int):ABr ((List Int)×Int):=
if decide (c<(a.AH.length:Int))then
(gt a.AH c).bind λe=>
if e.Kind != 3 then
J2 L2 d f a c b e (e.Kind != 4)
else
J2 L2 d f a c b e false
else
J5 d
def Cf (a:Ac) (b:(List Be)×Int):Nat->(List Ae)->(List Int)->Int->ABr ((List Int)×Int)
|0,_,_,_=>none
|n+1,f,d,c=>L2 a b (Cf a b n) f d c
def J1 (a:Ac) (b:(List Be)×Int) (p:List Int):ABr ((List Int)×Int):=
Cf a b BU (List.replicate a.World.Cells.length (Ae.mk 0 0 [])) p 0
def L1 (a:Ac) (b:(List Be)×Int) (L1:(List Int)->Int->ABr ((List Int)×Int)) (j:List Int) (i:Int):ABr ((List Int)×Int):=
if decide (i<((List.replicate a.World.Cells.length (0:Int)).length:Int))then
(gt j i).bind λz=>
L1 (j.set i.toNat (-1)) (Ay (i+1))
else
J1 a b j
def AZ (a:Ac) (b:(List Be)×Int):Nat->(List Int)->Int->ABr ((List Int)×Int)
|0,_,_=>none
|n+1,j,i=>L1 a b (AZ a b n) j i
end BV
section
open BV
def BV (a:Ac):ABr ((List Int)×Int):=
(HO a).bind λb=>
if b.2 != 0 then
some ([],b.2)
else
if 0≤(a.World.Cells.length:Int)/\(a.World.Cells.length:Int)≤(a.World.Cells.length:Int)/\Af a.World.Cells.length 40=true then
if 0≤(a.World.Cells.length:Int)/\(a.World.Cells.length:Int)≤(a.World.Cells.length:Int)/\Af a.World.Cells.length 8=true then
AZ a b BU (List.replicate a.World.Cells.length (0:Int)) 0
else none
else none
theorem Iz {a:Ac} {r:(List Int)×Int} (h:BV a=some r):Says Tryz.prog 29 [.agg (FP a)] (.BI [vO 1 eI r.1,si r.2]):=by refine kO mix Tryz.func29 (hn [(1,[21,22,26,27,40,58,59]),(6,[67,69,71,85]),(7,[31,36,38,88,90,94,97,99]),(10,[48,52,56,73,75])] [(20,2)] (E:=[(4,(Rc 21 [.F 0 1,.h 1 0 21,.Z 23,.o (.mk 3 40 [si 0,si 0,.sl false 1 []] (.t 24) (.t 24)),.b 6 [67,69,71,85] (.mv (.t 25))])),(5,(Rc 26 [.F 0 1,.h 1 0 26,.Z 28,.o (.mk 1 8 [si 0] (.t 29) (.t 29)),.b 7 [31,36,38,88,90,94,97,99] (.mv (.t 30))]))])) ?_;have a1:= @JI;have a2:= @OJ;have l2:=λn1 n2 n3 n4:Nat=>A0 λn τ=>∃(b:(List Be)×Int) (f:List Ae) (d:List Int) (c:Int),(τ 1=bA 7 (FP a)/\τ 4=vS 2 G6 b.1/\τ 6=vO 3 G5 f/\τ 7=vO 1 eI d/\τ 41=vS 7 Bi a.AH/\τ 42=si (a.AH.length:Int)/\τ 43=si c)/\Cf a b n f d c=some r;have l1:=λn1 n2 n3 n4:Nat=>A0 λn τ=>∃(b:(List Be)×Int) (j:List Int) (i:Int),(τ 1=bA 7 (FP a)/\τ 4=vS 2 G6 b.1/\τ 6= .own false 3 ((List.replicate a.World.Cells.length (Ae.mk 0 0 [])).map G5)/\τ 7=vO 1 eI j/\τ 32=si ((List.replicate a.World.Cells.length (0:Int)).length:Int)/\τ 33=si i)/\AZ a b n j i=some r;have c2:=λn1 n2 n3 n4:Nat=>Bo 2 λτ=>∃(b:(List Be)×Int) (d:List Int) (f:List Ae) (c:Int) (e:AE) (o:Bool),(τ 1=bA 7 (FP a)/\τ 4=vS 2 G6 b.1/\τ 6=vO 3 G5 f/\τ 7=vO 1 eI d/\τ 9=si c/\τ 10=bA 7 (Bi e)/\τ 41=vS 7 Bi a.AH/\τ 42=si (a.AH.length:Int)/\τ 43=si c/\τ 55=sb o)/\J2 (Cf a b n2) d f a c b e o=some r;unfold BV at h;exact walk
end
namespace Bm
def J5 (w:AB):ABr AB:=
some w
def L3 (d:AQ) (L3:AB->Int->ABr AB) (f:AB) (i:Int):ABr AB:=
if decide (i<(d.AA.length:Int))then
(gt d.AA i).bind λo=>
if Af (f.AA.length+1) 16=true then
(Gd BU f.BF i 0 o.Body).bind λt=>
L3 (AB.mk f.Cells f.AF f.Ah f.AK (f.AA++[o.Name]) t.1) (Ay (i+1))
else none
else
J5 f
def Hz (d:AQ):Nat->AB->Int->ABr AB
|0,_,_=>none
|n+1,f,i=>L3 d (Hz d n) f i
def J4 (d:AQ) (v:AB):ABr AB:=
Hz d BU v 0
def J3 (L1:AB->Int->ABr AB) (c:Int) (u:AB):ABr AB:=
L1 u (Ay (c+1))
def L2 (L1:AB->Int->ABr AB) (c:Int) (b:ET) (L2:AB->Int->ABr AB) (e:AB) (j:Int):ABr AB:=
if decide (j<(if 1>b.B7 then 1 else b.B7))then
if Af (e.Cells.length+1) 48=true then
L2 (AB.mk (e.Cells++[(DT.mk b.Name j b.B7 (b.Kind==2) b.Init)]) e.AF e.Ah e.AK e.AA e.BF) (Ay (j+1))
else none
else
J3 L1 c e
def Cf (L1:AB->Int->ABr AB) (c:Int) (b:ET):Nat->AB->Int->ABr AB
|0,_,_=>none
|n+1,e,j=>L2 L1 c b (Cf L1 c b n) e j
def J2 (L1:AB->Int->ABr AB) (c:Int) (a:AB) (b:ET) (p:Bool):ABr AB:=
if p then
if Af (a.AF.length+1) 24=true then
J3 L1 c (AB.mk a.Cells (a.AF++[(KE.mk b.Name (b.Kind==4))]) a.Ah a.AK a.AA a.BF)
else none
else
if b.Kind==5 then
(Dn a.AF b.On).bind λs=>
if Af (a.Ah.length+1) 24=true then
J3 L1 c (AB.mk a.Cells a.AF (a.Ah++[(Ty.mk b.Name s)]) a.AK a.AA a.BF)
else none
else
if Af (a.AK.length+1) 16=true then
J3 L1 c (AB.mk a.Cells a.AF a.Ah (a.AK++[b.Name]) a.AA a.BF)
else none
def J1 (L1:AB->Int->ABr AB) (c:Int) (a:AB) (b:ET) (l:Bool):ABr AB:=
if l then
Cf L1 c b BU a 0
else
if b.Kind==3 then
J2 L1 c a b (b.Kind==3)
else
J2 L1 c a b (b.Kind==4)
def L1 (d:AQ) (L1:AB->Int->ABr AB) (a:AB) (c:Int):ABr AB:=
if decide (c<(d.Decls.length:Int))then
(gt d.Decls c).bind λb=>
if b.Kind==1 then
J1 L1 c a b (b.Kind==1)
else
J1 L1 c a b (b.Kind==2)
else
J4 d a
def AZ (d:AQ):Nat->AB->Int->ABr AB
|0,_,_=>none
|n+1,a,c=>L1 d (AZ d n) a c
end Bm
section
open Bm
def Bm (d:AQ):ABr AB:=
(A2 d).bind λq=>
if q.1 != 0 then
some (AB.mk [] [] [] [] [] [])
else
AZ d BU (AB.mk [] [] [] [] [] []) 0
theorem Xx {d:AQ} {r:AB} (h:Bm d=some r):Says Tryz.prog 182 [.agg (CC d)] (.agg (LM r)):=by refine kO mix Tryz.func182 (hn [(1,[19,25,95,103,116]),(3,[17,32,33,38,49,50,64,68,69,78,81,82,85,86,93,101,102,111,113,114,125,126]),(7,[30,34,43,51,54,56,59,70,72,83,87]),(122,[123])] [(13,1)] (E:=[(26,(.dS [(122,10,11,112)] [Np 113 3 5 3,Zu 114 3 113,iC 115 9,Np 116 1 1 1,iL 117 116,iC 118 9,iI 119 4 117 118,iF 120 3 119,iL 121 120,⟨some ⟨122,[123],[]⟩,.call 219 [.t 114,.t 115,.c (si 0),.t 121] 3,none⟩,i0 112 (.flk (.t 122) 1),i1 123 122 (.ext (.t 122) 0),i0 124 .fl,Np 125 3 5 3,iS 1 125 123]))])) ?_;have a1:= @Kb;have a2:= @Vj;have a3:= @OS;have l3:=λn1 n2 n3 n4:Nat=>A0 λn τ=>∃(f:AB) (i:Int),(τ 1=bA 2 (CC d)/\τ 2=bA 6 z8/\τ 3=bA 6 (LM f)/\τ 9=si i)/\Hz d n f i=some r;have l1:=λn1 n2 n3 n4:Nat=>A0 λn τ=>∃(a:AB) (c:Int),(τ 1=bA 2 (CC d)/\τ 2=bA 6 z8/\τ 3=bA 6 (LM a)/\τ 6=si c)/\AZ d n a c=some r;have l2:=λn1 n2 n3 n4:Nat=>A0 λn τ=>∃(c:Int) (b:ET) (e:AB) (j:Int),(τ 1=bA 2 (CC d)/\τ 2=bA 6 z8/\τ 3=bA 6 (LM e)/\τ 6=si c/\τ 7=bA 6 (Jm b)/\τ 8=si j)/\Cf (AZ d n1) c b n e j=some r;have c1:=λn1 n2 n3 n4:Nat=>Bo 1 λτ=>∃(c:Int) (a:AB) (b:ET) (l:Bool),(τ 1=bA 2 (CC d)/\τ 2=bA 6 z8/\τ 3=bA 6 (LM a)/\τ 6=si c/\τ 7=bA 6 (Jm b)/\τ 31=si b.Kind/\τ 39=sb l)/\J1 (AZ d n1) c a b l=some r;unfold Bm at h;exact walk
end
namespace E7
def J3 (o:List AE) (q:Ai):ABr ((List AE)×Ai):=
some (o,q)
def J2 (L1:(List AE)->Ai->Int->ABr ((List AE)×Ai)) (c:Int) (l:List AE) (p:Ai):ABr ((List AE)×Ai):=
L1 l p (Ay (c+1))
def J1 (L1:(List AE)->Ai->Int->ABr ((List AE)×Ai)) (b:BL) (a:List Cv) (c:Int) (d:List AE) (e:Ai) (s:Bool):ABr ((List AE)×Ai):=
if s then
(gt a c).bind λt=>
(DB b e t).bind λj=>
if j.2.2 then
if Af (d.length+1) 88=true then
J2 L1 c (d++[j.2.1]) j.1
else none
else
J2 L1 c d e
else
J3 d e
def L1 (b:BL) (a:List Cv) (L1:(List AE)->Ai->Int->ABr ((List AE)×Ai)) (d:List AE) (e:Ai) (c:Int):ABr ((List AE)×Ai):=
if decide (c<(a.length:Int))then
J1 L1 b a c d e (decide ((d.length:Int)<400))
else
J1 L1 b a c d e false
def AZ (b:BL) (a:List Cv):Nat->(List AE)->Ai->Int->ABr ((List AE)×Ai)
|0,_,_,_=>none
|n+1,d,e,c=>L1 b a (AZ b a n) d e c
end E7
section
open E7
def E7 (b:BL) (i:Ai) (f:List AE) (a:List Cv):ABr ((List AE)×Ai):=
AZ b a BU f i 0
theorem ZE {b:BL} {i:Ai} {f:List AE} {a:List Cv} {r:(List AE)×Ai} (h:E7 b i f a=some r):Says Tryz.prog 156 [.agg (JU b),.agg (KR i),vO 7 Bi f,vS 2 JG a] (.BI [vO 7 Bi r.1,.agg (KR r.2)]):=by refine kO mix Tryz.func156 (hn [(2,[19,38,42])]) ?_;have a1:= @ZC;have l1:=λn1 n2 n3 n4:Nat=>A0 λn τ=>∃(d:List AE) (e:Ai) (c:Int),(τ 2=vO 7 Bi d/\τ 3=vS 2 JG a/\τ 4=bA 7 (JU b)/\τ 5=bA 7 (KR e)/\τ 9=bA 7 z3/\τ 10=si c)/\AZ b a n d e c=some r;unfold E7 at h;exact walk
end
end Go.Abs
