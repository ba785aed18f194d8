/- Go functions do what typed programs say. -/
import Derived.Test.YtdojkofgkcmagaaGreatDoorWalkG
import Derived.Test.YtdojkofgkcmagaaGreatDoorWalkH
import Derived.Shelf.Slices.SearchI
set_option linter.all false
namespace Go.Abs
open Go.Proofs Tryz
set_option maxRecDepth 1000000
set_option maxHeartbeats 4000000
def f27c:IC:=(Ra 2 [.b 1 [27,138,139,145,147,148] (.bx 15 (.t 0)),.o (.mv (.c (.own false 1 [])))]
(Ra 27 [.f 14 1,.M 3 28]
(Ra 29 [.C 3,.Z 29,.o (.mk 1 24 z15 (.t 30) (.t 30)),.b 4 [32,37,42,56,58,59,61,67,69,70,72,93,97,98,100,130,132,133,135,194,197,198,201,204,209,214,219,221,222,224,227,229,230,232,235,237,238,240,244] (.mv (.t 31))]
(Sq (Ra 32 [.y 4 (.cp (.t 4)),.Z 32,.Y 0]
(Bl 0 (Ra 35 [.O .lss 34 33]
(Sq (cX 35 0)
(Sq (Bk 1 (Ra 36 [.C 34,.M 5 36]
(Rc 37 [.y 4 (.cp (.t 4)),.C 5,.C 3,.Z 39,.o (.mk 1 1 [sb false] (.t 40) (.t 40)),.J 4 1 37 38,.S 1 42 41])))
(Rc 43 [.P .add 34 1,.w 34,.C 43]))))))
(Sq (Ra 44 [.C 3,.Z 44,.Y 0]
(Bl 2 (Ra 47 [.O .lss 46 45]
(Sq (cX 47 2)
(Sq (Bk 3 (Ra 48 [.C 46,.I 7 44 46,.A 7 49,.b 7 [102,119,121] (.bx 7 (.c (.agg z3))),.M 6 48,.S 7 7 50]
(O9 2 (Ra 51 [.C 3,.C 6,.c 69 [51,52] 0,.M 8 53]
(Ra 54 [.C 8,.P .geq 54 0]
(Ci 55 (Rc 56 [.y 4 (.cp (.t 4)),.C 8,.J 4 1 56 57,.l 4 58,.C 6,.J 4 1 59 60,.x ⟨none,.st 1 (.t 61) (.c (sb true)),none⟩]))))
(O9 3 (Ra 62 [.A 15 1,.C 6,.c 70 [62,63] 0,.M 9 64]
(Ra 65 [.C 9,.P .geq 65 0]
(Ci 66 (Rc 67 [.y 4 (.cp (.t 4)),.C 9,.J 4 1 67 68,.l 4 69,.C 6,.J 4 1 70 71,.x ⟨none,.st 1 (.t 72) (.c (sb true)),none⟩]))))
(Sq (Ra 73 [.A 15 1,.C 6,.b 75 [79] (.call 71 [.t 73,.t 74] 2),.w 76,.Z 75,.Y 0]
(Bl 4 (Ra 78 [.O .lss 77 76]
(Sq (cX 78 4)
(Sq (Bk 5 (Ra 79 [.J 75 1 75 77,.L 79,.M 11 80]
(Ra 81 [.A 15 1,.C 11,.c 32 [81,82] 2,.b 12 [84,88,89,94,95] (.mv (.t 83))]
(Ra 84 [.y 12 (.cp (.t 12)),.Z 84,.Q 85 1,.C 86,.G 87 true,.y 12 (.cp (.t 12)),.y 12 (.WL 1 (.t 88) (.c (si 0))),.L 89,.P .geq 90 0,.e,.W 87 91]
(Ci 92 (Rc 93 [.y 4 (.cp (.t 4)),.y 12 (.cp (.t 12)),.y 12 (.WL 1 (.t 94) (.c (si 0))),.L 95,.J 4 1 93 96,.l 4 97,.C 6,.J 4 1 98 99,.x ⟨none,.st 1 (.t 100) (.c (sb true)),none⟩]))))))
(Rc 101 [.P .add 77 1,.w 77,.C 101]))))))
(Sq (Ra 102 [.f 1 7,.P .neq 103 17]
(Ci 104 (.exit 3)))
(Ra 106 [.A 15 1,.C 6,.c 72 [106,107] 0,.w 105,.C 108,.w 109,.o (.ext (.t 105) 0),.o (.ext (.t 105) 1),.M 13 109,.M 14 110]
(Ra 111 [.C 14]
(Ci 111 (Ra 0 [.K 15 (-1),.K 16 0]
(Sq (Ra 112 [.C 3,.Z 112,.Y 0]
(Bl 6 (Ra 115 [.O .lss 114 113]
(Sq (cX 115 6)
(Sq (Bk 7 (Ra 116 [.C 114,.M 17 116]
(Ra 117 [.A 15 1,.C 17,.f 2 7,.f 0 7,.c 73 [117,118,120,122] 0]
(Ci 123 (Ra 124 [.C 17,.M 15 124]
(Rc 125 [.C 16,.P .add 125 1,.M 16 126]))))))
(Rc 127 [.P .add 114 1,.w 114,.C 127]))))))
(Ra 128 [.C 16,.Q 128 1]
(Ci 129 (Rc 130 [.y 4 (.cp (.t 4)),.C 15,.J 4 1 130 131,.l 4 132,.C 6,.J 4 1 133 134,.x ⟨none,.st 1 (.t 135) (.c (sb true)),none⟩]))))))))))))))
(Rc 136 [.P .add 46 1,.w 46,.C 136]))))))
(Sq (Ra 0 [.K 18 0]
(Bl 8 (Sq (Ra 137 [.C 18,.F 0 1,.h 1 1 138,.Z 140,.O .leq 137 141]
(cX 142 8))
(Sq (Bk 9 (Ra 145 [.F 0 1,.A 6 145,.F 7 1,.H 1 0 147,.A 4 148,.C 3,.C 18,.c 74 [146,149,150,151] 2,.b 19 [153,157,159,163] (.mv (.t 152))]
(Ra 153 [.y 19 (.cp (.t 19)),.Z 153,.Y 0]
(Bl 10 (Ra 156 [.O .lss 155 154]
(Sq (cX 156 10)
(Sq (Bk 11 (Ra 157 [.J 19 4 153 155,.A 4 157,.b 21 [165,169,179,186,195] (.bx 4 (.c (.agg z22))),.S 4 21 158]
(Ra 159 [.y 19 (.cp (.t 19)),.Z 159,.Y 0]
(Bl 12 (Ra 162 [.O .lss 161 160]
(Sq (cX 162 12)
(Sq (Bk 13 (Ra 163 [.J 19 4 159 161,.A 4 163,.b 23 [174,181,189,199] (.bx 4 (.c (.agg z22))),.S 4 23 164]
(O9 11 (Rc 165 [.f 1 21,.P .lss 166 0,.C 167,.G 168 true,.f 2 21,.P .geq 170 0,.e,.W 168 171,.C 172,.G 173 true,.f 1 23,.P .geq 175 0,.e,.W 173 176,.C 177,.G 178 true,.f 0 21,.f 0 23,.O .neq 180 182,.e,.W 178 183,.C 184,.G 185 true,.f 3 21,.C 187,.G 188 true,.f 3 23,.G 185 true,.o (.pick (.t 188) (.t 190) (.c (sb false))),.N 191,.e,.W 185 192])
(Ci 193 (Rc 194 [.y 4 (.cp (.t 4)),.f 2 21,.J 4 1 194 196,.l 4 197,.f 1 23,.J 4 1 198 200,.x ⟨none,.st 1 (.t 201) (.c (sb true)),none⟩])))))
(Rc 202 [.P .add 161 1,.w 161,.C 202]))))))))
(Rc 203 [.P .add 155 1,.w 155,.C 203]))))))))
(Rc 143 [.C 18,.P .add 143 1,.M 18 144])))))
(Sq (Ra 204 [.y 4 (.cp (.t 4)),.Z 204,.Y 0]
(Bl 14 (Ra 207 [.O .lss 206 205]
(Sq (cX 207 14)
(Sq (Bk 15 (Ra 208 [.C 206,.M 24 208]
(Ra 209 [.y 4 (.cp (.t 4)),.Z 209,.Y 0]
(Bl 16 (Ra 212 [.O .lss 211 210]
(Sq (cX 212 16)
(Sq (Bk 17 (Ra 213 [.C 211,.M 25 213]
(Ra 214 [.y 4 (.cp (.t 4)),.Z 214,.Y 0]
(Bl 18 (Ra 217 [.O .lss 216 215]
(Sq (cX 217 18)
(Sq (Bk 19 (Ra 218 [.C 216,.M 26 218]
(Ra 219 [.y 4 (.cp (.t 4)),.C 25,.J 4 1 219 220,.l 4 221,.C 24,.J 4 1 222 223,.L 224,.C 225,.G 226 true,.y 4 (.cp (.t 4)),.C 24,.y 4 (.WL 1 (.t 227) (.t 228)),.l 4 229,.C 26,.y 4 (.WL 1 (.t 230) (.t 231)),.L 232,.e,.W 226 233]
(Ci 234 (Rc 235 [.y 4 (.cp (.t 4)),.C 25,.J 4 1 235 236,.l 4 237,.C 26,.J 4 1 238 239,.x ⟨none,.st 1 (.t 240) (.c (sb true)),none⟩])))))
(Rc 241 [.P .add 216 1,.w 216,.C 241]))))))))
(Rc 242 [.P .add 211 1,.w 211,.C 242]))))))))
(Rc 243 [.P .add 206 1,.w 206,.C 243]))))))
(Rb 244 [.y 4 (.cp (.t 4)),.M 2 244]))))))))
def f27g:Gi:=⟨[(27,[1]),(32,[4]),(37,[4]),(42,[4]),(56,[4]),(58,[4]),(59,[4]),(61,[4]),(67,[4]),(69,[4]),(70,[4]),(72,[4]),(79,[75]),(84,[12]),(88,[12]),(89,[12]),(93,[4]),(94,[12]),(95,[12]),(97,[4]),(98,[4]),(100,[4]),(102,[7]),(119,[7]),(121,[7]),(130,[4]),(132,[4]),(133,[4]),(135,[4]),(138,[1]),(139,[1]),(145,[1]),(147,[1]),(148,[1]),(153,[19]),(157,[19]),(159,[19]),(163,[19]),(165,[21]),(169,[21]),(174,[23]),(179,[21]),(181,[23]),(186,[21]),(189,[23]),(194,[4]),(195,[21]),(197,[4]),(198,[4]),(199,[23]),(201,[4]),(204,[4]),(209,[4]),(214,[4]),(219,[4]),(221,[4]),(222,[4]),(224,[4]),(227,[4]),(229,[4]),(230,[4]),(232,[4]),(235,[4]),(237,[4]),(238,[4]),(240,[4]),(244,[4])]⟩
def f27r:List RV:=[.tmp 2]
def f27:FI:=⟨f27c,f27g,f27r⟩
def chk27:Nt prog Tryz.f27 f27:=by kernel_rfl
namespace Af
def J20(o_23:jb):ABm (List (List Bool)):=some o_23
def J19(L8:i4)(Hf:Int)(o_22:jb):=L8 o_22 (A9 (Hf+1))
def J18(L9:i4)(Ip:Int)(o_21:jb):=L9 o_21 (A9 (Ip+1))
def J17(L10:i4)(ML:Int)(o_20:jb):=L10 o_20 (A9 (ML+1))
def J16(L10:i4)(U6:jb)(Ip ML:Int)(t234v:Bool):=if t234v then(gt U6 Ip).bind λx_21=>(gt x_21 ML).bind λx_22=>J17 L10 ML (U6.set Ip.toNat (x_21.set ML.toNat true))
else
J17 L10 ML U6
def L10(L9:i4)(Qz:jb)(Hf Ip:Int)(L10:i4)(U6:jb)(ML:Int):=if decide (ML<(Qz.length:Int))then(gt U6 Ip).bind λx_17=>(gt x_17 Hf).bind λx_18=>if x_18 then(gt U6 Hf).bind λx_19=>(gt x_19 ML).bind λx_20=>J16 L10 U6 Ip ML x_20
else
J16 L10 U6 Ip ML false
else
J18 L9 Ip U6
def yP(L9:i4)(Qz:jb)(Hf Ip:Int):Nat->(List (List Bool))->Int->ABm (List (List Bool))
|0,_,_=>none
|n+1,U6,ML=>L10 L9 Qz Hf Ip (yP L9 Qz Hf Ip n) U6 ML
def L9(L8:i4)(PV:jb)(Hf:Int)(L9:i4)(Qz:jb)(Ip:Int):=if decide (Ip<(PV.length:Int))then
yP L9 Qz Hf Ip BQ Qz 0
else
J19 L8 Hf Qz
def L9r(L8:i4)(PV:jb)(Hf:Int):Nat->(List (List Bool))->Int->ABm (List (List Bool))
|0,_,_=>none
|n+1,Qz,Ip=>L9 L8 PV Hf (L9r L8 PV Hf n) Qz Ip
def L8(Tl:jb)(L8:i4)(PV:jb)(Hf:Int):=if decide (Hf<(Tl.length:Int))then
L9r L8 PV Hf BQ PV 0
else
J20 PV
def L8r(Tl:jb):Nat->(List (List Bool))->Int->ABm (List (List Bool))
|0,_,_=>none
|n+1,PV,Hf=>L8 Tl (L8r Tl n) PV Hf
def J15(Tl:jb):ABm (List (List Bool)):=L8r Tl BQ Tl 0
def J14(L5:i4)(k:Int)(o_15:jb):=L5 o_15 (A9 (k+1))
def J13(L6:i4)(Jo:Int)(o_14:jb):=L6 o_14 (A9 (Jo+1))
def gN(L7:i4)(Jp:Int)(o_13:jb):=L7 o_13 (A9 (Jp+1))
def P9(L7:i4)(PU:jb)(Jp:Int)(MB UC:AY)(x9:Bool):ABm (List (List Bool)):=if x9 then(gt PU MB.e7).bind λx_15=>(gt x_15 UC.YM).bind λx_16=>gN L7 Jp (PU.set MB.e7.toNat (x_15.set UC.YM.toNat true))
else
gN L7 Jp PU
def L7(L6:i4)(Jo:Int)(T7:kw)(MB:AY)(L7:i4)(PU:jb)(Jp:Int):=if decide (Jp<(T7.length:Int))then(gt T7 Jp).bind λUC=>if decide (MB.YM<0)then
if decide (MB.e7>=0)then
if decide (UC.YM>=0)then
if MB.cT != UC.cT then
if MB.ei then
P9 L7 PU Jp MB UC (!UC.ei)
else
P9 L7 PU Jp MB UC true
else
P9 L7 PU Jp MB UC false
else
P9 L7 PU Jp MB UC false
else
P9 L7 PU Jp MB UC false
else
P9 L7 PU Jp MB UC false
else
J13 L6 Jo PU
def L7r(L6:i4)(Jo:Int)(T7:kw)(MB:AY):Nat->(List (List Bool))->Int->ABm (List (List Bool))
|0,_,_=>none
|n+1,PU,Jp=>L7 L6 Jo T7 MB (L7r L6 Jo T7 MB n) PU Jp
def L6(L5:i4)(k:Int)(T7:kw)(L6:i4)(uM:jb)(Jo:Int):=if decide (Jo<(T7.length:Int))then(gt T7 Jo).bind λMB=>L7r L6 Jo T7 MB BQ uM 0
else
J14 L5 k uM
def L6r(L5:i4)(k:Int)(T7:kw):Nat->(List (List Bool))->Int->ABm (List (List Bool))
|0,_,_=>none
|n+1,uM,Jo=>L6 L5 k T7 (L6r L5 k T7 n) uM Jo
def L5(wv:AF)(L5:i4)(uL:jb)(k:Int):=if decide (k<=(wv.db.AK.length:Int))then(BE wv.db wv.de.dc wv.AA k).bind λT7=>L6r L5 k T7 BQ uL 0
else
J15 uL
def vY(wv:AF):Nat->(List (List Bool))->Int->ABm (List (List Bool))
|0,_,_=>none
|n+1,uL,k=>L5 wv (vY wv n) uL k
def OE(wv:AF)(o_9:jb):ABm (List (List Bool)):=vY wv BQ o_9 0
def J9(L2:i4)(Ep:Int)(o_8:jb):=L2 o_8 (A9 (Ep+1))
def J8(L2:i4)(qM:jb)(Ep only_2 many_2:Int):=if many_2==1 then(gt qM only_2).bind λx_11=>(gt x_11 Ep).bind λx_12=>J9 L2 Ep (qM.set only_2.toNat (x_11.set Ep.toNat true))
else
J9 L2 Ep qM
def J7(L4:mX)(P6 only_1 many_1:Int):=L4 only_1 many_1 (A9 (P6+1))
def L4(L2:i4)(qM:jb)(Ep:Int)(wv:AF)(Oy:AH)(L4:mX)(oYl many P6:Int):=if decide (P6<(wv.AA.length:Int))then(Ge wv P6 Oy.di Oy.cT).bind λv_5=>if v_5 then
J7 L4 P6 P6 (A9 (many+1))
else
J7 L4 P6 oYl many
else
J8 L2 qM Ep oYl many
def gD(L2:i4)(qM:jb)(Ep:Int)(wv:AF)(Oy:AH):Nat->Int->Int->Int->ABm (List (List Bool))
|0,_,_,_=>none
|n+1,oYl,many,P6=>L4 L2 qM Ep wv Oy (gD L2 qM Ep wv Oy n) oYl many P6
def J6(L2:i4)(Ep:Int)(wv:AF)(Oy:AH)(qM:jb):=if Oy.da != 17 then
J9 L2 Ep qM
else(Dw wv Ep).bind λv_4=>if v_4.2 then
gD L2 qM Ep wv Oy BQ (-1) 0 0
else
J9 L2 Ep qM
def J5(L3:i4)(Vp:Int)(o_6:jb):=L3 o_6 (A9 (Vp+1))
def J4(L3:i4)(o_5:jb)(Ep Vp:Int)(aZ:iT)(t92v:Bool):=if t92v then(gt aZ 0).bind λx_8=>(gt o_5 x_8).bind λx_9=>(gt x_9 Ep).bind λx_10=>J5 L3 Vp (o_5.set x_8.toNat (x_9.set Ep.toNat true))
else
J5 L3 Vp o_5
def L3(L2:i4)(Ep:Int)(vQ:iT)(wv:AF)(Oy:AH)(L3:i4)(o_5:jb)(Vp:Int):=if decide (Vp<(vQ.length:Int))then(gt vQ Vp).bind λx_6=>(Bm wv x_6).bind λaZ=>if(aZ.length:Int)==1 then(gt aZ 0).bind λx_7=>J4 L3 o_5 Ep Vp aZ (decide (x_7>=0))
else
J4 L3 o_5 Ep Vp aZ false
else
J6 L2 Ep wv Oy o_5
def Fw(L2:i4)(Ep:Int)(vQ:iT)(wv:AF)(Oy:AH):Nat->(List (List Bool))->Int->ABm (List (List Bool))
|0,_,_=>none
|n+1,o_5,Vp=>L3 L2 Ep vQ wv Oy (Fw L2 Ep vQ wv Oy n) o_5 Vp
def J3(L2:i4)(Ep:Int)(wv:AF)(Oy:AH)(o_4:jb):=(CS wv Ep).bind λvQ=>Fw L2 Ep vQ wv Oy BQ o_4 0
def J2(L2:i4)(Ep:Int)(wv:AF)(Oy:AH)(o_3:jb):=(Bh wv Ep).bind λYX=>if decide (YX>=0)then(gt o_3 YX).bind λx_4=>(gt x_4 Ep).bind λx_5=>J3 L2 Ep wv Oy (o_3.set YX.toNat (x_4.set Ep.toNat true))
else
J3 L2 Ep wv Oy o_3
def L2(wv:AF)(L2:i4)(o_2:jb)(Ep:Int):=if decide (Ep<(wv.AA.length:Int))then(gt wv.AA Ep).bind λOy=>(FC wv.AA Ep).bind λv=>if decide (v>=0)then(gt o_2 v).bind λx_2=>(gt x_2 Ep).bind λx_3=>J2 L2 Ep wv Oy (o_2.set v.toNat (x_2.set Ep.toNat true))
else
J2 L2 Ep wv Oy o_2
else
OE wv o_2
def B9(wv:AF):Nat->(List (List Bool))->Int->ABm (List (List Bool))
|0,_,_=>none
|n+1,o_2,Ep=>L2 wv (B9 wv n) o_2 Ep
def J1(wv:AF)(o_1:jb):=B9 wv BQ o_1 0
def L1(wv:AF)(L1:i4)(o:jb)(kS:Int):=if decide (kS<(wv.AA.length:Int))then
if 0<=(wv.AA.length:Int)/\(wv.AA.length:Int)<=(wv.AA.length:Int)/\Aq wv.AA.length 1=true then(gt o kS).bind λx=>L1 (o.set kS.toNat (List.replicate wv.AA.length false)) (A9 (kS+1))
else none
else
J1 wv o
def AU(wv:AF):Nat->(List (List Bool))->Int->ABm (List (List Bool))
|0,_,_=>none
|n+1,o,kS=>L1 wv (AU wv n) o kS
end Af
section
open Af
def Af(wv:AF):=if 0<=(wv.AA.length:Int)/\(wv.AA.length:Int)<=(wv.AA.length:Int)/\Aq wv.AA.length 24=true then
AU wv BQ (List.replicate wv.AA.length ([]:List Bool)) 0
else none
def S5{wv:AF}{r:jb}(h:Af wv=some r):Says prog 27 [.agg (A5 wv)] (vO 1 KR r):=by
 refine Pe mix func27 chk27 (AAV (by kernel_rfl)) rfl ?_;simp only[f27,f27c,f27g,f27r];repeat' first
  |with_reducible exact Cy h
  |with_reducible refine gBe h bg λh=>?_
  |with_reducible refine gBk h λ_ _ h=>?_
  |with_reducible refine cSk h λ_ h=>?_
  | (with_reducible refine bSk h λ_ g h=>?_
     (try simp +decide only[go_sem, *]);refine⟨_,by first|exact Vb g|exact X6 g|exact Vc g|exact X4 g|exact Jg g|exact X5 g|exact VZ g,?_⟩)
  | (with_reducible cases h
     simp +decide only[go_sem, *];done)
  |simp only[eq_self,AAq,AAd,AAU]at h
  |simp +decide only[go_sem, *]
  | (with_reducible refine wV 11 (λj=>∃PU:List (List Bool),∃Jp:Int,∃UC:AY,∃x9:Bool,(j 1=bA 15 (A5 wv)/\j 3=vS 7 Am wv.AA/\j 4=vO 1 KR PU/\j 18=si k/\j 19=vO 4 FM T7/\j 21=bA 4 (FM MB)/\j 23=bA 4 (FM UC)/\j 153=.al 19 []/\j 154=si (T7.length:Int)/\j 155=si Jo/\j 159=.al 19 []/\j 160=si (T7.length:Int)/\j 161=si Jp/\j 193=sb x9)/\P9 (L7r (L6r (vY wv n5) k T7 n6) Jo T7 MB n7) PU Jp MB UC x9=some r) λM m11=>⟨?_,?_⟩
     rotate_left;clear h;rintro j ⟨_,_,_,_,_,h⟩;rotate_left)
  | (with_reducible refine impI m11 ⟨_,_,_,_,?_,h⟩;simp +decide only[go_sem, *];done)
  | (with_reducible refine wV 3 (λj=>∃Ep:Int,∃Oy:AH,∃o_4:List (List Bool),(j 1=bA 15 (A5 wv)/\j 3=vS 7 Am wv.AA/\j 4=vO 1 KR o_4/\j 6=si Ep/\j 7=bA 7 (Am Oy)/\j 44=vS 7 Am wv.AA/\j 45=si (wv.AA.length:Int)/\j 46=si Ep)/\J3 (B9 wv n2) Ep wv Oy o_4=some r) λM m3=>⟨?_,?_⟩
     rotate_left;clear h;rintro j ⟨_,_,_,_,h⟩;rotate_left)
  | (with_reducible refine impI m3 ⟨_,_,_,?_,h⟩;simp +decide only[go_sem, *];done)
  | (with_reducible refine wV 2 (λj=>∃Ep:Int,∃Oy:AH,∃o_3:List (List Bool),(j 1=bA 15 (A5 wv)/\j 3=vS 7 Am wv.AA/\j 4=vO 1 KR o_3/\j 6=si Ep/\j 7=bA 7 (Am Oy)/\j 44=vS 7 Am wv.AA/\j 45=si (wv.AA.length:Int)/\j 46=si Ep)/\J2 (B9 wv n2) Ep wv Oy o_3=some r) λM m2=>⟨?_,?_⟩
     rotate_left;clear h;rintro j ⟨_,_,_,_,h⟩;rotate_left)
  | (with_reducible refine impI m2 ⟨_,_,_,?_,h⟩;simp +decide only[go_sem, *];done)
  | (with_reducible refine Mw (λn j=>∃Tl:List (List Bool),∃PV:List (List Bool),∃Hf:Int,(j 4=vO 1 KR PV/\j 205=si (Tl.length:Int)/\j 206=si Hf)/\L8r Tl n PV Hf=some r) ⟨_,_,_,?_,h⟩ ?_
     rotate_left;rintro(_|n8) j N ⟨Tl,_,_,_,h⟩ k8;exact Cy h;rw[L8r]at h)
  | (with_reducible refine Mw (λn j=>∃PV:List (List Bool),∃Hf:Int,∃Qz:List (List Bool),∃Ip:Int,(j 4=vO 1 KR Qz/\j 24=si Hf/\j 205=si (Tl.length:Int)/\j 206=si Hf/\j 210=si (PV.length:Int)/\j 211=si Ip)/\L9r (L8r Tl n8) PV Hf n Qz Ip=some r) ⟨_,_,_,_,?_,h⟩ ?_
     rotate_left;rintro(_|n9) j N ⟨PV,Hf,_,_,_,h⟩ k9;exact Cy h;rw[L9r]at h)
  | (with_reducible refine Mw (λn j=>∃Qz:List (List Bool),∃Ip:Int,∃U6:List (List Bool),∃ML:Int,(j 4=vO 1 KR U6/\j 24=si Hf/\j 25=si Ip/\j 205=si (Tl.length:Int)/\j 206=si Hf/\j 210=si (PV.length:Int)/\j 211=si Ip/\j 215=si (Qz.length:Int)/\j 216=si ML)/\yP (L9r (L8r Tl n8) PV Hf n9) Qz Hf Ip n U6 ML=some r) ⟨_,_,_,_,?_,h⟩ ?_
     rotate_left;rintro(_|n10) j N ⟨Qz,Ip,_,_,_,h⟩ k10;exact Cy h;rw[yP]at h)
  | (with_reducible refine Mw (λn j=>∃uL:List (List Bool),∃k:Int,(j 1=bA 15 (A5 wv)/\j 3=vS 7 Am wv.AA/\j 4=vO 1 KR uL/\j 18=si k)/\vY wv n uL k=some r) ⟨_,_,?_,h⟩ ?_
     rotate_left;rintro(_|n5) j N ⟨_,_,_,h⟩ k5;exact Cy h;rw[vY]at h)
  | (with_reducible refine Mw (λn j=>∃k:Int,∃T7:List AY,∃uM:List (List Bool),∃Jo:Int,(j 1=bA 15 (A5 wv)/\j 3=vS 7 Am wv.AA/\j 4=vO 1 KR uM/\j 18=si k/\j 19=vO 4 FM T7/\j 153=.al 19 []/\j 154=si (T7.length:Int)/\j 155=si Jo)/\L6r (vY wv n5) k T7 n uM Jo=some r) ⟨_,_,_,_,?_,h⟩ ?_
     rotate_left;rintro(_|n6) j N ⟨k,T7,_,_,_,h⟩ k6;exact Cy h;rw[L6r]at h)
  | (with_reducible refine Mw (λn j=>∃Jo:Int,∃MB:AY,∃PU:List (List Bool),∃Jp:Int,(j 1=bA 15 (A5 wv)/\j 3=vS 7 Am wv.AA/\j 4=vO 1 KR PU/\j 18=si k/\j 19=vO 4 FM T7/\j 21=bA 4 (FM MB)/\j 153=.al 19 []/\j 154=si (T7.length:Int)/\j 155=si Jo/\j 159=.al 19 []/\j 160=si (T7.length:Int)/\j 161=si Jp)/\L7r (L6r (vY wv n5) k T7 n6) Jo T7 MB n PU Jp=some r) ⟨_,_,_,_,?_,h⟩ ?_
     rotate_left;rintro(_|n7) j N ⟨Jo,MB,_,_,_,h⟩ k7;exact Cy h;rw[L7r]at h)
  | (with_reducible refine Mw (λn j=>∃o_2:List (List Bool),∃Ep:Int,(j 1=bA 15 (A5 wv)/\j 3=vS 7 Am wv.AA/\j 4=vO 1 KR o_2/\j 44=vS 7 Am wv.AA/\j 45=si (wv.AA.length:Int)/\j 46=si Ep)/\B9 wv n o_2 Ep=some r) ⟨_,_,?_,h⟩ ?_
     rotate_left;rintro(_|n2) j N ⟨_,_,_,h⟩ k2;exact Cy h;rw[B9]at h)
  | (with_reducible refine Mw (λn j=>∃qM:List (List Bool),∃Ep:Int,∃Oy:AH,∃oYl:Int,∃many:Int,∃P6:Int,(j 1=bA 15 (A5 wv)/\j 3=vS 7 Am wv.AA/\j 4=vO 1 KR qM/\j 6=si Ep/\j 7=bA 7 (Am Oy)/\j 15=si oYl/\j 16=si many/\j 44=vS 7 Am wv.AA/\j 45=si (wv.AA.length:Int)/\j 46=si Ep/\j 113=si (wv.AA.length:Int)/\j 114=si P6)/\gD (B9 wv n2) qM Ep wv Oy n oYl many P6=some r) ⟨_,_,_,_,_,_,?_,h⟩ ?_
     rotate_left;rintro(_|n4) j N ⟨qM,Ep,Oy,_,_,_,_,h⟩ k4;exact Cy h;rw[gD]at h)
  | (with_reducible refine Mw (λn j=>∃Ep:Int,∃vQ:List Int,∃Oy:AH,∃o_5:List (List Bool),∃Vp:Int,(j 1=bA 15 (A5 wv)/\j 3=vS 7 Am wv.AA/\j 4=vO 1 KR o_5/\j 6=si Ep/\j 7=bA 7 (Am Oy)/\j 44=vS 7 Am wv.AA/\j 45=si (wv.AA.length:Int)/\j 46=si Ep/\j 75=vO 1 eI vQ/\j 76=si (vQ.length:Int)/\j 77=si Vp)/\Fw (B9 wv n2) Ep vQ wv Oy n o_5 Vp=some r) ⟨_,_,_,_,_,?_,h⟩ ?_
     rotate_left;rintro(_|n3) j N ⟨Ep,vQ,Oy,_,_,_,h⟩ k3;exact Cy h;rw[Fw]at h)
  | (with_reducible refine Mw (λn j=>∃o:List (List Bool),∃kS:Int,(j 1=bA 15 (A5 wv)/\j 3=vS 7 Am wv.AA/\j 4=vO 1 KR o/\j 33=si (wv.AA.length:Int)/\j 34=si kS)/\AU wv n o kS=some r) ⟨_,_,?_,h⟩ ?_
     rotate_left;rintro(_|n1) j N ⟨_,_,_,h⟩ k1;exact Cy h;rw[AU]at h)
  |with_reducible refine OK k1 ⟨_,_,?_,h⟩
  |with_reducible refine OK k3 ⟨_,_,_,_,_,?_,h⟩
  |with_reducible refine OK k4 ⟨_,_,_,_,_,_,?_,h⟩
  |with_reducible refine OK k2 ⟨_,_,?_,h⟩
  |with_reducible refine OK k7 ⟨_,_,_,_,?_,h⟩
  |with_reducible refine OK k6 ⟨_,_,_,_,?_,h⟩
  |with_reducible refine OK k5 ⟨_,_,?_,h⟩
  |with_reducible refine OK k10 ⟨_,_,_,_,?_,h⟩
  |with_reducible refine OK k9 ⟨_,_,_,_,?_,h⟩
  |with_reducible refine OK k8 ⟨_,_,_,?_,h⟩
  |simp only[*,eq_self,AAq,AAd,AAU,decide_true,decide_false]at h
  | (with_reducible refine bI h ?_ ?_
     all_goals clear h;intro _ h)
  |unfold Af at h
  |unfold J20 at h
  |unfold J19 at h
  |unfold J18 at h
  |unfold J17 at h
  |unfold J16 at h
  |unfold L10 at h
  |unfold L9 at h
  |unfold L8 at h
  |unfold J15 at h
  |unfold J14 at h
  |unfold J13 at h
  |unfold gN at h
  |unfold P9 at h
  |unfold L7 at h
  |unfold L6 at h
  |unfold L5 at h
  |unfold OE at h
  |unfold J9 at h
  |unfold J8 at h
  |unfold J7 at h
  |unfold L4 at h
  |unfold J6 at h
  |unfold J5 at h
  |unfold J4 at h
  |unfold L3 at h
  |unfold J3 at h
  |unfold J2 at h
  |unfold L2 at h
  |unfold J1 at h
  |unfold L1 at h
end
namespace C7
def L1(R100:mb)(a:kh)(L1:BX->Int->ABm BX)(c:BX)(b:Int):=if decide (b<(a.length:Int))then(gt a b).bind λf=>(R100 c f).bind λe=>L1 e (A9 (b+1))
else
some c
def AU(R100:mb)(a:kh):Nat->BX->Int->ABm BX
|0,_,_=>none
|n+1,c,b=>L1 R100 a (AU R100 a n) c b
end C7
variable{g:mb}{b r:BX}
section
open C7
def C7(R100:mb)(d:BX)(a:kh):=AU R100 a BQ d 0
theorem Tw(H100:∀{x0 x1 r},g x0 x1=some r->BF prog 222 [bA 10 (Ee x0),.agg [si x1.Op,si x1.Fq,B0 x1.dq,B0 x1.e6,vS 4 BT x1.d6,si x1.du.Op,si x1.du.N,B0 x1.du.dq,vS 4 BT x1.du.L,vS 11 BM x1.dz,vS 11 BM x1.ea]] (.Bp []) [bA 10 (Ee r),.dead]){a:kh}(h:C7 g b a=some r):BF prog 183 [bA 10 (Ee b),vS 11 BM a] (.Bp []) [bA 10 (Ee r),.dead]:=by refine kL mix func183 (hn [(0,[11])]) ?_;have a1:=@H100;have l1:=iJ λn b=>∃c d,(b 0=bA 10 (Ee c)/\b 1=vS 11 BM a/\b 4=si d)/\AU g a n c d=some r;unfold C7 at h;exact walk
end
namespace Dh
def J1(R101:mb)(R102:lv)(a:BX)(b:AX)(c:Bool):ABm BX:=if c then(R101 (BX.mk a.w a.dr a.dt a.next (A9 (a.next+1))) b).bind λl=>some l
else
if b.Op==4 then(Er a.w.AK b.dq).bind λw=>(R102 (BX.mk a.w a.dr a.dt a.next (A9 (a.next+1))) b 11 12 w).bind λac=>some ac
else
if b.Op==5 then(Er a.w.AK b.dq).bind λad=>(R102 (BX.mk a.w a.dr a.dt a.next (A9 (a.next+1))) b 13 14 ad).bind λae=>some ae
else
if b.Op==6 then(Er a.w.AK b.dq).bind λaf=>(R102 (BX.mk a.w a.dr a.dt a.next (A9 (a.next+1))) b 15 16 af).bind λai=>some ai
else
if b.Op==7 then(R102 (BX.mk a.w a.dr a.dt a.next (A9 (a.next+1))) b 17 18 0).bind λaj=>some aj
else
if b.Op==8 then(R102 (BX.mk a.w a.dr a.dt a.next (A9 (a.next+1))) b 19 20 0).bind λal=>some al
else
if b.Op==9 then(DE (BX.mk a.w a.dr a.dt a.next (A9 (a.next+1))) b.dq).bind λd=>(BV d.2 (An.mk 21 d.1 0 0 0 0)).bind λo=>some o
else
if b.Op==10 then(DE (BX.mk a.w a.dr a.dt a.next (A9 (a.next+1))) b.dq).bind λe=>(BV e.2 (An.mk 22 e.1 0 0 0 0)).bind λp=>some p
else
if b.Op==11 then(DE (BX.mk a.w a.dr a.dt a.next (A9 (a.next+1))) b.dq).bind λf=>(BV f.2 (An.mk 23 f.1 0 0 0 0)).bind λq=>some q
else
if b.Op==12 then(Cz a.w.AB b.dq).bind λs=>(BV (BX.mk a.w a.dr a.dt a.next (A9 (a.next+1))) (An.mk 24 s 0 0 0 0)).bind λt=>some t
else
if b.Op==13 then(Cz a.w.AB b.dq).bind λu=>(BV (BX.mk a.w a.dr a.dt a.next (A9 (a.next+1))) (An.mk 25 u 0 0 0 0)).bind λv=>some v
else
if b.Op==14 then(DU BQ (BX.mk a.w a.dr a.dt a.next (A9 (a.next+1))) b.du (a.dr.length:Int)).bind λi=>(Cz i.w.AM b.dq).bind λx=>(BV i (An.mk 26 x (a.dr.length:Int) 0 0 0)).bind λy=>some y
else
if b.Op==15 then(Cz a.dr b.dq).bind λz=>(Cz a.w.AM b.e6).bind λaa=>(BV (BX.mk a.w a.dr a.dt a.next (A9 (a.next+1))) (An.mk 27 z aa 0 0 0)).bind λab=>some ab
else
some (BX.mk a.w a.dr a.dt a.next (A9 (a.next+1)))
end Dh
variable{i:lv}{a:AX}
section
open Dh
def Dh(R101:mb)(R102:lv)(a:BX)(b:AX):=if b.Op==1 then(Hb (BX.mk a.w a.dr a.dt a.next (A9 (a.next+1))) b).bind λj=>some j
else
if b.Op==2 then
J1 R101 R102 a b (b.Op==2)
else
J1 R101 R102 a b (b.Op==3)
theorem VU(H101:∀{x0 x1 r},g x0 x1=some r->BF prog 250 [bA 10 (Ee x0),.agg [si x1.Op,si x1.Fq,B0 x1.dq,B0 x1.e6,vS 4 BT x1.d6,si x1.du.Op,si x1.du.N,B0 x1.du.dq,vS 4 BT x1.du.L,vS 11 BM x1.dz,vS 11 BM x1.ea]] (.Bp []) [bA 10 (Ee r),.dead])(H102:∀{x0 x1 x2 x3 x4 r},i x0 x1 x2 x3 x4=some r->BF prog 251 [bA 10 (Ee x0),.agg [si x1.Op,si x1.Fq,B0 x1.dq,B0 x1.e6,vS 4 BT x1.d6,si x1.du.Op,si x1.du.N,B0 x1.du.dq,vS 4 BT x1.du.L,vS 11 BM x1.dz,vS 11 BM x1.ea],si x2,si x3,si x4] (.Bp []) [bA 10 (Ee r),.dead,.dead,.dead,.dead])(h:Dh g i b a=some r):BF prog 222 [bA 10 (Ee b),.agg [si a.Op,si a.Fq,B0 a.dq,B0 a.e6,vS 4 BT a.d6,si a.du.Op,si a.du.N,B0 a.du.dq,vS 4 BT a.du.L,vS 11 BM a.dz,vS 11 BM a.ea]] (.Bp []) [bA 10 (Ee r),.dead]:=by refine kL mix func222 (hn [(0,[5,6,7,8,10,11,12,13,14,17,18,19,20,21,22,28,34,39,41,42,43,44,45,52,54,55,56,57,58,65,67,68,69,70,71,78,83,88,89,97,98,106,107,115,116,117,118,119,120,128,129,130,131,132,133,141,146,147,148,149,150,151,160,161,162,163,164,168,169,170,171,172]),(3,[24,46,59,72,90,99,108,121,134,142,152,165,173])] [(6,1)]) ?_;have a1:=@Sb;have a2:=@H101;have a3:=@P2;have a4:=@H102;have a5:=@VS;have a6:=@HK;have a7:=@IX;have a8:=@Jf;have c1:=iR 1 λd=>∃c,(d 0=bA 10 [vS 5 G5 b.w.dg,vS 2 IE b.w.AK,vS 2 ID b.w.Aj,vS 1 eS b.w.AM,vS 1 eS b.w.AB,vS 3 GP b.w.Bu,vS 1 eS b.dr,vO 6 EX b.dt,si b.next,si (A9 (b.next+1))]/\d 3=bA 11 [si a.Op,si a.Fq,B0 a.dq,B0 a.e6,vS 4 BT a.d6,si a.du.Op,si a.du.N,B0 a.du.dq,vS 4 BT a.du.L,vS 11 BM a.dz,vS 11 BM a.ea]/\d 4=si (b.dr.length:Int)/\d 25=si a.Op/\d 31=sb c)/\J1 g i b a c=some r;unfold Dh at h;exact walk
end
def EE(R103:mo)(c:BX)(a:AX):ABm BX:=(DU BQ c a.du (c.dr.length:Int)).bind λd=>(BV d (An.mk 10 (d.dr.length:Int) 0 0 0 0)).bind λq=>(R103 q a.dz).bind λb=>if a.Op==3 then(BV (BX.mk b.w b.dr b.dt c.dx b.next) (An.mk 5 (c.dt.length:Int) 0 0 0 0)).bind λe=>(gt e.dt (d.dt.length:Int)).bind λj=>some (BX.mk e.w e.dr (e.dt.set d.dt.length (An.mk j.Op j.A (e.dt.length:Int) j.C j.N j.d8)) e.dx e.next)
else
if(a.ea.length:Int)==0 then(gt b.dt (d.dt.length:Int)).bind λl=>some (BX.mk b.w b.dr (b.dt.set d.dt.length (An.mk l.Op l.A (b.dt.length:Int) l.C l.N l.d8)) c.dx b.next)
else(BV (BX.mk b.w b.dr b.dt c.dx b.next) (An.mk 5 0 0 0 0 0)).bind λf=>(gt f.dt (d.dt.length:Int)).bind λo=>(R103 (BX.mk f.w f.dr (f.dt.set d.dt.length (An.mk o.Op o.A (f.dt.length:Int) o.C o.N o.d8)) f.dx f.next) a.ea).bind λi=>(gt i.dt (b.dt.length:Int)).bind λp=>some (BX.mk i.w i.dr (i.dt.set b.dt.length (An.mk p.Op (i.dt.length:Int) p.B p.C p.N p.d8)) i.dx i.next)
variable{f:mo}
theorem QN(H103:∀{x0 x1 r},f x0 x1=some r->BF prog 183 [bA 10 (Ee x0),vS 11 BM x1] (.Bp []) [bA 10 (Ee r),.dead])(h:EE f b a=some r):BF prog 250 [bA 10 (Ee b),.agg [si a.Op,si a.Fq,B0 a.dq,B0 a.e6,vS 4 BT a.d6,si a.du.Op,si a.du.N,B0 a.du.dq,vS 4 BT a.du.L,vS 11 BM a.dz,vS 11 BM a.ea]] (.Bp []) [bA 10 (Ee r),.dead]:=by refine kL mix func250 (hn [(0,[8,9,10,12,13,14,15,17,20,21,22,23,26,27,28,29,31,32,33,34,35,39,43,45,46,50,54,55,56,57,59,60,61,62,64,65,70,71,72,73,75,76,77,78,80,81,82,83,84,85,87,90,91,92,93,95,96,97,98,100,101,102,106,107,108,109,111,112,113,114,116,117]),(3,[18,40,47,66,103])]) ?_;have a1:=@Jf;have a2:=@HK;have a3:=@H103;unfold EE at h;exact walk
def Ea(R103:mo)(b:BX)(a:AX)(d e c:Int):ABm BX:=(BV b (An.mk d c 0 0 0 0)).bind λi=>(R103 i a.dz).bind λf=>(BV (BX.mk f.w f.dr f.dt b.dx f.next) (An.mk e c 0 0 0 0)).bind λj=>some j
variable{d e c:Int}
theorem Sa(H103:∀{x0 x1 r},f x0 x1=some r->BF prog 183 [bA 10 (Ee x0),vS 11 BM x1] (.Bp []) [bA 10 (Ee r),.dead])(h:Ea f b a d e c=some r):BF prog 251 [bA 10 (Ee b),.agg [si a.Op,si a.Fq,B0 a.dq,B0 a.e6,vS 4 BT a.d6,si a.du.Op,si a.du.N,B0 a.du.dq,vS 4 BT a.du.L,vS 11 BM a.dz,vS 11 BM a.ea],si d,si e,si c] (.Bp []) [bA 10 (Ee r),.dead,.dead,.dead,.dead]:=by refine kL mix func251 (hn [(0,[11,12,13,15,20,24,26,27,28]),(6,[21])]) ?_;have a1:=@HK;have a2:=@H103;unfold Ea at h;exact walk
def Eb:Nat->(BX->(List AX)->ABm BX)×(BX->AX->ABm BX)×(BX->AX->ABm BX)×(BX->AX->Int->Int->Int->ABm BX)
|0=>((λ_ _=>none),(λ_ _=>none),(λ_ _=>none),(λ_ _ _ _ _=>none))
|n+1=>(C7 ((Eb n).2.1),Dh ((Eb n).2.2.1) ((Eb n).2.2.2),EE ((Eb n).1),Ea ((Eb n).1))
def Ez(n:Nat):BX->(List AX)->ABm BX:=(Eb n).1
def SA(n:Nat):BX->AX->ABm BX:=(Eb n).2.1
def Sc(n:Nat):BX->AX->ABm BX:=(Eb n).2.2.1
def VR(n:Nat):BX->AX->Int->Int->Int->ABm BX:=(Eb n).2.2.2
theorem Sd(n:Nat):(∀{x0 x1 r},(Ez n) x0 x1=some r->BF prog 183 [bA 10 (Ee x0),vS 11 BM x1] (.Bp []) [bA 10 (Ee r),.dead])/\(∀{x0 x1 r},(SA n) x0 x1=some r->BF prog 222 [bA 10 (Ee x0),.agg [si x1.Op,si x1.Fq,B0 x1.dq,B0 x1.e6,vS 4 BT x1.d6,si x1.du.Op,si x1.du.N,B0 x1.du.dq,vS 4 BT x1.du.L,vS 11 BM x1.dz,vS 11 BM x1.ea]] (.Bp []) [bA 10 (Ee r),.dead])/\(∀{x0 x1 r},(Sc n) x0 x1=some r->BF prog 250 [bA 10 (Ee x0),.agg [si x1.Op,si x1.Fq,B0 x1.dq,B0 x1.e6,vS 4 BT x1.d6,si x1.du.Op,si x1.du.N,B0 x1.du.dq,vS 4 BT x1.du.L,vS 11 BM x1.dz,vS 11 BM x1.ea]] (.Bp []) [bA 10 (Ee r),.dead])/\(∀{x0 x1 x2 x3 x4 r},(VR n) x0 x1 x2 x3 x4=some r->BF prog 251 [bA 10 (Ee x0),.agg [si x1.Op,si x1.Fq,B0 x1.dq,B0 x1.e6,vS 4 BT x1.d6,si x1.du.Op,si x1.du.N,B0 x1.du.dq,vS 4 BT x1.du.L,vS 11 BM x1.dz,vS 11 BM x1.ea],si x2,si x3,si x4] (.Bp []) [bA 10 (Ee r),.dead,.dead,.dead,.dead]):=by induction n with|zero=>exact⟨λh=>Cy h,λh=>Cy h,λh=>Cy h,λh=>Cy h⟩|succ n ih=>exact⟨λh=>Tw ih.2.1 h,λh=>VU ih.2.2.1 ih.2.2.2 h,λh=>QN ih.1 h,λh=>Sa ih.1 h⟩
def Se{n:Nat}:∀{x0 x1 r},(Ez n) x0 x1=some r->BF prog 183 [bA 10 (Ee x0),vS 11 BM x1] (.Bp []) [bA 10 (Ee r),.dead]:=(Sd n).1
end Go.Abs
