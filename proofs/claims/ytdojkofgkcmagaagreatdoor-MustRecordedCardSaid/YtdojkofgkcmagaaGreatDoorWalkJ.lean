/- Go functions do what typed programs say. -/
import Derived.Test.YtdojkofgkcmagaaGreatDoorWalkH
import Derived.Test.YtdojkofgkcmagaaGreatDoorWalkI
import Derived.Shelf.Slices.SearchI
set_option linter.all false
namespace Go.Abs
open Go.Proofs Tryz
set_option maxRecDepth 1000000
set_option maxHeartbeats 4000000
def f27c:IC:=(Ra 2 [.b 1 [27,138,139,145,147,148] (.bx 15 (.t 0)),.o (.mv (.c (.own false 1 [])))]
(Ra 27 [.f 14 1,.M 3 28]
(Ra 29 [.C 3,.Z 29,.o (.mk 1 24 z15 (.t 30) (.t 30)),.b 4 [32,37,42,56,58,59,61,67,69,70,72,93,97,98,100,130,132,133,135,194,197,198,201,204,209,214,219,221,222,224,227,229,230,232,235,237,238,240,244] (.mv (.t 31))]
(Sq (Ra 32 [.y 4 (.cp (.t 4)),.Z 32,.Y 0]
(Bl 0 (Ra 35 [.O .lss 34 33]
(Sq (cX 35 0)
(Sq (Bk 1 (Ra 36 [.C 34,.M 5 36]
(Rc 37 [.y 4 (.cp (.t 4)),.C 5,.C 3,.Z 39,.o (.mk 1 1 [sb false] (.t 40) (.t 40)),.J 4 1 37 38,.S 1 42 41])))
(Rc 43 [.P .add 34 1,.w 34,.C 43]))))))
(Sq (Ra 44 [.C 3,.Z 44,.Y 0]
(Bl 2 (Ra 47 [.O .lss 46 45]
(Sq (cX 47 2)
(Sq (Bk 3 (Ra 48 [.C 46,.I 7 44 46,.A 7 49,.b 7 [102,119,121] (.bx 7 (.c (.agg z3))),.M 6 48,.S 7 7 50]
(Nh 2 (Ra 51 [.C 3,.C 6,.c 69 [51,52] 0,.M 8 53]
(Ra 54 [.C 8,.P .geq 54 0]
(Ci 55 (Rc 56 [.y 4 (.cp (.t 4)),.C 8,.J 4 1 56 57,.l 4 58,.C 6,.J 4 1 59 60,.x ⟨none,.st 1 (.t 61) (.c (sb true)),none⟩]))))
(Nh 3 (Ra 62 [.A 15 1,.C 6,.c 70 [62,63] 0,.M 9 64]
(Ra 65 [.C 9,.P .geq 65 0]
(Ci 66 (Rc 67 [.y 4 (.cp (.t 4)),.C 9,.J 4 1 67 68,.l 4 69,.C 6,.J 4 1 70 71,.x ⟨none,.st 1 (.t 72) (.c (sb true)),none⟩]))))
(Sq (Ra 73 [.A 15 1,.C 6,.b 75 [79] (.call 71 [.t 73,.t 74] 2),.w 76,.Z 75,.Y 0]
(Bl 4 (Ra 78 [.O .lss 77 76]
(Sq (cX 78 4)
(Sq (Bk 5 (Ra 79 [.J 75 1 75 77,.L 79,.M 11 80]
(Ra 81 [.A 15 1,.C 11,.c 32 [81,82] 2,.b 12 [84,88,89,94,95] (.mv (.t 83))]
(Ra 84 [.y 12 (.cp (.t 12)),.Z 84,.Q 85 1,.C 86,.G 87 true,.y 12 (.cp (.t 12)),.y 12 (.Wu 1 (.t 88) (.c (si 0))),.L 89,.P .geq 90 0,.e,.W 87 91]
(Ci 92 (Rc 93 [.y 4 (.cp (.t 4)),.y 12 (.cp (.t 12)),.y 12 (.Wu 1 (.t 94) (.c (si 0))),.L 95,.J 4 1 93 96,.l 4 97,.C 6,.J 4 1 98 99,.x ⟨none,.st 1 (.t 100) (.c (sb true)),none⟩]))))))
(Rc 101 [.P .add 77 1,.w 77,.C 101]))))))
(Sq (Ra 102 [.f 1 7,.P .neq 103 17]
(Ci 104 (.exit 3)))
(Ra 106 [.A 15 1,.C 6,.c 72 [106,107] 0,.w 105,.C 108,.w 109,.o (.ext (.t 105) 0),.o (.ext (.t 105) 1),.M 13 109,.M 14 110]
(Ra 111 [.C 14]
(Ci 111 (Ra 0 [.K 15 (-1),.K 16 0]
(Sq (Ra 112 [.C 3,.Z 112,.Y 0]
(Bl 6 (Ra 115 [.O .lss 114 113]
(Sq (cX 115 6)
(Sq (Bk 7 (Ra 116 [.C 114,.M 17 116]
(Ra 117 [.A 15 1,.C 17,.f 2 7,.f 0 7,.c 73 [117,118,120,122] 0]
(Ci 123 (Ra 124 [.C 17,.M 15 124]
(Rc 125 [.C 16,.P .add 125 1,.M 16 126]))))))
(Rc 127 [.P .add 114 1,.w 114,.C 127]))))))
(Ra 128 [.C 16,.Q 128 1]
(Ci 129 (Rc 130 [.y 4 (.cp (.t 4)),.C 15,.J 4 1 130 131,.l 4 132,.C 6,.J 4 1 133 134,.x ⟨none,.st 1 (.t 135) (.c (sb true)),none⟩]))))))))))))))
(Rc 136 [.P .add 46 1,.w 46,.C 136]))))))
(Sq (Ra 0 [.K 18 0]
(Bl 8 (Sq (Ra 137 [.C 18,.F 0 1,.h 1 1 138,.Z 140,.O .leq 137 141]
(cX 142 8))
(Sq (Bk 9 (Ra 145 [.F 0 1,.A 6 145,.F 7 1,.H 1 0 147,.A 4 148,.C 3,.C 18,.c 74 [146,149,150,151] 2,.b 19 [153,157,159,163] (.mv (.t 152))]
(Ra 153 [.y 19 (.cp (.t 19)),.Z 153,.Y 0]
(Bl 10 (Ra 156 [.O .lss 155 154]
(Sq (cX 156 10)
(Sq (Bk 11 (Ra 157 [.J 19 4 153 155,.A 4 157,.b 21 [165,169,179,186,195] (.bx 4 (.c (.agg z22))),.S 4 21 158]
(Ra 159 [.y 19 (.cp (.t 19)),.Z 159,.Y 0]
(Bl 12 (Ra 162 [.O .lss 161 160]
(Sq (cX 162 12)
(Sq (Bk 13 (Ra 163 [.J 19 4 159 161,.A 4 163,.b 23 [174,181,189,199] (.bx 4 (.c (.agg z22))),.S 4 23 164]
(Nh 11 (Rc 165 [.f 1 21,.P .lss 166 0,.C 167,.G 168 true,.f 2 21,.P .geq 170 0,.e,.W 168 171,.C 172,.G 173 true,.f 1 23,.P .geq 175 0,.e,.W 173 176,.C 177,.G 178 true,.f 0 21,.f 0 23,.O .neq 180 182,.e,.W 178 183,.C 184,.G 185 true,.f 3 21,.C 187,.G 188 true,.f 3 23,.G 185 true,.o (.pick (.t 188) (.t 190) (.c (sb false))),.N 191,.e,.W 185 192])
(Ci 193 (Rc 194 [.y 4 (.cp (.t 4)),.f 2 21,.J 4 1 194 196,.l 4 197,.f 1 23,.J 4 1 198 200,.x ⟨none,.st 1 (.t 201) (.c (sb true)),none⟩])))))
(Rc 202 [.P .add 161 1,.w 161,.C 202]))))))))
(Rc 203 [.P .add 155 1,.w 155,.C 203]))))))))
(Rc 143 [.C 18,.P .add 143 1,.M 18 144])))))
(Sq (Ra 204 [.y 4 (.cp (.t 4)),.Z 204,.Y 0]
(Bl 14 (Ra 207 [.O .lss 206 205]
(Sq (cX 207 14)
(Sq (Bk 15 (Ra 208 [.C 206,.M 24 208]
(Ra 209 [.y 4 (.cp (.t 4)),.Z 209,.Y 0]
(Bl 16 (Ra 212 [.O .lss 211 210]
(Sq (cX 212 16)
(Sq (Bk 17 (Ra 213 [.C 211,.M 25 213]
(Ra 214 [.y 4 (.cp (.t 4)),.Z 214,.Y 0]
(Bl 18 (Ra 217 [.O .lss 216 215]
(Sq (cX 217 18)
(Sq (Bk 19 (Ra 218 [.C 216,.M 26 218]
(Ra 219 [.y 4 (.cp (.t 4)),.C 25,.J 4 1 219 220,.l 4 221,.C 24,.J 4 1 222 223,.L 224,.C 225,.G 226 true,.y 4 (.cp (.t 4)),.C 24,.y 4 (.Wu 1 (.t 227) (.t 228)),.l 4 229,.C 26,.y 4 (.Wu 1 (.t 230) (.t 231)),.L 232,.e,.W 226 233]
(Ci 234 (Rc 235 [.y 4 (.cp (.t 4)),.C 25,.J 4 1 235 236,.l 4 237,.C 26,.J 4 1 238 239,.x ⟨none,.st 1 (.t 240) (.c (sb true)),none⟩])))))
(Rc 241 [.P .add 216 1,.w 216,.C 241]))))))))
(Rc 242 [.P .add 211 1,.w 211,.C 242]))))))))
(Rc 243 [.P .add 206 1,.w 206,.C 243]))))))
(Rb 244 [.y 4 (.cp (.t 4)),.M 2 244]))))))))
def f27g:Gi:=⟨[(27,[1]),(32,[4]),(37,[4]),(42,[4]),(56,[4]),(58,[4]),(59,[4]),(61,[4]),(67,[4]),(69,[4]),(70,[4]),(72,[4]),(79,[75]),(84,[12]),(88,[12]),(89,[12]),(93,[4]),(94,[12]),(95,[12]),(97,[4]),(98,[4]),(100,[4]),(102,[7]),(119,[7]),(121,[7]),(130,[4]),(132,[4]),(133,[4]),(135,[4]),(138,[1]),(139,[1]),(145,[1]),(147,[1]),(148,[1]),(153,[19]),(157,[19]),(159,[19]),(163,[19]),(165,[21]),(169,[21]),(174,[23]),(179,[21]),(181,[23]),(186,[21]),(189,[23]),(194,[4]),(195,[21]),(197,[4]),(198,[4]),(199,[23]),(201,[4]),(204,[4]),(209,[4]),(214,[4]),(219,[4]),(221,[4]),(222,[4]),(224,[4]),(227,[4]),(229,[4]),(230,[4]),(232,[4]),(235,[4]),(237,[4]),(238,[4]),(240,[4]),(244,[4])]⟩
def f27r:List RV:=[.tmp 2]
def f27:FI:=⟨f27c,f27g,f27r⟩
def chk27:OW prog Tryz.f27 f27:=by kernel_rfl
namespace CL
def J20(o_23:jf):ABi (List (List Bool)):=some o_23
def J19(L8:jb)(IE:Int)(o_22:jf):=L8 o_22 (A8 (IE+1))
def J18(L9:jb)(JF:Int)(o_21:jf):=L9 o_21 (A8 (JF+1))
def J17(L10:jb)(Mj:Int)(o_20:jf):=L10 o_20 (A8 (Mj+1))
def J16(L10:jb)(VW:jf)(JF Mj:Int)(t234v:Bool):=if t234v then(gt VW JF).bind λx_21=>(gt x_21 Mj).bind λx_22=>J17 L10 Mj (VW.set JF.toNat (x_21.set Mj.toNat true))
else
J17 L10 Mj VW
def L10(L9:jb)(RM:jf)(IE JF:Int)(L10:jb)(VW:jf)(Mj:Int):=if decide (Mj<(RM.length:Int))then(gt VW JF).bind λx_17=>(gt x_17 IE).bind λx_18=>if x_18 then(gt VW IE).bind λx_19=>(gt x_19 Mj).bind λx_20=>J16 L10 VW JF Mj x_20
else
J16 L10 VW JF Mj false
else
J18 L9 JF VW
def L10r(L9:jb)(RM:jf)(IE JF:Int):Nat->(List (List Bool))->Int->ABi (List (List Bool))
|0,_,_=>none
|n+1,VW,Mj=>L10 L9 RM IE JF (L10r L9 RM IE JF n) VW Mj
def L9(L8:jb)(Px:jf)(IE:Int)(L9:jb)(RM:jf)(JF:Int):=if decide (JF<(Px.length:Int))then
L10r L9 RM IE JF BQ RM 0
else
J19 L8 IE RM
def L9r(L8:jb)(Px:jf)(IE:Int):Nat->(List (List Bool))->Int->ABi (List (List Bool))
|0,_,_=>none
|n+1,RM,JF=>L9 L8 Px IE (L9r L8 Px IE n) RM JF
def L8(UH:jf)(L8:jb)(Px:jf)(IE:Int):=if decide (IE<(UH.length:Int))then
L9r L8 Px IE BQ Px 0
else
J20 Px
def L8r(UH:jf):Nat->(List (List Bool))->Int->ABi (List (List Bool))
|0,_,_=>none
|n+1,Px,IE=>L8 UH (L8r UH n) Px IE
def J15(UH:jf):ABi (List (List Bool)):=L8r UH BQ UH 0
def J14(L5:jb)(k:Int)(o_15:jf):=L5 o_15 (A8 (k+1))
def J13(L6:jb)(KL:Int)(o_14:jf):=L6 o_14 (A8 (KL+1))
def gN(L7:jb)(KM:Int)(o_13:jf):=L7 o_13 (A8 (KM+1))
def Qu(L7:jb)(Pw:jf)(KM:Int)(Me Ue:Ae)(t193v:Bool):ABi (List (List Bool)):=if t193v then(gt Pw Me.e7).bind λx_15=>(gt x_15 Ue.e6).bind λx_16=>gN L7 KM (Pw.set Me.e7.toNat (x_15.set Ue.e6.toNat true))
else
gN L7 KM Pw
def L7(L6:jb)(KL:Int)(UY:li)(Me:Ae)(L7:jb)(Pw:jf)(KM:Int):=if decide (KM<(UY.length:Int))then(gt UY KM).bind λUe=>if decide (Me.e6<0)then
if decide (Me.e7>=0)then
if decide (Ue.e6>=0)then
if Me.db != Ue.db then
if Me.eM then
Qu L7 Pw KM Me Ue (!Ue.eM)
else
Qu L7 Pw KM Me Ue true
else
Qu L7 Pw KM Me Ue false
else
Qu L7 Pw KM Me Ue false
else
Qu L7 Pw KM Me Ue false
else
Qu L7 Pw KM Me Ue false
else
J13 L6 KL Pw
def L7r(L6:jb)(KL:Int)(UY:li)(Me:Ae):Nat->(List (List Bool))->Int->ABi (List (List Bool))
|0,_,_=>none
|n+1,Pw,KM=>L7 L6 KL UY Me (L7r L6 KL UY Me n) Pw KM
def L6(L5:jb)(k:Int)(UY:li)(L6:jb)(xX:jf)(KL:Int):=if decide (KL<(UY.length:Int))then(gt UY KL).bind λMe=>L7r L6 KL UY Me BQ xX 0
else
J14 L5 k xX
def L6r(L5:jb)(k:Int)(UY:li):Nat->(List (List Bool))->Int->ABi (List (List Bool))
|0,_,_=>none
|n+1,xX,KL=>L6 L5 k UY (L6r L5 k UY n) xX KL
def L5(wv:AE)(L5:jb)(xW:jf)(k:Int):=if decide (k<=(wv.dc.AK.length:Int))then(DA wv.dc wv.dg.df wv.AB k).bind λUY=>L6r L5 k UY BQ xW 0
else
J15 xW
def L5r(wv:AE):Nat->(List (List Bool))->Int->ABi (List (List Bool))
|0,_,_=>none
|n+1,xW,k=>L5 wv (L5r wv n) xW k
def OS(wv:AE)(o_9:jf):ABi (List (List Bool)):=L5r wv BQ o_9 0
def J9(L2:jb)(FB:Int)(o_8:jf):=L2 o_8 (A8 (FB+1))
def J8(L2:jb)(tZ:jf)(FB only_2 many_2:Int):=if many_2==1 then(gt tZ only_2).bind λx_11=>(gt x_11 FB).bind λx_12=>J9 L2 FB (tZ.set only_2.toNat (x_11.set FB.toNat true))
else
J9 L2 FB tZ
def J7(L4:ng)(Qa only_1 many_1:Int):=L4 only_1 many_1 (A8 (Qa+1))
def L4(L2:jb)(tZ:jf)(FB:Int)(wv:AE)(PV:AH)(L4:ng)(only many Qa:Int):=if decide (Qa<(wv.AB.length:Int))then(ID wv Qa PV.dq PV.db).bind λv_5=>if v_5 then
J7 L4 Qa Qa (A8 (many+1))
else
J7 L4 Qa only many
else
J8 L2 tZ FB only many
def tF(L2:jb)(tZ:jf)(FB:Int)(wv:AE)(PV:AH):Nat->Int->Int->Int->ABi (List (List Bool))
|0,_,_,_=>none
|n+1,only,many,Qa=>L4 L2 tZ FB wv PV (tF L2 tZ FB wv PV n) only many Qa
def J6(L2:jb)(FB:Int)(wv:AE)(PV:AH)(tZ:jf):=if PV.de != 17 then
J9 L2 FB tZ
else(HO wv FB).bind λv_4=>if v_4.2 then
tF L2 tZ FB wv PV BQ (-1) 0 0
else
J9 L2 FB tZ
def J5(L3:jb)(WR:Int)(o_6:jf):=L3 o_6 (A8 (WR+1))
def J4(L3:jb)(o_5:jf)(FB WR:Int)(dO:i6)(t92v:Bool):=if t92v then(gt dO 0).bind λx_8=>(gt o_5 x_8).bind λx_9=>(gt x_9 FB).bind λx_10=>J5 L3 WR (o_5.set x_8.toNat (x_9.set FB.toNat true))
else
J5 L3 WR o_5
def L3(L2:jb)(FB:Int)(yS:i6)(wv:AE)(PV:AH)(L3:jb)(o_5:jf)(WR:Int):=if decide (WR<(yS.length:Int))then(gt yS WR).bind λx_6=>(CT wv x_6).bind λdO=>if(dO.length:Int)==1 then(gt dO 0).bind λx_7=>J4 L3 o_5 FB WR dO (decide (x_7>=0))
else
J4 L3 o_5 FB WR dO false
else
J6 L2 FB wv PV o_5
def E3(L2:jb)(FB:Int)(yS:i6)(wv:AE)(PV:AH):Nat->(List (List Bool))->Int->ABi (List (List Bool))
|0,_,_=>none
|n+1,o_5,WR=>L3 L2 FB yS wv PV (E3 L2 FB yS wv PV n) o_5 WR
def J3(L2:jb)(FB:Int)(wv:AE)(PV:AH)(o_4:jf):=(DG wv FB).bind λyS=>E3 L2 FB yS wv PV BQ o_4 0
def J2(L2:jb)(FB:Int)(wv:AE)(PV:AH)(o_3:jf):=(EA wv FB).bind λZG=>if decide (ZG>=0)then(gt o_3 ZG).bind λx_4=>(gt x_4 FB).bind λx_5=>J3 L2 FB wv PV (o_3.set ZG.toNat (x_4.set FB.toNat true))
else
J3 L2 FB wv PV o_3
def L2(wv:AE)(L2:jb)(o_2:jf)(FB:Int):=if decide (FB<(wv.AB.length:Int))then(gt wv.AB FB).bind λPV=>(Hg wv.AB FB).bind λv=>if decide (v>=0)then(gt o_2 v).bind λx_2=>(gt x_2 FB).bind λx_3=>J2 L2 FB wv PV (o_2.set v.toNat (x_2.set FB.toNat true))
else
J2 L2 FB wv PV o_2
else
OS wv o_2
def Bs(wv:AE):Nat->(List (List Bool))->Int->ABi (List (List Bool))
|0,_,_=>none
|n+1,o_2,FB=>L2 wv (Bs wv n) o_2 FB
def J1(wv:AE)(o_1:jf):=Bs wv BQ o_1 0
def L1(wv:AE)(L1:jb)(o:jf)(nU:Int):=if decide (nU<(wv.AB.length:Int))then
if 0<=(wv.AB.length:Int)/\(wv.AB.length:Int)<=(wv.AB.length:Int)/\Ap wv.AB.length 1=true then(gt o nU).bind λx=>L1 (o.set nU.toNat (List.replicate wv.AB.length false)) (A8 (nU+1))
else none
else
J1 wv o
def AR(wv:AE):Nat->(List (List Bool))->Int->ABi (List (List Bool))
|0,_,_=>none
|n+1,o,nU=>L1 wv (AR wv n) o nU
end CL
section
open CL
def CL(wv:AE):=if 0<=(wv.AB.length:Int)/\(wv.AB.length:Int)<=(wv.AB.length:Int)/\Ap wv.AB.length 24=true then
AR wv BQ (List.replicate wv.AB.length ([]:List Bool)) 0
else none
def fX{wv:AE}{r:jf}(h:CL wv=some r):Says prog 27 [.agg (Av wv)] (vO 1 Kn r):=by
 refine P7 mix func27 chk27 (AAQ (by kernel_rfl)) rfl ?_;simp only[f27,f27c,f27g,f27r];repeat' first
  |with_reducible exact DT h
  |with_reducible refine gBe h bm λh=>?_
  |with_reducible refine gBk h λ_ _ h=>?_
  |with_reducible refine cSk h λ_ h=>?_
  | (with_reducible refine bSk h λ_ g h=>?_
     (try simp +decide only[go_sem, *]);refine⟨_,by first|exact V2 g|exact Yq g|exact V4 g|exact Yo g|exact Mh g|exact Yp g|exact V0 g,?_⟩)
  | (with_reducible cases h
     simp +decide only[go_sem, *];done)
  |simp only[eq_self,AAl,AAY,AAR]at h
  |simp +decide only[go_sem, *]
  | (with_reducible refine zW 11 (λj=>∃Pw:List (List Bool),∃KM:Int,∃Ue:Ae,∃t193v:Bool,(j 1=bA 15 (Av wv)/\j 3=vS 7 Aw wv.AB/\j 4=vO 1 Kn Pw/\j 18=si k/\j 19=vO 4 GA UY/\j 21=bA 4 (GA Me)/\j 23=bA 4 (GA Ue)/\j 153=.al 19 []/\j 154=si (UY.length:Int)/\j 155=si KL/\j 159=.al 19 []/\j 160=si (UY.length:Int)/\j 161=si KM/\j 193=sb t193v)/\Qu (L7r (L6r (L5r wv n5) k UY n6) KL UY Me n7) Pw KM Me Ue t193v=some r) λM m11=>⟨?_,?_⟩
     rotate_left;clear h;rintro j ⟨_,_,_,_,_,h⟩;rotate_left)
  | (with_reducible refine impI m11 ⟨_,_,_,_,?_,h⟩;simp +decide only[go_sem, *];done)
  | (with_reducible refine zW 3 (λj=>∃FB:Int,∃PV:AH,∃o_4:List (List Bool),(j 1=bA 15 (Av wv)/\j 3=vS 7 Aw wv.AB/\j 4=vO 1 Kn o_4/\j 6=si FB/\j 7=bA 7 (Aw PV)/\j 44=vS 7 Aw wv.AB/\j 45=si (wv.AB.length:Int)/\j 46=si FB)/\J3 (Bs wv n2) FB wv PV o_4=some r) λM m3=>⟨?_,?_⟩
     rotate_left;clear h;rintro j ⟨_,_,_,_,h⟩;rotate_left)
  | (with_reducible refine impI m3 ⟨_,_,_,?_,h⟩;simp +decide only[go_sem, *];done)
  | (with_reducible refine zW 2 (λj=>∃FB:Int,∃PV:AH,∃o_3:List (List Bool),(j 1=bA 15 (Av wv)/\j 3=vS 7 Aw wv.AB/\j 4=vO 1 Kn o_3/\j 6=si FB/\j 7=bA 7 (Aw PV)/\j 44=vS 7 Aw wv.AB/\j 45=si (wv.AB.length:Int)/\j 46=si FB)/\J2 (Bs wv n2) FB wv PV o_3=some r) λM m2=>⟨?_,?_⟩
     rotate_left;clear h;rintro j ⟨_,_,_,_,h⟩;rotate_left)
  | (with_reducible refine impI m2 ⟨_,_,_,?_,h⟩;simp +decide only[go_sem, *];done)
  | (with_reducible refine NK (λn j=>∃UH:List (List Bool),∃Px:List (List Bool),∃IE:Int,(j 4=vO 1 Kn Px/\j 205=si (UH.length:Int)/\j 206=si IE)/\L8r UH n Px IE=some r) ⟨_,_,_,?_,h⟩ ?_
     rotate_left;rintro(_|n8) j N ⟨UH,_,_,_,h⟩ k8;exact DT h;rw[L8r]at h)
  | (with_reducible refine NK (λn j=>∃Px:List (List Bool),∃IE:Int,∃RM:List (List Bool),∃JF:Int,(j 4=vO 1 Kn RM/\j 24=si IE/\j 205=si (UH.length:Int)/\j 206=si IE/\j 210=si (Px.length:Int)/\j 211=si JF)/\L9r (L8r UH n8) Px IE n RM JF=some r) ⟨_,_,_,_,?_,h⟩ ?_
     rotate_left;rintro(_|n9) j N ⟨Px,IE,_,_,_,h⟩ k9;exact DT h;rw[L9r]at h)
  | (with_reducible refine NK (λn j=>∃RM:List (List Bool),∃JF:Int,∃VW:List (List Bool),∃Mj:Int,(j 4=vO 1 Kn VW/\j 24=si IE/\j 25=si JF/\j 205=si (UH.length:Int)/\j 206=si IE/\j 210=si (Px.length:Int)/\j 211=si JF/\j 215=si (RM.length:Int)/\j 216=si Mj)/\L10r (L9r (L8r UH n8) Px IE n9) RM IE JF n VW Mj=some r) ⟨_,_,_,_,?_,h⟩ ?_
     rotate_left;rintro(_|n10) j N ⟨RM,JF,_,_,_,h⟩ k10;exact DT h;rw[L10r]at h)
  | (with_reducible refine NK (λn j=>∃xW:List (List Bool),∃k:Int,(j 1=bA 15 (Av wv)/\j 3=vS 7 Aw wv.AB/\j 4=vO 1 Kn xW/\j 18=si k)/\L5r wv n xW k=some r) ⟨_,_,?_,h⟩ ?_
     rotate_left;rintro(_|n5) j N ⟨_,_,_,h⟩ k5;exact DT h;rw[L5r]at h)
  | (with_reducible refine NK (λn j=>∃k:Int,∃UY:List Ae,∃xX:List (List Bool),∃KL:Int,(j 1=bA 15 (Av wv)/\j 3=vS 7 Aw wv.AB/\j 4=vO 1 Kn xX/\j 18=si k/\j 19=vO 4 GA UY/\j 153=.al 19 []/\j 154=si (UY.length:Int)/\j 155=si KL)/\L6r (L5r wv n5) k UY n xX KL=some r) ⟨_,_,_,_,?_,h⟩ ?_
     rotate_left;rintro(_|n6) j N ⟨k,UY,_,_,_,h⟩ k6;exact DT h;rw[L6r]at h)
  | (with_reducible refine NK (λn j=>∃KL:Int,∃Me:Ae,∃Pw:List (List Bool),∃KM:Int,(j 1=bA 15 (Av wv)/\j 3=vS 7 Aw wv.AB/\j 4=vO 1 Kn Pw/\j 18=si k/\j 19=vO 4 GA UY/\j 21=bA 4 (GA Me)/\j 153=.al 19 []/\j 154=si (UY.length:Int)/\j 155=si KL/\j 159=.al 19 []/\j 160=si (UY.length:Int)/\j 161=si KM)/\L7r (L6r (L5r wv n5) k UY n6) KL UY Me n Pw KM=some r) ⟨_,_,_,_,?_,h⟩ ?_
     rotate_left;rintro(_|n7) j N ⟨KL,Me,_,_,_,h⟩ k7;exact DT h;rw[L7r]at h)
  | (with_reducible refine NK (λn j=>∃o_2:List (List Bool),∃FB:Int,(j 1=bA 15 (Av wv)/\j 3=vS 7 Aw wv.AB/\j 4=vO 1 Kn o_2/\j 44=vS 7 Aw wv.AB/\j 45=si (wv.AB.length:Int)/\j 46=si FB)/\Bs wv n o_2 FB=some r) ⟨_,_,?_,h⟩ ?_
     rotate_left;rintro(_|n2) j N ⟨_,_,_,h⟩ k2;exact DT h;rw[Bs]at h)
  | (with_reducible refine NK (λn j=>∃tZ:List (List Bool),∃FB:Int,∃PV:AH,∃only:Int,∃many:Int,∃Qa:Int,(j 1=bA 15 (Av wv)/\j 3=vS 7 Aw wv.AB/\j 4=vO 1 Kn tZ/\j 6=si FB/\j 7=bA 7 (Aw PV)/\j 15=si only/\j 16=si many/\j 44=vS 7 Aw wv.AB/\j 45=si (wv.AB.length:Int)/\j 46=si FB/\j 113=si (wv.AB.length:Int)/\j 114=si Qa)/\tF (Bs wv n2) tZ FB wv PV n only many Qa=some r) ⟨_,_,_,_,_,_,?_,h⟩ ?_
     rotate_left;rintro(_|n4) j N ⟨tZ,FB,PV,_,_,_,_,h⟩ k4;exact DT h;rw[tF]at h)
  | (with_reducible refine NK (λn j=>∃FB:Int,∃yS:List Int,∃PV:AH,∃o_5:List (List Bool),∃WR:Int,(j 1=bA 15 (Av wv)/\j 3=vS 7 Aw wv.AB/\j 4=vO 1 Kn o_5/\j 6=si FB/\j 7=bA 7 (Aw PV)/\j 44=vS 7 Aw wv.AB/\j 45=si (wv.AB.length:Int)/\j 46=si FB/\j 75=vO 1 eI yS/\j 76=si (yS.length:Int)/\j 77=si WR)/\E3 (Bs wv n2) FB yS wv PV n o_5 WR=some r) ⟨_,_,_,_,_,?_,h⟩ ?_
     rotate_left;rintro(_|n3) j N ⟨FB,yS,PV,_,_,_,h⟩ k3;exact DT h;rw[E3]at h)
  | (with_reducible refine NK (λn j=>∃o:List (List Bool),∃nU:Int,(j 1=bA 15 (Av wv)/\j 3=vS 7 Aw wv.AB/\j 4=vO 1 Kn o/\j 33=si (wv.AB.length:Int)/\j 34=si nU)/\AR wv n o nU=some r) ⟨_,_,?_,h⟩ ?_
     rotate_left;rintro(_|n1) j N ⟨_,_,_,h⟩ k1;exact DT h;rw[AR]at h)
  |with_reducible refine Ow k1 ⟨_,_,?_,h⟩
  |with_reducible refine Ow k3 ⟨_,_,_,_,_,?_,h⟩
  |with_reducible refine Ow k4 ⟨_,_,_,_,_,_,?_,h⟩
  |with_reducible refine Ow k2 ⟨_,_,?_,h⟩
  |with_reducible refine Ow k7 ⟨_,_,_,_,?_,h⟩
  |with_reducible refine Ow k6 ⟨_,_,_,_,?_,h⟩
  |with_reducible refine Ow k5 ⟨_,_,?_,h⟩
  |with_reducible refine Ow k10 ⟨_,_,_,_,?_,h⟩
  |with_reducible refine Ow k9 ⟨_,_,_,_,?_,h⟩
  |with_reducible refine Ow k8 ⟨_,_,_,?_,h⟩
  |simp only[*,eq_self,AAl,AAY,AAR,decide_true,decide_false]at h
  | (with_reducible refine bI h ?_ ?_
     all_goals clear h;intro _ h)
  |unfold CL at h
  |unfold J20 at h
  |unfold J19 at h
  |unfold J18 at h
  |unfold J17 at h
  |unfold J16 at h
  |unfold L10 at h
  |unfold L9 at h
  |unfold L8 at h
  |unfold J15 at h
  |unfold J14 at h
  |unfold J13 at h
  |unfold gN at h
  |unfold Qu at h
  |unfold L7 at h
  |unfold L6 at h
  |unfold L5 at h
  |unfold OS at h
  |unfold J9 at h
  |unfold J8 at h
  |unfold J7 at h
  |unfold L4 at h
  |unfold J6 at h
  |unfold J5 at h
  |unfold J4 at h
  |unfold L3 at h
  |unfold J3 at h
  |unfold J2 at h
  |unfold L2 at h
  |unfold J1 at h
  |unfold L1 at h
end
namespace Ce
def L1(R100:mi)(a:kf)(L1:BW->Int->ABi BW)(c:BW)(b:Int):=if decide (b<(a.length:Int))then(gt a b).bind λf=>(R100 c f).bind λe=>L1 e (A8 (b+1))
else
some c
def AR(R100:mi)(a:kf):Nat->BW->Int->ABi BW
|0,_,_=>none
|n+1,c,b=>L1 R100 a (AR R100 a n) c b
end Ce
variable{g:mi}{b r:BW}
section
open Ce
def Ce(R100:mi)(d:BW)(a:kf):=AR R100 a BQ d 0
theorem UP(H100:∀{x0 x1 r},g x0 x1=some r->BM prog 222 [bA 10 (E2 x0),.agg [si x1.Op,si x1.Gd,B4 x1.dv,B4 x1.eT,vS 4 Bc x1.d8,si x1.dX.Op,si x1.dX.N,B4 x1.dX.dv,vS 4 Bc x1.dX.L,vS 11 BV x1.dz,vS 11 BV x1.ed]] (.Bo []) [bA 10 (E2 r),.dead]){a:kf}(h:Ce g b a=some r):BM prog 183 [bA 10 (E2 b),vS 11 BV a] (.Bo []) [bA 10 (E2 r),.dead]:=by refine kL mix func183 (hn [(0,[11])]) ?_;have a1:=@H100;have l1:=i4 λn b=>∃c d,(b 0=bA 10 (E2 c)/\b 1=vS 11 BV a/\b 4=si d)/\AR g a n c d=some r;unfold Ce at h;exact walk
end
namespace C4
def J1(R101:mi)(R102:mb)(a:BW)(b:AU)(c:Bool):ABi BW:=if c then(R101 (BW.mk a.w a.du a.dx a.next (A8 (a.next+1))) b).bind λl=>some l
else
if b.Op==4 then(Ee a.w.AK b.dv).bind λw=>(R102 (BW.mk a.w a.du a.dx a.next (A8 (a.next+1))) b 11 12 w).bind λac=>some ac
else
if b.Op==5 then(Ee a.w.AK b.dv).bind λad=>(R102 (BW.mk a.w a.du a.dx a.next (A8 (a.next+1))) b 13 14 ad).bind λae=>some ae
else
if b.Op==6 then(Ee a.w.AK b.dv).bind λaf=>(R102 (BW.mk a.w a.du a.dx a.next (A8 (a.next+1))) b 15 16 af).bind λai=>some ai
else
if b.Op==7 then(R102 (BW.mk a.w a.du a.dx a.next (A8 (a.next+1))) b 17 18 0).bind λaj=>some aj
else
if b.Op==8 then(R102 (BW.mk a.w a.du a.dx a.next (A8 (a.next+1))) b 19 20 0).bind λal=>some al
else
if b.Op==9 then(Cw (BW.mk a.w a.du a.dx a.next (A8 (a.next+1))) b.dv).bind λd=>(BU d.2 (Ak.mk 21 d.1 0 0 0 0)).bind λo=>some o
else
if b.Op==10 then(Cw (BW.mk a.w a.du a.dx a.next (A8 (a.next+1))) b.dv).bind λe=>(BU e.2 (Ak.mk 22 e.1 0 0 0 0)).bind λp=>some p
else
if b.Op==11 then(Cw (BW.mk a.w a.du a.dx a.next (A8 (a.next+1))) b.dv).bind λf=>(BU f.2 (Ak.mk 23 f.1 0 0 0 0)).bind λq=>some q
else
if b.Op==12 then(Cv a.w.AA b.dv).bind λs=>(BU (BW.mk a.w a.du a.dx a.next (A8 (a.next+1))) (Ak.mk 24 s 0 0 0 0)).bind λt=>some t
else
if b.Op==13 then(Cv a.w.AA b.dv).bind λu=>(BU (BW.mk a.w a.du a.dx a.next (A8 (a.next+1))) (Ak.mk 25 u 0 0 0 0)).bind λv=>some v
else
if b.Op==14 then(DL BQ (BW.mk a.w a.du a.dx a.next (A8 (a.next+1))) b.dX (a.du.length:Int)).bind λi=>(Cv i.w.AL b.dv).bind λx=>(BU i (Ak.mk 26 x (a.du.length:Int) 0 0 0)).bind λy=>some y
else
if b.Op==15 then(Cv a.du b.dv).bind λz=>(Cv a.w.AL b.eT).bind λaa=>(BU (BW.mk a.w a.du a.dx a.next (A8 (a.next+1))) (Ak.mk 27 z aa 0 0 0)).bind λab=>some ab
else
some (BW.mk a.w a.du a.dx a.next (A8 (a.next+1)))
end C4
variable{i:mb}{a:AU}
section
open C4
def C4(R101:mi)(R102:mb)(a:BW)(b:AU):=if b.Op==1 then(Gp (BW.mk a.w a.du a.dx a.next (A8 (a.next+1))) b).bind λj=>some j
else
if b.Op==2 then
J1 R101 R102 a b (b.Op==2)
else
J1 R101 R102 a b (b.Op==3)
theorem Vu(H101:∀{x0 x1 r},g x0 x1=some r->BM prog 250 [bA 10 (E2 x0),.agg [si x1.Op,si x1.Gd,B4 x1.dv,B4 x1.eT,vS 4 Bc x1.d8,si x1.dX.Op,si x1.dX.N,B4 x1.dX.dv,vS 4 Bc x1.dX.L,vS 11 BV x1.dz,vS 11 BV x1.ed]] (.Bo []) [bA 10 (E2 r),.dead])(H102:∀{x0 x1 x2 x3 x4 r},i x0 x1 x2 x3 x4=some r->BM prog 251 [bA 10 (E2 x0),.agg [si x1.Op,si x1.Gd,B4 x1.dv,B4 x1.eT,vS 4 Bc x1.d8,si x1.dX.Op,si x1.dX.N,B4 x1.dX.dv,vS 4 Bc x1.dX.L,vS 11 BV x1.dz,vS 11 BV x1.ed],si x2,si x3,si x4] (.Bo []) [bA 10 (E2 r),.dead,.dead,.dead,.dead])(h:C4 g i b a=some r):BM prog 222 [bA 10 (E2 b),.agg [si a.Op,si a.Gd,B4 a.dv,B4 a.eT,vS 4 Bc a.d8,si a.dX.Op,si a.dX.N,B4 a.dX.dv,vS 4 Bc a.dX.L,vS 11 BV a.dz,vS 11 BV a.ed]] (.Bo []) [bA 10 (E2 r),.dead]:=by refine kL mix func222 (hn [(0,[5,6,7,8,10,11,12,13,14,17,18,19,20,21,22,28,34,39,41,42,43,44,45,52,54,55,56,57,58,65,67,68,69,70,71,78,83,88,89,97,98,106,107,115,116,117,118,119,120,128,129,130,131,132,133,141,146,147,148,149,150,151,160,161,162,163,164,168,169,170,171,172]),(3,[24,46,59,72,90,99,108,121,134,142,152,165,173])] [(6,1)]) ?_;have a1:=@S8;have a2:=@H101;have a3:=@QV;have a4:=@H102;have a5:=@Vt;have a6:=@Hk;have a7:=@I0;have a8:=@KG;have c1:=i5 1 λd=>∃c,(d 0=bA 10 [vS 5 Hp b.w.di,vS 2 Ix b.w.AK,vS 2 Iw b.w.Al,vS 1 eS b.w.AL,vS 1 eS b.w.AA,vS 3 G9 b.w.Bt,vS 1 eS b.du,vO 6 Ew b.dx,si b.next,si (A8 (b.next+1))]/\d 3=bA 11 [si a.Op,si a.Gd,B4 a.dv,B4 a.eT,vS 4 Bc a.d8,si a.dX.Op,si a.dX.N,B4 a.dX.dv,vS 4 Bc a.dX.L,vS 11 BV a.dz,vS 11 BV a.ed]/\d 4=si (b.du.length:Int)/\d 25=si a.Op/\d 31=sb c)/\J1 g i b a c=some r;unfold C4 at h;exact walk
end
def DR(R103:mB)(c:BW)(a:AU):ABi BW:=(DL BQ c a.dX (c.du.length:Int)).bind λd=>(BU d (Ak.mk 10 (d.du.length:Int) 0 0 0 0)).bind λq=>(R103 q a.dz).bind λb=>if a.Op==3 then(BU (BW.mk b.w b.du b.dx c.dy b.next) (Ak.mk 5 (c.dx.length:Int) 0 0 0 0)).bind λe=>(gt e.dx (d.dx.length:Int)).bind λj=>some (BW.mk e.w e.du (e.dx.set d.dx.length (Ak.mk j.Op j.A (e.dx.length:Int) j.C j.N j.d7)) e.dy e.next)
else
if(a.ed.length:Int)==0 then(gt b.dx (d.dx.length:Int)).bind λl=>some (BW.mk b.w b.du (b.dx.set d.dx.length (Ak.mk l.Op l.A (b.dx.length:Int) l.C l.N l.d7)) c.dy b.next)
else(BU (BW.mk b.w b.du b.dx c.dy b.next) (Ak.mk 5 0 0 0 0 0)).bind λf=>(gt f.dx (d.dx.length:Int)).bind λo=>(R103 (BW.mk f.w f.du (f.dx.set d.dx.length (Ak.mk o.Op o.A (f.dx.length:Int) o.C o.N o.d7)) f.dy f.next) a.ed).bind λi=>(gt i.dx (b.dx.length:Int)).bind λp=>some (BW.mk i.w i.du (i.dx.set b.dx.length (Ak.mk p.Op (i.dx.length:Int) p.B p.C p.N p.d7)) i.dy i.next)
variable{f:mB}
theorem Qm(H103:∀{x0 x1 r},f x0 x1=some r->BM prog 183 [bA 10 (E2 x0),vS 11 BV x1] (.Bo []) [bA 10 (E2 r),.dead])(h:DR f b a=some r):BM prog 250 [bA 10 (E2 b),.agg [si a.Op,si a.Gd,B4 a.dv,B4 a.eT,vS 4 Bc a.d8,si a.dX.Op,si a.dX.N,B4 a.dX.dv,vS 4 Bc a.dX.L,vS 11 BV a.dz,vS 11 BV a.ed]] (.Bo []) [bA 10 (E2 r),.dead]:=by refine kL mix func250 (hn [(0,[8,9,10,12,13,14,15,17,20,21,22,23,26,27,28,29,31,32,33,34,35,39,43,45,46,50,54,55,56,57,59,60,61,62,64,65,70,71,72,73,75,76,77,78,80,81,82,83,84,85,87,90,91,92,93,95,96,97,98,100,101,102,106,107,108,109,111,112,113,114,116,117]),(3,[18,40,47,66,103])]) ?_;have a1:=@KG;have a2:=@Hk;have a3:=@H103;unfold DR at h;exact walk
def Di(R103:mB)(b:BW)(a:AU)(d e c:Int):ABi BW:=(BU b (Ak.mk d c 0 0 0 0)).bind λi=>(R103 i a.dz).bind λf=>(BU (BW.mk f.w f.du f.dx b.dy f.next) (Ak.mk e c 0 0 0 0)).bind λj=>some j
variable{d e c:Int}
theorem S7(H103:∀{x0 x1 r},f x0 x1=some r->BM prog 183 [bA 10 (E2 x0),vS 11 BV x1] (.Bo []) [bA 10 (E2 r),.dead])(h:Di f b a d e c=some r):BM prog 251 [bA 10 (E2 b),.agg [si a.Op,si a.Gd,B4 a.dv,B4 a.eT,vS 4 Bc a.d8,si a.dX.Op,si a.dX.N,B4 a.dX.dv,vS 4 Bc a.dX.L,vS 11 BV a.dz,vS 11 BV a.ed],si d,si e,si c] (.Bo []) [bA 10 (E2 r),.dead,.dead,.dead,.dead]:=by refine kL mix func251 (hn [(0,[11,12,13,15,20,24,26,27,28]),(6,[21])]) ?_;have a1:=@Hk;have a2:=@H103;unfold Di at h;exact walk
def E0:Nat->(BW->(List AU)->ABi BW)×(BW->AU->ABi BW)×(BW->AU->ABi BW)×(BW->AU->Int->Int->Int->ABi BW)
|0=>((λ_ _=>none),(λ_ _=>none),(λ_ _=>none),(λ_ _ _ _ _=>none))
|n+1=>(Ce ((E0 n).2.1),C4 ((E0 n).2.2.1) ((E0 n).2.2.2),DR ((E0 n).1),Di ((E0 n).1))
def D4(n:Nat):BW->(List AU)->ABi BW:=(E0 n).1
def QU(n:Nat):BW->AU->ABi BW:=(E0 n).2.1
def S9(n:Nat):BW->AU->ABi BW:=(E0 n).2.2.1
def Vs(n:Nat):BW->AU->Int->Int->Int->ABi BW:=(E0 n).2.2.2
theorem TC(n:Nat):(∀{x0 x1 r},(D4 n) x0 x1=some r->BM prog 183 [bA 10 (E2 x0),vS 11 BV x1] (.Bo []) [bA 10 (E2 r),.dead])/\(∀{x0 x1 r},(QU n) x0 x1=some r->BM prog 222 [bA 10 (E2 x0),.agg [si x1.Op,si x1.Gd,B4 x1.dv,B4 x1.eT,vS 4 Bc x1.d8,si x1.dX.Op,si x1.dX.N,B4 x1.dX.dv,vS 4 Bc x1.dX.L,vS 11 BV x1.dz,vS 11 BV x1.ed]] (.Bo []) [bA 10 (E2 r),.dead])/\(∀{x0 x1 r},(S9 n) x0 x1=some r->BM prog 250 [bA 10 (E2 x0),.agg [si x1.Op,si x1.Gd,B4 x1.dv,B4 x1.eT,vS 4 Bc x1.d8,si x1.dX.Op,si x1.dX.N,B4 x1.dX.dv,vS 4 Bc x1.dX.L,vS 11 BV x1.dz,vS 11 BV x1.ed]] (.Bo []) [bA 10 (E2 r),.dead])/\(∀{x0 x1 x2 x3 x4 r},(Vs n) x0 x1 x2 x3 x4=some r->BM prog 251 [bA 10 (E2 x0),.agg [si x1.Op,si x1.Gd,B4 x1.dv,B4 x1.eT,vS 4 Bc x1.d8,si x1.dX.Op,si x1.dX.N,B4 x1.dX.dv,vS 4 Bc x1.dX.L,vS 11 BV x1.dz,vS 11 BV x1.ed],si x2,si x3,si x4] (.Bo []) [bA 10 (E2 r),.dead,.dead,.dead,.dead]):=by induction n with|zero=>exact⟨λh=>DT h,λh=>DT h,λh=>DT h,λh=>DT h⟩|succ n ih=>exact⟨λh=>UP ih.2.1 h,λh=>Vu ih.2.2.1 ih.2.2.2 h,λh=>Qm ih.1 h,λh=>S7 ih.1 h⟩
def TD{n:Nat}:∀{x0 x1 r},(D4 n) x0 x1=some r->BM prog 183 [bA 10 (E2 x0),vS 11 BV x1] (.Bo []) [bA 10 (E2 r),.dead]:=(TC n).1
end Go.Abs
