/- Typed programs of Go functions, and that the functions do what these say. -/
import Derived.Test.YtkpdblcoclbgbaaGreatDoorBaseA
import Derived.Shelf.Slices.SearchI
set_option linter.unusedSimpArgs false
set_option linter.unusedVariables false
namespace Go.Abs
open Go.Proofs
set_option maxRecDepth 100000
set_option maxHeartbeats 4000000
def AA3:IC:=(Ra 0 [.B 2 false]
(Rb 3 [.C 0,.o (.bin .geq (.t 3) (.c (.sc (.int .u8 97)))),.C 4,.G 5 true,.C 0,.o (.bin .leq (.t 6) (.c (.sc (.int .u8 122)))),.e,.W 5 7,.C 8,.G 9 false,.C 0,.o (.bin .geq (.t 10) (.c (.sc (.int .u8 65)))),.C 11,.G 12 true,.C 0,.o (.bin .leq (.t 13) (.c (.sc (.int .u8 90)))),.G 9 false,.o (.pick (.t 12) (.t 14) (.c (sb false))),.e,.V 9 15,.M 2 16]))
def AA4:Gi:=⟨[]⟩
def AA5:List RV:=[.tmp 2]
namespace EB
def J1 (b:Bool):Option Bool:=
some b
end EB
section
open EB
def EB (a:Int):Option Bool:=
if decide (a≥97)then
if decide (a≤122)then
J1 true
else
if decide (a≥65)then
J1 (decide (a≤90))
else
J1 false
else
if decide (a≥65)then
J1 (decide (a≤90))
else
J1 false
theorem Jg {a:Int} {r:Bool} (h:EB a=some r):Says Tryz.prog 76 [.sc (.int .u8 a)] (sb r):=by
 refine wO mix Tryz.func76 (I:=⟨AA3,AA4,AA5⟩) ?_
 simp only[AA3,AA4,AA5]
 unfold EB at h
 exact walk
end
def lY:IC:=(Ra 0 [.o (.mv (.c (.own false 1 [])))]
(Rb 1 [.o (.Eg 1 [[Ao ⟨#[]⟩],[Ao ⟨#[]⟩],[Ao ⟨#[]⟩],[Ao ⟨#[]⟩],[Ao ⟨#[]⟩],[Ao ⟨#[]⟩],[Ao ⟨#[]⟩],[Ao ⟨#[]⟩],[Ao ⟨#[]⟩],[Ao ⟨#[]⟩],[Ao ⟨#[]⟩],[Ao ⟨#[]⟩],[Ao ⟨#[]⟩],[Ao ⟨#[]⟩],[Ao ⟨#[]⟩],[Ao ⟨#[]⟩],[Ao ⟨#[]⟩],[Ao ⟨#[]⟩],[Ao ⟨#[]⟩],[Ao ⟨#[]⟩],[Ao ⟨#[]⟩],[Ao ⟨#[]⟩]] [(0,.c (Ao ⟨#[118,97,114]⟩)),(1,.c (Ao ⟨#[118,111,108,97,116,105,108,101]⟩)),(2,.c (Ao ⟨#[109,117,116,101,120]⟩)),(3,.c (Ao ⟨#[114,119,108,111,99,107]⟩)),(4,.c (Ao ⟨#[99,111,110,100]⟩)),(5,.c (Ao ⟨#[102,117,116,117,114,101]⟩)),(6,.c (Ao ⟨#[116,104,114,101,97,100]⟩)),(7,.c (Ao ⟨#[105,102]⟩)),(8,.c (Ao ⟨#[101,108,115,101]⟩)),(9,.c (Ao ⟨#[119,104,105,108,101]⟩)),(10,.c (Ao ⟨#[108,111,99,107]⟩)),(11,.c (Ao ⟨#[114,101,97,100]⟩)),(12,.c (Ao ⟨#[119,114,105,116,101]⟩)),(13,.c (Ao ⟨#[116,114,97,110,115,97,99,116,105,111,110]⟩)),(14,.c (Ao ⟨#[97,116,111,109,105,99]⟩)),(15,.c (Ao ⟨#[119,97,105,116]⟩)),(16,.c (Ao ⟨#[110,111,116,105,102,121]⟩)),(17,.c (Ao ⟨#[110,111,116,105,102,121,97,108,108]⟩)),(18,.c (Ao ⟨#[115,112,97,119,110]⟩)),(19,.c (Ao ⟨#[106,111,105,110]⟩)),(20,.c (Ao ⟨#[115,101,116]⟩)),(21,.c (Ao ⟨#[103,101,116]⟩))]),.M 0 1]))
def lZ:Gi:=⟨[]⟩
def l5:List RV:=[.tmp 0]
def G6:Option (List ByteArray):=
some [(⟨#[118,97,114]⟩:ByteArray),(⟨#[118,111,108,97,116,105,108,101]⟩:ByteArray),(⟨#[109,117,116,101,120]⟩:ByteArray),(⟨#[114,119,108,111,99,107]⟩:ByteArray),(⟨#[99,111,110,100]⟩:ByteArray),(⟨#[102,117,116,117,114,101]⟩:ByteArray),(⟨#[116,104,114,101,97,100]⟩:ByteArray),(⟨#[105,102]⟩:ByteArray),(⟨#[101,108,115,101]⟩:ByteArray),(⟨#[119,104,105,108,101]⟩:ByteArray),(⟨#[108,111,99,107]⟩:ByteArray),(⟨#[114,101,97,100]⟩:ByteArray),(⟨#[119,114,105,116,101]⟩:ByteArray),(⟨#[116,114,97,110,115,97,99,116,105,111,110]⟩:ByteArray),(⟨#[97,116,111,109,105,99]⟩:ByteArray),(⟨#[119,97,105,116]⟩:ByteArray),(⟨#[110,111,116,105,102,121]⟩:ByteArray),(⟨#[110,111,116,105,102,121,97,108,108]⟩:ByteArray),(⟨#[115,112,97,119,110]⟩:ByteArray),(⟨#[106,111,105,110]⟩:ByteArray),(⟨#[115,101,116]⟩:ByteArray),(⟨#[103,101,116]⟩:ByteArray)]
theorem Nl {r:List ByteArray} (h:G6=some r):Says Tryz.prog 110 [] (vO 1 eS r):=by
 refine wO mix Tryz.func110 (I:=⟨lY,lZ,l5⟩) ?_
 simp only[lY,lZ,l5]
 unfold G6 at h
 exact walk
def AA6:IC:=(Ra 0 [.B 2 false]
(Ra 5 [.c 110 [] 2,.b 3 [7,12,14] (.mv (.t 5))]
(Sq (Ra 0 [.K 4 0]
(Bl 0 (Sq (Ra 6 [.C 4,.y 3 (.cp (.t 3)),.Z 7,.O .lss 6 8]
(cX 9 0))
(Sq (Bk 1 (Ra 12 [.y 3 (.cp (.t 3)),.C 4,.J 3 1 12 13,.L 14,.C 0,.O .eql 15 16]
(Ci 17 (Rb 0 [.B 2 true]))))
(Rc 10 [.C 4,.P .add 10 1,.M 4 11])))))
(Rb 0 [.B 2 false]))))
def AA7:Gi:=⟨[(7,[3]),(12,[3]),(14,[3])]⟩
def AA8:List RV:=[.tmp 2]
namespace CQ
def J1:Option Bool:=
some false
def L1 (a:ByteArray) (b:List ByteArray) (L1:Int->Option Bool) (c:Int):Option Bool:=
if decide (c<(b.length:Int))then
(gt b c).bind λd=>
if d.toList==a.toList then
some true
else
L1 (BE (c+1))
else
J1
def Ac (a:ByteArray) (b:List ByteArray):Nat->Int->Option Bool
|0,_=>none
|n+1,c=>L1 a b (Ac a b n) c
end CQ
section
open CQ
def CQ (a:ByteArray):Option Bool:=
(G6).bind λb=>
Ac a b Bo 0
theorem Md {a:ByteArray} {r:Bool} (h:CQ a=some r):Says Tryz.prog 77 [Ao a] (sb r):=by
 refine wO mix Tryz.func77 (I:=⟨AA6,AA7,AA8⟩) ?_
 simp only[AA6,AA7,AA8]
 have a1:= @Nl
 have l1:=λn1 n2 n3 n4:Nat=>BM λn τ=>∃(b:List ByteArray) (c:Int),(τ 0=Ao a/\τ 3=vO 1 eS b/\τ 4=si c)/\Ac a b n c=some r
 unfold CQ at h
 exact walk
end
def l6:IC:=(Ra 0 [.B 2 false]
(Rb 3 [.C 0,.o (.bin .geq (.t 3) (.c (.sc (.int .u8 48)))),.C 4,.G 5 true,.C 0,.o (.bin .leq (.t 6) (.c (.sc (.int .u8 57)))),.e,.W 5 7,.M 2 8]))
def l7:Gi:=⟨[]⟩
def l8:List RV:=[.tmp 2]
namespace E9
def J1 (b:Bool):Option Bool:=
some b
end E9
section
open E9
def E9 (a:Int):Option Bool:=
if decide (a≥48)then
J1 (decide (a≤57))
else
J1 false
theorem Q4 {a:Int} {r:Bool} (h:E9 a=some r):Says Tryz.prog 111 [.sc (.int .u8 a)] (sb r):=by
 refine wO mix Tryz.func111 (I:=⟨l6,l7,l8⟩) ?_
 simp only[l6,l7,l8]
 unfold E9 at h
 exact walk
end
def AAo:IC:=(Ra 0 [.o (.mv (.c (.own false 6 [])))]
(Rb 1 [.o (.Dc z5 [(0,1,.c (si 1)),(2,1,.c (Ao ⟨#[120]⟩))]),.o (.Dc z5 [(0,1,.c (si 1)),(2,1,.c (Ao ⟨#[121]⟩)),(4,1,.c (si 1))]),.o (.Dc z5 [(0,1,.c (si 2)),(2,1,.c (Ao ⟨#[118]⟩))]),.o (.Dc z5 [(0,1,.c (si 1)),(2,1,.c (Ao ⟨#[113]⟩)),(3,1,.c (si 2))]),.o (.Dc z5 [(0,1,.c (si 3)),(2,1,.c (Ao ⟨#[109]⟩))]),.o (.Dc z5 [(0,1,.c (si 3)),(2,1,.c (Ao ⟨#[110]⟩))]),.o (.Dc z5 [(0,1,.c (si 4)),(2,1,.c (Ao ⟨#[114]⟩))]),.o (.Dc z5 [(0,1,.c (si 5)),(2,1,.c (Ao ⟨#[99]⟩)),(5,1,.c (Ao ⟨#[109]⟩))]),.o (.Dc z5 [(0,1,.c (si 6)),(2,1,.c (Ao ⟨#[102]⟩))]),.o (.Eg 6 [z5,z5,z5,z5,z5,z5,z5,z5,z5] [(0,.t 1),(1,.t 2),(2,.t 3),(3,.t 4),(4,.t 5),(5,.t 6),(6,.t 7),(7,.t 8),(8,.t 9)]),.M 0 10]))
def AAp:Gi:=⟨[]⟩
def AAq:List RV:=[.tmp 0]
def Dz:Option (List DK):=
some [(DK.mk 1 0 (⟨#[120]⟩:ByteArray) 0 0 (⟨#[]⟩:ByteArray)),(DK.mk 1 0 (⟨#[121]⟩:ByteArray) 0 1 (⟨#[]⟩:ByteArray)),(DK.mk 2 0 (⟨#[118]⟩:ByteArray) 0 0 (⟨#[]⟩:ByteArray)),(DK.mk 1 0 (⟨#[113]⟩:ByteArray) 2 0 (⟨#[]⟩:ByteArray)),(DK.mk 3 0 (⟨#[109]⟩:ByteArray) 0 0 (⟨#[]⟩:ByteArray)),(DK.mk 3 0 (⟨#[110]⟩:ByteArray) 0 0 (⟨#[]⟩:ByteArray)),(DK.mk 4 0 (⟨#[114]⟩:ByteArray) 0 0 (⟨#[]⟩:ByteArray)),(DK.mk 5 0 (⟨#[99]⟩:ByteArray) 0 0 (⟨#[109]⟩:ByteArray)),(DK.mk 6 0 (⟨#[102]⟩:ByteArray) 0 0 (⟨#[]⟩:ByteArray))]
theorem Ls {r:List DK} (h:Dz=some r):Says Tryz.prog 71 [] (vO 6 G2 r):=by
 refine wO mix Tryz.func71 (I:=⟨AAo,AAp,AAq⟩) ?_
 simp only[AAo,AAp,AAq]
 unfold Dz at h
 exact walk
def AAr:IC:=(Ra 0 [.K 4 0]
(Sq (Ra 5 [.p 0 1,.r 0 0,.Z 12,.O .geq 8 13,.C 14,.G 15 false,.C 1,.P .lss 16 1,.e,.V 15 17]
(Ci 18 (Rb 0 [.K 4 0])))
(Ra 19 [.p 0 1,.P .add 22 1,.y 0 (.FF (.t 19)),.H 0 1 24,.S 1 25 23]
(Rb 26 [.r 0 0,.p 0 1,.P .sub 33 1,.J 0 1 29 34,.L 35,.o (.Xk .i64 (.t 36)),.C 1,.O .rem 37 38,.M 4 39]))))
def AAs:Gi:=⟨[(5,[0]),(6,[0]),(7,[0]),(9,[0]),(10,[0]),(11,[0]),(12,[0]),(19,[0]),(20,[0]),(21,[0]),(24,[0]),(25,[0]),(26,[0]),(27,[0]),(28,[0]),(29,[0]),(30,[0]),(31,[0]),(32,[0]),(35,[0])]⟩
def AAt:List RV:=[.tmp 4]
namespace BF
def J1 (b:Int) (a:Cm) (c:Bool):Option (Int×Cm):=
if c then
some (0,a)
else
(gt a.L (BE ((BE (a.At+1))-1))).bind λd=>
if¬b=0 then
some ((BE d).tmod b,(Cm.mk a.L (BE (a.At+1))))
else none
end BF
section
open BF
def BF (a:Cm) (b:Int):Option (Int×Cm):=
if decide (a.At≥(a.L.length:Int))then
J1 b a true
else
J1 b a (decide (b<1))
theorem Fi {a:Cm} {b:Int} {r:Int×Cm} (h:BF a b=some r):A5 Tryz.prog 72 [bA 2 (Ot a),si b] (si r.1) [bA 2 (Ot r.2),.dead]:=by
 refine wL mix Tryz.func72 (I:=⟨AAr,AAs,AAt⟩) ?_
 simp only[AAr,AAs,AAt]
 unfold BF at h
 exact walk
end
def AA0:IC:=(Ra 2 [.o (.bx 4 (.c (.agg z12)))]
(Rb 3 [.C 0,.o (.Dc z12 [(0,1,.c (si 1)),(1,1,.t 3)]),.S 4 2 4]))
def AA1:Gi:=⟨[]⟩
def AA2:List RV:=[.cell 2 true 4]
def G4 (a:Int):Option As:=
some (As.mk 1 a (⟨#[]⟩:ByteArray) [])
theorem KW {a:Int} {r:As} (h:G4 a=some r):Says Tryz.prog 75 [si a] (.agg [si r.Op,si r.N,Ao r.Name,vS 4 Av r.L]):=by
 refine wF mix Tryz.func75 (I:=⟨AA0,AA1,AA2⟩) ?_
 simp only[AA0,AA1,AA2]
 unfold G4 at h
 exact walk
def oO:IC:=(Ra 2 [.o (.bx 4 (.c (.agg z12)))]
(Rb 3 [.C 0,.o (.Dc z12 [(0,1,.c (si 2)),(2,1,.t 3)]),.S 4 2 4]))
def oP:Gi:=⟨[]⟩
def oQ:List RV:=[.cell 2 true 4]
def GH (a:ByteArray):Option As:=
some (As.mk 2 0 a [])
theorem NW {a:ByteArray} {r:As} (h:GH a=some r):Says Tryz.prog 144 [Ao a] (.agg [si r.Op,si r.N,Ao r.Name,vS 4 Av r.L]):=by
 refine wF mix Tryz.func144 (I:=⟨oO,oP,oQ⟩) ?_
 simp only[oO,oP,oQ]
 unfold GH at h
 exact walk
def ABv:IC:=(Ra 0 [.B 4 false]
(Rb 5 [.C 0,.P .geq 5 0,.C 6,.G 7 true,.C 0,.C 1,.O .lss 8 9,.e,.W 7 10,.M 4 11]))
def ABw:Gi:=⟨[]⟩
def ABx:List RV:=[.tmp 4]
namespace Cs
def J1 (c:Bool):Option Bool:=
some c
end Cs
section
open Cs
def Cs (a b:Int):Option Bool:=
if decide (a≥0)then
J1 (decide (a<b))
else
J1 false
theorem Kl {a b:Int} {r:Bool} (h:Cs a b=some r):Says Tryz.prog 97 [si a,si b] (sb r):=by
 refine wO mix Tryz.func97 (I:=⟨ABv,ABw,ABx⟩) ?_
 simp only[ABv,ABw,ABx]
 unfold Cs at h
 exact walk
end
def mF:IC:=(Ra 0 [.b 3 [8,13,22,31] (.bx 6 (.t 0)),.B 6 false]
(Rb 7 [.C 1,.f 0 3,.Z 9,.c 97 [7,10] 0,.C 11,.G 12 true,.f 0 3,.C 1,.I 5 14 15,.U 1 16,.P .eql 18 0,.e,.W 12 19,.C 20,.G 21 true,.f 0 3,.C 1,.I 5 23 24,.U 2 25,.P .neq 27 0,.e,.W 21 28,.C 29,.G 30 true,.f 0 3,.C 1,.I 5 32 33,.U 2 34,.C 2,.O .eql 36 37,.e,.W 30 38,.M 6 39]))
def mG:Gi:=⟨[(8,[3]),(13,[3]),(22,[3]),(31,[3])]⟩
def mH:List RV:=[.tmp 6]
namespace EI
def J1 (e:Bool):Option Bool:=
some e
end EI
section
open EI
def EI (b:AB) (a c:Int):Option Bool:=
(Cs a (b.Cells.length:Int)).bind λf=>
if f then
(gt b.Cells a).bind λd=>
if d.Index==0 then
if d.Bn != 0 then
J1 (d.Bn==c)
else
J1 false
else
J1 false
else
J1 false
theorem RG {b:AB} {a c:Int} {r:Bool} (h:EI b a c=some r):Says Tryz.prog 125 [.agg (Ap b),si a,si c] (sb r):=by
 refine wO mix Tryz.func125 (I:=⟨mF,mG,mH⟩) ?_
 simp only[mF,mG,mH]
 have a1:= @Kl
 unfold EI at h
 exact walk
end
def ABp:IC:=(Ra 0 [.b 2 [11,16,29,34,64,69,85,90,104,113,121,129] (.bx 6 (.t 0)),.b 3 [5,9,18,27,36,46,48,54,56,62,71,83,92,102,111,119,127,135,139,145,149] (.bx 6 (.t 1)),.B 4 false]
(Sq (Ra 5 [.f 0 3]
(Bk 0 (Ra 8 [.q 6 6 7]
(Cn 7 (Rb 9 [.f 2 3,.f 0 2,.Z 12,.c 97 [10,13] 0,.C 14,.G 15 true,.f 0 2,.f 2 3,.I 5 17 19,.U 2 20,.P .eql 22 0,.e,.W 15 23,.M 4 24]) (Ra 26 [.q 6 8 25]
(Cn 25 (Rb 27 [.f 1 3,.f 0 2,.Z 30,.c 97 [28,31] 0,.C 32,.G 33 true,.f 0 2,.f 1 3,.I 5 35 37,.U 2 38,.P .eql 40 0,.e,.W 33 41,.M 4 42]) (Ra 44 [.q 6 7 43]
(Cn 43 (Rb 45 [.A 6 2,.f 2 3,.f 4 3,.c 125 [45,47,49] 0,.M 4 50]) (Ra 52 [.q 6 9 51]
(Cn 51 (Rb 53 [.A 6 2,.f 1 3,.f 4 3,.c 125 [53,55,57] 0,.M 4 58]) (Bw 3 (Ra 60 [.q 6 11 59]
(Cn 59 .skip (Rc 61 [.q 6 12 59])))
(Cn 59 (Rb 62 [.f 1 3,.f 1 2,.Z 65,.c 97 [63,66] 0,.C 67,.G 68 true,.f 1 2,.f 1 3,.I 2 70 72,.U 1 73,.N 75,.e,.W 68 76,.M 4 77]) (Bw 5 (Ra 79 [.q 6 13 78]
(Cn 78 .skip (Ra 80 [.q 6 14 78]
(Cn 78 .skip (Ra 81 [.q 6 15 78]
(Cn 78 .skip (Rc 82 [.q 6 16 78])))))))
(Cn 78 (Rb 83 [.f 1 3,.f 1 2,.Z 86,.c 97 [84,87] 0,.C 88,.G 89 true,.f 1 2,.f 1 3,.I 2 91 93,.U 1 94,.e,.W 89 96,.M 4 97]) (Bw 7 (Ra 99 [.q 6 21 98]
(Cn 98 .skip (Ra 100 [.q 6 22 98]
(Cn 98 .skip (Rc 101 [.q 6 23 98])))))
(Cn 98 (Rb 102 [.f 1 3,.f 2 2,.Z 105,.c 97 [103,106] 0,.M 4 107]) (Bw 8 (Ra 109 [.q 6 24 108]
(Cn 108 .skip (Rc 110 [.q 6 25 108])))
(Cn 108 (Rb 111 [.f 1 3,.f 4 2,.Z 114,.c 97 [112,115] 0,.M 4 116]) (Ra 118 [.q 6 26 117]
(Cn 117 (Rb 119 [.f 1 3,.f 3 2,.Z 122,.c 97 [120,123] 0,.M 4 124]) (Ra 126 [.q 6 27 125]
(Cn 125 (Rb 127 [.f 2 3,.f 3 2,.Z 130,.c 97 [128,131] 0,.M 4 132]) (Ra 134 [.q 6 3 133]
(Cn 133 (Rb 135 [.f 4 3,.Q 136 4,.C 137,.G 138 false,.f 4 3,.P .eql 140 5,.e,.V 138 141,.M 4 142]) (Ra 144 [.q 6 4 143]
(Ci 143 (Rb 145 [.f 4 3,.P .geq 146 6,.C 147,.G 148 true,.f 4 3,.P .leq 150 18,.e,.W 148 151,.M 4 152])))))))))))))))))))))))))))
(Rb 0 [.B 4 true])))
def ABq:Gi:=⟨[(5,[3]),(9,[3]),(11,[2]),(16,[2]),(18,[3]),(27,[3]),(29,[2]),(34,[2]),(36,[3]),(46,[3]),(48,[3]),(54,[3]),(56,[3]),(62,[3]),(64,[2]),(69,[2]),(71,[3]),(83,[3]),(85,[2]),(90,[2]),(92,[3]),(102,[3]),(104,[2]),(111,[3]),(113,[2]),(119,[3]),(121,[2]),(127,[3]),(129,[2]),(135,[3]),(139,[3]),(145,[3]),(149,[3])]⟩
def ABr:List RV:=[.tmp 4]
namespace Ad
def J1 (i:Bool):Option Bool:=
some i
def J2 (j:Bool):Option Bool:=
some j
def J4 (l:Bool):Option Bool:=
some l
def J6 (o:Bool):Option Bool:=
some o
def J9 (p:Bool):Option Bool:=
some p
def Oj (q:Bool):Option Bool:=
some q
def J8 (a:AW) (b:AB) (c:Bool):Option Bool:=
if c then
(Cs a.A (b.AA.length:Int)).bind λz=>
some z
else
if a.Op==26 then
(Cs a.A (b.AH.length:Int)).bind λaa=>
some aa
else
if a.Op==27 then
(Cs a.B (b.AH.length:Int)).bind λab=>
some ab
else
if a.Op==3 then
if a.N==4 then
J9 true
else
J9 (a.N==5)
else
if a.Op==4 then
if decide (a.N≥6)then
Oj (decide (a.N≤18))
else
Oj false
else
some true
def J7 (a:AW) (b:AB) (f:Bool):Option Bool:=
if f then
(Cs a.A (b.Au.length:Int)).bind λy=>
some y
else
if a.Op==24 then
J8 a b (a.Op==24)
else
J8 a b (a.Op==25)
def J5 (a:AW) (b:AB) (e:Bool):Option Bool:=
if e then
(Cs a.A (b.AG.length:Int)).bind λx=>
if x then
(gt b.AG a.A).bind λaf=>
J6 af.RW
else
J6 false
else
if a.Op==21 then
J7 a b (a.Op==21)
else
if a.Op==22 then
J7 a b (a.Op==22)
else
J7 a b (a.Op==23)
def J3 (a:AW) (b:AB) (d:Bool):Option Bool:=
if d then
(Cs a.A (b.AG.length:Int)).bind λw=>
if w then
(gt b.AG a.A).bind λae=>
J4 (!ae.RW)
else
J4 false
else
if a.Op==13 then
J5 a b (a.Op==13)
else
if a.Op==14 then
J5 a b (a.Op==14)
else
if a.Op==15 then
J5 a b (a.Op==15)
else
J5 a b (a.Op==16)
end Ad
section
open Ad
def Ad (b:AB) (a:AW):Option Bool:=
if a.Op==6 then
(Cs a.B (b.Cells.length:Int)).bind λs=>
if s then
(gt b.Cells a.B).bind λac=>
J1 (ac.Bn==0)
else
J1 false
else
if a.Op==8 then
(Cs a.A (b.Cells.length:Int)).bind λt=>
if t then
(gt b.Cells a.A).bind λad=>
J2 (ad.Bn==0)
else
J2 false
else
if a.Op==7 then
(EI b a.B a.N).bind λu=>
some u
else
if a.Op==9 then
(EI b a.A a.N).bind λv=>
some v
else
if a.Op==11 then
J3 a b (a.Op==11)
else
J3 a b (a.Op==12)
theorem Of {b:AB} {a:AW} {r:Bool} (h:Ad b a=some r):Says Tryz.prog 95 [.agg (Ap b),.agg (C7 a)] (sb r):=by
 refine wO mix Tryz.func95 (I:=⟨ABp,ABq,ABr⟩) ?_
 simp only[ABp,ABq,ABr]
 have a1:= @Kl
 have a2:= @RG
 have c8:=λn1 n2 n3 n4:Nat=>B7 8 λτ=>∃(c:Bool),(τ 2=bA 6 (Ap b)/\τ 3=bA 6 (C7 a)/\τ 6=si a.Op/\τ 108=sb c)/\J8 a b c=some r
 have c7:=λn1 n2 n3 n4:Nat=>B7 7 λτ=>∃(f:Bool),(τ 2=bA 6 (Ap b)/\τ 3=bA 6 (C7 a)/\τ 6=si a.Op/\τ 98=sb f)/\J7 a b f=some r
 have c5:=λn1 n2 n3 n4:Nat=>B7 5 λτ=>∃(e:Bool),(τ 2=bA 6 (Ap b)/\τ 3=bA 6 (C7 a)/\τ 6=si a.Op/\τ 78=sb e)/\J5 a b e=some r
 have c3:=λn1 n2 n3 n4:Nat=>B7 3 λτ=>∃(d:Bool),(τ 2=bA 6 (Ap b)/\τ 3=bA 6 (C7 a)/\τ 6=si a.Op/\τ 59=sb d)/\J3 a b d=some r
 unfold Ad at h
 exact walk
end
def mI:IC:=(Ra 0 [.B 2 false]
(Rb 3 [.C 0,.P .geq 3 1,.C 4,.G 5 true,.C 0,.P .leq 6 5,.e,.W 5 7,.M 2 8]))
def mJ:Gi:=⟨[]⟩
def mK:List RV:=[.tmp 2]
namespace ED
def J1 (b:Bool):Option Bool:=
some b
end ED
section
open ED
def ED (a:Int):Option Bool:=
if decide (a≥1)then
J1 (decide (a≤5))
else
J1 false
theorem Jj {a:Int} {r:Bool} (h:ED a=some r):Says Tryz.prog 126 [si a] (sb r):=by
 refine wO mix Tryz.func126 (I:=⟨mI,mJ,mK⟩) ?_
 simp only[mI,mJ,mK]
 unfold ED at h
 exact walk
end
def l9:IC:=(Ra 4 [.o (.mv (.c (.own false 1 [])))]
(Ra 0 [.K 5 0]
(Sq (Bl 0 (Sq (Ra 7 [.C 5,.y 0 (.cp (.t 0)),.Z 8,.O .lss 7 9,.C 10,.G 11 true,.y 0 (.cp (.t 0)),.C 5,.y 0 (.Lr 1 (.t 12) (.t 13)),.L 14,.C 1,.O .lss 15 16,.e,.W 11 17]
(cX 18 0))
(Bk 1 (Rc 19 [.C 5,.P .add 19 1,.M 5 20]))))
(Sq (Ra 21 [.C 5,.y 0 (.cp (.t 0)),.Z 22,.O .lss 21 23,.C 24,.G 25 true,.y 0 (.cp (.t 0)),.C 5,.y 0 (.Lr 1 (.t 26) (.t 27)),.L 28,.C 1,.O .eql 29 30,.e,.W 25 31]
(Ci 32 (Rb 33 [.y 0 (.cp (.t 0)),.M 4 33])))
(Ra 34 [.o (.Eg 1 [] []),.y 0 (.cp (.t 0)),.C 5,.o (.UM 1 true (.t 35) none (some (.t 36)) none),.o (.app 1 8 (.t 34) (.t 37)),.b 6 [39,43] (.mv (.t 38))]
(Ra 39 [.y 6 (.cp (.t 6)),.C 1,.o (.Eg 1 [[si 0]] [(0,.t 40)]),.o (.app 1 8 (.t 39) (.t 41)),.b 6 [39,43] (.mv (.t 42))]
(Rb 43 [.y 6 (.cp (.t 6)),.y 0 (.cp (.t 0)),.C 5,.o (.UM 1 true (.t 44) (some (.t 45)) none none),.o (.app 1 8 (.t 43) (.t 46)),.M 4 47])))))))
def mA:Gi:=⟨[(8,[0]),(12,[0]),(14,[0]),(22,[0]),(26,[0]),(28,[0]),(33,[0]),(35,[0]),(39,[6]),(43,[6]),(44,[0])]⟩
def mB:List RV:=[.tmp 4]
namespace DI
def J3 (c:Int) (a:List Int) (b:Int) (f:Bool):Option (List Int):=
if f then
some a
else
if 0≤c/\c.toNat≤a.length then
if Aq ((a.take c.toNat).length) 8=true then
if Aq ((a.take c.toNat).length+1) 8=true then
if 0≤c/\c.toNat≤a.length then
if Aq (((a.take c.toNat)++[b]).length+((a.drop c.toNat).take (a.length-c.toNat)).length) 8=true then
some (((a.take c.toNat)++[b])++((a.drop c.toNat).take (a.length-c.toNat)))
else none
else none
else none
else none
else none
def J2 (a:List Int) (b c:Int):Option (List Int):=
if decide (c<(a.length:Int))then
(gt a c).bind λj=>
J3 c a b (j==b)
else
J3 c a b false
def J1 (L1:Int->Option (List Int)) (d:Int) (a:List Int) (b:Int) (e:Bool):Option (List Int):=
if e then
L1 (BE (d+1))
else
J2 a b d
def L1 (a:List Int) (b:Int) (L1:Int->Option (List Int)) (d:Int):Option (List Int):=
if decide (d<(a.length:Int))then
(gt a d).bind λi=>
J1 L1 d a b (decide (i<b))
else
J1 L1 d a b false
def Ac (a:List Int) (b:Int):Nat->Int->Option (List Int)
|0,_=>none
|n+1,d=>L1 a b (Ac a b n) d
end DI
section
open DI
def DI (a:List Int) (b:Int):Option (List Int):=
Ac a b Bo 0
theorem T5 {a:List Int} {b:Int} {r:List Int} (h:DI a b=some r):Says Tryz.prog 112 [vO 1 eI a,si b] (vO 1 eI r):=by
 refine wO mix Tryz.func112 (I:=⟨l9,mA,mB⟩) ?_
 simp only[l9,mA,mB]
 have l1:=λn1 n2 n3 n4:Nat=>BM λn τ=>∃(d:Int),(τ 0=vO 1 eI a/\τ 1=si b/\τ 5=si d)/\Ac a b n d=some r
 unfold DI at h
 exact walk
end
def ABU:IC:=(Ra 4 [.o (.mv (.c (.own false 1 [])))]
(Ra 0 [.b 5 [14,26,32] (.mv (.c (.own false 1 [])))]
(Sq (Ra 0 [.K 6 0]
(Bl 0 (Sq (Ra 8 [.C 6,.C 0,.Z 9,.O .lss 8 10]
(cX 11 0))
(Sq (Bk 1 (Rc 14 [.y 5 (.cp (.t 5)),.C 0,.C 6,.I 1 15 16,.L 17,.c 112 [14,18] 3,.b 5 [14,26,32] (.mv (.t 19))]))
(Rc 12 [.C 6,.P .add 12 1,.M 6 13])))))
(Sq (Ra 0 [.K 7 0]
(Bl 2 (Sq (Ra 20 [.C 7,.C 1,.Z 21,.O .lss 20 22]
(cX 23 2))
(Sq (Bk 3 (Rc 26 [.y 5 (.cp (.t 5)),.C 1,.C 7,.I 1 27 28,.L 29,.c 112 [26,30] 3,.b 5 [14,26,32] (.mv (.t 31))]))
(Rc 24 [.C 7,.P .add 24 1,.M 7 25])))))
(Rb 32 [.y 5 (.cp (.t 5)),.M 4 32])))))
def ABV:Gi:=⟨[(14,[5]),(26,[5]),(32,[5])]⟩
def ABW:List RV:=[.tmp 4]
namespace Cx
def J2 (j:List Int):Option (List Int):=
some j
def L2 (a:List Int) (L2:(List Int)->Int->Option (List Int)) (f:List Int) (d:Int):Option (List Int):=
if decide (d<(a.length:Int))then
(gt a d).bind λq=>
(DI f q).bind λo=>
L2 o (BE (d+1))
else
J2 f
def Da (a:List Int):Nat->(List Int)->Int->Option (List Int)
|0,_,_=>none
|n+1,f,d=>L2 a (Da a n) f d
def J1 (a i:List Int):Option (List Int):=
Da a Bo i 0
def L1 (b a:List Int) (L1:(List Int)->Int->Option (List Int)) (e:List Int) (c:Int):Option (List Int):=
if decide (c<(b.length:Int))then
(gt b c).bind λp=>
(DI e p).bind λl=>
L1 l (BE (c+1))
else
J1 a e
def Ac (b a:List Int):Nat->(List Int)->Int->Option (List Int)
|0,_,_=>none
|n+1,e,c=>L1 b a (Ac b a n) e c
end Cx
section
open Cx
def Cx (b a:List Int):Option (List Int):=
Ac b a Bo [] 0
theorem Kn {b a r:List Int} (h:Cx b a=some r):Says Tryz.prog 85 [vS 1 eI b,vS 1 eI a] (vO 1 eI r):=by
 refine wO mix Tryz.func85 (I:=⟨ABU,ABV,ABW⟩) ?_
 simp only[ABU,ABV,ABW]
 have a1:= @T5
 have l2:=λn1 n2 n3 n4:Nat=>BM λn τ=>∃(f:List Int) (d:Int),(τ 1=vS 1 eI a/\τ 5=vO 1 eI f/\τ 7=si d)/\Da a n f d=some r
 have l1:=λn1 n2 n3 n4:Nat=>BM λn τ=>∃(e:List Int) (c:Int),(τ 0=vS 1 eI b/\τ 1=vS 1 eI a/\τ 5=vO 1 eI e/\τ 6=si c)/\Ac b a n e c=some r
 unfold Cx at h
 exact walk
end
def ABX:IC:=(Ra 4 [.o (.mv (.c (.own false 1 [])))]
(Ra 0 [.b 5 [19,26] (.mv (.c (.own false 1 [])))]
(Sq (Ra 0 [.K 6 0]
(Bl 0 (Sq (Ra 7 [.C 6,.C 0,.Z 8,.O .lss 7 9]
(cX 10 0))
(Sq (Bk 1 (Ra 13 [.C 0,.C 6,.I 1 13 14,.L 15,.C 1,.O .neq 16 17]
(Ci 18 (Rc 19 [.y 5 (.cp (.t 5)),.C 0,.C 6,.I 1 20 21,.L 22,.o (.Eg 1 [[si 0]] [(0,.t 23)]),.o (.app 1 8 (.t 19) (.t 24)),.b 5 [19,26] (.mv (.t 25))]))))
(Rc 11 [.C 6,.P .add 11 1,.M 6 12])))))
(Rb 26 [.y 5 (.cp (.t 5)),.M 4 26]))))
def ABY:Gi:=⟨[(19,[5]),(26,[5])]⟩
def ABZ:List RV:=[.tmp 4]
namespace C0
def J2 (i:List Int):Option (List Int):=
some i
def J1 (L1:(List Int)->Int->Option (List Int)) (b:Int) (f:List Int):Option (List Int):=
L1 f (BE (b+1))
def L1 (a:List Int) (c:Int) (L1:(List Int)->Int->Option (List Int)) (d:List Int) (b:Int):Option (List Int):=
if decide (b<(a.length:Int))then
(gt a b).bind λe=>
if e != c then
if Aq (d.length+1) 8=true then
J1 L1 b (d++[e])
else none
else
J1 L1 b d
else
J2 d
def Ac (a:List Int) (c:Int):Nat->(List Int)->Int->Option (List Int)
|0,_,_=>none
|n+1,d,b=>L1 a c (Ac a c n) d b
end C0
section
open C0
def C0 (a:List Int) (c:Int):Option (List Int):=
Ac a c Bo [] 0
theorem Og {a:List Int} {c:Int} {r:List Int} (h:C0 a c=some r):Says Tryz.prog 86 [vS 1 eI a,si c] (vO 1 eI r):=by
 refine wO mix Tryz.func86 (I:=⟨ABX,ABY,ABZ⟩) ?_
 simp only[ABX,ABY,ABZ]
 have l1:=λn1 n2 n3 n4:Nat=>BM λn τ=>∃(d:List Int) (b:Int),(τ 0=vS 1 eI a/\τ 1=si c/\τ 5=vO 1 eI d/\τ 6=si b)/\Ac a c n d b=some r
 unfold C0 at h
 exact walk
end
def ABO:IC:=(Ra 4 [.b 2 [8,14,22] (.bx 4 (.t 0)),.o (.mv (.c (.own false 1 [])))]
(Ra 0 [.b 5 [31,35] (.mv (.c (.own false 1 [])))]
(Sq (Ra 0 [.K 6 0]
(Bl 0 (Sq (Ra 7 [.C 6,.f 3 2,.Z 9,.O .lss 7 10]
(cX 11 0))
(Sq (Bk 1 (Ra 14 [.f 3 2,.C 6,.I 3 15 16,.U 0 17,.Q 19 3,.C 20,.G 21 true,.f 3 2,.C 6,.I 3 23 24,.U 1 25,.C 1,.O .eql 27 28,.e,.W 21 29]
(Ci 30 (Rc 31 [.y 5 (.cp (.t 5)),.C 6,.o (.Eg 1 [[si 0]] [(0,.t 32)]),.o (.app 1 8 (.t 31) (.t 33)),.b 5 [31,35] (.mv (.t 34))]))))
(Rc 12 [.C 6,.P .add 12 1,.M 6 13])))))
(Rb 35 [.y 5 (.cp (.t 5)),.M 4 35]))))
def ABP:Gi:=⟨[(8,[2]),(14,[2]),(22,[2]),(31,[5]),(35,[5])]⟩
def ABQ:List RV:=[.tmp 4]
namespace CO
def J3 (i:List Int):Option (List Int):=
some i
def J2 (L1:(List Int)->Int->Option (List Int)) (a:Int) (f:List Int):Option (List Int):=
L1 f (BE (a+1))
def J1 (L1:(List Int)->Int->Option (List Int)) (a:Int) (b:List Int) (j:Bool):Option (List Int):=
if j then
if Aq (b.length+1) 8=true then
J2 L1 a (b++[a])
else none
else
J2 L1 a b
def L1 (d:Int) (c:AO) (L1:(List Int)->Int->Option (List Int)) (b:List Int) (a:Int):Option (List Int):=
if decide (a<(c.AA.length:Int))then
(gt c.AA a).bind λe=>
if e.Status==3 then
J1 L1 a b (e.Ef==d)
else
J1 L1 a b false
else
J3 b
def Ac (d:Int) (c:AO):Nat->(List Int)->Int->Option (List Int)
|0,_,_=>none
|n+1,b,a=>L1 d c (Ac d c n) b a
end CO
section
open CO
def CO (c:AO) (d:Int):Option (List Int):=
Ac d c Bo [] 0
theorem Mw {c:AO} {d:Int} {r:List Int} (h:CO c d=some r):Says Tryz.prog 83 [.agg (GZ c),si d] (vO 1 eI r):=by
 refine wO mix Tryz.func83 (I:=⟨ABO,ABP,ABQ⟩) ?_
 simp only[ABO,ABP,ABQ]
 have l1:=λn1 n2 n3 n4:Nat=>BM λn τ=>∃(b:List Int) (a:Int),(τ 1=si d/\τ 2=bA 4 (GZ c)/\τ 5=vO 1 eI b/\τ 6=si a)/\Ac d c n b a=some r
 unfold CO at h
 exact walk
end
end Go.Abs
