/- Typed programs of Go functions, and that the functions do what these say. -/
import Derived.Test.YtkpdblcoclbgbaaGreatDoorBaseA
import Derived.Shelf.Slices.SearchI
set_option linter.unusedSimpArgs false
set_option linter.unusedVariables false
namespace Go.Abs
open Go.Proofs
set_option maxRecDepth 100000
set_option maxHeartbeats 4000000
def AA3:IC:=(Ra 0 [.B 2 false]
(Rb 3 [.C 0,.o (.bin .geq (.t 3) (.c (.sc (.int .u8 97)))),.C 4,.G 5 true,.C 0,.o (.bin .leq (.t 6) (.c (.sc (.int .u8 122)))),.e,.W 5 7,.C 8,.G 9 false,.C 0,.o (.bin .geq (.t 10) (.c (.sc (.int .u8 65)))),.C 11,.G 12 true,.C 0,.o (.bin .leq (.t 13) (.c (.sc (.int .u8 90)))),.G 9 false,.o (.pick (.t 12) (.t 14) (.c (sb false))),.e,.V 9 15,.M 2 16]))
def AA4:Gi:=⟨[]⟩
def AA5:List RV:=[.tmp 2]
namespace EB
def J1 (b:Bool):Option Bool:=
some b
end EB
section
open EB
def EB (a:Int):Option Bool:=
if decide (a≥97)then
if decide (a≤122)then
J1 true
else
if decide (a≥65)then
J1 (decide (a≤90))
else
J1 false
else
if decide (a≥65)then
J1 (decide (a≤90))
else
J1 false
theorem Jg {a:Int} {r:Bool} (h:EB a=some r):Says Tryz.prog 76 [.sc (.int .u8 a)] (sb r):=by
 refine wO mix Tryz.func76 (I:=⟨AA3,AA4,AA5⟩) ?_
 simp only[AA3,AA4,AA5]
 unfold EB at h
 exact walk
end
def lY:IC:=(Ra 0 [.o (.mv (.c (.own false 1 [])))]
(Rb 1 [.o (.Eg 1 [[Ao ⟨#[]⟩],[Ao ⟨#[]⟩],[Ao ⟨#[]⟩],[Ao ⟨#[]⟩],[Ao ⟨#[]⟩],[Ao ⟨#[]⟩],[Ao ⟨#[]⟩],[Ao ⟨#[]⟩],[Ao ⟨#[]⟩],[Ao ⟨#[]⟩],[Ao ⟨#[]⟩],[Ao ⟨#[]⟩],[Ao ⟨#[]⟩],[Ao ⟨#[]⟩],[Ao ⟨#[]⟩],[Ao ⟨#[]⟩],[Ao ⟨#[]⟩],[Ao ⟨#[]⟩],[Ao ⟨#[]⟩],[Ao ⟨#[]⟩],[Ao ⟨#[]⟩],[Ao ⟨#[]⟩]] [(0,.c (Ao ⟨#[118,97,114]⟩)),(1,.c (Ao ⟨#[118,111,108,97,116,105,108,101]⟩)),(2,.c (Ao ⟨#[109,117,116,101,120]⟩)),(3,.c (Ao ⟨#[114,119,108,111,99,107]⟩)),(4,.c (Ao ⟨#[99,111,110,100]⟩)),(5,.c (Ao ⟨#[102,117,116,117,114,101]⟩)),(6,.c (Ao ⟨#[116,104,114,101,97,100]⟩)),(7,.c (Ao ⟨#[105,102]⟩)),(8,.c (Ao ⟨#[101,108,115,101]⟩)),(9,.c (Ao ⟨#[119,104,105,108,101]⟩)),(10,.c (Ao ⟨#[108,111,99,107]⟩)),(11,.c (Ao ⟨#[114,101,97,100]⟩)),(12,.c (Ao ⟨#[119,114,105,116,101]⟩)),(13,.c (Ao ⟨#[116,114,97,110,115,97,99,116,105,111,110]⟩)),(14,.c (Ao ⟨#[97,116,111,109,105,99]⟩)),(15,.c (Ao ⟨#[119,97,105,116]⟩)),(16,.c (Ao ⟨#[110,111,116,105,102,121]⟩)),(17,.c (Ao ⟨#[110,111,116,105,102,121,97,108,108]⟩)),(18,.c (Ao ⟨#[115,112,97,119,110]⟩)),(19,.c (Ao ⟨#[106,111,105,110]⟩)),(20,.c (Ao ⟨#[115,101,116]⟩)),(21,.c (Ao ⟨#[103,101,116]⟩))]),.M 0 1]))
def lZ:Gi:=⟨[]⟩
def l5:List RV:=[.tmp 0]
def G6:Option (List ByteArray):=
some [(⟨#[118,97,114]⟩:ByteArray),(⟨#[118,111,108,97,116,105,108,101]⟩:ByteArray),(⟨#[109,117,116,101,120]⟩:ByteArray),(⟨#[114,119,108,111,99,107]⟩:ByteArray),(⟨#[99,111,110,100]⟩:ByteArray),(⟨#[102,117,116,117,114,101]⟩:ByteArray),(⟨#[116,104,114,101,97,100]⟩:ByteArray),(⟨#[105,102]⟩:ByteArray),(⟨#[101,108,115,101]⟩:ByteArray),(⟨#[119,104,105,108,101]⟩:ByteArray),(⟨#[108,111,99,107]⟩:ByteArray),(⟨#[114,101,97,100]⟩:ByteArray),(⟨#[119,114,105,116,101]⟩:ByteArray),(⟨#[116,114,97,110,115,97,99,116,105,111,110]⟩:ByteArray),(⟨#[97,116,111,109,105,99]⟩:ByteArray),(⟨#[119,97,105,116]⟩:ByteArray),(⟨#[110,111,116,105,102,121]⟩:ByteArray),(⟨#[110,111,116,105,102,121,97,108,108]⟩:ByteArray),(⟨#[115,112,97,119,110]⟩:ByteArray),(⟨#[106,111,105,110]⟩:ByteArray),(⟨#[115,101,116]⟩:ByteArray),(⟨#[103,101,116]⟩:ByteArray)]
theorem Nl {r:List ByteArray} (h:G6=some r):Says Tryz.prog 110 [] (vO 1 eS r):=by
 refine wO mix Tryz.func110 (I:=⟨lY,lZ,l5⟩) ?_
 simp only[lY,lZ,l5]
 unfold G6 at h
 exact walk
def AA6:IC:=(Ra 0 [.B 2 false]
(Ra 5 [.c 110 [] 2,.b 3 [7,12,14] (.mv (.t 5))]
(Sq (Ra 0 [.K 4 0]
(Bl 0 (Sq (Ra 6 [.C 4,.y 3 (.cp (.t 3)),.Z 7,.O .lss 6 8]
(cX 9 0))
(Sq (Bk 1 (Ra 12 [.y 3 (.cp (.t 3)),.C 4,.J 3 1 12 13,.L 14,.C 0,.O .eql 15 16]
(Ci 17 (Rb 0 [.B 2 true]))))
(Rc 10 [.C 4,.P .add 10 1,.M 4 11])))))
(Rb 0 [.B 2 false]))))
def AA7:Gi:=⟨[(7,[3]),(12,[3]),(14,[3])]⟩
def AA8:List RV:=[.tmp 2]
namespace CQ
def J1:Option Bool:=
some false
def L1 (a:ByteArray) (b:List ByteArray) (L1:Int->Option Bool) (c:Int):Option Bool:=
if decide (c<(b.length:Int))then
(gt b c).bind λd=>
if d.toList==a.toList then
some true
else
L1 (BE (c+1))
else
J1
def Ac (a:ByteArray) (b:List ByteArray):Nat->Int->Option Bool
|0,_=>none
|n+1,c=>L1 a b (Ac a b n) c
end CQ
section
open CQ
def CQ (a:ByteArray):Option Bool:=
(G6).bind λb=>
Ac a b Bo 0
theorem Md {a:ByteArray} {r:Bool} (h:CQ a=some r):Says Tryz.prog 77 [Ao a] (sb r):=by
 refine wO mix Tryz.func77 (I:=⟨AA6,AA7,AA8⟩) ?_
 simp only[AA6,AA7,AA8]
 have a1:= @Nl
 have l1:=λn1 n2 n3 n4:Nat=>BM λn τ=>∃(b:List ByteArray) (c:Int),(τ 0=Ao a/\τ 3=vO 1 eS b/\τ 4=si c)/\Ac a b n c=some r
 unfold CQ at h
 exact walk
end
def l6:IC:=(Ra 0 [.B 2 false]
(Rb 3 [.C 0,.o (.bin .geq (.t 3) (.c (.sc (.int .u8 48)))),.C 4,.G 5 true,.C 0,.o (.bin .leq (.t 6) (.c (.sc (.int .u8 57)))),.e,.W 5 7,.M 2 8]))
def l7:Gi:=⟨[]⟩
def l8:List RV:=[.tmp 2]
namespace E9
def J1 (b:Bool):Option Bool:=
some b
end E9
section
open E9
def E9 (a:Int):Option Bool:=
if decide (a≥48)then
J1 (decide (a≤57))
else
J1 false
theorem Q4 {a:Int} {r:Bool} (h:E9 a=some r):Says Tryz.prog 111 [.sc (.int .u8 a)] (sb r):=by
 refine wO mix Tryz.func111 (I:=⟨l6,l7,l8⟩) ?_
 simp only[l6,l7,l8]
 unfold E9 at h
 exact walk
end
def AAo:IC:=(Ra 0 [.o (.mv (.c (.own false 6 [])))]
(Rb 1 [.o (.Dc z5 [(0,1,.c (si 1)),(2,1,.c (Ao ⟨#[120]⟩))]),.o (.Dc z5 [(0,1,.c (si 1)),(2,1,.c (Ao ⟨#[121]⟩)),(4,1,.c (si 1))]),.o (.Dc z5 [(0,1,.c (si 2)),(2,1,.c (Ao ⟨#[118]⟩))]),.o (.Dc z5 [(0,1,.c (si 1)),(2,1,.c (Ao ⟨#[113]⟩)),(3,1,.c (si 2))]),.o (.Dc z5 [(0,1,.c (si 3)),(2,1,.c (Ao ⟨#[109]⟩))]),.o (.Dc z5 [(0,1,.c (si 3)),(2,1,.c (Ao ⟨#[110]⟩))]),.o (.Dc z5 [(0,1,.c (si 4)),(2,1,.c (Ao ⟨#[114]⟩))]),.o (.Dc z5 [(0,1,.c (si 5)),(2,1,.c (Ao ⟨#[99]⟩)),(5,1,.c (Ao ⟨#[109]⟩))]),.o (.Dc z5 [(0,1,.c (si 6)),(2,1,.c (Ao ⟨#[102]⟩))]),.o (.Eg 6 [z5,z5,z5,z5,z5,z5,z5,z5,z5] [(0,.t 1),(1,.t 2),(2,.t 3),(3,.t 4),(4,.t 5),(5,.t 6),(6,.t 7),(7,.t 8),(8,.t 9)]),.M 0 10]))
def AAp:Gi:=⟨[]⟩
def AAq:List RV:=[.tmp 0]
def Dz:Option (List DK):=
some [(DK.mk 1 0 (⟨#[120]⟩:ByteArray) 0 0 (⟨#[]⟩:ByteArray)),(DK.mk 1 0 (⟨#[121]⟩:ByteArray) 0 1 (⟨#[]⟩:ByteArray)),(DK.mk 2 0 (⟨#[118]⟩:ByteArray) 0 0 (⟨#[]⟩:ByteArray)),(DK.mk 1 0 (⟨#[113]⟩:ByteArray) 2 0 (⟨#[]⟩:ByteArray)),(DK.mk 3 0 (⟨#[109]⟩:ByteArray) 0 0 (⟨#[]⟩:ByteArray)),(DK.mk 3 0 (⟨#[110]⟩:ByteArray) 0 0 (⟨#[]⟩:ByteArray)),(DK.mk 4 0 (⟨#[114]⟩:ByteArray) 0 0 (⟨#[]⟩:ByteArray)),(DK.mk 5 0 (⟨#[99]⟩:ByteArray) 0 0 (⟨#[109]⟩:ByteArray)),(DK.mk 6 0 (⟨#[102]⟩:ByteArray) 0 0 (⟨#[]⟩:ByteArray))]
theorem Ls {r:List DK} (h:Dz=some r):Says Tryz.prog 71 [] (vO 6 G2 r):=by
 refine wO mix Tryz.func71 (I:=⟨AAo,AAp,AAq⟩) ?_
 simp only[AAo,AAp,AAq]
 unfold Dz at h
 exact walk
def AAr:IC:=(Ra 0 [.K 4 0]
(Sq (Ra 5 [.p 0 1,.r 0 0,.Z 12,.O .geq 8 13,.C 14,.G 15 false,.C 1,.P .lss 16 1,.e,.V 15 17]
(Ci 18 (Rb 0 [.K 4 0])))
(Ra 19 [.p 0 1,.P .add 22 1,.y 0 (.FF (.t 19)),.H 0 1 24,.S 1 25 23]
(Rb 26 [.r 0 0,.p 0 1,.P .sub 33 1,.J 0 1 29 34,.L 35,.o (.Xk .i64 (.t 36)),.C 1,.O .rem 37 38,.M 4 39]))))
def AAs:Gi:=⟨[(5,[0]),(6,[0]),(7,[0]),(9,[0]),(10,[0]),(11,[0]),(12,[0]),(19,[0]),(20,[0]),(21,[0]),(24,[0]),(25,[0]),(26,[0]),(27,[0]),(28,[0]),(29,[0]),(30,[0]),(31,[0]),(32,[0]),(35,[0])]⟩
def AAt:List RV:=[.tmp 4]
namespace BF
def J1 (b:Int) (a:Cm) (c:Bool):Option (Int×Cm):=
if c then
some (0,a)
else
(gt a.L (BE ((BE (a.At+1))-1))).bind λd=>
if¬b=0 then
some ((BE d).tmod b,(Cm.mk a.L (BE (a.At+1))))
else none
end BF
section
open BF
def BF (a:Cm) (b:Int):Option (Int×Cm):=
if decide (a.At≥(a.L.length:Int))then
J1 b a true
else
J1 b a (decide (b<1))
theorem Fi {a:Cm} {b:Int} {r:Int×Cm} (h:BF a b=some r):A5 Tryz.prog 72 [bA 2 (Ot a),si b] (si r.1) [bA 2 (Ot r.2),.dead]:=by
 refine wL mix Tryz.func72 (I:=⟨AAr,AAs,AAt⟩) ?_
 simp only[AAr,AAs,AAt]
 unfold BF at h
 exact walk
end
def AA0:IC:=(Ra 2 [.o (.bx 4 (.c (.agg z12)))]
(Rb 3 [.C 0,.o (.Dc z12 [(0,1,.c (si 1)),(1,1,.t 3)]),.S 4 2 4]))
def AA1:Gi:=⟨[]⟩
def AA2:List RV:=[.cell 2 true 4]
def G4 (a:Int):Option As:=
some (As.mk 1 a (⟨#[]⟩:ByteArray) [])
theorem KW {a:Int} {r:As} (h:G4 a=some r):Says Tryz.prog 75 [si a] (.agg [si r.Op,si r.N,Ao r.Name,vS 4 Av r.L]):=by
 refine wF mix Tryz.func75 (I:=⟨AA0,AA1,AA2⟩) ?_
 simp only[AA0,AA1,AA2]
 unfold G4 at h
 exact walk
def oO:IC:=(Ra 2 [.o (.bx 4 (.c (.agg z12)))]
(Rb 3 [.C 0,.o (.Dc z12 [(0,1,.c (si 2)),(2,1,.t 3)]),.S 4 2 4]))
def oP:Gi:=⟨[]⟩
def oQ:List RV:=[.cell 2 true 4]
def GH (a:ByteArray):Option As:=
some (As.mk 2 0 a [])
theorem NW {a:ByteArray} {r:As} (h:GH a=some r):Says Tryz.prog 144 [Ao a] (.agg [si r.Op,si r.N,Ao r.Name,vS 4 Av r.L]):=by
 refine wF mix Tryz.func144 (I:=⟨oO,oP,oQ⟩) ?_
 simp only[oO,oP,oQ]
 unfold GH at h
 exact walk
def ABv:IC:=(Ra 0 [.B 4 false]
(Rb 5 [.C 0,.P .geq 5 0,.C 6,.G 7 true,.C 0,.C 1,.O .lss 8 9,.e,.W 7 10,.M 4 11]))
def ABw:Gi:=⟨[]⟩
def ABx:List RV:=[.tmp 4]
namespace Cs
def J1 (c:Bool):Option Bool:=
some c
end Cs
section
open Cs
def Cs (a b:Int):Option Bool:=
if decide (a≥0)then
J1 (decide (a<b))
else
J1 false
theorem Kl {a b:Int} {r:Bool} (h:Cs a b=some r):Says Tryz.prog 97 [si a,si b] (sb r):=by
 refine wO mix Tryz.func97 (I:=⟨ABv,ABw,ABx⟩) ?_
 simp only[ABv,ABw,ABx]
 unfold Cs at h
 exact walk
end
def mF:IC:=(Ra 0 [.b 3 [8,13,22,31] (.bx 6 (.t 0)),.B 6 false]
(Rb 7 [.C 1,.f 0 3,.Z 9,.c 97 [7,10] 0,.C 11,.G 12 true,.f 0 3,.C 1,.I 5 14 15,.U 1 16,.P .eql 18 0,.e,.W 12 19,.C 20,.G 21 true,.f 0 3,.C 1,.I 5 23 24,.U 2 25,.P .neq 27 0,.e,.W 21 28,.C 29,.G 30 true,.f 0 3,.C 1,.I 5 32 33,.U 2 34,.C 2,.O .eql 36 37,.e,.W 30 38,.M 6 39]))
def mG:Gi:=⟨[(8,[3]),(13,[3]),(22,[3]),(31,[3])]⟩
def mH:List RV:=[.tmp 6]
namespace EI
def J1 (e:Bool):Option Bool:=
some e
end EI
section
open EI
def EI (b:AB) (a c:Int):Option Bool:=
(Cs a (b.Cells.length:Int)).bind λf=>
if f then
(gt b.Cells a).bind λd=>
if d.Index==0 then
if d.Bn != 0 then
J1 (d.Bn==c)
else
J1 false
else
J1 false
else
J1 false
theorem RG {b:AB} {a c:Int} {r:Bool} (h:EI b a c=some r):Says Tryz.prog 125 [.agg (Ap b),si a,si c] (sb r):=by
 refine wO mix Tryz.func125 (I:=⟨mF,mG,mH⟩) ?_
 simp only[mF,mG,mH]
 have a1:= @Kl
 unfold EI at h
 exact walk
end
def ABp:IC:=(Ra 0 [.b 2 [11,16,29,34,64,69,85,90,104,113,121,129] (.bx 6 (.t 0)),.b 3 [5,9,18,27,36,46,48,54,56,62,71,83,92,102,111,119,127,135,139,145,149] (.bx 6 (.t 1)),.B 4 false]
(Sq (Ra 5 [.f 0 3]
(Bk 0 (Ra 8 [.q 6 6 7]
(Cn 7 (Rb 9 [.f 2 3,.f 0 2,.Z 12,.c 97 [10,13] 0,.C 14,.G 15 true,.f 0 2,.f 2 3,.I 5 17 19,.U 2 20,.P .eql 22 0,.e,.W 15 23,.M 4 24]) (Ra 26 [.q 6 8 25]
(Cn 25 (Rb 27 [.f 1 3,.f 0 2,.Z 30,.c 97 [28,31] 0,.C 32,.G 33 true,.f 0 2,.f 1 3,.I 5 35 37,.U 2 38,.P .eql 40 0,.e,.W 33 41,.M 4 42]) (Ra 44 [.q 6 7 43]
(Cn 43 (Rb 45 [.A 6 2,.f 2 3,.f 4 3,.c 125 [45,47,49] 0,.M 4 50]) (Ra 52 [.q 6 9 51]
(Cn 51 (Rb 53 [.A 6 2,.f 1 3,.f 4 3,.c 125 [53,55,57] 0,.M 4 58]) (Bw 3 (Ra 60 [.q 6 11 59]
(Cn 59 .skip (Rc 61 [.q 6 12 59])))
(Cn 59 (Rb 62 [.f 1 3,.f 1 2,.Z 65,.c 97 [63,66] 0,.C 67,.G 68 true,.f 1 2,.f 1 3,.I 2 70 72,.U 1 73,.N 75,.e,.W 68 76,.M 4 77]) (Bw 5 (Ra 79 [.q 6 13 78]
(Cn 78 .skip (Ra 80 [.q 6 14 78]
(Cn 78 .skip (Ra 81 [.q 6 15 78]
(Cn 78 .skip (Rc 82 [.q 6 16 78])))))))
(Cn 78 (Rb 83 [.f 1 3,.f 1 2,.Z 86,.c 97 [84,87] 0,.C 88,.G 89 true,.f 1 2,.f 1 3,.I 2 91 93,.U 1 94,.e,.W 89 96,.M 4 97]) (Bw 7 (Ra 99 [.q 6 21 98]
(Cn 98 .skip (Ra 100 [.q 6 22 98]
(Cn 98 .skip (Rc 101 [.q 6 23 98])))))
(Cn 98 (Rb 102 [.f 1 3,.f 2 2,.Z 105,.c 97 [103,106] 0,.M 4 107]) (Bw 8 (Ra 109 [.q 6 24 108]
(Cn 108 .skip (Rc 110 [.q 6 25 108])))
(Cn 108 (Rb 111 [.f 1 3,.f 4 2,.Z 114,.c 97 [112,115] 0,.M 4 116]) (Ra 118 [.q 6 26 117]
(Cn 117 (Rb 119 [.f 1 3,.f 3 2,.Z 122,.c 97 [120,123] 0,.M 4 124]) (Ra 126 [.q 6 27 125]
(Cn 125 (Rb 127 [.f 2 3,.f 3 2,.Z 130,.c 97 [128,131] 0,.M 4 132]) (Ra 134 [.q 6 3 133]
(Cn 133 (Rb 135 [.f 4 3,.Q 136 4,.C 137,.G 138 false,.f 4 3,.P .eql 140 5,.e,.V 138 141,.M 4 142]) (Ra 144 [.q 6 4 143]
(Ci 143 (Rb 145 [.f 4 3,.P .geq 146 6,.C 147,.G 148 true,.f 4 3,.P .leq 150 18,.e,.W 148 151,.M 4 152])))))))))))))))))))))))))))
(Rb 0 [.B 4 true])))
def ABq:Gi:=⟨[(5,[3]),(9,[3]),(11,[2]),(16,[2]),(18,[3]),(27,[3]),(29,[2]),(34,[2]),(36,[3]),(46,[3]),(48,[3]),(54,[3]),(56,[3]),(62,[3]),(64,[2]),(69,[2]),(71,[3]),(83,[3]),(85,[2]),(90,[2]),(92,[3]),(102,[3]),(104,[2]),(111,[3]),(113,[2]),(119,[3]),(121,[2]),(127,[3]),(129,[2]),(135,[3]),(139,[3]),(145,[3]),(149,[3])]⟩
def ABr:List RV:=[.tmp 4]
namespace Ad
def J1 (i:Bool):Option Bool:=
some i
def J2 (j:Bool):Option Bool:=
some j
def J4 (l:Bool):Option Bool:=
some l
def J6 (o:Bool):Option Bool:=
some o
def J9 (p:Bool):Option Bool:=
some p
def Oj (q:Bool):Option Bool:=
some q
def J8 (a:AW) (b:AB) (c:Bool):Option Bool:=
if c then
(Cs a.A (b.AA.length:Int)).bind λz=>
some z
else
if a.Op==26 then
(Cs a.A (b.AH.length:Int)).bind λaa=>
some aa
else
if a.Op==27 then
(Cs a.B (b.AH.length:Int)).bind λab=>
some ab
else
if a.Op==3 then
if a.N==4 then
J9 true
else
J9 (a.N==5)
else
if a.Op==4 then
if decide (a.N≥6)then
Oj (decide (a.N≤18))
else
Oj false
else
some true
def J7 (a:AW) (b:AB) (f:Bool):Option Bool:=
if f then
(Cs a.A (b.Au.length:Int)).bind λy=>
some y
else
if a.Op==24 then
J8 a b (a.Op==24)
else
J8 a b (a.Op==25)
def J5 (a:AW) (b:AB) (e:Bool):Option Bool:=
if e then
(Cs a.A (b.AG.length:Int)).bind λx=>
if x then
(gt b.AG a.A).bind λaf=>
J6 af.RW
else
J6 false
else
if a.Op==21 then
J7 a b (a.Op==21)
else
if a.Op==22 then
J7 a b (a.Op==22)
else
J7 a b (a.Op==23)
def J3 (a:AW) (b:AB) (d:Bool):Option Bool:=
if d then
(Cs a.A (b.AG.length:Int)).bind λw=>
if w then
(gt b.AG a.A).bind λae=>
J4 (!ae.RW)
else
J4 false
else
if a.Op==13 then
J5 a b (a.Op==13)
else
if a.Op==14 then
J5 a b (a.Op==14)
else
if a.Op==15 then
J5 a b (a.Op==15)
else
J5 a b (a.Op==16)
end Ad
section
open Ad
def Ad (b:AB) (a:AW):Option Bool:=
if a.Op==6 then
(Cs a.B (b.Cells.length:Int)).bind λs=>
if s then
(gt b.Cells a.B).bind λac=>
J1 (ac.Bn==0)
else
J1 false
else
if a.Op==8 then
(Cs a.A (b.Cells.length:Int)).bind λt=>
if t then
(gt b.Cells a.A).bind λad=>
J2 (ad.Bn==0)
else
J2 false
else
if a.Op==7 then
(EI b a.B a.N).bind λu=>
some u
else
if a.Op==9 then
(EI b a.A a.N).bind λv=>
some v
else
if a.Op==11 then
J3 a b (a.Op==11)
else
J3 a b (a.Op==12)
theorem Of {b:AB} {a:AW} {r:Bool} (h:Ad b a=some r):Says Tryz.prog 95 [.agg (Ap b),.agg (C7 a)] (sb r):=by
 refine wO mix Tryz.func95 (I:=⟨ABp,ABq,ABr⟩) ?_
 simp only[ABp,ABq,ABr]
 have a1:= @Kl
 have a2:= @RG
 have c8:=λn1 n2 n3 n4:Nat=>B7 8 λτ=>∃(c:Bool),(τ 2=bA 6 (Ap b)/\τ 3=bA 6 (C7 a)/\τ 6=si a.Op/\τ 108=sb c)/\J8 a b c=some r
 have c7:=λn1 n2 n3 n4:Nat=>B7 7 λτ=>∃(f:Bool),(τ 2=bA 6 (Ap b)/\τ 3=bA 6 (C7 a)/\τ 6=si a.Op/\τ 98=sb f)/\J7 a b f=some r
 have c5:=λn1 n2 n3 n4:Nat=>B7 5 λτ=>∃(e:Bool),(τ 2=bA 6 (Ap b)/\τ 3=bA 6 (C7 a)/\τ 6=si a.Op/\τ 78=sb e)/\J5 a b e=some r
 have c3:=λn1 n2 n3 n4:Nat=>B7 3 λτ=>∃(d:Bool),(τ 2=bA 6 (Ap b)/\τ 3=bA 6 (C7 a)/\τ 6=si a.Op/\τ 59=sb d)/\J3 a b d=some r
 unfold Ad at h
 exact walk
end
def mI:IC:=(Ra 0 [.B 2 false]
(Rb 3 [.C 0,.P .geq 3 1,.C 4,.G 5 true,.C 0,.P .leq 6 5,.e,.W 5 7,.M 2 8]))
def mJ:Gi:=⟨[]⟩
def mK:List RV:=[.tmp 2]
namespace ED
def J1 (b:Bool):Option Bool:=
some b
end ED
section
open ED
def ED (a:Int):Option Bool:=
if decide (a≥1)then
J1 (decide (a≤5))
else
J1 false
theorem Jj {a:Int} {r:Bool} (h:ED a=some r):Says Tryz.prog 126 [si a] (sb r):=by
 refine wO mix Tryz.func126 (I:=⟨mI,mJ,mK⟩) ?_
 simp only[mI,mJ,mK]
 unfold ED at h
 exact walk
end
def l9:IC:=(Ra 4 [.o (.mv (.c (.own false 1 [])))]
(Ra 0 [.K 5 0]
(Sq (Bl 0 (Sq (Ra 7 [.C 5,.y 0 (.cp (.t 0)),.Z 8,.O .lss 7 9,.C 10,.G 11 true,.y 0 (.cp (.t 0)),.C 5,.y 0 (.Lr 1 (.t 12) (.t 13)),.L 14,.C 1,.O .lss 15 16,.e,.W 11 17]
(cX 18 0))
(Bk 1 (Rc 19 [.C 5,.P .add 19 1,.M 5 20]))))
(Sq (Ra 21 [.C 5,.y 0 (.cp (.t 0)),.Z 22,.O .lss 21 23,.C 24,.G 25 true,.y 0 (.cp (.t 0)),.C 5,.y 0 (.Lr 1 (.t 26) (.t 27)),.L 28,.C 1,.O .eql 29 30,.e,.W 25 31]
(Ci 32 (Rb 33 [.y 0 (.cp (.t 0)),.M 4 33])))
(Ra 34 [.o (.Eg 1 [] []),.y 0 (.cp (.t 0)),.C 5,.o (.UM 1 true (.t 35) none (some (.t 36)) none),.o (.app 1 8 (.t 34) (.t 37)),.b 6 [39,43] (.mv (.t 38))]
(Ra 39 [.y 6 (.cp (.t 6)),.C 1,.o (.Eg 1 [[si 0]] [(0,.t 40)]),.o (.app 1 8 (.t 39) (.t 41)),.b 6 [39,43] (.mv (.t 42))]
(Rb 43 [.y 6 (.cp (.t 6)),.y 0 (.cp (.t 0)),.C 5,.o (.UM 1 true (.t 44) (some (.t 45)) none none),.o (.app 1 8 (.t 43) (.t 46)),.M 4 47])))))))
def mA:Gi:=⟨[(8,[0]),(12,[0]),(14,[0]),(22,[0]),(26,[0]),(28,[0]),(33,[0]),(35,[0]),(39,[6]),(43,[6]),(44,[0])]⟩
def mB:List RV:=[.tmp 4]
namespace DI
def J3 (c:Int) (a:List Int) (b:Int) (f:Bool):Option (List Int):=
if f then
some a
else
if 0≤c/\c.toNat≤a.length then
if Aq ((a.take c.toNat).length) 8=true then
if Aq ((a.take c.toNat).length+1) 8=true then
if 0≤c/\c.toNat≤a.length then
if Aq (((a.take c.toNat)++[b]).length+((a.drop c.toNat).take (a.length-c.toNat)).length) 8=true then
some (((a.take c.toNat)++[b])++((a.drop c.toNat).take (a.length-c.toNat)))
else none
else none
else none
else none
else none
def J2 (a:List Int) (b c:Int):Option (List Int):=
if decide (c<(a.length:Int))then
(gt a c).bind λj=>
J3 c a b (j==b)
else
J3 c a b false
def J1 (L1:Int->Option (List Int)) (d:Int) (a:List Int) (b:Int) (e:Bool):Option (List Int):=
if e then
L1 (BE (d+1))
else
J2 a b d
def L1 (a:List Int) (b:Int) (L1:Int->Option (List Int)) (d:Int):Option (List Int):=
if decide (d<(a.length:Int))then
(gt a d).bind λi=>
J1 L1 d a b (decide (i<b))
else
J1 L1 d a b false
def Ac (a:List Int) (b:Int):Nat->Int->Option (List Int)
|0,_=>none
|n+1,d=>L1 a b (Ac a b n) d
end DI
section
open DI
def DI (a:List Int) (b:Int):Option (List Int):=
Ac a b Bo 0
theorem T5 {a:List Int} {b:Int} {r:List Int} (h:DI a b=some r):Says Tryz.prog 112 [vO 1 eI a,si b] (vO 1 eI r):=by
 refine wO mix Tryz.func112 (I:=⟨l9,mA,mB⟩) ?_
 simp only[l9,mA,mB]
 have l1:=λn1 n2 n3 n4:Nat=>BM λn τ=>∃(d:Int),(τ 0=vO 1 eI a/\τ 1=si b/\τ 5=si d)/\Ac a b n d=some r
 unfold DI at h
 exact walk
end
def ABU:IC:=(Ra 4 [.o (.mv (.c (.own false 1 [])))]
(Ra 0 [.b 5 [14,26,32] (.mv (.c (.own false 1 [])))]
(Sq (Ra 0 [.K 6 0]
(Bl 0 (Sq (Ra 8 [.C 6,.C 0,.Z 9,.O .lss 8 10]
(cX 11 0))
(Sq (Bk 1 (Rc 14 [.y 5 (.cp (.t 5)),.C 0,.C 6,.I 1 15 16,.L 17,.c 112 [14,18] 3,.b 5 [14,26,32] (.mv (.t 19))]))
(Rc 12 [.C 6,.P .add 12 1,.M 6 13])))))
(Sq (Ra 0 [.K 7 0]
(Bl 2 (Sq (Ra 20 [.C 7,.C 1,.Z 21,.O .lss 20 22]
(cX 23 2))
(Sq (Bk 3 (Rc 26 [.y 5 (.cp (.t 5)),.C 1,.C 7,.I 1 27 28,.L 29,.c 112 [26,30] 3,.b 5 [14,26,32] (.mv (.t 31))]))
(Rc 24 [.C 7,.P .add 24 1,.M 7 25])))))
(Rb 32 [.y 5 (.cp (.t 5)),.M 4 32])))))
def ABV:Gi:=⟨[(14,[5]),(26,[5]),(32,[5])]⟩
def ABW:List RV:=[.tmp 4]
namespace Cx
def J2 (j:List Int):Option (List Int):=
some j
def L2 (a:List Int) (L2:(List Int)->Int->Option (List Int)) (f:List Int) (d:Int):Option (List Int):=
if decide (d<(a.length:Int))then
(gt a d).bind λq=>
(DI f q).bind λo=>
L2 o (BE (d+1))
else
J2 f
def Da (a:List Int):Nat->(List Int)->Int->Option (List Int)
|0,_,_=>none
|n+1,f,d=>L2 a (Da a n) f d
def J1 (a i:List Int):Option (List Int):=
Da a Bo i 0
def L1 (b a:List Int) (L1:(List Int)->Int->Option (List Int)) (e:List Int) (c:Int):Option (List Int):=
if decide (c<(b.length:Int))then
(gt b c).bind λp=>
(DI e p).bind λl=>
L1 l (BE (c+1))
else
J1 a e
def Ac (b a:List Int):Nat->(List Int)->Int->Option (List Int)
|0,_,_=>none
|n+1,e,c=>L1 b a (Ac b a n) e c
end Cx
section
open Cx
def Cx (b a:List Int):Option (List Int):=
Ac b a Bo [] 0
theorem Kn {b a r:List Int} (h:Cx b a=some r):Says Tryz.prog 85 [vS 1 eI b,vS 1 eI a] (vO 1 eI r):=by
 refine wO mix Tryz.func85 (I:=⟨ABU,ABV,ABW⟩) ?_
 simp only[ABU,ABV,ABW]
 have a1:= @T5
 have l2:=λn1 n2 n3 n4:Nat=>BM λn τ=>∃(f:List Int) (d:Int),(τ 1=vS 1 eI a/\τ 5=vO 1 eI f/\τ 7=si d)/\Da a n f d=some r
 have l1:=λn1 n2 n3 n4:Nat=>BM λn τ=>∃(e:List Int) (c:Int),(τ 0=vS 1 eI b/\τ 1=vS 1 eI a/\τ 5=vO 1 eI e/\τ 6=si c)/\Ac b a n e c=some r
 unfold Cx at h
 exact walk
end
def ABX:IC:=(Ra 4 [.o (.mv (.c (.own false 1 [])))]
(Ra 0 [.b 5 [19,26] (.mv (.c (.own false 1 [])))]
(Sq (Ra 0 [.K 6 0]
(Bl 0 (Sq (Ra 7 [.C 6,.C 0,.Z 8,.O .lss 7 9]
(cX 10 0))
(Sq (Bk 1 (Ra 13 [.C 0,.C 6,.I 1 13 14,.L 15,.C 1,.O .neq 16 17]
(Ci 18 (Rc 19 [.y 5 (.cp (.t 5)),.C 0,.C 6,.I 1 20 21,.L 22,.o (.Eg 1 [[si 0]] [(0,.t 23)]),.o (.app 1 8 (.t 19) (.t 24)),.b 5 [19,26] (.mv (.t 25))]))))
(Rc 11 [.C 6,.P .add 11 1,.M 6 12])))))
(Rb 26 [.y 5 (.cp (.t 5)),.M 4 26]))))
def ABY:Gi:=⟨[(19,[5]),(26,[5])]⟩
def ABZ:List RV:=[.tmp 4]
namespace C0
def J2 (i:List Int):Option (List Int):=
some i
def J1 (L1:(List Int)->Int->Option (List Int)) (b:Int) (f:List Int):Option (List Int):=
L1 f (BE (b+1))
def L1 (a:List Int) (c:Int) (L1:(List Int)->Int->Option (List Int)) (d:List Int) (b:Int):Option (List Int):=
if decide (b<(a.length:Int))then
(gt a b).bind λe=>
if e != c then
if Aq (d.length+1) 8=true then
J1 L1 b (d++[e])
else none
else
J1 L1 b d
else
J2 d
def Ac (a:List Int) (c:Int):Nat->(List Int)->Int->Option (List Int)
|0,_,_=>none
|n+1,d,b=>L1 a c (Ac a c n) d b
end C0
section
open C0
def C0 (a:List Int) (c:Int):Option (List Int):=
Ac a c Bo [] 0
theorem Og {a:List Int} {c:Int} {r:List Int} (h:C0 a c=some r):Says Tryz.prog 86 [vS 1 eI a,si c] (vO 1 eI r):=by
 refine wO mix Tryz.func86 (I:=⟨ABX,ABY,ABZ⟩) ?_
 simp only[ABX,ABY,ABZ]
 have l1:=λn1 n2 n3 n4:Nat=>BM λn τ=>∃(d:List Int) (b:Int),(τ 0=vS 1 eI a/\τ 1=si c/\τ 5=vO 1 eI d/\τ 6=si b)/\Ac a c n d b=some r
 unfold C0 at h
 exact walk
end
def ABO:IC:=(Ra 4 [.b 2 [8,14,22] (.bx 4 (.t 0)),.o (.mv (.c (.own false 1 [])))]
(Ra 0 [.b 5 [31,35] (.mv (.c (.own false 1 [])))]
(Sq (Ra 0 [.K 6 0]
(Bl 0 (Sq (Ra 7 [.C 6,.f 3 2,.Z 9,.O .lss 7 10]
(cX 11 0))
(Sq (Bk 1 (Ra 14 [.f 3 2,.C 6,.I 3 15 16,.U 0 17,.Q 19 3,.C 20,.G 21 true,.f 3 2,.C 6,.I 3 23 24,.U 1 25,.C 1,.O .eql 27 28,.e,.W 21 29]
(Ci 30 (Rc 31 [.y 5 (.cp (.t 5)),.C 6,.o (.Eg 1 [[si 0]] [(0,.t 32)]),.o (.app 1 8 (.t 31) (.t 33)),.b 5 [31,35] (.mv (.t 34))]))))
(Rc 12 [.C 6,.P .add 12 1,.M 6 13])))))
(Rb 35 [.y 5 (.cp (.t 5)),.M 4 35]))))
def ABP:Gi:=⟨[(8,[2]),(14,[2]),(22,[2]),(31,[5]),(35,[5])]⟩
def ABQ:List RV:=[.tmp 4]
namespace CO
def J3 (i:List Int):Option (List Int):=
some i
def J2 (L1:(List Int)->Int->Option (List Int)) (a:Int) (f:List Int):Option (List Int):=
L1 f (BE (a+1))
def J1 (L1:(List Int)->Int->Option (List Int)) (a:Int) (b:List Int) (j:Bool):Option (List Int):=
if j then
if Aq (b.length+1) 8=true then
J2 L1 a (b++[a])
else none
else
J2 L1 a b
def L1 (d:Int) (c:AO) (L1:(List Int)->Int->Option (List Int)) (b:List Int) (a:Int):Option (List Int):=
if decide (a<(c.AA.length:Int))then
(gt c.AA a).bind λe=>
if e.Status==3 then
J1 L1 a b (e.Ef==d)
else
J1 L1 a b false
else
J3 b
def Ac (d:Int) (c:AO):Nat->(List Int)->Int->Option (List Int)
|0,_,_=>none
|n+1,b,a=>L1 d c (Ac d c n) b a
end CO
section
open CO
def CO (c:AO) (d:Int):Option (List Int):=
Ac d c Bo [] 0
theorem Mw {c:AO} {d:Int} {r:List Int} (h:CO c d=some r):Says Tryz.prog 83 [.agg (GZ c),si d] (vO 1 eI r):=by
 refine wO mix Tryz.func83 (I:=⟨ABO,ABP,ABQ⟩) ?_
 simp only[ABO,ABP,ABQ]
 have l1:=λn1 n2 n3 n4:Nat=>BM λn τ=>∃(b:List Int) (a:Int),(τ 1=si d/\τ 2=bA 4 (GZ c)/\τ 5=vO 1 eI b/\τ 6=si a)/\Ac d c n b a=some r
 unfold CO at h
 exact walk
end
def xZ:IC:=(Ra 0 [.b 3 [23] (.bx 6 (.t 0)),.b 4 [76] (.bx 7 (.t 1)),.b 5 [14,18,25,32,38,42,47,49,78] (.bx 7 (.t 2)),.B 6 false]
(Hl (Rc 14 [.f 1 5,.Q 15 3,.C 16,.G 17 false,.f 1 5,.P .eql 19 4,.e,.V 17 20,.C 21,.G 22 true,.f 0 3,.f 2 5,.I 5 24 26,.U 2 27,.P .neq 29 0,.e,.W 22 30,.M 7 31])
(Hl (Rc 32 [.f 1 5,.Q 33 5,.C 34,.G 35 false,.C 7,.e,.V 35 36,.f 1 5,.Q 39 4,.C 40,.G 41 false,.f 1 5,.P .eql 43 22,.e,.V 41 44,.o (.Dc [sb false,sb false] [(0,1,.t 37),(1,1,.t 45)]),.b 8 [61] (.bx 2 (.c (.agg [sb false,sb false]))),.S 2 8 46])
(Hl (Ra 47 [.f 5 5,.f 6 5,.o (.Dc [.own false 1 [],.own false 1 []] [(0,1,.t 48),(1,1,.t 50)]),.Y 0]
(Bl 0 (Ra 53 [.P .lss 52 2]
(Sq (cX 53 0)
(Hl (Bk 1 (Hl (Rc 54 [.C 52,.o (.idx false 2 1 (.t 51) (.t 52)),.M 9 54,.M 10 55])
(Sq (Hl (Rc 56 [.C 10,.Z 56,.P .gtr 57 0,.C 58,.G 59 true,.C 9,.y 8 (.kP 2 1 (.t 8) (.t 60)),.L 61,.N 62,.e,.W 59 63])
(Ci 64 (Rb 0 [.B 6 false])))
(Ra 0 [.K 11 0]
(Ra 65 [.C 10,.Z 65,.Y 0]
(Bl 2 (Ra 68 [.O .lss 67 66]
(Sq (cX 68 2)
(Sq (Bk 3 (Ra 69 [.I 1 65 67,.L 69,.M 13 70]
(Sq (Hl (Rc 71 [.C 13,.C 11,.O .leq 71 72,.C 73,.G 74 false,.C 13,.f 6 4,.f 0 5,.I 1 77 79,.L 80,.O .geq 75 81,.e,.V 74 82])
(Ci 83 (Rb 0 [.B 6 false])))
(Rc 84 [.C 13,.M 11 84]))))
(Rc 85 [.P .add 67 1,.w 67,.C 85]))))))))))
(Rc 86 [.P .add 52 1,.w 52,.C 86]))))))
(Rb 0 [.B 6 true])))))
def x7:Gi:=⟨[(14,[5]),(18,[5]),(23,[3]),(25,[5]),(32,[5]),(38,[5]),(42,[5]),(47,[5]),(49,[5]),(61,[8]),(76,[4]),(78,[5])]⟩
def x8:List RV:=[.tmp 6]
def f31:FI:=⟨xZ,x7,x8⟩
theorem vH:I2 Tryz.prog Tryz.f31 f31=true:=by kernel_rfl
namespace AR
def J7:Option Bool:=
some true
def J6 (L1:Int->Option Bool) (t52v:Int):Option Bool:=
L1 (BE (t52v+1))
def J5 (L2:Int->Int->Option Bool) (t67v x_2:Int) (t83v:Bool):Option Bool:=
if t83v then
some false
else
L2 x_2 (BE (t67v+1))
def L2 (L1:Int->Option Bool) (ev:AN) (l:List Int) (s:AM) (t52v:Int) (L2:Int->Int->Option Bool) (last t67v:Int):Option Bool:=
if decide (t67v<(l.length:Int))then
(gt l t67v).bind λx_2=>
if decide (x_2≤last)then
J5 L2 t67v x_2 true
else
(gt s.Count ev.Thread).bind λx_3=>
J5 L2 t67v x_2 (decide (x_2≥x_3))
else
J6 L1 t52v
def Da (L1:Int->Option Bool) (ev:AN) (l:List Int) (s:AM) (t52v:Int):Nat->Int->Int->Option Bool
|0,_,_=>none
|n+1,last,t67v=>L2 L1 ev l s t52v (Da L1 ev l s t52v n) last t67v
def J4 (L1:Int->Option Bool) (ev:AN) (l:List Int) (s:AM) (t52v:Int) (t64v:Bool):Option Bool:=
if t64v then
some false
else
Da L1 ev l s t52v Bo 0 0
def J3 (L1:Int->Option Bool) (allowed allowed_1:Bool) (ev:AN) (s:AM) (t52v:Int) (l:List Int):Option Bool:=
if decide ((l.length:Int)>0)then
if t52v==0 then
J4 L1 ev l s t52v (!allowed)
else
if t52v==1 then
J4 L1 ev l s t52v (!allowed_1)
else
none
else
J4 L1 ev l s t52v false
def L1 (allowed allowed_1:Bool) (ev:AN) (s:AM) (L1:Int->Option Bool) (t52v:Int):Option Bool:=
if decide (t52v<2)then
if t52v==0 then
J3 L1 allowed allowed_1 ev s t52v ev.Dy
else
if t52v==1 then
J3 L1 allowed allowed_1 ev s t52v ev.Db
else
none
else
J7
def Ac (allowed allowed_1:Bool) (ev:AN) (s:AM):Nat->Int->Option Bool
|0,_=>none
|n+1,t52v=>L1 allowed allowed_1 ev s (Ac allowed allowed_1 ev s n) t52v
def J2 (ev:AN) (s:AM) (allowed allowed_1:Bool):Option Bool:=
Ac allowed allowed_1 ev s Bo 0
def J1 (ev:AN) (s:AM) (element:Bool):Option Bool:=
if ev.Kind==5 then
if ev.Kind==4 then
J2 ev s true true
else
J2 ev s true (ev.Kind==22)
else
if ev.Kind==4 then
J2 ev s element true
else
J2 ev s element (ev.Kind==22)
end AR
section
open AR
def AR (wv:AB) (s:AM) (ev:AN):Option Bool:=
if ev.Kind==3 then
(gt wv.Cells ev.Obj).bind λx=>
J1 ev s (x.Bn != 0)
else
if ev.Kind==4 then
(gt wv.Cells ev.Obj).bind λx_1=>
J1 ev s (x_1.Bn != 0)
else
J1 ev s false
theorem Iv {wv:AB} {s:AM} {ev:AN} {r:Bool} (h:AR wv s ev=some r):Says Tryz.prog 31 [.agg (Ap wv),.agg (Cz s),.agg (C4 ev)] (sb r):=by
 refine Ij mix Tryz.func31 vH (of_decide_eq_true (by kernel_rfl)) rfl ?_
 simp only[f31,xZ,x7,x8]
 try simp +decide only[go_sem, *]
 refine II (λτ=>∃element:Bool,(τ 4=bA 7 (Cz s)/\τ 5=bA 7 (C4 ev)/\τ 7=sb element)/\J1 ev s element=some r) λM1 hM1=>⟨?_,?_⟩
 . try simp +decide only[go_sem, *]
   refine gI h (λ_ h=> ?_) λ_ h=> ?_
   . obtain⟨x,_,h⟩:=gB h
     try simp +decide only[go_sem, *]
     refine hM1 _ ⟨_,?_,h⟩
     simp +decide only[go_sem, *]
   try simp +decide only[go_sem, *]
   refine gI h (λ_ h=> ?_) λ_ h=> ?_
   . obtain⟨x_1,_,h⟩:=gB h
     try simp +decide only[go_sem, *]
     refine hM1 _ ⟨_,?_,h⟩
     simp +decide only[go_sem, *]
   try simp +decide only[go_sem, *]
   refine hM1 _ ⟨_,?_,h⟩
   simp +decide only[go_sem, *]
 rintro τ1 ⟨element,s1,h⟩
 try simp +decide only[go_sem, *]
 refine II (λτ=>∃allowed:Bool,∃allowed_1:Bool,(τ 4=bA 7 (Cz s)/\τ 5=bA 7 (C4 ev)/\τ 8=bA 2 [sb allowed,sb allowed_1])/\J2 ev s allowed allowed_1=some r) λM2 hM2=>⟨?_,?_⟩
 . try simp +decide only[go_sem, *]
   refine gI h (λ_ h=> ?_) λ_ h=> ?_
   . try simp +decide only[go_sem, *]
     refine gI h (λ_ h=> ?_) λ_ h=> ?_
     . try simp +decide only[go_sem, *]
       refine hM2 _ ⟨_,_,?_,h⟩
       simp +decide only[go_sem, *]
     try simp +decide only[go_sem, *]
     refine hM2 _ ⟨_,_,?_,h⟩
     simp +decide only[go_sem, *]
   try simp +decide only[go_sem, *]
   refine gI h (λ_ h=> ?_) λ_ h=> ?_
   . try simp +decide only[go_sem, *]
     refine hM2 _ ⟨_,_,?_,h⟩
     simp +decide only[go_sem, *]
   try simp +decide only[go_sem, *]
   refine hM2 _ ⟨_,_,?_,h⟩
   simp +decide only[go_sem, *]
 rintro τ2 ⟨allowed,allowed_1,s2,h⟩
 try simp +decide only[go_sem, *]
 refine II (λτ=>(True)/\J7=some r) λM7 hM7=>⟨?_,?_⟩
 . try simp +decide only[go_sem, *]
   refine Jc (λn τ=>∃t52v:Int,(τ 4=bA 7 (Cz s)/\τ 5=bA 7 (C4 ev)/\τ 8=bA 2 [sb allowed,sb allowed_1]/\τ 51= .agg [vS 1 eI ev.Dy,vS 1 eI ev.Db]/\τ 52=si t52v)/\Ac allowed allowed_1 ev s n t52v=some r) ⟨_,?_,h⟩ λn1 τ1 N1=> ?_
   . simp +decide only[go_sem, *]
   rintro⟨t52v,s1,h⟩ hN1
   cases n1 with
   |zero=>exact B9 h
   |succ n1=>
    rw[Ac]at h;generalize hL1:Ac allowed allowed_1 ev s n1=L1 at h
    try simp +decide only[go_sem, *]
    refine cI h (λ_ h=> ?_) λ_ h=> ?_
    . try simp +decide only[go_sem, *]
      refine II (λτ=>(τ 4=bA 7 (Cz s)/\τ 5=bA 7 (C4 ev)/\τ 8=bA 2 [sb allowed,sb allowed_1]/\τ 51= .agg [vS 1 eI ev.Dy,vS 1 eI ev.Db]/\τ 52=si t52v)/\J6 L1 t52v=some r) λM6 hM6=>⟨?_,?_⟩
      . try simp +decide only[go_sem, *]
        refine II (λτ=>∃l:List Int,(τ 4=bA 7 (Cz s)/\τ 5=bA 7 (C4 ev)/\τ 8=bA 2 [sb allowed,sb allowed_1]/\τ 9=si t52v/\τ 10=vS 1 eI l/\τ 51= .agg [vS 1 eI ev.Dy,vS 1 eI ev.Db]/\τ 52=si t52v)/\J3 L1 allowed allowed_1 ev s t52v l=some r) λM3 hM3=>⟨?_,?_⟩
        . rcases V8 h with⟨e7,h⟩|⟨e7,h⟩
          . obtain rfl:=e7
            try simp +decide only[go_sem, *]
            refine hM3 _ ⟨_,?_,h⟩
            simp +decide only[go_sem, *]
          . obtain rfl:=e7
            try simp +decide only[go_sem, *]
            refine hM3 _ ⟨_,?_,h⟩
            simp +decide only[go_sem, *]
        rintro τ3 ⟨l,s3,h⟩
        try simp +decide only[go_sem, *]
        refine II (λτ=>∃t64v:Bool,(τ 4=bA 7 (Cz s)/\τ 5=bA 7 (C4 ev)/\τ 8=bA 2 [sb allowed,sb allowed_1]/\τ 10=vS 1 eI l/\τ 51= .agg [vS 1 eI ev.Dy,vS 1 eI ev.Db]/\τ 52=si t52v/\τ 64=sb t64v)/\J4 L1 ev l s t52v t64v=some r) λM4 hM4=>⟨?_,?_⟩
        . try simp +decide only[go_sem, *]
          refine gI h (λ_ h=> ?_) λ_ h=> ?_
          . rcases V8 h with⟨e9,h⟩|⟨e9,h⟩
            . obtain rfl:=e9
              try simp +decide only[go_sem, *]
              refine hM4 _ ⟨_,?_,h⟩
              simp +decide only[go_sem, *]
            . obtain rfl:=e9
              try simp +decide only[go_sem, *]
              refine hM4 _ ⟨_,?_,h⟩
              simp +decide only[go_sem, *]
          try simp +decide only[go_sem, *]
          refine hM4 _ ⟨_,?_,h⟩
          simp +decide only[go_sem, *]
        rintro τ4 ⟨t64v,s4,h⟩
        try simp +decide only[go_sem, *]
        refine cI h (λ_ h=> ?_) λ_ h=> ?_
        . obtain rfl:=Option.some.inj h
          simp +decide only[go_sem, *]
        try simp +decide only[go_sem, *]
        refine Jc (λn τ=>∃last:Int,∃t67v:Int,(τ 4=bA 7 (Cz s)/\τ 5=bA 7 (C4 ev)/\τ 8=bA 2 [sb allowed,sb allowed_1]/\τ 11=si last/\τ 51= .agg [vS 1 eI ev.Dy,vS 1 eI ev.Db]/\τ 52=si t52v/\τ 65=vS 1 eI l/\τ 66=si (l.length:Int)/\τ 67=si t67v)/\Da L1 ev l s t52v n last t67v=some r) ⟨_,_,?_,h⟩ λn2 τ2 N2=> ?_
        . simp +decide only[go_sem, *]
        rintro⟨last,t67v,s2,h⟩ hN2
        cases n2 with
        |zero=>exact B9 h
        |succ n2=>
         rw[Da]at h;generalize hL2:Da L1 ev l s t52v n2=L2 at h
         try simp +decide only[go_sem, *]
         refine cI h (λ_ h=> ?_) λ_ h=> ?_
         . obtain⟨x_2,_,h⟩:=gB h
           try simp +decide only[go_sem, *]
           refine II (λτ=>∃t83v:Bool,(τ 4=bA 7 (Cz s)/\τ 5=bA 7 (C4 ev)/\τ 8=bA 2 [sb allowed,sb allowed_1]/\τ 13=si x_2/\τ 51= .agg [vS 1 eI ev.Dy,vS 1 eI ev.Db]/\τ 52=si t52v/\τ 65=vS 1 eI l/\τ 66=si (l.length:Int)/\τ 67=si t67v/\τ 83=sb t83v)/\J5 L2 t67v x_2 t83v=some r) λM5 hM5=>⟨?_,?_⟩
           . try simp +decide only[go_sem, *]
             refine gI h (λ_ h=> ?_) λ_ h=> ?_
             . try simp +decide only[go_sem, *]
               refine hM5 _ ⟨_,?_,h⟩
               simp +decide only[go_sem, *]
             obtain⟨x_3,_,h⟩:=gB h
             try simp +decide only[go_sem, *]
             refine hM5 _ ⟨_,?_,h⟩
             simp +decide only[go_sem, *]
           rintro τ5 ⟨t83v,s5,h⟩
           try simp +decide only[go_sem, *]
           refine cI h (λ_ h=> ?_) λ_ h=> ?_
           . obtain rfl:=Option.some.inj h
             simp +decide only[go_sem, *]
           try simp +decide only[go_sem, *]
           refine hN2 n2 (Nat.lt_succ_self _) _ ⟨_,_,?_,hL2.symm▸h⟩
           simp +decide only[go_sem, *]
         try simp +decide only[go_sem, *]
         refine hM6 _ ⟨?_,h⟩
         simp +decide only[go_sem, *]
      rintro τ6 ⟨s6,h⟩
      try simp +decide only[go_sem, *]
      refine hN1 n1 (Nat.lt_succ_self _) _ ⟨_,?_,hL1.symm▸h⟩
      simp +decide only[go_sem, *]
    try simp +decide only[go_sem, *]
    refine hM7 _ ⟨?_,h⟩
    simp +decide only[go_sem, *]
 rintro τ7 ⟨_,h⟩
 obtain rfl:=Option.some.inj h
 simp +decide only[go_sem, *]
end
def x9:IC:=(Ra 0 [.b 2 [18,29,51,52,92,93] (.bx 7 (.t 0)),.b 3 [12,16,20,27,31,38,42,66,74,85,106,113,117] (.bx 7 (.t 1)),.B 4 false]
(Sq (Ra 12 [.f 1 3]
(Bk 0 (Ra 15 [.q 13 3 14]
(Cn 14 (Rb 16 [.f 3 3,.f 4 2,.f 2 3,.I 1 19 21,.L 22,.O .eql 17 23,.M 4 24]) (Ra 26 [.q 13 23 25]
(Cn 25 (Rb 27 [.f 3 3,.f 5 2,.f 2 3,.I 1 30 32,.L 33,.O .eql 28 34,.M 4 35]) (Ra 37 [.q 13 5 36]
(Cn 36 (Rb 38 [.f 3 3,.Q 39 0,.C 40,.G 41 false,.f 3 3,.P .eql 43 1,.e,.V 41 44,.M 4 45]) (Bw 2 (Ra 47 [.q 13 4 46]
(Cn 46 .skip (Rc 48 [.q 13 22 46])))
(Cn 46 (Rb 0 [.B 4 true]) (Ra 50 [.q 13 18 49]
(Cn 49 (Ra 0 [.K 5 0,.B 6 false]
(Sq (Ra 51 [.F 0 2,.h 2 3 51,.Z 53,.Y 0]
(Bl 1 (Ra 56 [.O .lss 55 54]
(Sq (cX 56 1)
(Sq (Bk 2 (Ra 57 [.C 55,.I 3 53 55,.A 3 58,.b 8 [60,64] (.bx 3 (.c (.agg fD))),.M 7 57,.S 3 8 59]
(Ra 60 [.f 0 8,.Q 61 3,.C 62,.G 63 true,.f 1 8,.f 2 3,.O .eql 65 67,.e,.W 63 68]
(Ci 69 (Ra 70 [.C 5,.P .add 70 1,.M 5 71]
(Rc 72 [.C 6,.C 72,.G 73 false,.f 3 3,.C 7,.O .eql 75 76,.e,.V 73 77,.M 6 78]))))))
(Rc 79 [.P .add 55 1,.w 55,.C 79]))))))
(Rb 80 [.C 6,.C 80,.G 81 false,.C 5,.P .eql 82 0,.C 83,.G 84 true,.f 3 3,.P .eql 86 (-1),.G 81 false,.o (.pick (.t 84) (.t 87) (.c (sb false))),.e,.V 81 88,.M 4 89]))) (Ra 91 [.q 13 19 90]
(Ci 90 (Ra 0 [.K 9 0]
(Sq (Ra 92 [.F 0 2,.h 2 3 92,.Z 94,.Y 0]
(Bl 3 (Ra 97 [.O .lss 96 95]
(Sq (cX 97 3)
(Sq (Bk 4 (Ra 98 [.I 3 94 96,.A 3 98,.b 11 [100,104] (.bx 3 (.c (.agg fD))),.S 3 11 99]
(Ra 100 [.f 0 11,.Q 101 3,.C 102,.G 103 true,.f 1 11,.f 2 3,.O .eql 105 107,.e,.W 103 108]
(Ci 109 (Rc 110 [.C 9,.P .add 110 1,.M 9 111])))))
(Rc 112 [.P .add 96 1,.w 96,.C 112]))))))
(Rb 113 [.f 3 3,.C 9,.O .eql 114 115,.M 4 116])))))))))))))))))
(Rb 117 [.f 3 3,.q 118 0 4])))
def yA:Gi:=⟨[(12,[3]),(16,[3]),(18,[2]),(20,[3]),(27,[3]),(29,[2]),(31,[3]),(38,[3]),(42,[3]),(51,[2]),(52,[2]),(60,[8]),(64,[8]),(66,[3]),(74,[3]),(85,[3]),(92,[2]),(93,[2]),(100,[11]),(104,[11]),(106,[3]),(113,[3]),(117,[3])]⟩
def yB:List RV:=[.tmp 4]
namespace Am
def Oj (a:AN):Option Bool:=
some (a.Value==0)
def J1 (q:Bool):Option Bool:=
some q
def J6 (s:Bool):Option Bool:=
some s
def J5 (a:AN) (v:Int) (z:Bool):Option Bool:=
if z then
J6 true
else
if v==0 then
J6 (a.Value==(-1))
else
J6 false
def J4 (L1:Int->Bool->Int->Option Bool) (c u:Int) (y:Bool):Option Bool:=
L1 u y (BE (c+1))
def J3 (L1:Int->Bool->Int->Option Bool) (a:AN) (c e:Int) (i t:Bool):Option Bool:=
if t then
if i then
J4 L1 c (BE (e+1)) true
else
J4 L1 c (BE (e+1)) (a.Value==c)
else
J4 L1 c e i
def L1 (a:AN) (b:AM) (L1:Int->Bool->Int->Option Bool) (e:Int) (i:Bool) (c:Int):Option Bool:=
if decide (c<(b.Sync.AA.length:Int))then
(gt b.Sync.AA c).bind λl=>
if l.Status==3 then
J3 L1 a c e i (l.Ef==a.Obj)
else
J3 L1 a c e i false
else
J5 a e i
def Ac (a:AN) (b:AM):Nat->Int->Bool->Int->Option Bool
|0,_,_,_=>none
|n+1,e,i,c=>L1 a b (Ac a b n) e i c
def J9 (a:AN) (x:Int):Option Bool:=
some (a.Value==x)
def J8 (L2:Int->Int->Option Bool) (d w:Int):Option Bool:=
L2 w (BE (d+1))
def J7 (L2:Int->Int->Option Bool) (d f:Int) (p:Bool):Option Bool:=
if p then
J8 L2 d (BE (f+1))
else
J8 L2 d f
def L2 (a:AN) (b:AM) (L2:Int->Int->Option Bool) (f d:Int):Option Bool:=
if decide (d<(b.Sync.AA.length:Int))then
(gt b.Sync.AA d).bind λo=>
if o.Status==3 then
J7 L2 d f (o.Ef==a.Obj)
else
J7 L2 d f false
else
J9 a f
def Da (a:AN) (b:AM):Nat->Int->Int->Option Bool
|0,_,_=>none
|n+1,f,d=>L2 a b (Da a b n) f d
def J2 (a:AN) (b:AM) (j:Bool):Option Bool:=
if j then
some true
else
if a.Kind==18 then
Ac a b Bo 0 false 0
else
if a.Kind==19 then
Da a b Bo 0 0
else
Oj a
end Am
section
open Am
def Am (b:AM) (a:AN):Option Bool:=
if a.Kind==3 then
(gt b.Cells a.Obj).bind λaa=>
some (a.Value==aa)
else
if a.Kind==23 then
(gt b.AH a.Obj).bind λab=>
some (a.Value==ab)
else
if a.Kind==5 then
if a.Value==0 then
J1 true
else
J1 (a.Value==1)
else
if a.Kind==4 then
J2 a b (a.Kind==4)
else
J2 a b (a.Kind==22)
theorem Ky {b:AM} {a:AN} {r:Bool} (h:Am b a=some r):Says Tryz.prog 32 [.agg (Cz b),.agg (C4 a)] (sb r):=by
 refine wO mix Tryz.func32 (I:=⟨x9,yA,yB⟩) ?_
 simp only[x9,yA,yB]
 have l1:=λn1 n2 n3 n4:Nat=>BM λn τ=>∃(e:Int) (i:Bool) (c:Int),(τ 3=bA 7 (C4 a)/\τ 5=si e/\τ 6=sb i/\τ 53=vS 3 A2 b.Sync.AA/\τ 54=si (b.Sync.AA.length:Int)/\τ 55=si c)/\Ac a b n e i c=some r
 have l2:=λn1 n2 n3 n4:Nat=>BM λn τ=>∃(f d:Int),(τ 3=bA 7 (C4 a)/\τ 9=si f/\τ 94=vS 3 A2 b.Sync.AA/\τ 95=si (b.Sync.AA.length:Int)/\τ 96=si d)/\Da a b n f d=some r
 have c2:=λn1 n2 n3 n4:Nat=>B7 2 λτ=>∃(j:Bool),(τ 2=bA 7 (Cz b)/\τ 3=bA 7 (C4 a)/\τ 13=si a.Kind/\τ 46=sb j)/\J2 a b j=some r
 unfold Am at h
 exact walk
end
def yI:IC:=(.seq (.TO [⟨some ⟨2,[],[]⟩,.mv (.c (.own false 1 [])),none⟩])
(.seq (.seq (.Z1 [.o ⟨some ⟨3,[],[]⟩,.cp (.t 0),none⟩,
.Ty ⟨4,[],[]⟩ false (.t 3)])
(.cond (.t 4) (.seq (.TO [⟨some ⟨2,[],[]⟩,.mv (.c (.own false 1 [])),none⟩])
.ret) .skip))
(.seq (.TO [⟨some ⟨5,[],[]⟩,.Eg 1 [] [],none⟩,
⟨some ⟨6,[],[]⟩,.cp (.t 0),none⟩,
⟨some ⟨7,[],[]⟩,.app 1 8 (.t 5) (.t 6),none⟩,
⟨some ⟨2,[],[]⟩,.mv (.t 7),none⟩])
.ret)))
def yJ:Gi:=⟨[]⟩
def yK:List RV:=[.tmp 2]
def f35:FI:=⟨yI,yJ,yK⟩
theorem vJ:I2 Tryz.prog Tryz.f35 f35=true:=by kernel_rfl
def slices_Clone_int (l:List Int):Option (List Int):=if Aq l.length 8=true then some l else none
theorem Hp {l:List Int} {r:List Int} (h:slices_Clone_int l=some r):Says Tryz.prog 35 [vS 1 eI l] (vO 1 eI r):=by
  obtain⟨g,h⟩:=HZ h
  obtain rfl:=Option.some.inj h
  refine Ij mix Tryz.func35 vJ (of_decide_eq_true (by kernel_rfl)) rfl ?_
  simp only[f35,yI,yJ,yK]
  simp +decide only[go_sem,g]
  intro b hb
  cases b with
  |true=>
    have hl:l=[]:=by simpa using hb rfl
    subst hl
    simp +decide only[go_sem,g]
  |false=>simp +decide only[go_sem,g]
def ABg:IC:=(.seq (.TO [⟨some ⟨2,[],[]⟩,.mv (.c (.own false 1 [])),none⟩])
(.seq (.seq (.Z1 [.o ⟨some ⟨3,[],[]⟩,.cp (.t 0),none⟩,
.Ty ⟨4,[],[]⟩ false (.t 3)])
(.cond (.t 4) (.seq (.TO [⟨some ⟨2,[],[]⟩,.mv (.c (.own false 1 [])),none⟩])
.ret) .skip))
(.seq (.TO [⟨some ⟨5,[],[]⟩,.Eg 1 [] [],none⟩,
⟨some ⟨6,[],[]⟩,.cp (.t 0),none⟩,
⟨some ⟨7,[],[]⟩,.app 1 1 (.t 5) (.t 6),none⟩,
⟨some ⟨2,[],[]⟩,.mv (.t 7),none⟩])
.ret)))
def ABh:Gi:=⟨[]⟩
def ABi:List RV:=[.tmp 2]
def f89:FI:=⟨ABg,ABh,ABi⟩
theorem vR:I2 Tryz.prog Tryz.f89 f89=true:=by kernel_rfl
def HD (l:List Bool):Option (List Bool):=if Aq l.length 1=true then some l else none
theorem Ks {l:List Bool} {r:List Bool} (h:HD l=some r):Says Tryz.prog 89 [vS 1 eB l] (vO 1 eB r):=by
  obtain⟨g,h⟩:=HZ h
  obtain rfl:=Option.some.inj h
  refine Ij mix Tryz.func89 vR (of_decide_eq_true (by kernel_rfl)) rfl ?_
  simp only[f89,ABg,ABh,ABi]
  simp +decide only[go_sem,g]
  intro b hb
  cases b with
  |true=>
    have hl:l=[]:=by simpa using hb rfl
    subst hl
    simp +decide only[go_sem,g]
  |false=>simp +decide only[go_sem,g]
def AA9:IC:=(Ra 0 [.B 2 false]
(Rb 3 [.C 0,.c 76 [3] 0,.C 4,.G 5 false,.C 0,.c 111 [6] 0,.e,.V 5 7,.C 8,.G 9 false,.C 0,.o (.bin .eql (.t 10) (.c (.sc (.int .u8 95)))),.e,.V 9 11,.M 2 12]))
def ABA:Gi:=⟨[]⟩
def ABB:List RV:=[.tmp 2]
namespace Er
def J1 (b:Bool):Option Bool:=
some b
end Er
section
open Er
def Er (a:Int):Option Bool:=
(EB a).bind λc=>
if c then
J1 true
else
(E9 a).bind λd=>
if d then
J1 true
else
J1 (a==95)
theorem Q6 {a:Int} {r:Bool} (h:Er a=some r):Says Tryz.prog 78 [.sc (.int .u8 a)] (sb r):=by
 refine wO mix Tryz.func78 (I:=⟨AA9,ABA,ABB⟩) ?_
 simp only[AA9,ABA,ABB]
 have a1:= @Jg
 have a2:= @Q4
 unfold Er at h
 exact walk
end
def zD:IC:=(Ra 0 [.B 2 false]
(Sq (Hl (Rc 4 [.C 0,.o (.Pk (.t 4)),.P .lss 5 1,.C 6,.G 7 false,.C 0,.o (.Pk (.t 8)),.P .gtr 9 12,.e,.V 7 10,.C 11,.G 12 false,.C 0,.o (.UE (.t 13) (.c (si 0))),.c 76 [14] 0,.N 15,.e,.V 12 16,.C 17,.G 18 false,.C 0,.c 77 [19] 0,.e,.V 18 20])
(Ci 21 (Rb 0 [.B 2 false])))
(Hl (Ra 0 [.K 3 0]
(Bl 0 (Sq (Ra 22 [.C 3,.C 0,.o (.Pk (.t 23)),.O .lss 22 24]
(cX 25 0))
(Sq (Bk 1 (Ra 28 [.C 0,.C 3,.o (.UE (.t 28) (.t 29)),.c 78 [30] 0,.N 31]
(Ci 32 (Rb 0 [.B 2 false]))))
(Rc 26 [.C 3,.P .add 26 1,.M 3 27])))))
(Rb 0 [.B 2 true]))))
def zE:Gi:=⟨[]⟩
def zF:List RV:=[.tmp 2]
def f42:FI:=⟨zD,zE,zF⟩
theorem vL:I2 Tryz.prog Tryz.f42 f42=true:=by kernel_rfl
namespace BV
def J2:Option Bool:=
some true
def L1 (s:ByteArray) (L1:Int->Option Bool) (i:Int):Option Bool:=
if decide (i<(s.size:Int))then
(q8 s i).bind λc_1=>
(Er (c_1.toNat:Int)).bind λv_2=>
if !v_2 then
some false
else
L1 (BE (i+1))
else
J2
def Ac (s:ByteArray):Nat->Int->Option Bool
|0,_=>none
|n+1,i=>L1 s (Ac s n) i
def J1 (s:ByteArray) (t21v:Bool):Option Bool:=
if t21v then
some false
else
Ac s Bo 0
end BV
section
open BV
def BV (s:ByteArray):Option Bool:=
if decide ((s.size:Int)<1)then
J1 s true
else
if decide ((s.size:Int)>12)then
J1 s true
else
(q8 s 0).bind λc=>
(EB (c.toNat:Int)).bind λv=>
if !v then
J1 s true
else
(CQ s).bind λv_1=>
J1 s v_1
theorem FV {s:ByteArray} {r:Bool} (h:BV s=some r):Says Tryz.prog 42 [Ao s] (sb r):=by
 refine Ij mix Tryz.func42 vL (of_decide_eq_true (by kernel_rfl)) rfl ?_
 simp only[f42,zD,zE,zF]
 try simp +decide only[go_sem, *]
 refine II (λτ=>∃t21v:Bool,(τ 0=Ao s/\τ 21=sb t21v)/\J1 s t21v=some r) λM1 hM1=>⟨?_,?_⟩
 . try simp +decide only[go_sem, *]
   refine gI h (λ_ h=> ?_) λ_ h=> ?_
   . try simp +decide only[go_sem, *]
     refine hM1 _ ⟨_,?_,h⟩
     simp +decide only[go_sem, *]
   try simp +decide only[go_sem, *]
   refine gI h (λ_ h=> ?_) λ_ h=> ?_
   . try simp +decide only[go_sem, *]
     refine hM1 _ ⟨_,?_,h⟩
     simp +decide only[go_sem, *]
   obtain⟨c,_,h⟩:=sgL (n:=0) (by simp) h
   obtain⟨v,g2,h⟩:=bS h
   try simp +decide only[go_sem, *]
   refine⟨_,Jg g2,?_⟩
   try simp +decide only[go_sem, *]
   refine gI h (λ_ h=> ?_) λ_ h=> ?_
   . try simp +decide only[go_sem, *]
     refine hM1 _ ⟨_,?_,h⟩
     simp +decide only[go_sem, *]
   obtain⟨v_1,g3,h⟩:=bS h
   try simp +decide only[go_sem, *]
   refine⟨_,Md g3,?_⟩
   try simp +decide only[go_sem, *]
   refine hM1 _ ⟨_,?_,h⟩
   simp +decide only[go_sem, *]
 rintro τ1 ⟨t21v,s1,h⟩
 try simp +decide only[go_sem, *]
 refine cI h (λ_ h=> ?_) λ_ h=> ?_
 . obtain rfl:=Option.some.inj h
   simp +decide only[go_sem, *]
 try simp +decide only[go_sem, *]
 refine II (λτ=>(True)/\J2=some r) λM2 hM2=>⟨?_,?_⟩
 . try simp +decide only[go_sem, *]
   refine Jc (λn τ=>∃i:Int,(τ 0=Ao s/\τ 3=si i)/\Ac s n i=some r) ⟨_,?_,h⟩ λn1 τ1 N1=> ?_
   . simp +decide only[go_sem, *]
   rintro⟨i,s1,h⟩ hN1
   cases n1 with
   |zero=>exact B9 h
   |succ n1=>
    rw[Ac]at h;generalize hL1:Ac s n1=L1 at h
    try simp +decide only[go_sem, *]
    refine cI h (λ_ h=> ?_) λ_ h=> ?_
    . obtain⟨c_1,_,h⟩:=sgB h
      obtain⟨v_2,g5,h⟩:=bS h
      try simp +decide only[go_sem, *]
      refine⟨_,Q6 g5,?_⟩
      try simp +decide only[go_sem, *]
      refine cI h (λ_ h=> ?_) λ_ h=> ?_
      . obtain rfl:=Option.some.inj h
        simp +decide only[go_sem, *]
      try simp +decide only[go_sem, *]
      refine hN1 n1 (Nat.lt_succ_self _) _ ⟨_,?_,hL1.symm▸h⟩
      simp +decide only[go_sem, *]
    try simp +decide only[go_sem, *]
    refine hM2 _ ⟨?_,h⟩
    simp +decide only[go_sem, *]
 rintro τ2 ⟨_,h⟩
 obtain rfl:=Option.some.inj h
 simp +decide only[go_sem, *]
end
def nA:IC:=(Ra 0 [.b 1 [3,7,12,18,23,27,32,36,42,46,51,55,59,64] (.bx 6 (.t 0)),.B 2 false]
(Sq (Bw 1 (Rc 3 [.f 0 1,.P .lss 4 1,.C 5,.G 6 false,.f 0 1,.P .gtr 8 6,.e,.V 6 9,.C 10,.G 11 false,.f 2 1,.c 42 [13] 0,.N 14,.e,.V 11 15,.C 16,.G 17 false,.f 3 1,.P .lss 19 0,.e,.V 17 20,.C 21,.G 22 false,.f 0 1,.P .neq 24 1,.C 25,.G 26 true,.f 3 1,.P .neq 28 0,.G 22 false,.o (.pick (.t 26) (.t 29) (.c (sb false))),.e,.V 22 30])
(Ci 31 (Rb 0 [.B 2 false])))
(Sq (Bw 2 (Rc 32 [.f 0 1,.Q 33 5,.C 34,.G 35 true,.f 5 1,.c 42 [37] 0,.N 38,.e,.W 35 39,.C 40,.G 41 false,.f 0 1,.P .neq 43 5,.C 44,.G 45 true,.f 5 1,.o (.bin .neq (.t 47) (.c (Ao ⟨#[]⟩))),.G 41 false,.o (.pick (.t 45) (.t 48) (.c (sb false))),.e,.V 41 49])
(Ci 50 (Rb 0 [.B 2 false])))
(Rb 51 [.f 4 1,.P .gtr 52 (-9223372036854775808),.C 53,.G 54 true,.f 4 1,.P .eql 56 0,.C 57,.G 58 false,.f 0 1,.P .eql 60 1,.G 54 true,.o (.pick (.t 58) (.c (sb true)) (.t 61)),.C 62,.G 63 false,.f 0 1,.P .eql 65 2,.G 54 true,.o (.pick (.t 63) (.c (sb true)) (.t 66)),.e,.W 54 67,.M 2 68]))))
def nC:Gi:=⟨[(3,[1]),(7,[1]),(12,[1]),(18,[1]),(23,[1]),(27,[1]),(32,[1]),(36,[1]),(42,[1]),(46,[1]),(51,[1]),(55,[1]),(59,[1]),(64,[1])]⟩
def nF:List RV:=[.tmp 2]
namespace Bs
def J3 (d:Bool):Option Bool:=
some d
def J2 (a:DK) (c:Bool):Option Bool:=
if c then
some false
else
if decide (a.Init>(-9223372036854775808))then
if a.Init==0 then
J3 true
else
if a.Kind==1 then
J3 true
else
J3 (a.Kind==2)
else
J3 false
def J1 (a:DK) (b:Bool):Option Bool:=
if b then
some false
else
if a.Kind==5 then
(BV a.On).bind λf=>
if !f then
J2 a true
else
if a.Kind != 5 then
J2 a (!(a.On.toList==(⟨#[]⟩:ByteArray).toList))
else
J2 a false
else
if a.Kind != 5 then
J2 a (!(a.On.toList==(⟨#[]⟩:ByteArray).toList))
else
J2 a false
end Bs
section
open Bs
def Bs (a:DK):Option Bool:=
if decide (a.Kind<1)then
J1 a true
else
if decide (a.Kind>6)then
J1 a true
else
(BV a.Name).bind λe=>
if !e then
J1 a true
else
if decide (a.Bn<0)then
J1 a true
else
if a.Kind != 1 then
J1 a (a.Bn != 0)
else
J1 a false
theorem Lb {a:DK} {r:Bool} (h:Bs a=some r):Says Tryz.prog 132 [.agg (G2 a)] (sb r):=by
 refine wO mix Tryz.func132 (I:=⟨nA,nC,nF⟩) ?_
 simp only[nA,nC,nF]
 have a1:= @FV
 have c2:=λn1 n2 n3 n4:Nat=>B7 2 λτ=>∃(c:Bool),(τ 1=bA 6 (G2 a)/\τ 50=sb c)/\J2 a c=some r
 have c1:=λn1 n2 n3 n4:Nat=>B7 1 λτ=>∃(b:Bool),(τ 1=bA 6 (G2 a)/\τ 31=sb b)/\J1 a b=some r
 unfold Bs at h
 exact walk
end
def qW:IC:=(Ra 0 [.K 2 0]
(Sq (Bk 0 (Bw 1 (Rc 4 [.C 0,.Q 4 1,.C 5,.G 6 false,.C 0,.P .eql 7 2,.e,.V 6 8,.M 3 9])
(Cn 3 (Rb 0 [.K 2 0]) (Ra 11 [.C 0,.P .geq 11 3,.C 12,.G 13 true,.C 0,.P .leq 14 5,.e,.W 13 15,.M 10 16]
(Cn 10 (Rb 0 [.K 2 1]) (Ra 18 [.C 0,.P .geq 18 6,.C 19,.G 20 true,.C 0,.P .leq 21 18,.e,.W 20 22,.M 17 23]
(Ci 17 (Rb 0 [.K 2 2]))))))))
(Rb 0 [.K 2 (-1)])))
def qX:Gi:=⟨[]⟩
def qY:List RV:=[.tmp 2]
namespace Cu
def J3 (d:Bool):Option Int:=
if d then
some 2
else
some (-1)
def J2 (a:Int) (c:Bool):Option Int:=
if c then
some 1
else
if decide (a≥6)then
J3 (decide (a≤18))
else
J3 false
def J1 (a:Int) (b:Bool):Option Int:=
if b then
some 0
else
if decide (a≥3)then
J2 a (decide (a≤5))
else
J2 a false
end Cu
section
open Cu
def Cu (a:Int):Option Int:=
if a==1 then
J1 a true
else
J1 a (a==2)
theorem Nn {a r:Int} (h:Cu a=some r):Says Tryz.prog 171 [si a] (si r):=by
 refine wO mix Tryz.func171 (I:=⟨qW,qX,qY⟩) ?_
 simp only[qW,qX,qY]
 have c1:=λn1 n2 n3 n4:Nat=>B7 1 λτ=>∃(b:Bool),(τ 0=si a/\τ 3=sb b)/\J1 a b=some r
 unfold Cu at h
 exact walk
end
end Go.Abs
