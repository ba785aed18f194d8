/- Typed programs of Go functions, and that the functions do what these say. -/
import Derived.Test.YtkpdblcoclbgbaaGreatDoorBaseA
import Derived.Test.YtkpdblcoclbgbaaGreatDoorWalkA
import Derived.Test.YtkpdblcoclbgbaaGreatDoorWalkR
import Derived.Test.YtkpdblcoclbgbaaGreatDoorWalkC1
import Derived.Test.YtkpdblcoclbgbaaGreatDoorWalkS
import Derived.Shelf.Slices.SearchI
set_option linter.unusedSimpArgs false
set_option linter.unusedVariables false
namespace Go.Abs
open Go.Proofs
set_option maxRecDepth 100000
set_option maxHeartbeats 4000000
def f48c:IC:=(Ra 0 [.B 4 false]
(Sq (Ra 0 [.K 5 0]
(Bl 0 (Sq (Ra 6 [.C 5,.C 0,.Z 7,.O .lss 6 8]
(cX 9 0))
(Sq (Bk 1 (Ra 12 [.C 0,.C 5,.I 1 12 13,.L 14,.P .lss 15 1,.C 16,.G 17 false,.C 0,.C 5,.I 1 18 19,.L 20,.C 1,.O .geq 21 22,.e,.V 17 23,.C 24,.G 25 false,.C 5,.P .gtr 26 0,.C 27,.G 28 true,.C 0,.C 5,.I 1 29 30,.L 31,.C 0,.C 5,.P .sub 34 1,.I 1 33 35,.L 36,.O .leq 32 37,.G 25 false,.o (.pick (.t 28) (.t 38) (.c (sb false))),.e,.V 25 39]
(Ci 40 (Rb 0 [.B 4 false]))))
(Rc 10 [.C 5,.P .add 10 1,.M 5 11])))))
(Rb 0 [.B 4 true])))
def f48g:Gi:=⟨[]⟩
def f48r:List RV:=[.tmp 4]
namespace Jo
def J2:Option Bool:=
some true
def J1 (L1:Int->Option Bool) (a:Int) (e:Bool):Option Bool:=
if e then
some false
else
L1 (BE (a+1))
def L1 (c:Int) (b:List Int) (L1:Int->Option Bool) (a:Int):Option Bool:=
if decide (a<(b.length:Int))then
(gt b a).bind λd=>
if decide (d<1)then
J1 L1 a true
else
if decide (d≥c)then
J1 L1 a true
else
if decide (a>0)then
(gt b (BE (a-1))).bind λf=>
J1 L1 a (decide (d≤f))
else
J1 L1 a false
else
J2
def Ac (c:Int) (b:List Int):Nat->Int->Option Bool
|0,_=>none
|n+1,a=>L1 c b (Ac c b n) a
end Jo
section
open Jo
def Jo (b:List Int) (c:Int):Option Bool:=
Ac c b Bo 0
theorem uN {b:List Int} {c:Int} {r:Bool} (h:Jo b c=some r):Says Tryz.prog 48 [vS 1 eI b,si c] (sb r):=by
 refine wO mix Tryz.func48 (I:=⟨f48c,f48g,f48r⟩) ?_
 simp only[f48c,f48g,f48r]
 have l1:=λn1 n2 n3 n4:Nat=>BM λn τ=>∃(a:Int),(τ 0=vS 1 eI b/\τ 1=si c/\τ 5=si a)/\Ac c b n a=some r
 unfold Jo at h
 exact walk
end
def f49c:IC:=(Ra 0 [.b 2 [12,23,45,62,63,78] (.bx 7 (.t 0)),.b 3 [6,10,14,21,25,32,36,47,53,56,60,70,76,80,85] (.bx 7 (.t 1)),.B 4 false]
(Sq (Ra 6 [.f 1 3]
(Bk 0 (Ra 9 [.q 7 3 8]
(Cn 8 (Rb 10 [.f 3 3,.f 4 2,.f 2 3,.I 1 13 15,.L 16,.O .eql 11 17,.M 4 18]) (Ra 20 [.q 7 23 19]
(Cn 19 (Rb 21 [.f 3 3,.f 5 2,.f 2 3,.I 1 24 26,.L 27,.O .eql 22 28,.M 4 29]) (Ra 31 [.q 7 5 30]
(Cn 30 (Rb 32 [.f 3 3,.Q 33 0,.C 34,.G 35 false,.f 3 3,.P .eql 37 1,.e,.V 35 38,.M 4 39]) (Bw 2 (Ra 41 [.q 7 4 40]
(Cn 40 .skip (Rc 42 [.q 7 22 40])))
(Cn 40 (Rb 0 [.B 4 true]) (Ra 44 [.q 7 18 43]
(Cn 43 (Ra 45 [.F 0 2,.A 4 45,.f 2 3,.c 83 [46,48] 2,.b 5 [50,69] (.mv (.t 49))]
(Sq (Ra 50 [.y 5 (.cp (.t 5)),.Z 50,.Q 51 0]
(Ci 52 (Rb 53 [.f 3 3,.q 54 (-1) 4])))
(Rb 56 [.f 3 3,.P .geq 57 0,.C 58,.G 59 true,.f 3 3,.F 0 2,.h 2 3 62,.Z 64,.O .lss 61 65,.e,.W 59 66,.C 67,.G 68 true,.y 5 (.cp (.t 5)),.f 3 3,.c 82 [69,71] 0,.e,.W 68 72,.M 4 73]))) (Ra 75 [.q 7 19 74]
(Ci 74 (Rb 76 [.f 3 3,.F 0 2,.A 4 78,.f 2 3,.c 83 [79,81] 2,.Z 82,.O .eql 77 83,.M 4 84])))))))))))))))
(Rb 85 [.f 3 3,.q 86 0 4])))
def f49g:Gi:=⟨[(6,[3]),(10,[3]),(12,[2]),(14,[3]),(21,[3]),(23,[2]),(25,[3]),(32,[3]),(36,[3]),(45,[2]),(47,[3]),(50,[5]),(53,[3]),(56,[3]),(60,[3]),(62,[2]),(63,[2]),(69,[5]),(70,[3]),(76,[3]),(78,[2]),(80,[3]),(85,[3])]⟩
def f49r:List RV:=[.tmp 4]
namespace O8
def J1 (e:Bool):Option Bool:=
some e
def J3 (f:Bool):Option Bool:=
some f
def J2 (a:AN) (b:AM) (c:Bool):Option Bool:=
if c then
some true
else
if a.Kind==18 then
(CO b.Sync a.Obj).bind λd=>
if(d.length:Int)==0 then
some (a.Value==(-1))
else
if decide (a.Value≥0)then
if decide (a.Value<(b.Sync.AA.length:Int))then
(Eh d a.Value).bind λi=>
J3 i
else
J3 false
else
J3 false
else
if a.Kind==19 then
(CO b.Sync a.Obj).bind λj=>
some (a.Value==(j.length:Int))
else
some (a.Value==0)
end O8
section
open O8
def O8 (b:AM) (a:AN):Option Bool:=
if a.Kind==3 then
(gt b.Cells a.Obj).bind λl=>
some (a.Value==l)
else
if a.Kind==23 then
(gt b.AH a.Obj).bind λo=>
some (a.Value==o)
else
if a.Kind==5 then
if a.Value==0 then
J1 true
else
J1 (a.Value==1)
else
if a.Kind==4 then
J2 a b (a.Kind==4)
else
J2 a b (a.Kind==22)
theorem ref16_value_ok {b:AM} {a:AN} {r:Bool} (h:O8 b a=some r):Says Tryz.prog 49 [.agg (Cz b),.agg (C4 a)] (sb r):=by
 refine wO mix Tryz.func49 (I:=⟨f49c,f49g,f49r⟩) ?_
 simp only[f49c,f49g,f49r]
 have a1:= @Mw
 have a2:= @MC
 have c2:=λn1 n2 n3 n4:Nat=>B7 2 λτ=>∃(c:Bool),(τ 2=bA 7 (Cz b)/\τ 3=bA 7 (C4 a)/\τ 7=si a.Kind/\τ 40=sb c)/\J2 a b c=some r
 unfold O8 at h
 exact walk
end
def f21c:IC:=(Ra 6 [.b 3 [18,62,68,100] (.bx 6 (.t 0)),.b 4 [36,129,140,157,161,165,176] (.bx 7 (.t 1)),.b 5 [16,25,30,38,40,42,48,52,56,60,70,75,80,84,88,93,102,112,117,122,127,131,138,142,169,172,178,180,182,190,195,197,200,205,207,212] (.bx 7 (.t 2)),.o (.bx 7 (.c (.agg z1))),.B 7 false]
(Sq (Bw 1 (Rc 11 [.A 6 3,.A 7 4,.c 45 [11,12] 0,.N 13,.C 14,.G 15 false,.f 0 5,.f 4 3,.Z 19,.c 46 [17,20] 0,.N 21,.e,.V 15 22,.C 23,.G 24 false,.f 1 5,.P .lss 26 1,.e,.V 24 27,.C 28,.G 29 false,.f 1 5,.P .gtr 31 23,.e,.V 29 32,.C 33,.G 34 false,.o (.ld true 6 (.t 3)),.F 0 4,.o (.ld true 4 (.t 36)),.f 0 5,.f 1 5,.f 2 5,.c 47 [35,37,39,41,43] 0,.N 44,.e,.V 34 45])
(Ci 46 (Rb 47 [.o (.Dc z1 []),.S 7 6 47,.B 7 false])))
(Bw 4 (Ra 48 [.f 1 5,.Q 49 1,.C 50,.G 51 false,.f 1 5,.P .eql 53 2,.e,.V 51 54]
(Cn 55 (Ra 56 [.f 4 5,.P .neq 57 (-1)]
(Ci 58 (Rb 59 [.o (.Dc z1 []),.S 7 6 59,.B 7 false]))) (Ra 60 [.f 4 5,.f 5 3,.Z 63,.c 46 [61,64] 0,.N 65,.C 66,.G 67 false,.f 5 3,.f 4 5,.I 3 69 71,.U 0 72,.f 0 5,.O .neq 74 76,.e,.V 67 77]
(Ci 78 (Rb 79 [.o (.Dc z1 []),.S 7 6 79,.B 7 false])))))
(Bw 5 (Rc 80 [.f 1 5,.Q 81 3,.C 82,.G 83 false,.f 1 5,.P .eql 85 4,.e,.V 83 86,.M 8 87])
(Sq (Bw 6 (Rc 88 [.f 5 5,.Z 89,.P .gtr 90 0,.C 91,.G 92 true,.f 1 5,.P .neq 94 5,.e,.W 92 95,.C 96,.G 97 true,.C 8,.C 98,.G 99 true,.f 0 3,.f 2 5,.I 5 101 103,.U 2 104,.P .neq 106 0,.G 97 true,.o (.pick (.t 99) (.t 107) (.c (sb false))),.N 108,.e,.W 97 109])
(Ci 110 (Rb 111 [.o (.Dc z1 []),.S 7 6 111,.B 7 false])))
(Sq (Bw 7 (Rc 112 [.f 6 5,.Z 113,.P .gtr 114 0,.C 115,.G 116 true,.f 1 5,.P .neq 118 4,.e,.W 116 119,.C 120,.G 121 true,.f 1 5,.P .neq 123 22,.e,.W 121 124])
(Ci 125 (Rb 126 [.o (.Dc z1 []),.S 7 6 126,.B 7 false])))
(Sq (Bw 8 (Rc 127 [.f 5 5,.f 6 4,.f 0 5,.I 1 130 132,.L 133,.c 48 [128,134] 0,.N 135,.C 136,.G 137 false,.f 6 5,.f 6 4,.f 0 5,.I 1 141 143,.L 144,.c 48 [139,145] 0,.N 146,.e,.V 137 147,.C 148,.G 149 false,.o (.ld true 7 (.t 4)),.o (.ld true 7 (.t 5)),.c 49 [150,151] 0,.N 152,.e,.V 149 153])
(Ci 154 (Rb 155 [.o (.Dc z1 []),.S 7 6 155,.B 7 false])))
(Ra 156 [.o (.Eg 1 [] []),.f 4 4,.o (.app 1 8 (.t 156) (.t 158)),.o (.Eg 1 [] []),.f 5 4,.o (.app 1 8 (.t 160) (.t 162)),.o (.Eg 1 [] []),.f 6 4,.o (.app 1 8 (.t 164) (.t 166)),.o (.Dc z1 [(4,1,.t 159),(5,1,.t 163),(6,1,.t 167)]),.b 9 [189,193,194,199,203,204,209,210,211,214,217,218] (.bx 7 (.c (.agg z1))),.S 7 9 168]
(Ra 0 [.K 10 (-1)]
(Sq (Ra 169 [.f 1 5,.Q 170 18]
(Ci 171 (Rc 172 [.f 3 5,.M 10 173])))
(Ra 175 [.A 6 3,.F 0 4,.A 4 176,.f 0 5,.f 1 5,.f 2 5,.C 10,.b 185 [174,186,187,188] (.call 50 [.t 175,.t 177,.t 179,.t 181,.t 183,.t 184] 2),.w 174,.y 185 (.cp (.t 185)),.w 186,.y 185 (.ext (.t 174) 0),.y 185 (.ext (.t 174) 1),.y 185 (.ext (.t 174) 2),.F 0 9,.S 4 189 186]
(Sq (Ra 190 [.f 1 5,.Q 191 4]
(Ci 192 (Rc 193 [.m 9 4 9,.f 2 5,.f 3 5,.J 9 1 194 196,.S 1 199 198])))
(Sq (Ra 200 [.f 1 5,.Q 201 22]
(Ci 202 (Rc 203 [.m 9 5 9,.f 2 5,.f 3 5,.J 9 1 204 206,.S 1 209 208])))
(Ra 210 [.m 9 6 9,.f 0 5,.J 9 1 211 213,.L 214,.P .add 215 1,.J 9 1 211 213,.S 1 217 216]
(Rb 218 [.y 9 (.ld true 7 (.t 9)),.S 7 6 218,.B 7 true])))))))))))))))
def f21g:Gi:=⟨[(16,[5]),(18,[3]),(25,[5]),(30,[5]),(36,[4]),(38,[5]),(40,[5]),(42,[5]),(48,[5]),(52,[5]),(56,[5]),(60,[5]),(62,[3]),(68,[3]),(70,[5]),(75,[5]),(80,[5]),(84,[5]),(88,[5]),(93,[5]),(100,[3]),(102,[5]),(112,[5]),(117,[5]),(122,[5]),(127,[5]),(129,[4]),(131,[5]),(138,[5]),(140,[4]),(142,[5]),(157,[4]),(161,[4]),(165,[4]),(169,[5]),(172,[5]),(174,[185]),(176,[4]),(178,[5]),(180,[5]),(182,[5]),(186,[185]),(187,[185]),(188,[185]),(189,[9]),(190,[5]),(193,[9]),(194,[9]),(195,[5]),(197,[5]),(199,[9]),(200,[5]),(203,[9]),(204,[9]),(205,[5]),(207,[5]),(209,[9]),(210,[9]),(211,[9]),(212,[5]),(214,[9]),(217,[9]),(218,[9])]⟩
def f21r:List RV:=[.cell 6 true 7,.tmp 7]
namespace Hh
def XY (a:AN) (e:AM):Option (AM×Bool):=
(gt e.Count a.Thread).bind λae=>
some ((AM.mk e.Sync e.Cells e.AH (e.Count.set a.Thread.toNat (BE (ae+1)))),true)
def Oj (a:AN) (d:AM):Option (AM×Bool):=
if a.Kind==22 then
(gt d.AH a.Obj).bind λai=>
XY a (AM.mk d.Sync d.Cells (d.AH.set a.Obj.toNat a.Value) d.Count)
else
XY a d
def J9 (a:AN) (b:AM) (c:AB) (ab:Int):Option (AM×Bool):=
(Cj c b.Sync a.Thread a.Kind a.Obj ab).bind λp=>
if a.Kind==4 then
(gt b.Cells a.Obj).bind λaf=>
Oj a (AM.mk p.1 (b.Cells.set a.Obj.toNat a.Value) b.AH b.Count)
else
Oj a (AM.mk p.1 b.Cells b.AH b.Count)
def J8 (a:AN) (b:AM) (c:AB) (l:Bool):Option (AM×Bool):=
if l then
some ((AM.mk (AO.mk [] 0 [] []) [] [] []),false)
else
if Aq (b.Cells.length) 8=true then
if Aq (b.AH.length) 8=true then
if Aq (b.Count.length) 8=true then
if a.Kind==18 then
J9 a b c a.Value
else
J9 a b c (-1)
else none
else none
else none
def J7 (a:AN) (b:AM) (c:AB) (j:Bool):Option (AM×Bool):=
if j then
some ((AM.mk (AO.mk [] 0 [] []) [] [] []),false)
else
(gt b.Count a.Thread).bind λq=>
(Jo a.Dy q).bind λy=>
if !y then
J8 a b c true
else
(Jo a.Db q).bind λz=>
if !z then
J8 a b c true
else
(O8 b a).bind λaa=>
J8 a b c (!aa)
def J6 (a:AN) (b:AM) (c:AB) (i:Bool):Option (AM×Bool):=
if i then
some ((AM.mk (AO.mk [] 0 [] []) [] [] []),false)
else
if decide ((a.Db.length:Int)>0)then
if a.Kind != 4 then
J7 a b c (a.Kind != 22)
else
J7 a b c false
else
J7 a b c false
def J5 (a:AN) (b:AM) (c:AB) (f:Bool):Option (AM×Bool):=
if decide ((a.Dy.length:Int)>0)then
if a.Kind != 5 then
if f then
(gt c.Cells a.Obj).bind λad=>
J6 a b c (!(ad.Bn != 0))
else
J6 a b c true
else
J6 a b c false
else
J6 a b c false
def J4 (a:AN) (b:AM) (c:AB):Option (AM×Bool):=
if a.Kind==3 then
J5 a b c true
else
J5 a b c (a.Kind==4)
def J3 (a:AN) (b:AM) (c:AB) (t:Bool):Option (AM×Bool):=
if t then
some ((AM.mk (AO.mk [] 0 [] []) [] [] []),false)
else
J4 a b c
def J2 (a:AN) (b:AM) (c:AB) (s:Bool):Option (AM×Bool):=
if s then
if a.Site != (-1)then
some ((AM.mk (AO.mk [] 0 [] []) [] [] []),false)
else
J4 a b c
else
(Zq a.Site (c.BA.length:Int)).bind λx=>
if !x then
J3 a b c true
else
(gt c.BA a.Site).bind λac=>
J3 a b c (ac.Thread != a.Thread)
def J1 (a:AN) (b:AM) (c:AB) (o:Bool):Option (AM×Bool):=
if o then
some ((AM.mk (AO.mk [] 0 [] []) [] [] []),false)
else
if a.Kind==1 then
J2 a b c true
else
J2 a b c (a.Kind==2)
end Hh
section
open Hh
def Hh (c:AB) (b:AM) (a:AN):Option (AM×Bool):=
(T7 c b).bind λu=>
if !u then
J1 a b c true
else
(Zq a.Thread (c.AA.length:Int)).bind λv=>
if !v then
J1 a b c true
else
if decide (a.Kind<1)then
J1 a b c true
else
if decide (a.Kind>23)then
J1 a b c true
else
(B1 c b.Sync a.Thread a.Kind a.Obj).bind λw=>
J1 a b c (!w)
theorem ref16_Step_ok {c:AB} {b:AM} {a:AN} {r:AM×Bool} (h:Hh c b a=some r):Says Tryz.prog 21 [.agg (Ap c),.agg (Cz b),.agg (C4 a)] (.A9 [.agg (HL r.1),sb r.2]):=by
 refine wO mix Tryz.func21 (I:=⟨f21c,f21g,f21r⟩) ?_
 simp only[f21c,f21g,f21r]
 have a1:= @O3
 have a2:= @uN
 have a3:= @ref16_value_ok
 have a4:= @ref16_in_ok
 have a5:= @ref16_Fits_ok
 have a6:= @Mt
 have c8:=λn1 n2 n3 n4:Nat=>B7 8 λτ=>∃(l:Bool),(τ 3=bA 6 (Ap c)/\τ 4=bA 7 (Cz b)/\τ 5=bA 7 (C4 a)/\τ 6=bA 7 z1/\τ 154=sb l)/\J8 a b c l=some r
 have c7:=λn1 n2 n3 n4:Nat=>B7 7 λτ=>∃(j:Bool),(τ 3=bA 6 (Ap c)/\τ 4=bA 7 (Cz b)/\τ 5=bA 7 (C4 a)/\τ 6=bA 7 z1/\τ 125=sb j)/\J7 a b c j=some r
 have c6:=λn1 n2 n3 n4:Nat=>B7 6 λτ=>∃(i:Bool),(τ 3=bA 6 (Ap c)/\τ 4=bA 7 (Cz b)/\τ 5=bA 7 (C4 a)/\τ 6=bA 7 z1/\τ 110=sb i)/\J6 a b c i=some r
 have c5:=λn1 n2 n3 n4:Nat=>B7 5 λτ=>∃(f:Bool),(τ 3=bA 6 (Ap c)/\τ 4=bA 7 (Cz b)/\τ 5=bA 7 (C4 a)/\τ 6=bA 7 z1/\τ 8=sb f)/\J5 a b c f=some r
 have c4:=λn1 n2 n3 n4:Nat=>B7 4 λτ=>(τ 3=bA 6 (Ap c)/\τ 4=bA 7 (Cz b)/\τ 5=bA 7 (C4 a)/\τ 6=bA 7 z1)/\J4 a b c=some r
 have c1:=λn1 n2 n3 n4:Nat=>B7 1 λτ=>∃(o:Bool),(τ 3=bA 6 (Ap c)/\τ 4=bA 7 (Cz b)/\τ 5=bA 7 (C4 a)/\τ 6=bA 7 z1/\τ 46=sb o)/\J1 a b c o=some r
 unfold Hh at h
 exact walk
end
def f22c:IC:=(Ra 0 [.B 8 false]
(Sq (Ra 0 [.K 9 0]
(Bl 0 (Sq (Ra 13 [.C 9,.C 3,.Z 14,.O .lss 13 15]
(cX 16 0))
(Sq (Bk 1 (Ra 0 [.K 10 0]
(Ra 0 [.B 11 false]
(Sq (Ra 0 [.K 12 0]
(Bl 2 (Sq (Ra 19 [.C 12,.C 1,.O .lss 19 20]
(cX 21 2))
(Sq (Bk 3 (Sq (Ra 24 [.C 0,.C 12,.I 7 24 25,.U 0 26,.C 2,.O .neq 28 29]
(Ci 30 (.exit 3)))
(Ra 31 [.C 11,.C 31,.G 32 false,.C 10,.C 3,.C 9,.I 1 34 35,.L 36,.O .eql 33 37,.C 38,.G 39 true,.C 0,.C 12,.I 7 40 41,.U 1 42,.P .eql 44 3,.C 45,.G 46 false,.C 0,.C 12,.I 7 47 48,.U 1 49,.P .eql 51 23,.G 39 true,.o (.pick (.t 46) (.c (sb true)) (.t 52)),.G 32 false,.o (.pick (.t 39) (.t 53) (.c (sb false))),.e,.V 32 54,.M 11 55]
(Rc 56 [.C 10,.P .add 56 1,.M 10 57]))))
(Rc 22 [.C 12,.P .add 22 1,.M 12 23])))))
(Ra 58 [.C 11,.N 58]
(Ci 59 (Rb 0 [.B 8 false])))))))
(Rc 17 [.C 9,.P .add 17 1,.M 9 18])))))
(Rb 0 [.B 8 true])))
def f22g:Gi:=⟨[]⟩
def f22r:List RV:=[.tmp 8]
namespace D1
def J5:Option Bool:=
some true
def J4 (L1:Int->Option Bool) (a:Int):Option Bool:=
L1 (BE (a+1))
def J3 (L1:Int->Option Bool) (a:Int) (s:Bool):Option Bool:=
if !s then
some false
else
J4 L1 a
def J2 (L2:Int->Bool->Int->Option Bool) (f o:Int) (q:Bool):Option Bool:=
L2 o q (BE (f+1))
def J1 (L2:Int->Bool->Int->Option Bool) (f i:Int) (p:Bool):Option Bool:=
J2 L2 f (BE (i+1)) p
def L2 (L1:Int->Option Bool) (c a:Int) (d:List AN) (b:List Int) (e:Int) (L2:Int->Bool->Int->Option Bool) (i:Int) (j:Bool) (f:Int):Option Bool:=
if decide (f<c)then
(gt d f).bind λl=>
if l.Thread != e then
J2 L2 f i j
else
if j then
J1 L2 f i true
else
(gt b a).bind λt=>
if i==t then
if l.Kind==3 then
J1 L2 f i true
else
J1 L2 f i (l.Kind==23)
else
J1 L2 f i false
else
J3 L1 a j
def Da (L1:Int->Option Bool) (c a:Int) (d:List AN) (b:List Int) (e:Int):Nat->Int->Bool->Int->Option Bool
|0,_,_,_=>none
|n+1,i,j,f=>L2 L1 c a d b e (Da L1 c a d b e n) i j f
def L1 (c:Int) (d:List AN) (b:List Int) (e:Int) (L1:Int->Option Bool) (a:Int):Option Bool:=
if decide (a<(b.length:Int))then
Da L1 c a d b e Bo 0 false 0
else
J5
def Ac (c:Int) (d:List AN) (b:List Int) (e:Int):Nat->Int->Option Bool
|0,_=>none
|n+1,a=>L1 c d b e (Ac c d b e n) a
end D1
section
open D1
def D1 (d:List AN) (c e:Int) (b:List Int):Option Bool:=
Ac c d b e Bo 0
theorem ref16_reads_ok {d:List AN} {c e:Int} {b:List Int} {r:Bool} (h:D1 d c e b=some r):Says Tryz.prog 22 [vS 7 C4 d,si c,si e,vS 1 eI b] (sb r):=by
 refine wO mix Tryz.func22 (I:=⟨f22c,f22g,f22r⟩) ?_
 simp only[f22c,f22g,f22r]
 have l1:=λn1 n2 n3 n4:Nat=>BM λn τ=>∃(a:Int),(τ 0=vS 7 C4 d/\τ 1=si c/\τ 2=si e/\τ 3=vS 1 eI b/\τ 9=si a)/\Ac c d b e n a=some r
 have l2:=λn1 n2 n3 n4:Nat=>BM λn τ=>∃(a i:Int) (j:Bool) (f:Int),(τ 0=vS 7 C4 d/\τ 1=si c/\τ 2=si e/\τ 3=vS 1 eI b/\τ 9=si a/\τ 10=si i/\τ 11=sb j/\τ 12=si f)/\Da (Ac c d b e n1) c a d b e n i j f=some r
 unfold D1 at h
 exact walk
end
end Go.Abs
