/- Typed programs of Go functions, and that the functions do what these say. -/
import Derived.Test.YtkpdblcoclbgbaaGreatDoorBaseA
import Derived.Test.YtkpdblcoclbgbaaGreatDoorWalkN
import Derived.Test.YtkpdblcoclbgbaaGreatDoorWalkC1
import Derived.Test.YtkpdblcoclbgbaaGreatDoorWalkD1
import Derived.Test.YtkpdblcoclbgbaaGreatDoorWalkV
import Derived.Test.YtkpdblcoclbgbaaGreatDoorWalkB1
import Derived.Shelf.Slices.SearchI
set_option linter.unusedSimpArgs false
set_option linter.unusedVariables false
namespace Go.Abs
open Go.Proofs
set_option maxRecDepth 100000
set_option maxHeartbeats 4000000
def f10c:IC:=(Ra 0 [.b 1 [9,13,17,21,27,33,43,54] (.bx 7 (.t 0)),.K 2 0,.K 3 0]
(Sq (Ra 9 [.f 6 1,.Z 10,.P .gtr 11 400]
(Ci 12 (Rb 0 [.K 2 0,.K 3 2])))
(Sq (Ra 13 [.F 0 1,.A 6 13,.c 19 [14] 0,.N 15]
(Ci 16 (Rb 0 [.K 2 0,.K 3 1])))
(Ra 17 [.F 0 1,.A 6 17,.c 20 [18] 2,.b 4 [35] (.bx 7 (.c (.agg z1))),.S 7 4 19]
(Sq (Ra 0 [.K 5 0]
(Bl 0 (Sq (Ra 20 [.C 5,.f 6 1,.Z 22,.O .lss 20 23]
(cX 24 0))
(Sq (Bk 1 (Ra 27 [.f 6 1,.C 5,.I 7 28 29,.A 7 30,.b 6 [46,48,57,59] (.bx 7 (.c (.agg z3))),.S 7 6 31]
(Ra 33 [.F 0 1,.A 6 33,.y 4 (.ld true 7 (.t 4)),.A 7 6,.b 37 [32,38,39] (.call 21 [.t 34,.t 35,.t 36] 2),.w 32,.y 37 (.cp (.t 37)),.w 38,.y 37 (.ext (.t 32) 0),.y 37 (.ext (.t 32) 1),.b 7 [65] (.bx 7 (.c (.agg z1))),.S 7 7 38,.b 8 [40] (.mv (.t 39))]
(Sq (Ra 40 [.y 8 (.cp (.t 8)),.N 40,.C 41,.G 42 false,.f 6 1,.C 5,.f 0 6,.f 5 6,.c 22 [44,45,47,49] 0,.N 50,.e,.V 42 51,.C 52,.G 53 false,.f 6 1,.C 5,.f 0 6,.f 6 6,.c 22 [55,56,58,60] 0,.N 61,.e,.V 53 62]
(Ci 63 (Rb 64 [.C 5,.M 2 64,.K 3 12])))
(Rc 65 [.y 7 (.ld true 7 (.t 7)),.S 7 4 65])))))
(Rc 25 [.C 5,.P .add 25 1,.M 5 26])))))
(Rb 0 [.K 2 0,.K 3 0]))))))
def f10g:Gi:=⟨[(9,[1]),(13,[1]),(17,[1]),(21,[1]),(27,[1]),(32,[37]),(33,[1]),(35,[4]),(38,[37]),(39,[37]),(40,[8]),(43,[1]),(46,[6]),(48,[6]),(54,[1]),(57,[6]),(59,[6]),(65,[7])]⟩
def f10r:List RV:=[.tmp 2,.tmp 3]
namespace OL
def J2:Option (Int×Int):=
some (0,0)
def J1 (L1:AM->Int->Option (Int×Int)) (b:Int) (d:AM×Bool) (f:Bool):Option (Int×Int):=
if f then
some (b,12)
else
L1 d.1 (BE (b+1))
def L1 (a:EJ) (L1:AM->Int->Option (Int×Int)) (c:AM) (b:Int):Option (Int×Int):=
if decide (b<(a.AX.length:Int))then
(gt a.AX b).bind λe=>
(Hh a.World c e).bind λd=>
if !d.2 then
J1 L1 b d true
else
(D1 a.AX b e.Thread e.Dy).bind λl=>
if !l then
J1 L1 b d true
else
(D1 a.AX b e.Thread e.Db).bind λo=>
J1 L1 b d (!o)
else
J2
def Ac (a:EJ):Nat->AM->Int->Option (Int×Int)
|0,_,_=>none
|n+1,c,b=>L1 a (Ac a n) c b
end OL
section
open OL
def OL (a:EJ):Option (Int×Int):=
if decide ((a.AX.length:Int)>400)then
some (0,2)
else
(Ah a.World).bind λi=>
if !i then
some (0,1)
else
(O7 a.World).bind λj=>
Ac a Bo j 0
theorem ref16_Check_ok {a:EJ} {r:Int×Int} (h:OL a=some r):Says Tryz.prog 10 [.agg (U7 a)] (.A9 [si r.1,si r.2]):=by
 refine wO mix Tryz.func10 (I:=⟨f10c,f10g,f10r⟩) ?_
 simp only[f10c,f10g,f10r]
 have a1:= @Jq
 have a2:= @ref16_Start_ok
 have a3:= @ref16_Step_ok
 have a4:= @ref16_reads_ok
 have l1:=λn1 n2 n3 n4:Nat=>BM λn τ=>∃(c:AM) (b:Int),(τ 1=bA 7 (U7 a)/\τ 4=bA 7 (HL c)/\τ 5=si b)/\Ac a n c b=some r
 unfold OL at h
 exact walk
end
def f4c:IC:=(Ra 0 [.B 10 false]
(Sq (Bw 1 (Rc 18 [.C 0,.Z 18,.P .gtr 19 200,.C 20,.G 21 false,.C 1,.Z 22,.P .gtr 23 100,.e,.V 21 24])
(Ci 25 (Rb 0 [.B 10 true])))
(Ra 26 [.C 0,.C 1,.c 8 [26,27] 3,.b 11 [12,29,30,34,35,38,39,42,49,53,54,59,63,64,70,73,75,76,79,84,85,88,90,91,94,96,97,100,102,103,106,108,109,110,111,116,117,120,122,123,124,125,130,131,133,138] (.bx 7 (.c (.agg uQ))),.S 7 11 28]
(Sq (Ra 29 [.m 11 6 11,.Z 30,.Q 31 0]
(Ci 32 (Rb 33 [.c 9 [] 0,.M 10 33])))
(Ra 34 [.m 11 6 11,.C 2,.o (.Xk .i64 (.t 36)),.m 11 6 11,.Z 39,.O .rem 37 40,.J 11 7 35 41,.w 12,.y 11 (.mv (.t 42))]
(Ra 43 [.C 4,.o (.Xk .i64 (.t 43)),.P .rem 44 12,.M 13 45]
(Bw 2 (Ra 46 [.C 3,.o (.bin .rem (.t 46) (.c (.sc (.int .u8 8))))]
(Bk 0 (Ra 72 [.o (.bin .eql (.t 47) (.c (.sc (.int .u8 0)))),.M 71 72]
(Cn 71 (Rc 73 [.y 11 (.cp (.t 12)),.C 13,.y 11 (.FF (.t 73)),.H 11 0 75,.S 1 76 74]) (Ra 78 [.o (.bin .eql (.t 47) (.c (.sc (.int .u8 1)))),.M 77 78]
(Cn 77 (Rc 79 [.y 11 (.cp (.t 12)),.C 4,.o (.Xk .u8 (.t 80)),.o (.Xk .i64 (.t 81)),.P .rem 82 25,.y 11 (.FF (.t 79)),.H 11 1 84,.S 1 85 83]) (Ra 87 [.o (.bin .eql (.t 47) (.c (.sc (.int .u8 2)))),.M 86 87]
(Cn 86 (Rc 88 [.y 11 (.cp (.t 12)),.C 13,.y 11 (.FF (.t 88)),.H 11 2 90,.S 1 91 89]) (Ra 93 [.o (.bin .eql (.t 47) (.c (.sc (.int .u8 3)))),.M 92 93]
(Cn 92 (Rc 94 [.y 11 (.cp (.t 12)),.C 13,.y 11 (.FF (.t 94)),.H 11 3 96,.S 1 97 95]) (Ra 99 [.o (.bin .eql (.t 47) (.c (.sc (.int .u8 4)))),.M 98 99]
(Cn 98 (Rc 100 [.y 11 (.cp (.t 12)),.C 13,.y 11 (.FF (.t 100)),.H 11 4 102,.S 1 103 101]) (Ra 105 [.o (.bin .eql (.t 47) (.c (.sc (.int .u8 5)))),.M 104 105]
(Cn 104 (.pg true 11 [(0,6,0)] (Rc 106 [.y 11 (.cp (.t 12)),.o (.Eg 1 [] []),.y 11 (.cp (.t 12)),.y 11 (.FF (.t 108)),.m 11 5 109,.o (.app 1 8 (.t 107) (.t 111)),.C 13,.o (.Eg 1 [[si 0]] [(0,.t 113)]),.o (.app 1 8 (.t 112) (.t 114)),.y 11 (.FF (.t 106)),.H 11 5 116,.S 1 117 115])) (Ra 119 [.o (.bin .eql (.t 47) (.c (.sc (.int .u8 6)))),.M 118 119]
(Cn 118 (.pg true 11 [(0,6,0)] (Rc 120 [.y 11 (.cp (.t 12)),.o (.Eg 1 [] []),.y 11 (.cp (.t 12)),.y 11 (.FF (.t 122)),.m 11 6 123,.o (.app 1 8 (.t 121) (.t 125)),.C 13,.o (.Eg 1 [[si 0]] [(0,.t 127)]),.o (.app 1 8 (.t 126) (.t 128)),.y 11 (.FF (.t 120)),.H 11 6 130,.S 1 131 129])) (.gz false 11 [(0,6,0)] (Rc 48 [.o (.Eg 7 [] []),.f 6 11,.C 2,.o (.Xk .i64 (.t 51)),.m 11 6 11,.Z 54,.O .rem 52 55,.o (.UM 7 true (.t 50) none (some (.t 56)) none),.o (.app 7 88 (.t 48) (.t 57)),.f 6 11,.C 2,.o (.Xk .i64 (.t 61)),.m 11 6 11,.Z 64,.O .rem 62 65,.P .add 66 1,.o (.UM 7 true (.t 60) (some (.t 67)) none none),.o (.app 7 88 (.t 58) (.t 68)),.F 6 11,.S 1 70 69]))))))))))))))))))
(Ra 133 [.y 11 (.ld true 7 (.t 11)),.c 7 [133] 0,.w 132,.C 134,.w 135,.o (.ext (.t 132) 0),.o (.ext (.t 132) 1),.M 14 135,.M 15 136]
(Ra 138 [.y 11 (.ld true 7 (.t 11)),.c 10 [138] 0,.w 137,.C 139,.w 140,.o (.ext (.t 137) 0),.o (.ext (.t 137) 1),.M 16 140,.M 17 141]
(Rb 142 [.C 14,.C 16,.O .eql 142 143,.C 144,.G 145 true,.C 15,.C 17,.O .eql 146 147,.e,.W 145 148,.C 149,.G 150 true,.c 9 [] 0,.e,.W 150 151,.M 10 152]))))))))))
def f4g:Gi:=⟨[(12,[11]),(29,[11]),(30,[11]),(34,[11]),(35,[11]),(38,[11]),(39,[11]),(42,[11]),(49,[11]),(53,[11]),(54,[11]),(59,[11]),(63,[11]),(64,[11]),(70,[11]),(73,[11]),(75,[11]),(76,[11]),(79,[11]),(84,[11]),(85,[11]),(88,[11]),(90,[11]),(91,[11]),(94,[11]),(96,[11]),(97,[11]),(100,[11]),(102,[11]),(103,[11]),(106,[11]),(108,[11]),(109,[11]),(110,[11]),(111,[11]),(116,[11]),(117,[11]),(120,[11]),(122,[11]),(123,[11]),(124,[11]),(125,[11]),(130,[11]),(131,[11]),(133,[11]),(138,[11])]⟩
def f4r:List RV:=[.tmp 10]
namespace GG
def J3 (q:Bool):Option Bool:=
some q
def J2 (j:EJ):Option Bool:=
(BP j).bind λo=>
(OL j).bind λp=>
if o.1==p.1 then
if o.2==p.2 then
(E8).bind λt=>
J3 t
else
J3 false
else
J3 false
def J1 (c d e:Int) (f i:List Int) (l:Bool):Option Bool:=
if l then
some true
else
(IL f i).bind λa=>
if(a.AX.length:Int)==0 then
(E8).bind λs=>
some s
else
if¬(a.AX.length:Int)=0 then
(gt a.AX ((BE c).tmod (a.AX.length:Int))).bind λb=>
if(d.tmod 8)==0 then
J2 (EJ.mk a.World (a.AX.set (((BE c).tmod (a.AX.length:Int)).toNat) (AN.mk ((BE e).tmod 12) b.Kind b.Obj b.Value b.Site b.Dy b.Db)))
else
if(d.tmod 8)==1 then
J2 (EJ.mk a.World (a.AX.set (((BE c).tmod (a.AX.length:Int)).toNat) (AN.mk b.Thread ((BE (w8 e)).tmod 25) b.Obj b.Value b.Site b.Dy b.Db)))
else
if(d.tmod 8)==2 then
J2 (EJ.mk a.World (a.AX.set (((BE c).tmod (a.AX.length:Int)).toNat) (AN.mk b.Thread b.Kind ((BE e).tmod 12) b.Value b.Site b.Dy b.Db)))
else
if(d.tmod 8)==3 then
J2 (EJ.mk a.World (a.AX.set (((BE c).tmod (a.AX.length:Int)).toNat) (AN.mk b.Thread b.Kind b.Obj ((BE e).tmod 12) b.Site b.Dy b.Db)))
else
if(d.tmod 8)==4 then
J2 (EJ.mk a.World (a.AX.set (((BE c).tmod (a.AX.length:Int)).toNat) (AN.mk b.Thread b.Kind b.Obj b.Value ((BE e).tmod 12) b.Dy b.Db)))
else
if(d.tmod 8)==5 then
if Aq (b.Dy.length) 8=true then
if Aq (b.Dy.length+1) 8=true then
J2 (EJ.mk a.World (a.AX.set (((BE c).tmod (a.AX.length:Int)).toNat) (AN.mk b.Thread b.Kind b.Obj b.Value b.Site (b.Dy++[(BE e).tmod 12]) b.Db)))
else none
else none
else
if(d.tmod 8)==6 then
if Aq (b.Db.length) 8=true then
if Aq (b.Db.length+1) 8=true then
J2 (EJ.mk a.World (a.AX.set (((BE c).tmod (a.AX.length:Int)).toNat) (AN.mk b.Thread b.Kind b.Obj b.Value b.Site b.Dy (b.Db++[(BE e).tmod 12]))))
else none
else none
else
if¬(a.AX.length:Int)=0 then
if 0≤((BE c).tmod (a.AX.length:Int))/\(((BE c).tmod (a.AX.length:Int)).toNat)≤a.AX.length then
if Aq ((a.AX.take (((BE c).tmod (a.AX.length:Int)).toNat)).length) 88=true then
if¬(a.AX.length:Int)=0 then
if 0≤(BE (((BE c).tmod (a.AX.length:Int))+1))/\((BE (((BE c).tmod (a.AX.length:Int))+1)).toNat)≤a.AX.length then
if Aq ((a.AX.take (((BE c).tmod (a.AX.length:Int)).toNat)).length+((a.AX.drop ((BE (((BE c).tmod (a.AX.length:Int))+1)).toNat)).take (a.AX.length-((BE (((BE c).tmod (a.AX.length:Int))+1)).toNat))).length) 88=true then
J2 (EJ.mk a.World ((a.AX.take (((BE c).tmod (a.AX.length:Int)).toNat))++((a.AX.drop ((BE (((BE c).tmod (a.AX.length:Int))+1)).toNat)).take (a.AX.length-((BE (((BE c).tmod (a.AX.length:Int))+1)).toNat)))))
else none
else none
else none
else none
else none
else none
else none
end GG
section
open GG
def GG (f i:List Int) (c d e:Int):Option Bool:=
if decide ((f.length:Int)>200)then
J1 c d e f i true
else
J1 c d e f i (decide ((i.length:Int)>100))
theorem fF {f i:List Int} {c d e:Int} {r:Bool} (h:GG f i c d e=some r):Says Tryz.prog 4 [vS 1 UN f,vS 1 UN i,.sc (.int .u8 c),.sc (.int .u8 d),.sc (.int .i8 e)] (sb r):=by
 refine wO mix Tryz.func4 (I:=⟨f4c,f4g,f4r⟩) ?_
 simp only[f4c,f4g,f4r]
 have a1:= @SF
 have a2:= @Qs
 have a3:= @Hq
 have a4:= @ref16_Check_ok
 have c2:=λn1 n2 n3 n4:Nat=>B7 2 λτ=>∃(j:EJ),(τ 11=bA 7 (Rn j))/\J2 j=some r
 have c1:=λn1 n2 n3 n4:Nat=>B7 1 λτ=>∃(l:Bool),(τ 0=vS 1 UN f/\τ 1=vS 1 UN i/\τ 2= .sc (.int .u8 c)/\τ 3= .sc (.int .u8 d)/\τ 4= .sc (.int .i8 e)/\τ 25=sb l)/\J1 c d e f i l=some r
 unfold GG at h
 exact walk
end
end Go.Abs
