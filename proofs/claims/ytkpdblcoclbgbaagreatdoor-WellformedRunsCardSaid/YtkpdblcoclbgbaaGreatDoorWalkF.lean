/- Typed programs of Go functions, and that the functions do what these say. -/
import Derived.Test.YtkpdblcoclbgbaaGreatDoorBaseA
import Derived.Test.YtkpdblcoclbgbaaGreatDoorWalkD
import Derived.Test.YtkpdblcoclbgbaaGreatDoorWalkE
import Derived.Test.YtkpdblcoclbgbaaGreatDoorWalkA
import Derived.Test.YtkpdblcoclbgbaaGreatDoorWalkB
import Derived.Shelf.Slices.SearchI
set_option linter.unusedSimpArgs false
set_option linter.unusedVariables false
namespace Go.Abs
open Go.Proofs
set_option maxRecDepth 100000
set_option maxHeartbeats 4000000
def wT:IC:=(Ra 2 [.o (.bx 7 (.c (.agg z7)))]
(Ra 7 [.C 0,.c 40 [7] 1,.c 39 [8] 1,.w 6,.C 9,.w 10,.o (.ext (.t 6) 0),.o (.ext (.t 6) 1),.o (.ext (.t 6) 2),.w 3,.o (.bx 7 (.c (.agg z7))),.S 7 3 10,.M 4 11,.M 5 12]
(Rb 13 [.A 7 3,.S 7 2 13])))
def wU:Gi:=⟨[]⟩
def wV:List RV:=[.cell 2 true 7]
def I4 (a:List Int):Option BB:=
(BL a).bind λb=>
(BC b).bind λc=>
some c.1
theorem Tw {a:List Int} {r:BB} (h:I4 a=some r):Says Tryz.prog 17 [vS 1 UN a] (.agg (Gp r)):=by
 refine wF mix Tryz.func17 (I:=⟨wT,wU,wV⟩) ?_
 simp only[wT,wU,wV]
 have a1:= @PN
 have a2:= @Oe
 unfold I4 at h
 exact walk
def wW:IC:=(Ra 2 [.o (.mv (.c (.own false 2 [])))]
(Ra 0 [.b 3 [11,29] (.mv (.c (.own false 2 [])))]
(Sq (Ra 0 [.K 4 0]
(Bl 0 (Sq (Ra 5 [.C 4,.C 0,.Z 6,.O .lss 5 7]
(cX 8 0))
(Sq (Bk 1 (Rc 11 [.y 3 (.cp (.t 3)),.C 0,.C 4,.I 1 12 13,.L 14,.o (.Xk .i64 (.t 15)),.P .rem 16 4,.C 0,.C 4,.I 1 18 19,.L 20,.o (.Xk .i64 (.t 21)),.P .quo 22 4,.P .rem 23 5,.P .sub 24 1,.o (.Dc [si 0,si 0] [(0,1,.t 17),(1,1,.t 25)]),.o (.Eg 2 [[si 0,si 0]] [(0,.t 26)]),.o (.app 2 16 (.t 11) (.t 27)),.b 3 [11,29] (.mv (.t 28))]))
(Rc 9 [.C 4,.P .add 9 1,.M 4 10])))))
(Rb 29 [.y 3 (.cp (.t 3)),.M 2 29]))))
def wX:Gi:=⟨[(11,[3]),(29,[3])]⟩
def wY:List RV:=[.tmp 2]
namespace DP
def J1 (e:List CC):Option (List CC):=
some e
def L1 (a:List Int) (L1:(List CC)->Int->Option (List CC)) (c:List CC) (b:Int):Option (List CC):=
if decide (b<(a.length:Int))then
(gt a b).bind λd=>
if Aq (c.length+1) 16=true then
L1 (c++[(CC.mk ((BE d).tmod 4) (BE (((BE ((BE d).tdiv 4)).tmod 5)-1)))]) (BE (b+1))
else none
else
J1 c
def Ac (a:List Int):Nat->(List CC)->Int->Option (List CC)
|0,_,_=>none
|n+1,c,b=>L1 a (Ac a n) c b
end DP
section
open DP
def DP (a:List Int):Option (List CC):=
Ac a Bo [] 0
theorem PM {a:List Int} {r:List CC} (h:DP a=some r):Says Tryz.prog 18 [vS 1 UN a] (vO 2 Gb r):=by
 refine wO mix Tryz.func18 (I:=⟨wW,wX,wY⟩) ?_
 simp only[wW,wX,wY]
 have l1:=λn1 n2 n3 n4:Nat=>BM λn τ=>∃(c:List CC) (b:Int),(τ 0=vS 1 UN a/\τ 3=vO 2 Gb c/\τ 4=si b)/\Ac a n c b=some r
 unfold DP at h
 exact walk
end
def zA:IC:=(Ra 2 [.b 1 [12,16,45,58,99,106,115,122,131,135] (.bx 6 (.t 0)),.o (.mv (.c (.own false 1 []))),.B 3 false]
(Ra 0 [.b 4 [21,105,121,130,134] (.mv (.c (.own false 1 [])))]
(Sq (Ra 0 [.K 5 0]
(Bl 0 (Sq (Ra 11 [.C 5,.f 0 1,.Z 13,.O .lss 11 14]
(cX 15 0))
(Bk 1 (Ra 16 [.f 0 1,.C 5,.I 5 17 18,.A 5 19,.b 6 [22,26,29,34,38,43,53,72,79,86,95] (.bx 5 (.c (.agg sX))),.S 5 6 20]
(Ra 21 [.y 4 (.cp (.t 4)),.f 0 6,.o (.Eg 1 [[Ao ⟨#[]⟩]] [(0,.t 23)]),.o (.app 1 16 (.t 21) (.t 24)),.b 4 [21,105,121,130,134] (.mv (.t 25))]
(Sq (Ra 26 [.f 2 6,.Q 27 0]
(Ci 28 (Sq (Ra 29 [.f 1 6,.P .neq 30 0]
(Ci 31 (Rb 2 [.o (.mv (.c (.own false 1 []))),.B 3 false])))
(Ra 32 [.C 5,.P .add 32 1,.M 5 33]
(.exit 1)))))
(Sq (Bw 1 (Rc 34 [.f 2 6,.P .lss 35 1,.C 36,.G 37 false,.f 2 6,.P .gtr 39 4,.e,.V 37 40,.C 41,.G 42 false,.f 2 6,.f 0 1,.Z 46,.C 5,.O .sub 47 48,.O .gtr 44 49,.e,.V 42 50])
(Ci 51 (Rb 2 [.o (.mv (.c (.own false 1 []))),.B 3 false])))
(Sq (Ra 0 [.K 7 0]
(Bl 2 (Sq (Ra 52 [.C 7,.f 2 6,.O .lss 52 54]
(cX 55 2))
(Sq (Bk 3 (Ra 58 [.f 0 1,.C 5,.C 7,.O .add 60 61,.I 5 59 62,.A 5 63,.b 8 [65,70,77,84,91] (.bx 5 (.c (.agg sX))),.S 5 8 64]
(Ra 65 [.f 1 8,.C 7,.O .neq 66 67,.C 68,.G 69 false,.f 0 8,.f 0 6,.O .neq 71 73,.e,.V 69 74,.C 75,.G 76 false,.f 2 8,.f 2 6,.O .neq 78 80,.e,.V 76 81,.C 82,.G 83 false,.f 4 8,.f 4 6,.O .neq 85 87,.e,.V 83 88,.C 89,.G 90 false,.f 3 8,.e,.V 90 92]
(Ci 93 (Rb 2 [.o (.mv (.c (.own false 1 []))),.B 3 false])))))
(Rc 56 [.C 7,.P .add 56 1,.M 7 57])))))
(Rc 94 [.C 5,.f 2 6,.O .add 94 96,.M 5 97]))))))))))
(Sq (Ra 0 [.K 9 0]
(Bl 4 (Sq (Ra 98 [.C 9,.f 1 1,.Z 100,.O .lss 98 101]
(cX 102 4))
(Sq (Bk 5 (Rc 105 [.y 4 (.cp (.t 4)),.f 1 1,.C 9,.I 2 107 108,.U 0 109,.o (.Eg 1 [[Ao ⟨#[]⟩]] [(0,.t 111)]),.o (.app 1 16 (.t 105) (.t 112)),.b 4 [21,105,121,130,134] (.mv (.t 113))]))
(Rc 103 [.C 9,.P .add 103 1,.M 9 104])))))
(Sq (Ra 0 [.K 10 0]
(Bl 6 (Sq (Ra 114 [.C 10,.f 2 1,.Z 116,.O .lss 114 117]
(cX 118 6))
(Sq (Bk 7 (Rc 121 [.y 4 (.cp (.t 4)),.f 2 1,.C 10,.I 2 123 124,.U 0 125,.o (.Eg 1 [[Ao ⟨#[]⟩]] [(0,.t 127)]),.o (.app 1 16 (.t 121) (.t 128)),.b 4 [21,105,121,130,134] (.mv (.t 129))]))
(Rc 119 [.C 10,.P .add 119 1,.M 10 120])))))
(Ra 130 [.y 4 (.cp (.t 4)),.f 3 1,.o (.app 1 16 (.t 130) (.t 132)),.b 4 [21,105,121,130,134] (.mv (.t 133))]
(Rb 134 [.y 4 (.cp (.t 4)),.f 4 1,.o (.app 1 16 (.t 134) (.t 136)),.M 2 137,.B 3 true])))))))
def zB:Gi:=⟨[(12,[1]),(16,[1]),(21,[4]),(22,[6]),(26,[6]),(29,[6]),(34,[6]),(38,[6]),(43,[6]),(45,[1]),(53,[6]),(58,[1]),(65,[8]),(70,[8]),(72,[6]),(77,[8]),(79,[6]),(84,[8]),(86,[6]),(91,[8]),(95,[6]),(99,[1]),(105,[4]),(106,[1]),(115,[1]),(121,[4]),(122,[1]),(130,[4]),(131,[1]),(134,[4]),(135,[1])]⟩
def zC:List RV:=[.tmp 2,.tmp 3]
namespace A6
def J6 (a:AB) (q:List ByteArray):Option ((List ByteArray)×Bool):=
if Aq (q.length+a.AH.length) 16=true then
if Aq ((q++a.AH).length+a.AA.length) 16=true then
some ((q++a.AH)++a.AA,true)
else none
else none
def L4 (a:AB) (L4:(List ByteArray)->Int->Option ((List ByteArray)×Bool)) (l:List ByteArray) (i:Int):Option ((List ByteArray)×Bool):=
if decide (i<(a.Au.length:Int))then
(gt a.Au i).bind λw=>
if Aq (l.length+1) 16=true then
L4 (l++[w.Name]) (BE (i+1))
else none
else
J6 a l
def tF (a:AB):Nat->(List ByteArray)->Int->Option ((List ByteArray)×Bool)
|0,_,_=>none
|n+1,l,i=>L4 a (tF a n) l i
def J5 (a:AB) (t:List ByteArray):Option ((List ByteArray)×Bool):=
tF a Bo t 0
def L3 (a:AB) (L3:(List ByteArray)->Int->Option ((List ByteArray)×Bool)) (j:List ByteArray) (f:Int):Option ((List ByteArray)×Bool):=
if decide (f<(a.AG.length:Int))then
(gt a.AG f).bind λv=>
if Aq (j.length+1) 16=true then
L3 (j++[v.Name]) (BE (f+1))
else none
else
J5 a j
def Gx (a:AB):Nat->(List ByteArray)->Int->Option ((List ByteArray)×Bool)
|0,_,_=>none
|n+1,j,f=>L3 a (Gx a n) j f
def J4 (a:AB) (s:List ByteArray):Option ((List ByteArray)×Bool):=
Gx a Bo s 0
def J3 (L1:(List ByteArray)->Int->Option ((List ByteArray)×Bool)) (c:Int) (d:List ByteArray) (b:DJ):Option ((List ByteArray)×Bool):=
L1 (d++[b.Name]) (BE (c+b.Bn))
def J2 (L2:Int->Option ((List ByteArray)×Bool)) (e:Int) (u:Bool):Option ((List ByteArray)×Bool):=
if u then
some ([],false)
else
L2 (BE (e+1))
def L2 (L1:(List ByteArray)->Int->Option ((List ByteArray)×Bool)) (c:Int) (d:List ByteArray) (a:AB) (b:DJ) (L2:Int->Option ((List ByteArray)×Bool)) (e:Int):Option ((List ByteArray)×Bool):=
if decide (e<b.Bn)then
(gt a.Cells (BE (c+e))).bind λo=>
if o.Index != e then
J2 L2 e true
else
if !(o.Name.toList==b.Name.toList)then
J2 L2 e true
else
if o.Bn != b.Bn then
J2 L2 e true
else
if o.Init != b.Init then
J2 L2 e true
else
J2 L2 e o.E0
else
J3 L1 c d b
def Da (L1:(List ByteArray)->Int->Option ((List ByteArray)×Bool)) (c:Int) (d:List ByteArray) (a:AB) (b:DJ):Nat->Int->Option ((List ByteArray)×Bool)
|0,_=>none
|n+1,e=>L2 L1 c d a b (Da L1 c d a b n) e
def J1 (L1:(List ByteArray)->Int->Option ((List ByteArray)×Bool)) (c:Int) (d:List ByteArray) (a:AB) (b:DJ) (p:Bool):Option ((List ByteArray)×Bool):=
if p then
some ([],false)
else
Da L1 c d a b Bo 0
def L1 (a:AB) (L1:(List ByteArray)->Int->Option ((List ByteArray)×Bool)) (d:List ByteArray) (c:Int):Option ((List ByteArray)×Bool):=
if decide (c<(a.Cells.length:Int))then
(gt a.Cells c).bind λb=>
if Aq (d.length+1) 16=true then
if b.Bn==0 then
if b.Index != 0 then
some ([],false)
else
L1 (d++[b.Name]) (BE (c+1))
else
if decide (b.Bn<1)then
J1 L1 c d a b true
else
if decide (b.Bn>4)then
J1 L1 c d a b true
else
J1 L1 c d a b (decide (b.Bn>(BE ((a.Cells.length:Int)-c))))
else none
else
J4 a d
def Ac (a:AB):Nat->(List ByteArray)->Int->Option ((List ByteArray)×Bool)
|0,_,_=>none
|n+1,d,c=>L1 a (Ac a n) d c
end A6
section
open A6
def A6 (a:AB):Option ((List ByteArray)×Bool):=
Ac a Bo [] 0
theorem RI {a:AB} {r:(List ByteArray)×Bool} (h:A6 a=some r):Says Tryz.prog 41 [.agg (Ap a)] (.A9 [vO 1 eS r.1,sb r.2]):=by
 refine wO mix Tryz.func41 (I:=⟨zA,zB,zC⟩) ?_
 simp only[zA,zB,zC]
 have l4:=λn1 n2 n3 n4:Nat=>BM λn τ=>∃(l:List ByteArray) (i:Int),(τ 1=bA 6 (Ap a)/\τ 4=vO 1 eS l/\τ 10=si i)/\tF a n l i=some r
 have l3:=λn1 n2 n3 n4:Nat=>BM λn τ=>∃(j:List ByteArray) (f:Int),(τ 1=bA 6 (Ap a)/\τ 4=vO 1 eS j/\τ 9=si f)/\Gx a n j f=some r
 have l1:=λn1 n2 n3 n4:Nat=>BM λn τ=>∃(d:List ByteArray) (c:Int),(τ 1=bA 6 (Ap a)/\τ 4=vO 1 eS d/\τ 5=si c)/\Ac a n d c=some r
 have l2:=λn1 n2 n3 n4:Nat=>BM λn τ=>∃(c:Int) (d:List ByteArray) (b:DJ) (e:Int),(τ 1=bA 6 (Ap a)/\τ 4= .own false 1 ((d++[b.Name]).map eS)/\τ 5=si c/\τ 6=bA 5 (Fg b)/\τ 7=si e)/\Da (Ac a n1) c d a b n e=some r
 have c1:=λn1 n2 n3 n4:Nat=>B7 1 λτ=>∃(c:Int) (d:List ByteArray) (b:DJ) (p:Bool),(τ 1=bA 6 (Ap a)/\τ 4= .own false 1 ((d++[b.Name]).map eS)/\τ 5=si c/\τ 6=bA 5 (Fg b)/\τ 51=sb p)/\J1 (Ac a n1) c d a b p=some r
 unfold A6 at h
 exact walk
end
def wZ:IC:=(Ra 0 [.b 1 [10,15,21,27,33,39,45,81,87,97,103,111,117,128,136,154,168] (.bx 6 (.t 0)),.B 2 false]
(Sq (Bw 1 (Rc 10 [.f 0 1,.Z 11,.P .gtr 12 12,.C 13,.G 14 false,.f 1 1,.Z 16,.P .gtr 17 4,.e,.V 14 18,.C 19,.G 20 false,.f 2 1,.Z 22,.P .gtr 23 2,.e,.V 20 24,.C 25,.G 26 false,.f 3 1,.Z 28,.P .gtr 29 2,.e,.V 26 30,.C 31,.G 32 false,.f 4 1,.Z 34,.P .lss 35 1,.e,.V 32 36,.C 37,.G 38 false,.f 4 1,.Z 40,.P .gtr 41 4,.e,.V 38 42,.C 43,.G 44 false,.f 5 1,.Z 46,.P .gtr 47 60,.e,.V 44 48])
(Ci 49 (Rb 0 [.B 2 false])))
(Ra 51 [.A 6 1,.c 41 [51] 1,.w 50,.C 52,.w 53,.o (.ext (.t 50) 0),.o (.ext (.t 50) 1),.M 3 53,.M 4 54]
(Sq (Ra 55 [.C 4,.N 55]
(Ci 56 (Rb 0 [.B 2 false])))
(Sq (Ra 0 [.K 5 0]
(Bl 0 (Sq (Ra 57 [.C 5,.C 3,.Z 58,.O .lss 57 59]
(cX 60 0))
(Sq (Bk 1 (Ra 63 [.C 3,.C 5,.I 1 63 64,.L 65,.c 42 [66] 0,.N 67,.C 68,.G 69 false,.C 3,.C 5,.o (.UM 1 true (.t 70) none (some (.t 71)) none),.C 3,.C 5,.I 1 73 74,.L 75,.c 43 [72,76] 0,.P .geq 77 0,.e,.V 69 78]
(Ci 79 (Rb 0 [.B 2 false]))))
(Rc 61 [.C 5,.P .add 61 1,.M 5 62])))))
(Sq (Ra 0 [.K 6 0]
(Bl 2 (Sq (Ra 80 [.C 6,.f 2 1,.Z 82,.O .lss 80 83]
(cX 84 2))
(Sq (Bk 3 (Ra 87 [.f 2 1,.C 6,.I 2 88 89,.U 1 90,.M 7 92]
(Ra 93 [.C 7,.P .lss 93 0,.C 94,.G 95 false,.C 7,.f 1 1,.Z 98,.O .geq 96 99,.e,.V 95 100,.C 101,.G 102 false,.f 1 1,.C 7,.I 2 104 105,.U 1 106,.e,.V 102 108]
(Ci 109 (Rb 0 [.B 2 false])))))
(Rc 85 [.C 6,.P .add 85 1,.M 6 86])))))
(Sq (Ra 0 [.K 8 0]
(Bl 4 (Sq (Ra 110 [.C 8,.f 5 1,.Z 112,.O .lss 110 113]
(cX 114 4))
(Sq (Bk 5 (Ra 117 [.f 5 1,.C 8,.I 3 118 119,.A 3 120,.b 9 [122,126,143,147,161,166] (.bx 3 (.c (.agg [si 0,si 0,si 0]))),.S 3 9 121]
(Sq (Bw 6 (Rc 122 [.f 0 9,.P .lss 123 0,.C 124,.G 125 false,.f 0 9,.f 4 1,.Z 129,.O .geq 127 130,.e,.V 125 131])
(Ci 132 (Rb 0 [.B 2 false])))
(Ra 133 [.C 8,.Q 133 0,.C 134,.G 135 false,.f 5 1,.C 8,.P .sub 138 1,.I 3 137 139,.U 0 140,.f 0 9,.O .neq 142 144,.e,.V 135 145]
(Cn 146 (Ra 147 [.f 1 9,.P .neq 148 0,.C 149,.G 150 false,.C 8,.P .gtr 151 0,.C 152,.G 153 true,.f 5 1,.C 8,.P .sub 156 1,.I 3 155 157,.U 0 158,.f 0 9,.O .gtr 160 162,.G 150 false,.o (.pick (.t 153) (.t 163) (.c (sb false))),.e,.V 150 164]
(Ci 165 (Rb 0 [.B 2 false]))) (Ra 166 [.f 1 9,.f 5 1,.C 8,.P .sub 170 1,.I 3 169 171,.U 1 172,.P .add 174 1,.O .neq 167 175]
(Ci 176 (Rb 0 [.B 2 false]))))))))
(Rc 115 [.C 8,.P .add 115 1,.M 8 116])))))
(Rb 0 [.B 2 true]))))))))
def w9:Gi:=⟨[(10,[1]),(15,[1]),(21,[1]),(27,[1]),(33,[1]),(39,[1]),(45,[1]),(81,[1]),(87,[1]),(97,[1]),(103,[1]),(111,[1]),(117,[1]),(122,[9]),(126,[9]),(128,[1]),(136,[1]),(143,[9]),(147,[9]),(154,[1]),(161,[9]),(166,[9]),(168,[1])]⟩
def xA:List RV:=[.tmp 2]
namespace Ah
def Oj:Option Bool:=
some true
def J9 (L3:Int->Option Bool) (b:Int):Option Bool:=
L3 (BE (b+1))
def J8 (L3:Int->Option Bool) (b:Int) (s:Bool):Option Bool:=
if s then
some false
else
J9 L3 b
def J7 (L3:Int->Option Bool) (b:Int) (a:AB) (c:DO) (q:Bool):Option Bool:=
if q then
if c.Stmt != 0 then
J8 L3 b true
else
if decide (b>0)then
(gt a.BA (BE (b-1))).bind λy=>
J8 L3 b (decide (y.Thread>c.Thread))
else
J8 L3 b false
else
(gt a.BA (BE (b-1))).bind λz=>
if c.Stmt != (BE (z.Stmt+1))then
some false
else
J9 L3 b
def J6 (L3:Int->Option Bool) (b:Int) (a:AB) (c:DO) (i:Bool):Option Bool:=
if i then
some false
else
if b==0 then
J7 L3 b a c true
else
(gt a.BA (BE (b-1))).bind λx=>
J7 L3 b a c (x.Thread != c.Thread)
def L3 (a:AB) (L3:Int->Option Bool) (b:Int):Option Bool:=
if decide (b<(a.BA.length:Int))then
(gt a.BA b).bind λc=>
if decide (c.Thread<0)then
J6 L3 b a c true
else
J6 L3 b a c (decide (c.Thread≥(a.AA.length:Int)))
else
Oj
def Gx (a:AB):Nat->Int->Option Bool
|0,_=>none
|n+1,b=>L3 a (Gx a n) b
def J5 (a:AB):Option Bool:=
Gx a Bo 0
def J4 (L2:Int->Option Bool) (f:Int) (p:Bool):Option Bool:=
if p then
some false
else
L2 (BE (f+1))
def L2 (a:AB) (L2:Int->Option Bool) (f:Int):Option Bool:=
if decide (f<(a.Au.length:Int))then
(gt a.Au f).bind λl=>
if decide (l.Mutex<0)then
J4 L2 f true
else
if decide (l.Mutex≥(a.AG.length:Int))then
J4 L2 f true
else
(gt a.AG l.Mutex).bind λw=>
J4 L2 f w.RW
else
J5 a
def Da (a:AB):Nat->Int->Option Bool
|0,_=>none
|n+1,f=>L2 a (Da a n) f
def J3 (a:AB):Option Bool:=
Da a Bo 0
def J2 (L1:Int->Option Bool) (d:Int) (t:Bool):Option Bool:=
if t then
some false
else
L1 (BE (d+1))
def L1 (e:(List ByteArray)×Bool) (a:AB) (L1:Int->Option Bool) (d:Int):Option Bool:=
if decide (d<(e.1.length:Int))then
(gt e.1 d).bind λo=>
(BV o).bind λu=>
if !u then
J2 L1 d true
else
if 0≤d/\d.toNat≤e.1.length then
(CF (e.1.take d.toNat) o).bind λv=>
J2 L1 d (decide (v≥0))
else none
else
J3 a
def Ac (e:(List ByteArray)×Bool) (a:AB):Nat->Int->Option Bool
|0,_=>none
|n+1,d=>L1 e a (Ac e a n) d
def J1 (a:AB) (j:Bool):Option Bool:=
if j then
some false
else
(A6 a).bind λe=>
if !e.2 then
some false
else
Ac e a Bo 0
end Ah
section
open Ah
def Ah (a:AB):Option Bool:=
if decide ((a.Cells.length:Int)>12)then
J1 a true
else
if decide ((a.AG.length:Int)>4)then
J1 a true
else
if decide ((a.Au.length:Int)>2)then
J1 a true
else
if decide ((a.AH.length:Int)>2)then
J1 a true
else
if decide ((a.AA.length:Int)<1)then
J1 a true
else
if decide ((a.AA.length:Int)>4)then
J1 a true
else
J1 a (decide ((a.BA.length:Int)>60))
theorem Jq {a:AB} {r:Bool} (h:Ah a=some r):Says Tryz.prog 19 [.agg (Ap a)] (sb r):=by
 refine wO mix Tryz.func19 (I:=⟨wZ,w9,xA⟩) ?_
 simp only[wZ,w9,xA]
 have a1:= @RI
 have a2:= @FV
 have a3:= @FB
 have l3:=λn1 n2 n3 n4:Nat=>BM λn τ=>∃(b:Int),(τ 1=bA 6 (Ap a)/\τ 8=si b)/\Gx a n b=some r
 have l2:=λn1 n2 n3 n4:Nat=>BM λn τ=>∃(f:Int),(τ 1=bA 6 (Ap a)/\τ 6=si f)/\Da a n f=some r
 have l1:=λn1 n2 n3 n4:Nat=>BM λn τ=>∃(e:(List ByteArray)×Bool) (d:Int),(τ 1=bA 6 (Ap a)/\τ 3=vS 1 eS e.1/\τ 5=si d)/\Ac e a n d=some r
 have c6:=λn1 n2 n3 n4:Nat=>B7 6 λτ=>∃(b:Int) (c:DO) (i:Bool),(τ 1=bA 6 (Ap a)/\τ 8=si b/\τ 9=bA 3 (E7 c)/\τ 132=sb i)/\J6 (Gx a n3) b a c i=some r
 have c1:=λn1 n2 n3 n4:Nat=>B7 1 λτ=>∃(j:Bool),(τ 1=bA 6 (Ap a)/\τ 49=sb j)/\J1 a j=some r
 unfold Ah at h
 exact walk
end
def ABs:IC:=(Ra 0 [.B 4 false]
(Sq (Ra 0 [.K 5 0]
(Bl 0 (Sq (Ra 6 [.C 5,.C 0,.Z 7,.O .leq 6 8]
(cX 9 0))
(Sq (Bk 1 (Sq (Ra 12 [.C 1,.P .lss 12 0,.C 13,.G 14 false,.C 1,.C 0,.Z 16,.O .geq 15 17,.e,.V 14 18]
(Ci 19 (Rb 0 [.B 4 false])))
(Sq (Ra 20 [.C 0,.C 1,.I 6 20 21,.U 0 22,.c 126 [24] 0,.N 25]
(Ci 26 (Rb 0 [.B 4 true])))
(Ra 27 [.C 0,.C 1,.I 6 27 28,.U 0 29,.Q 31 5]
(Cn 32 (Rc 33 [.C 0,.C 1,.I 6 33 34,.U 1 35,.M 1 37]) (Rc 38 [.C 1,.P .add 38 1,.M 1 39]))))))
(Rc 10 [.C 5,.P .add 10 1,.M 5 11])))))
(Rb 0 [.B 4 false])))
def ABt:Gi:=⟨[]⟩
def ABu:List RV:=[.tmp 4]
namespace Ca
def J3:Option Bool:=
some false
def J2 (L1:Int->Int->Option Bool) (b f:Int):Option Bool:=
L1 f (BE (b+1))
def J1 (L1:Int->Int->Option Bool) (c:Int) (a:List AW) (b:Int) (i:Bool):Option Bool:=
if i then
some false
else
(gt a c).bind λe=>
(ED e.Op).bind λj=>
if !j then
some true
else
if e.Op==5 then
J2 L1 b e.A
else
J2 L1 b (BE (c+1))
def L1 (a:List AW) (L1:Int->Int->Option Bool) (c b:Int):Option Bool:=
if decide (b≤(a.length:Int))then
if decide (c<0)then
J1 L1 c a b true
else
J1 L1 c a b (decide (c≥(a.length:Int)))
else
J3
def Ac (a:List AW):Nat->Int->Int->Option Bool
|0,_,_=>none
|n+1,c,b=>L1 a (Ac a n) c b
end Ca
section
open Ca
def Ca (a:List AW) (d:Int):Option Bool:=
Ac a Bo d 0
theorem RH {a:List AW} {d:Int} {r:Bool} (h:Ca a d=some r):Says Tryz.prog 96 [vS 6 C7 a,si d] (sb r):=by
 refine wO mix Tryz.func96 (I:=⟨ABs,ABt,ABu⟩) ?_
 simp only[ABs,ABt,ABu]
 have a1:= @Jj
 have l1:=λn1 n2 n3 n4:Nat=>BM λn τ=>∃(c b:Int),(τ 0=vS 6 C7 a/\τ 1=si c/\τ 5=si b)/\Ac a n c b=some r
 unfold Ca at h
 exact walk
end
def AAT:IC:=(Ra 0 [.b 3 [83,89] (.bx 6 (.t 0)),.b 5 [12,15,19,32,62,135] (.bx 2 (.t 2)),.B 6 false]
(Ra 12 [.f 1 5,.Z 13,.M 7 14]
(Sq (Bw 1 (Rc 15 [.f 0 5,.P .lss 16 0,.C 17,.G 18 false,.f 0 5,.P .gtr 20 32,.e,.V 18 21,.C 22,.G 23 false,.C 7,.P .eql 24 0,.e,.V 23 25])
(Ci 26 (Rb 0 [.B 6 false])))
(Sq (Ra 0 [.K 8 0]
(Bl 0 (Sq (Ra 27 [.C 8,.C 7,.O .lss 27 28]
(cX 29 0))
(Sq (Bk 1 (Ra 32 [.f 1 5,.C 8,.I 6 33 34,.A 6 35,.b 9 [37,41,46,68,72,77,81,91,101,105,112,116] (.bx 6 (.c (.agg z9))),.S 6 9 36]
(Sq (Bw 2 (Rc 37 [.f 0 9,.P .lss 38 1,.C 39,.G 40 false,.f 0 9,.P .gtr 42 28,.e,.V 40 43,.C 44,.G 45 false,.f 0 9,.P .eql 47 28,.C 8,.C 7,.P .sub 50 1,.O .eql 49 51,.o (.beq true (.t 48) (.t 52)),.e,.V 45 53,.C 54,.G 55 false,.o (.ld true 6 (.t 3)),.o (.ld true 6 (.t 9)),.c 95 [56,57] 0,.N 58,.e,.V 55 59,.C 60,.G 61 false,.f 1 5,.C 8,.c 96 [63,64] 0,.N 65,.e,.V 61 66])
(Ci 67 (Rb 0 [.B 6 false])))
(Sq (Bw 3 (Rc 68 [.f 0 9,.Q 69 28,.C 70,.G 71 true,.f 5 9,.P .neq 73 (-1),.e,.W 71 74,.C 75,.G 76 false,.f 0 9,.P .neq 78 28,.C 79,.G 80 true,.f 5 9,.f 5 3,.Z 84,.c 97 [82,85] 0,.N 86,.C 87,.G 88 false,.f 5 3,.f 5 9,.I 3 90 92,.U 0 93,.C 1,.O .neq 95 96,.G 80 true,.o (.pick (.t 88) (.c (sb true)) (.t 97)),.G 76 false,.o (.pick (.t 80) (.t 98) (.c (sb false))),.e,.V 76 99])
(Ci 100 (Rb 0 [.B 6 false])))
(Sq (Bw 4 (Rc 101 [.f 0 9,.Q 102 5,.C 103,.G 104 true,.f 1 9,.C 7,.c 97 [106,107] 0,.N 108,.e,.W 104 109,.C 110,.G 111 false,.f 0 9,.P .eql 113 10,.C 114,.G 115 true,.f 2 9,.C 7,.c 97 [117,118] 0,.N 119,.G 111 false,.o (.pick (.t 115) (.t 120) (.c (sb false))),.e,.V 111 121])
(Ci 122 (Rb 0 [.B 6 false])))
(Ra 123 [.A 6 9,.c 70 [123] 2,.b 10 [126,131,133] (.mv (.t 124))]
(Ra 0 [.K 11 0]
(Bl 2 (Sq (Ra 125 [.C 11,.y 10 (.cp (.t 10)),.Z 126,.O .lss 125 127]
(cX 128 2))
(Sq (Bk 3 (Ra 131 [.y 10 (.cp (.t 10)),.C 11,.J 10 1 131 132,.L 133,.f 0 5,.c 97 [134,136] 0,.N 137]
(Ci 138 (Rb 0 [.B 6 false]))))
(Rc 129 [.C 11,.P .add 129 1,.M 11 130])))))))))))
(Rc 30 [.C 8,.P .add 30 1,.M 8 31])))))
(Rb 0 [.B 6 true])))))
def AAU:Gi:=⟨[(12,[5]),(15,[5]),(19,[5]),(32,[5]),(37,[9]),(41,[9]),(46,[9]),(62,[5]),(68,[9]),(72,[9]),(77,[9]),(81,[9]),(83,[3]),(89,[3]),(91,[9]),(101,[9]),(105,[9]),(112,[9]),(116,[9]),(126,[10]),(131,[10]),(133,[10]),(135,[5])]⟩
def AAV:List RV:=[.tmp 6]
namespace AU
def J6:Option Bool:=
some true
def J5 (L1:Int->Option Bool) (b:Int):Option Bool:=
L1 (BE (b+1))
def L2 (L1:Int->Option Bool) (a:Ak) (b:Int) (f:List Int) (L2:Int->Option Bool) (i:Int):Option Bool:=
if decide (i<(f.length:Int))then
(gt f i).bind λab=>
(Cs ab a.CN).bind λy=>
if !y then
some false
else
L2 (BE (i+1))
else
J5 L1 b
def Da (L1:Int->Option Bool) (a:Ak) (b:Int) (f:List Int):Nat->Int->Option Bool
|0,_=>none
|n+1,i=>L2 L1 a b f (Da L1 a b f n) i
def J4 (L1:Int->Option Bool) (a:Ak) (b:Int) (c:AW) (l:Bool):Option Bool:=
if l then
some false
else
(AQ c).bind λf=>
Da L1 a b f Bo 0
def J3 (L1:Int->Option Bool) (a:Ak) (b:Int) (c:AW) (j:Bool):Option Bool:=
if j then
some false
else
if c.Op==5 then
(Cs c.A (a.B3.length:Int)).bind λv=>
if !v then
J4 L1 a b c true
else
if c.Op==10 then
(Cs c.B (a.B3.length:Int)).bind λw=>
J4 L1 a b c (!w)
else
J4 L1 a b c false
else
if c.Op==10 then
(Cs c.B (a.B3.length:Int)).bind λx=>
J4 L1 a b c (!x)
else
J4 L1 a b c false
def J2 (L1:Int->Option Bool) (a:Ak) (b e:Int) (d:AB) (c:AW) (p:Bool):Option Bool:=
if p then
some false
else
if c.Op==28 then
if c.Site != (-1)then
J3 L1 a b c true
else
if c.Op != 28 then
(Cs c.Site (d.BA.length:Int)).bind λt=>
if !t then
J3 L1 a b c true
else
(gt d.BA c.Site).bind λz=>
J3 L1 a b c (z.Thread != e)
else
J3 L1 a b c false
else
if c.Op != 28 then
(Cs c.Site (d.BA.length:Int)).bind λu=>
if !u then
J3 L1 a b c true
else
(gt d.BA c.Site).bind λaa=>
J3 L1 a b c (aa.Thread != e)
else
J3 L1 a b c false
def L1 (a:Ak) (e:Int) (d:AB) (L1:Int->Option Bool) (b:Int):Option Bool:=
if decide (b<(a.B3.length:Int))then
(gt a.B3 b).bind λc=>
if decide (c.Op<1)then
J2 L1 a b e d c true
else
if decide (c.Op>28)then
J2 L1 a b e d c true
else
if !((c.Op==28)==(b==(BE ((a.B3.length:Int)-1))))then
J2 L1 a b e d c true
else
(Ad d c).bind λq=>
if !q then
J2 L1 a b e d c true
else
(Ca a.B3 b).bind λs=>
J2 L1 a b e d c (!s)
else
J6
def Ac (a:Ak) (e:Int) (d:AB):Nat->Int->Option Bool
|0,_=>none
|n+1,b=>L1 a e d (Ac a e d n) b
def J1 (a:Ak) (e:Int) (d:AB) (o:Bool):Option Bool:=
if o then
some false
else
Ac a e d Bo 0
end AU
section
open AU
def AU (d:AB) (e:Int) (a:Ak):Option Bool:=
if decide (a.CN<0)then
J1 a e d true
else
if decide (a.CN>32)then
J1 a e d true
else
J1 a e d ((a.B3.length:Int)==0)
theorem Km {d:AB} {e:Int} {a:Ak} {r:Bool} (h:AU d e a=some r):Says Tryz.prog 64 [.agg (Ap d),si e,.agg (Bq a)] (sb r):=by
 refine wO mix Tryz.func64 (I:=⟨AAT,AAU,AAV⟩) ?_
 simp only[AAT,AAU,AAV]
 have a1:= @Gm
 have a2:= @Kl
 have a3:= @Of
 have a4:= @RH
 have l1:=λn1 n2 n3 n4:Nat=>BM λn τ=>∃(b:Int),(τ 1=si e/\τ 3=bA 6 (Ap d)/\τ 5=bA 2 (Bq a)/\τ 7=si (a.B3.length:Int)/\τ 8=si b)/\Ac a e d n b=some r
 have l2:=λn1 n2 n3 n4:Nat=>BM λn τ=>∃(b:Int) (f:List Int) (i:Int),(τ 1=si e/\τ 3=bA 6 (Ap d)/\τ 5=bA 2 (Bq a)/\τ 7=si (a.B3.length:Int)/\τ 8=si b/\τ 10=vO 1 eI f/\τ 11=si i)/\Da (Ac a e d n1) a b f n i=some r
 have c4:=λn1 n2 n3 n4:Nat=>B7 4 λτ=>∃(b:Int) (c:AW) (l:Bool),(τ 1=si e/\τ 3=bA 6 (Ap d)/\τ 5=bA 2 (Bq a)/\τ 7=si (a.B3.length:Int)/\τ 8=si b/\τ 9=bA 6 (C7 c)/\τ 122=sb l)/\J4 (Ac a e d n1) a b c l=some r
 have c3:=λn1 n2 n3 n4:Nat=>B7 3 λτ=>∃(b:Int) (c:AW) (j:Bool),(τ 1=si e/\τ 3=bA 6 (Ap d)/\τ 5=bA 2 (Bq a)/\τ 7=si (a.B3.length:Int)/\τ 8=si b/\τ 9=bA 6 (C7 c)/\τ 100=sb j)/\J3 (Ac a e d n1) a b c j=some r
 have c2:=λn1 n2 n3 n4:Nat=>B7 2 λτ=>∃(b:Int) (c:AW) (p:Bool),(τ 1=si e/\τ 3=bA 6 (Ap d)/\τ 5=bA 2 (Bq a)/\τ 7=si (a.B3.length:Int)/\τ 8=si b/\τ 9=bA 6 (C7 c)/\τ 67=sb p)/\J2 (Ac a e d n1) a b e d c p=some r
 have c1:=λn1 n2 n3 n4:Nat=>B7 1 λτ=>∃(o:Bool),(τ 1=si e/\τ 3=bA 6 (Ap d)/\τ 5=bA 2 (Bq a)/\τ 7=si (a.B3.length:Int)/\τ 26=sb o)/\J1 a e d o=some r
 unfold AU at h
 exact walk
end
def yL:IC:=(Ra 0 [.b 1 [4,9,12,13,19,25,28] (.bx 7 (.t 0)),.B 2 false]
(Sq (Ra 4 [.F 0 1,.A 6 4,.c 19 [5] 0,.N 6,.C 7,.G 8 false,.f 6 1,.Z 10,.F 0 1,.h 1 4 12,.Z 14,.O .neq 11 15,.e,.V 8 16]
(Ci 17 (Rb 0 [.B 2 false])))
(Sq (Ra 0 [.K 3 0]
(Bl 0 (Sq (Ra 18 [.C 3,.f 6 1,.Z 20,.O .lss 18 21]
(cX 22 0))
(Sq (Bk 1 (Ra 25 [.F 0 1,.A 6 25,.C 3,.f 6 1,.C 3,.I 2 29 30,.A 2 31,.c 64 [26,27,32] 0,.N 33]
(Ci 34 (Rb 0 [.B 2 false]))))
(Rc 23 [.C 3,.P .add 23 1,.M 3 24])))))
(Rb 0 [.B 2 true]))))
def yM:Gi:=⟨[(4,[1]),(9,[1]),(12,[1]),(13,[1]),(19,[1]),(25,[1]),(28,[1])]⟩
def yN:List RV:=[.tmp 2]
namespace CH
def J2:Option Bool:=
some true
def L1 (a:BB) (L1:Int->Option Bool) (b:Int):Option Bool:=
if decide (b<(a.AA.length:Int))then
(gt a.AA b).bind λf=>
(AU a.World b f).bind λe=>
if !e then
some false
else
L1 (BE (b+1))
else
J2
def Ac (a:BB):Nat->Int->Option Bool
|0,_=>none
|n+1,b=>L1 a (Ac a n) b
def J1 (a:BB) (c:Bool):Option Bool:=
if c then
some false
else
Ac a Bo 0
end CH
section
open CH
def CH (a:BB):Option Bool:=
(Ah a.World).bind λd=>
if !d then
J1 a true
else
J1 a ((a.AA.length:Int) != (a.World.AA.length:Int))
theorem IQ {a:BB} {r:Bool} (h:CH a=some r):Says Tryz.prog 36 [.agg (Gp a)] (sb r):=by
 refine wO mix Tryz.func36 (I:=⟨yL,yM,yN⟩) ?_
 simp only[yL,yM,yN]
 have a1:= @Km
 have a2:= @Jq
 have l1:=λn1 n2 n3 n4:Nat=>BM λn τ=>∃(b:Int),(τ 1=bA 7 (Gp a)/\τ 3=si b)/\Ac a n b=some r
 unfold CH at h
 exact walk
end
def zJ:IC:=(Ra 2 [.b 1 [10,23,35] (.bx 6 (.t 0)),.o (.bx 4 (.c (.agg z4)))]
(Ra 8 [.o (.Dc z4 [(1,1,.c (si (-1)))]),.b 3 [16,17,21,29,30,33,45,46,50,51] (.bx 4 (.c (.agg z4))),.S 4 3 8]
(Sq (Ra 0 [.K 4 0]
(Bl 0 (Sq (Ra 9 [.C 4,.f 1 1,.Z 11,.O .lss 9 12]
(cX 13 0))
(Sq (Bk 1 (Rc 16 [.m 3 0 3,.o (.Dc kN [(0,1,.c (si (-1)))]),.o (.Eg 2 [kN] [(0,.t 18)]),.o (.app 2 32 (.t 17) (.t 19)),.F 0 3,.S 1 21 20]))
(Rc 14 [.C 4,.P .add 14 1,.M 4 15])))))
(Sq (Ra 0 [.K 5 0]
(Bl 2 (Sq (Ra 22 [.C 5,.f 3 1,.Z 24,.O .lss 22 25]
(cX 26 2))
(Sq (Bk 3 (Rc 29 [.m 3 2 3,.o (.Eg 1 [[sb false]] [(0,.c (sb false))]),.o (.app 1 1 (.t 30) (.t 31)),.F 2 3,.S 1 33 32]))
(Rc 27 [.C 5,.P .add 27 1,.M 5 28])))))
(Sq (Ra 0 [.K 6 0]
(Bl 4 (Sq (Ra 34 [.C 6,.f 4 1,.Z 36,.O .lss 34 37]
(cX 38 4))
(Sq (Bk 5 (Ra 41 [.o (.Dc fD [(0,1,.c (si 0))]),.b 7 [44] (.bx 3 (.c (.agg fD))),.S 3 7 41]
(Sq (Ra 42 [.C 6,.Q 42 0]
(Ci 43 (Rc 44 [.F 0 7,.T 44 1])))
(Rc 45 [.m 3 3 3,.A 3 7,.o (.Eg 3 [fD] [(0,.t 47)]),.o (.app 3 24 (.t 46) (.t 48)),.F 3 3,.S 1 50 49]))))
(Rc 39 [.C 6,.P .add 39 1,.M 6 40])))))
(Rb 51 [.y 3 (.ld true 4 (.t 3)),.S 4 2 51]))))))
def zK:Gi:=⟨[(10,[1]),(16,[3]),(17,[3]),(21,[3]),(23,[1]),(29,[3]),(30,[3]),(33,[3]),(35,[1]),(44,[7]),(45,[3]),(46,[3]),(50,[3]),(51,[3])]⟩
def zL:List RV:=[.cell 2 true 4]
namespace Bj
def J4 (o:AO):Option AO:=
some o
def J3 (L3:AO->Int->Option AO) (c:Int) (b:AO) (p:AD):Option AO:=
if Aq (b.AA.length+1) 24=true then
L3 (AO.mk b.AG b.Tx b.Ce (b.AA++[p])) (BE (c+1))
else none
def L3 (a:AB) (L3:AO->Int->Option AO) (b:AO) (c:Int):Option AO:=
if decide (c<(a.AA.length:Int))then
if c==0 then
J3 L3 c b (AD.mk 1 0 false)
else
J3 L3 c b (AD.mk 0 0 false)
else
J4 b
def Gx (a:AB):Nat->AO->Int->Option AO
|0,_,_=>none
|n+1,b,c=>L3 a (Gx a n) b c
def J2 (a:AB) (l:AO):Option AO:=
Gx a Bo l 0
def L2 (a:AB) (L2:AO->Int->Option AO) (e:AO) (i:Int):Option AO:=
if decide (i<(a.AH.length:Int))then
if Aq (e.Ce.length+1) 1=true then
L2 (AO.mk e.AG e.Tx (e.Ce++[false]) e.AA) (BE (i+1))
else none
else
J2 a e
def Da (a:AB):Nat->AO->Int->Option AO
|0,_,_=>none
|n+1,e,i=>L2 a (Da a n) e i
def J1 (a:AB) (j:AO):Option AO:=
Da a Bo j 0
def L1 (a:AB) (L1:AO->Int->Option AO) (d:AO) (f:Int):Option AO:=
if decide (f<(a.AG.length:Int))then
if Aq (d.AG.length+1) 32=true then
L1 (AO.mk (d.AG++[(AY.mk (-1) [])]) d.Tx d.Ce d.AA) (BE (f+1))
else none
else
J1 a d
def Ac (a:AB):Nat->AO->Int->Option AO
|0,_,_=>none
|n+1,d,f=>L1 a (Ac a n) d f
end Bj
section
open Bj
def Bj (a:AB):Option AO:=
Ac a Bo (AO.mk [] (-1) [] []) 0
theorem O5 {a:AB} {r:AO} (h:Bj a=some r):Says Tryz.prog 44 [.agg (Ap a)] (.agg (FK r)):=by
 refine wO mix Tryz.func44 (I:=⟨zJ,zK,zL⟩) ?_
 simp only[zJ,zK,zL]
 have l3:=λn1 n2 n3 n4:Nat=>BM λn τ=>∃(b:AO) (c:Int),(τ 1=bA 6 (Ap a)/\τ 2=bA 4 z4/\τ 3=bA 4 (FK b)/\τ 6=si c)/\Gx a n b c=some r
 have l2:=λn1 n2 n3 n4:Nat=>BM λn τ=>∃(e:AO) (i:Int),(τ 1=bA 6 (Ap a)/\τ 2=bA 4 z4/\τ 3=bA 4 (FK e)/\τ 5=si i)/\Da a n e i=some r
 have l1:=λn1 n2 n3 n4:Nat=>BM λn τ=>∃(d:AO) (f:Int),(τ 1=bA 6 (Ap a)/\τ 2=bA 4 z4/\τ 3=bA 4 (FK d)/\τ 4=si f)/\Ac a n d f=some r
 unfold Bj at h
 exact walk
end
def yR:IC:=(Ra 2 [.b 1 [11,16,17,25,26,36,37,49,57,64] (.bx 7 (.t 0)),.o (.bx 7 (.c (.agg z2)))]
(Sq (Ra 7 [.A 7 1,.c 36 [7] 0,.N 8]
(Ci 9 (Rb 10 [.o (.Dc z2 []),.S 7 2 10])))
(Ra 11 [.F 0 1,.A 6 11,.c 44 [12] 2,.o (.Dc z2 [(0,4,.t 13)]),.b 3 [23,24,34,43,44,47,55,56,74,75] (.bx 7 (.c (.agg z2))),.S 7 3 14]
(Sq (Ra 0 [.K 4 0]
(Bl 0 (Sq (Ra 15 [.C 4,.F 0 1,.h 1 0 16,.Z 18,.O .lss 15 19]
(cX 20 0))
(Sq (Bk 1 (Rc 23 [.m 3 4 3,.F 0 1,.h 1 0 25,.C 4,.I 5 27 28,.U 4 29,.o (.Eg 1 [[si 0]] [(0,.t 31)]),.o (.app 1 8 (.t 24) (.t 32)),.F 4 3,.S 1 34 33]))
(Rc 21 [.C 4,.P .add 21 1,.M 4 22])))))
(Sq (Ra 0 [.K 5 0]
(Bl 2 (Sq (Ra 35 [.C 5,.F 0 1,.h 1 3 36,.Z 38,.O .lss 35 39]
(cX 40 2))
(Sq (Bk 3 (Rc 43 [.m 3 5 3,.o (.Eg 1 [[si 0]] [(0,.c (si 0))]),.o (.app 1 8 (.t 44) (.t 45)),.F 5 3,.S 1 47 46]))
(Rc 41 [.C 5,.P .add 41 1,.M 5 42])))))
(Sq (Ra 0 [.K 6 0]
(Bl 4 (Sq (Ra 48 [.C 6,.f 6 1,.Z 50,.O .lss 48 51]
(cX 52 4))
(Sq (Bk 5 (Rc 55 [.m 3 6 3,.f 6 1,.C 6,.I 2 58 59,.U 0 60,.o (.mk 1 8 [si 0] (.t 62) (.t 62)),.f 6 1,.C 6,.I 2 65 66,.U 0 67,.o (.mk 1 24 [.sl false 1 []] (.t 69) (.t 69)),.o (.Dc z6 [(1,1,.t 63),(2,1,.t 70)]),.o (.Eg 4 [z6] [(0,.t 71)]),.o (.app 4 64 (.t 56) (.t 72)),.F 6 3,.S 1 74 73]))
(Rc 53 [.C 6,.P .add 53 1,.M 6 54])))))
(Rb 75 [.y 3 (.ld true 7 (.t 3)),.S 7 2 75])))))))
def yS:Gi:=⟨[(11,[1]),(16,[1]),(17,[1]),(23,[3]),(24,[3]),(25,[1]),(26,[1]),(34,[3]),(36,[1]),(37,[1]),(43,[3]),(44,[3]),(47,[3]),(49,[1]),(55,[3]),(56,[3]),(57,[1]),(64,[1]),(74,[3]),(75,[3])]⟩
def yT:List RV:=[.cell 2 true 7]
namespace B6
def J3 (p:AZ):Option AZ:=
some p
def L3 (a:BB) (L3:AZ->Int->Option AZ) (d:AZ) (i:Int):Option AZ:=
if decide (i<(a.AA.length:Int))then
(gt a.AA i).bind λe=>
if 0≤e.CN/\e.CN≤e.CN/\Aq e.CN.toNat 8=true then
if 0≤e.CN/\e.CN≤e.CN/\Aq e.CN.toNat 24=true then
if Aq (d.AA.length+1) 64=true then
L3 (AZ.mk d.Sync d.Cells d.AH (d.AA++[(AE.mk 0 (List.replicate e.CN.toNat 0) (List.replicate e.CN.toNat []) 0)])) (BE (i+1))
else none
else none
else none
else
J3 d
def Gx (a:BB):Nat->AZ->Int->Option AZ
|0,_,_=>none
|n+1,d,i=>L3 a (Gx a n) d i
def J2 (a:BB) (o:AZ):Option AZ:=
Gx a Bo o 0
def L2 (a:BB) (L2:AZ->Int->Option AZ) (c:AZ) (j:Int):Option AZ:=
if decide (j<(a.World.AH.length:Int))then
if Aq (c.AH.length+1) 8=true then
L2 (AZ.mk c.Sync c.Cells (c.AH++[0]) c.AA) (BE (j+1))
else none
else
J2 a c
def Da (a:BB):Nat->AZ->Int->Option AZ
|0,_,_=>none
|n+1,c,j=>L2 a (Da a n) c j
def J1 (a:BB) (l:AZ):Option AZ:=
Da a Bo l 0
def L1 (a:BB) (L1:AZ->Int->Option AZ) (b:AZ) (f:Int):Option AZ:=
if decide (f<(a.World.Cells.length:Int))then
(gt a.World.Cells f).bind λt=>
if Aq (b.Cells.length+1) 8=true then
L1 (AZ.mk b.Sync (b.Cells++[t.Init]) b.AH b.AA) (BE (f+1))
else none
else
J1 a b
def Ac (a:BB):Nat->AZ->Int->Option AZ
|0,_,_=>none
|n+1,b,f=>L1 a (Ac a n) b f
end B6
section
open B6
def B6 (a:BB):Option AZ:=
(CH a).bind λq=>
if !q then
some (AZ.mk (AO.mk [] 0 [] []) [] [] [])
else
(Bj a.World).bind λs=>
Ac a Bo (AZ.mk s [] [] []) 0
theorem RM {a:BB} {r:AZ} (h:B6 a=some r):Says Tryz.prog 38 [.agg (Gp a)] (.agg (IZ r)):=by
 refine wO mix Tryz.func38 (I:=⟨yR,yS,yT⟩) ?_
 simp only[yR,yS,yT]
 have a1:= @IQ
 have a2:= @O5
 have l3:=λn1 n2 n3 n4:Nat=>BM λn τ=>∃(d:AZ) (i:Int),(τ 1=bA 7 (Gp a)/\τ 2=bA 7 z2/\τ 3=bA 7 (IZ d)/\τ 6=si i)/\Gx a n d i=some r
 have l2:=λn1 n2 n3 n4:Nat=>BM λn τ=>∃(c:AZ) (j:Int),(τ 1=bA 7 (Gp a)/\τ 2=bA 7 z2/\τ 3=bA 7 (IZ c)/\τ 5=si j)/\Da a n c j=some r
 have l1:=λn1 n2 n3 n4:Nat=>BM λn τ=>∃(b:AZ) (f:Int),(τ 1=bA 7 (Gp a)/\τ 2=bA 7 z2/\τ 3=bA 7 (IZ b)/\τ 4=si f)/\Ac a n b f=some r
 unfold B6 at h
 exact walk
end
def ABC:IC:=(Ra 0 [.b 2 [7,13,21,27,35,43,52] (.bx 6 (.t 0)),.b 3 [32,40,49] (.bx 4 (.t 1)),.B 4 false]
(Sq (Ra 0 [.K 5 0]
(Bl 0 (Sq (Ra 6 [.C 5,.f 2 2,.Z 8,.O .lss 6 9]
(cX 10 0))
(Sq (Bk 1 (Ra 13 [.f 2 2,.C 5,.I 2 14 15,.U 1 16,.P .lss 18 0,.C 19,.G 20 false,.f 2 2,.C 5,.I 2 22 23,.U 1 24,.f 1 2,.Z 28,.O .geq 26 29,.e,.V 20 30]
(Ci 31 (Rb 0 [.B 4 false]))))
(Rc 11 [.C 5,.P .add 11 1,.M 5 12])))))
(Rb 32 [.f 0 3,.Z 33,.f 1 2,.Z 36,.O .eql 34 37,.C 38,.G 39 true,.f 2 3,.Z 41,.f 3 2,.Z 44,.O .eql 42 45,.e,.W 39 46,.C 47,.G 48 true,.f 3 3,.Z 50,.f 4 2,.Z 53,.O .eql 51 54,.e,.W 48 55,.M 4 56])))
def ABD:Gi:=⟨[(7,[2]),(13,[2]),(21,[2]),(27,[2]),(32,[3]),(35,[2]),(40,[3]),(43,[2]),(49,[3]),(52,[2])]⟩
def ABE:List RV:=[.tmp 4]
namespace Dd
def J3 (f:Bool):Option Bool:=
some f
def J2 (b:AO) (a:AB):Option Bool:=
if(b.AG.length:Int)==(a.AG.length:Int)then
if(b.Ce.length:Int)==(a.AH.length:Int)then
J3 ((b.AA.length:Int)==(a.AA.length:Int))
else
J3 false
else
J3 false
def J1 (L1:Int->Option Bool) (c:Int) (e:Bool):Option Bool:=
if e then
some false
else
L1 (BE (c+1))
def L1 (b:AO) (a:AB) (L1:Int->Option Bool) (c:Int):Option Bool:=
if decide (c<(a.Au.length:Int))then
(gt a.Au c).bind λd=>
if decide (d.Mutex<0)then
J1 L1 c true
else
J1 L1 c (decide (d.Mutex≥(a.AG.length:Int)))
else
J2 b a
def Ac (b:AO) (a:AB):Nat->Int->Option Bool
|0,_=>none
|n+1,c=>L1 b a (Ac b a n) c
end Dd
section
open Dd
def Dd (a:AB) (b:AO):Option Bool:=
Ac b a Bo 0
theorem K2 {a:AB} {b:AO} {r:Bool} (h:Dd a b=some r):Says Tryz.prog 79 [.agg (Ap a),.agg (GZ b)] (sb r):=by
 refine wO mix Tryz.func79 (I:=⟨ABC,ABD,ABE⟩) ?_
 simp only[ABC,ABD,ABE]
 have l1:=λn1 n2 n3 n4:Nat=>BM λn τ=>∃(c:Int),(τ 2=bA 6 (Ap a)/\τ 3=bA 4 (GZ b)/\τ 5=si c)/\Ac b a n c=some r
 unfold Dd at h
 exact walk
end
def mL:IC:=(Ra 0 [.b 2 [11,22,23,32,33,42,48,65,78,90] (.bx 7 (.t 0)),.b 3 [13,19,29,39,54] (.bx 7 (.t 1)),.B 4 false]
(Sq (Bw 1 (Rc 7 [.A 7 2,.c 36 [7] 0,.N 8,.C 9,.G 10 false,.F 0 2,.o (.ld true 6 (.t 11)),.F 0 3,.o (.ld true 4 (.t 13)),.c 79 [12,14] 0,.N 15,.e,.V 10 16,.C 17,.G 18 false,.f 4 3,.Z 20,.F 0 2,.h 2 0 22,.Z 24,.O .neq 21 25,.e,.V 18 26,.C 27,.G 28 false,.f 5 3,.Z 30,.F 0 2,.h 2 3 32,.Z 34,.O .neq 31 35,.e,.V 28 36,.C 37,.G 38 false,.f 6 3,.Z 40,.f 6 2,.Z 43,.O .neq 41 44,.e,.V 38 45])
(Ci 46 (Rb 0 [.B 4 false])))
(Sq (Ra 0 [.K 5 0]
(Bl 0 (Sq (Ra 47 [.C 5,.f 6 2,.Z 49,.O .lss 47 50]
(cX 51 0))
(Sq (Bk 1 (Ra 54 [.f 6 3,.C 5,.I 4 55 56,.A 4 57,.b 6 [59,63,75,87] (.bx 4 (.c (.agg z6))),.S 4 6 58]
(Ra 59 [.f 0 6,.P .lss 60 0,.C 61,.G 62 false,.f 0 6,.f 6 2,.C 5,.I 2 66 67,.U 1 68,.Z 70,.O .geq 64 71,.e,.V 62 72,.C 73,.G 74 false,.f 1 6,.Z 76,.f 6 2,.C 5,.I 2 79 80,.U 0 81,.O .neq 77 83,.e,.V 74 84,.C 85,.G 86 false,.f 2 6,.Z 88,.f 6 2,.C 5,.I 2 91 92,.U 0 93,.O .neq 89 95,.e,.V 86 96]
(Ci 97 (Rb 0 [.B 4 false])))))
(Rc 52 [.C 5,.P .add 52 1,.M 5 53])))))
(Rb 0 [.B 4 true]))))
def mM:Gi:=⟨[(11,[2]),(13,[3]),(19,[3]),(22,[2]),(23,[2]),(29,[3]),(32,[2]),(33,[2]),(39,[3]),(42,[2]),(48,[2]),(54,[3]),(59,[6]),(63,[6]),(65,[2]),(75,[6]),(78,[2]),(87,[6]),(90,[2])]⟩
def mN:List RV:=[.tmp 4]
namespace DW
def J3:Option Bool:=
some true
def J2 (L1:Int->Option Bool) (c:Int) (i:Bool):Option Bool:=
if i then
some false
else
L1 (BE (c+1))
def L1 (a:BB) (b:AZ) (L1:Int->Option Bool) (c:Int):Option Bool:=
if decide (c<(a.AA.length:Int))then
(gt b.AA c).bind λe=>
if decide (e.PC<0)then
J2 L1 c true
else
(gt a.AA c).bind λf=>
if decide (e.PC≥(f.B3.length:Int))then
J2 L1 c true
else
if(e.CN.length:Int) != f.CN then
J2 L1 c true
else
J2 L1 c ((e.Bt.length:Int) != f.CN)
else
J3
def Ac (a:BB) (b:AZ):Nat->Int->Option Bool
|0,_=>none
|n+1,c=>L1 a b (Ac a b n) c
def J1 (a:BB) (b:AZ) (d:Bool):Option Bool:=
if d then
some false
else
Ac a b Bo 0
end DW
section
open DW
def DW (a:BB) (b:AZ):Option Bool:=
(CH a).bind λj=>
if !j then
J1 a b true
else
(Dd a.World b.Sync).bind λl=>
if !l then
J1 a b true
else
if(b.Cells.length:Int) != (a.World.Cells.length:Int)then
J1 a b true
else
if(b.AH.length:Int) != (a.World.AH.length:Int)then
J1 a b true
else
J1 a b ((b.AA.length:Int) != (a.AA.length:Int))
theorem SP {a:BB} {b:AZ} {r:Bool} (h:DW a b=some r):Says Tryz.prog 127 [.agg (Gp a),.agg (HM b)] (sb r):=by
 refine wO mix Tryz.func127 (I:=⟨mL,mM,mN⟩) ?_
 simp only[mL,mM,mN]
 have a1:= @IQ
 have a2:= @K2
 have l1:=λn1 n2 n3 n4:Nat=>BM λn τ=>∃(c:Int),(τ 2=bA 7 (Gp a)/\τ 3=bA 7 (HM b)/\τ 5=si c)/\Ac a b n c=some r
 have c1:=λn1 n2 n3 n4:Nat=>B7 1 λτ=>∃(d:Bool),(τ 2=bA 7 (Gp a)/\τ 3=bA 7 (HM b)/\τ 46=sb d)/\J1 a b d=some r
 unfold DW at h
 exact walk
end
def mO:IC:=(Ra 0 [.K 2 0]
(Ra 4 [.o (.Eg 1 [[si 0],[si 0],[si 0],[si 0],[si 0],[si 0],[si 0],[si 0],[si 0],[si 0],[si 0],[si 0],[si 0],[si 0],[si 0],[si 0],[si 0],[si 0],[si 0],[si 0],[si 0],[si 0],[si 0]] [(0,.c (si 3)),(1,.c (si 3)),(2,.c (si 4)),(3,.c (si 4)),(4,.c (si 5)),(5,.c (si 6)),(6,.c (si 7)),(7,.c (si 8)),(8,.c (si 9)),(9,.c (si 10)),(10,.c (si 11)),(11,.c (si 12)),(12,.c (si 13)),(13,.c (si 14)),(14,.c (si 15)),(15,.c (si 16)),(16,.c (si 18)),(17,.c (si 19)),(18,.c (si 20)),(19,.c (si 21)),(20,.c (si 22)),(21,.c (si 23)),(22,.c (si 2))]),.b 3 [11,14] (.mv (.t 4))]
(Sq (Ra 5 [.C 0,.P .lss 5 6,.C 6,.G 7 false,.C 0,.P .gtr 8 28,.e,.V 7 9]
(Ci 10 (Rb 0 [.K 2 0])))
(Rb 11 [.y 3 (.cp (.t 3)),.C 0,.P .sub 12 6,.J 3 1 11 13,.L 14,.M 2 15]))))
def mP:Gi:=⟨[(11,[3]),(14,[3])]⟩
def mQ:List RV:=[.tmp 2]
namespace FN
def J1 (a:Int) (b:Bool):Option Int:=
if b then
some 0
else
(gt [3,3,4,4,5,6,7,8,9,10,11,12,13,14,15,16,18,19,20,21,22,23,2] (BE (a-6))).bind λc=>
some c
end FN
section
open FN
def FN (a:Int):Option Int:=
if decide (a<6)then
J1 a true
else
J1 a (decide (a>28))
theorem SS {a r:Int} (h:FN a=some r):Says Tryz.prog 128 [si a] (si r):=by
 refine wO mix Tryz.func128 (I:=⟨mO,mP,mQ⟩) ?_
 simp only[mO,mP,mQ]
 unfold FN at h
 exact walk
end
def oY:IC:=(Ra 0 [.K 4 0]
(Sq (Ra 6 [.C 1,.P .lss 6 1]
(Ci 7 (Rb 0 [.K 4 0])))
(Ra 8 [.C 0,.C 1,.O .rem 8 9,.M 5 10]
(Sq (Ra 11 [.C 5,.P .lss 11 0]
(Ci 12 (Rc 13 [.C 5,.C 1,.O .add 13 14,.M 5 15])))
(Rb 16 [.C 5,.M 4 16])))))
def oZ:Gi:=⟨[]⟩
def o0:List RV:=[.tmp 4]
namespace EW
def J1 (c:Int):Option Int:=
some c
end EW
section
open EW
def EW (b a:Int):Option Int:=
if decide (a<1)then
some 0
else
if¬a=0 then
if decide ((b.tmod a)<0)then
J1 (BE ((b.tmod a)+a))
else
J1 (b.tmod a)
else none
theorem RD {b a r:Int} (h:EW b a=some r):Says Tryz.prog 153 [si b,si a] (si r):=by
 refine wO mix Tryz.func153 (I:=⟨oY,oZ,o0⟩) ?_
 simp only[oY,oZ,o0]
 unfold EW at h
 exact walk
end
def mR:IC:=(Ra 0 [.b 2 [5,10,14,18,22,28,32,36,47] (.bx 6 (.t 0)),.b 3 [16,30] (.bx 4 (.t 1)),.K 4 0]
(Sq (Ra 5 [.f 0 2]
(Bk 0 (Bw 1 (Ra 8 [.q 6 6 7]
(Cn 7 .skip (Rc 9 [.q 6 27 7])))
(Cn 7 (Rb 10 [.f 2 2,.M 4 11]) (Ra 13 [.q 6 7 12]
(Cn 12 (Rb 14 [.f 2 2,.f 1 3,.f 3 2,.I 1 17 19,.L 20,.f 4 2,.c 153 [21,23] 0,.O .add 15 24,.M 4 25]) (Ra 27 [.q 6 9 26]
(Cn 26 (Rb 28 [.f 1 2,.f 1 3,.f 3 2,.I 1 31 33,.L 34,.f 4 2,.c 153 [35,37] 0,.O .add 29 38,.M 4 39]) (Bw 2 (Ra 41 [.q 6 10 40]
(Cn 40 .skip (Ra 42 [.q 6 17 40]
(Cn 40 .skip (Ra 43 [.q 6 18 40]
(Cn 40 .skip (Ra 44 [.q 6 19 40]
(Cn 40 .skip (Ra 45 [.q 6 20 40]
(Cn 40 .skip (Rc 46 [.q 6 28 40])))))))))))
(Ci 40 (Rb 0 [.K 4 (-1)])))))))))))
(Rb 47 [.f 1 2,.M 4 48])))
def mS:Gi:=⟨[(5,[2]),(10,[2]),(14,[2]),(16,[3]),(18,[2]),(22,[2]),(28,[2]),(30,[3]),(32,[2]),(36,[2]),(47,[2])]⟩
def mT:List RV:=[.tmp 4]
namespace Dt
def J2 (a:AW) (c:Bool):Option Int:=
if c then
some (-1)
else
some a.A
def J1 (a:AW) (b:AE) (d:Bool):Option Int:=
if d then
some a.B
else
if a.Op==7 then
(gt b.CN a.C).bind λi=>
(EW i a.N).bind λe=>
some (BE (a.B+e))
else
if a.Op==9 then
(gt b.CN a.C).bind λj=>
(EW j a.N).bind λf=>
some (BE (a.A+f))
else
if a.Op==10 then
J2 a (a.Op==10)
else
if a.Op==17 then
J2 a (a.Op==17)
else
if a.Op==18 then
J2 a (a.Op==18)
else
if a.Op==19 then
J2 a (a.Op==19)
else
if a.Op==20 then
J2 a (a.Op==20)
else
J2 a (a.Op==28)
end Dt
section
open Dt
def Dt (a:AW) (b:AE):Option Int:=
if a.Op==6 then
J1 a b (a.Op==6)
else
J1 a b (a.Op==27)
theorem Pj {a:AW} {b:AE} {r:Int} (h:Dt a b=some r):Says Tryz.prog 129 [.agg (C7 a),.agg (Dh b)] (si r):=by
 refine wO mix Tryz.func129 (I:=⟨mR,mS,mT⟩) ?_
 simp only[mR,mS,mT]
 have a1:= @RD
 have c2:=λn1 n2 n3 n4:Nat=>B7 2 λτ=>∃(c:Bool),(τ 2=bA 6 (C7 a)/\τ 40=sb c)/\J2 a c=some r
 have c1:=λn1 n2 n3 n4:Nat=>B7 1 λτ=>∃(d:Bool),(τ 2=bA 6 (C7 a)/\τ 3=bA 4 (Dh b)/\τ 6=si a.Op/\τ 7=sb d)/\J1 a b d=some r
 unfold Dt at h
 exact walk
end
def ABy:IC:=(Ra 6 [.b 3 [21,32] (.bx 7 (.t 0)),.b 4 [27,46,47,60,61] (.bx 7 (.t 1)),.o (.bx 7 (.c (.agg z3))),.B 7 false]
(Sq (Bw 1 (Rc 11 [.A 7 3,.A 7 4,.c 127 [11,12] 0,.N 13,.C 14,.G 15 false,.C 2,.P .lss 16 0,.e,.V 15 17,.C 18,.G 19 false,.C 2,.f 6 3,.Z 22,.O .geq 20 23,.e,.V 19 24])
(Ci 25 (Rb 26 [.o (.Dc z3 []),.S 7 6 26,.B 7 false])))
(Ra 27 [.f 6 4,.C 2,.I 4 28 29,.A 4 30,.b 8 [38,90,103,126] (.bx 4 (.c (.agg z6))),.S 4 8 31]
(Ra 32 [.f 6 3,.C 2,.I 2 33 34,.U 1 35,.f 0 8,.I 6 37 39,.A 6 40,.b 9 [43,72,84,92,105,111,115,120,128] (.bx 6 (.c (.agg z9))),.S 6 9 41]
(Ra 42 [.C 2,.f 5 9,.o (.Dc z3 [(0,1,.t 42),(4,1,.t 44)]),.b 10 [67,68,69,78,79,80,88,89,97,101,102,110,124,125,133,134] (.bx 7 (.c (.agg z3))),.S 7 10 45]
(Sq (Ra 46 [.F 0 4,.h 4 3 46,.C 2,.I 3 48 49,.U 0 50]
(Bk 0 (Ra 55 [.q 52 1 54]
(Cn 54 (Rb 56 [.C 2,.o (.Dc z3 [(0,1,.t 56),(1,1,.c (si 1)),(2,1,.c (si (-1))),(4,1,.c (si (-1)))]),.S 7 6 57,.B 7 true]) (Ra 59 [.q 52 4 58]
(Cn 58 (Ra 60 [.F 0 4,.h 4 3 60,.C 2,.I 3 62 63,.U 1 64,.F 1 10,.x ⟨none,.P1 (.t 67) (.c (si 17)),none⟩,.F 2 10,.x ⟨none,.P1 (.t 68) (.t 66),none⟩]
(Rb 69 [.y 10 (.ld true 7 (.t 10)),.S 7 6 69,.B 7 true])) (Ra 71 [.q 52 2 70]
(Cn 70 .skip (Rb 53 [.o (.Dc z3 []),.S 7 6 53,.B 7 false])))))))))
(Ra 72 [.f 0 9,.c 128 [73] 0,.A 6 9,.A 4 8,.c 129 [75,76] 0,.F 1 10,.x ⟨none,.P1 (.t 78) (.t 74),none⟩,.F 2 10,.x ⟨none,.P1 (.t 79) (.t 77),none⟩]
(Sq (Ra 80 [.f 1 10,.Q 81 0]
(Ci 82 (Rb 83 [.o (.Dc z3 []),.S 7 6 83,.B 7 false])))
(Bw 3 (Ra 84 [.f 0 9]
(Bk 1 (Ra 87 [.q 85 10 86]
(Cn 86 (Rc 88 [.m 10 5 10,.f 2 8,.f 1 9,.I 1 91 93,.L 94,.o (.app 1 8 (.t 89) (.t 95)),.F 5 10,.S 1 97 96]) (Sq (Ra 99 [.q 85 7 98]
(Cn 98 .skip (Rc 100 [.q 85 9 98])))
(Ci 98 (Rc 101 [.m 10 5 10,.f 2 8,.f 3 9,.I 1 104 106,.L 107,.o (.app 1 8 (.t 102) (.t 108)),.F 5 10,.S 1 110 109])))))))
(Sq (Ra 111 [.f 0 9,.Q 112 8,.C 113,.G 114 false,.f 0 9,.P .eql 116 9,.e,.V 114 117,.C 118,.G 119 false,.f 0 9,.P .eql 121 26,.e,.V 119 122]
(Ci 123 (Rc 124 [.m 10 6 10,.f 2 8,.f 2 9,.I 1 127 129,.L 130,.o (.app 1 8 (.t 125) (.t 131)),.F 6 10,.S 1 133 132])))
(Rb 134 [.y 10 (.ld true 7 (.t 10)),.S 7 6 134,.B 7 true])))))))))))
def ABz:Gi:=⟨[(21,[3]),(27,[4]),(32,[3]),(38,[8]),(43,[9]),(46,[4]),(47,[4]),(60,[4]),(61,[4]),(67,[10]),(68,[10]),(69,[10]),(72,[9]),(78,[10]),(79,[10]),(80,[10]),(84,[9]),(88,[10]),(89,[10]),(90,[8]),(92,[9]),(97,[10]),(101,[10]),(102,[10]),(103,[8]),(105,[9]),(110,[10]),(111,[9]),(115,[9]),(120,[9]),(124,[10]),(125,[10]),(126,[8]),(128,[9]),(133,[10]),(134,[10])]⟩
def AB0:List RV:=[.cell 6 true 7,.tmp 7]
namespace Br
def J5 (t:AN):Option (AN×Bool):=
some (t,true)
def J4 (d:AN) (c:AE) (a:AW) (u:Bool):Option (AN×Bool):=
if u then
(gt c.Bt a.B).bind λs=>
if Aq (d.Db.length+s.length) 8=true then
J5 (AN.mk d.Thread d.Kind d.Obj d.Value d.Site d.Dy (d.Db++s))
else none
else
J5 d
def J3 (c:AE) (a:AW) (d:AN):Option (AN×Bool):=
if a.Op==8 then
J4 d c a true
else
if a.Op==9 then
J4 d c a true
else
J4 d c a (a.Op==26)
def J2 (b i j:Int) (c:AE) (a:AW) (v:Bool):Option (AN×Bool):=
if v then
(gt c.Bt a.C).bind λq=>
if Aq (q.length) 8=true then
J3 c a (AN.mk b i j 0 a.Site q [])
else none
else
J3 c a (AN.mk b i j 0 a.Site [] [])
def J1 (e:BB) (f:AZ) (b:Int) (l:Bool):Option (AN×Bool):=
if l then
some ((AN.mk 0 0 0 0 0 [] []),false)
else
(gt f.AA b).bind λc=>
(gt e.AA b).bind λx=>
(gt x.B3 c.PC).bind λa=>
(gt f.Sync.AA b).bind λo=>
if o.Status==1 then
some ((AN.mk b 1 (-1) 0 (-1) [] []),true)
else
if o.Status==4 then
some ((AN.mk b 17 o.Ef 0 a.Site [] []),true)
else
if o.Status==2 then
(FN a.Op).bind λi=>
(Dt a c).bind λj=>
if i==0 then
some ((AN.mk 0 0 0 0 0 [] []),false)
else
if a.Op==10 then
(gt c.Bt a.A).bind λp=>
if Aq (p.length) 8=true then
J3 c a (AN.mk b i j 0 a.Site p [])
else none
else
if a.Op==7 then
J2 b i j c a (a.Op==7)
else
J2 b i j c a (a.Op==9)
else
some ((AN.mk 0 0 0 0 0 [] []),false)
end Br
section
open Br
def Br (e:BB) (f:AZ) (b:Int):Option (AN×Bool):=
(DW e f).bind λw=>
if !w then
J1 e f b true
else
if decide (b<0)then
J1 e f b true
else
J1 e f b (decide (b≥(e.AA.length:Int)))
theorem Oh {e:BB} {f:AZ} {b:Int} {r:AN×Bool} (h:Br e f b=some r):Says Tryz.prog 98 [.agg (Gp e),.agg (HM f),si b] (.A9 [.agg (Ln r.1),sb r.2]):=by
 refine wO mix Tryz.func98 (I:=⟨ABy,ABz,AB0⟩) ?_
 simp only[ABy,ABz,AB0]
 have a1:= @SS
 have a2:= @Pj
 have a3:= @SP
 have c3:=λn1 n2 n3 n4:Nat=>B7 3 λτ=>∃(c:AE) (a:AW) (d:AN),(τ 6=bA 7 z3/\τ 8=bA 4 (Dh c)/\τ 9=bA 6 (C7 a)/\τ 10=bA 7 (Ln d))/\J3 c a d=some r
 have c1:=λn1 n2 n3 n4:Nat=>B7 1 λτ=>∃(l:Bool),(τ 2=si b/\τ 3=bA 7 (Gp e)/\τ 4=bA 7 (HM f)/\τ 6=bA 7 z3/\τ 25=sb l)/\J1 e f b l=some r
 unfold Br at h
 exact walk
end
def ABF:IC:=(Ra 0 [.B 4 false]
(Rb 5 [.C 0,.P .geq 5 0,.C 6,.G 7 true,.C 0,.C 1,.O .lss 8 9,.e,.W 7 10,.M 4 11]))
def ABG:Gi:=⟨[]⟩
def ABH:List RV:=[.tmp 4]
namespace E4
def J1 (c:Bool):Option Bool:=
some c
end E4
section
open E4
def E4 (a b:Int):Option Bool:=
if decide (a≥0)then
J1 (decide (a<b))
else
J1 false
theorem O6 {a b:Int} {r:Bool} (h:E4 a b=some r):Says Tryz.prog 80 [si a,si b] (sb r):=by
 refine wO mix Tryz.func80 (I:=⟨ABF,ABG,ABH⟩) ?_
 simp only[ABF,ABG,ABH]
 unfold E4 at h
 exact walk
end
end Go.Abs
