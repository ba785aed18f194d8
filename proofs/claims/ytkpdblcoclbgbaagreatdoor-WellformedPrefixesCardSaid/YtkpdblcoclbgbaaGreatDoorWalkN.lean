/- Typed programs of Go functions, and that the functions do what these say. -/
import Derived.Test.YtkpdblcoclbgbaaGreatDoorBaseA
import Derived.Test.YtkpdblcoclbgbaaGreatDoorWalkJ
import Derived.Test.YtkpdblcoclbgbaaGreatDoorWalkM
import Derived.Test.YtkpdblcoclbgbaaGreatDoorWalkC
import Derived.Shelf.Slices.SearchI
set_option linter.unusedSimpArgs false
set_option linter.unusedVariables false
namespace Go.Abs
open Go.Proofs
set_option maxRecDepth 100000
set_option maxHeartbeats 4000000
def wT:IC:=(Ra 2 [.o (.bx 7 (.c (.agg z7)))]
(Ra 7 [.C 0,.c 40 [7] 1,.c 39 [8] 1,.w 6,.C 9,.w 10,.o (.ext (.t 6) 0),.o (.ext (.t 6) 1),.o (.ext (.t 6) 2),.w 3,.o (.bx 7 (.c (.agg z7))),.S 7 3 10,.M 4 11,.M 5 12]
(Rb 13 [.A 7 3,.S 7 2 13])))
def wU:Gi:=⟨[]⟩
def wV:List RV:=[.cell 2 true 7]
def I4 (a:List Int):Option BB:=
(BL a).bind λb=>
(BC b).bind λc=>
some c.1
theorem Tw {a:List Int} {r:BB} (h:I4 a=some r):Says Tryz.prog 17 [vS 1 UN a] (.agg (Gp r)):=by
 refine wF mix Tryz.func17 (I:=⟨wT,wU,wV⟩) ?_
 simp only[wT,wU,wV]
 have a1:= @PN
 have a2:= @Oe
 unfold I4 at h
 exact walk
def wW:IC:=(Ra 2 [.o (.mv (.c (.own false 2 [])))]
(Ra 0 [.b 3 [11,29] (.mv (.c (.own false 2 [])))]
(Sq (Ra 0 [.K 4 0]
(Bl 0 (Sq (Ra 5 [.C 4,.C 0,.Z 6,.O .lss 5 7]
(cX 8 0))
(Sq (Bk 1 (Rc 11 [.y 3 (.cp (.t 3)),.C 0,.C 4,.I 1 12 13,.L 14,.o (.Xk .i64 (.t 15)),.P .rem 16 4,.C 0,.C 4,.I 1 18 19,.L 20,.o (.Xk .i64 (.t 21)),.P .quo 22 4,.P .rem 23 5,.P .sub 24 1,.o (.Dc [si 0,si 0] [(0,1,.t 17),(1,1,.t 25)]),.o (.Eg 2 [[si 0,si 0]] [(0,.t 26)]),.o (.app 2 16 (.t 11) (.t 27)),.b 3 [11,29] (.mv (.t 28))]))
(Rc 9 [.C 4,.P .add 9 1,.M 4 10])))))
(Rb 29 [.y 3 (.cp (.t 3)),.M 2 29]))))
def wX:Gi:=⟨[(11,[3]),(29,[3])]⟩
def wY:List RV:=[.tmp 2]
namespace DP
def J1 (e:List CC):Option (List CC):=
some e
def L1 (a:List Int) (L1:(List CC)->Int->Option (List CC)) (c:List CC) (b:Int):Option (List CC):=
if decide (b<(a.length:Int))then
(gt a b).bind λd=>
if Aq (c.length+1) 16=true then
L1 (c++[(CC.mk ((BE d).tmod 4) (BE (((BE ((BE d).tdiv 4)).tmod 5)-1)))]) (BE (b+1))
else none
else
J1 c
def Ac (a:List Int):Nat->(List CC)->Int->Option (List CC)
|0,_,_=>none
|n+1,c,b=>L1 a (Ac a n) c b
end DP
section
open DP
def DP (a:List Int):Option (List CC):=
Ac a Bo [] 0
theorem PM {a:List Int} {r:List CC} (h:DP a=some r):Says Tryz.prog 18 [vS 1 UN a] (vO 2 Gb r):=by
 refine wO mix Tryz.func18 (I:=⟨wW,wX,wY⟩) ?_
 simp only[wW,wX,wY]
 have l1:=λn1 n2 n3 n4:Nat=>BM λn τ=>∃(c:List CC) (b:Int),(τ 0=vS 1 UN a/\τ 3=vO 2 Gb c/\τ 4=si b)/\Ac a n c b=some r
 unfold DP at h
 exact walk
end
def zA:IC:=(Ra 2 [.b 1 [12,16,45,58,99,106,115,122,131,135] (.bx 6 (.t 0)),.o (.mv (.c (.own false 1 []))),.B 3 false]
(Ra 0 [.b 4 [21,105,121,130,134] (.mv (.c (.own false 1 [])))]
(Sq (Ra 0 [.K 5 0]
(Bl 0 (Sq (Ra 11 [.C 5,.f 0 1,.Z 13,.O .lss 11 14]
(cX 15 0))
(Bk 1 (Ra 16 [.f 0 1,.C 5,.I 5 17 18,.A 5 19,.b 6 [22,26,29,34,38,43,53,72,79,86,95] (.bx 5 (.c (.agg sX))),.S 5 6 20]
(Ra 21 [.y 4 (.cp (.t 4)),.f 0 6,.o (.Eg 1 [[Ao ⟨#[]⟩]] [(0,.t 23)]),.o (.app 1 16 (.t 21) (.t 24)),.b 4 [21,105,121,130,134] (.mv (.t 25))]
(Sq (Ra 26 [.f 2 6,.Q 27 0]
(Ci 28 (Sq (Ra 29 [.f 1 6,.P .neq 30 0]
(Ci 31 (Rb 2 [.o (.mv (.c (.own false 1 []))),.B 3 false])))
(Ra 32 [.C 5,.P .add 32 1,.M 5 33]
(.exit 1)))))
(Sq (Bw 1 (Rc 34 [.f 2 6,.P .lss 35 1,.C 36,.G 37 false,.f 2 6,.P .gtr 39 4,.e,.V 37 40,.C 41,.G 42 false,.f 2 6,.f 0 1,.Z 46,.C 5,.O .sub 47 48,.O .gtr 44 49,.e,.V 42 50])
(Ci 51 (Rb 2 [.o (.mv (.c (.own false 1 []))),.B 3 false])))
(Sq (Ra 0 [.K 7 0]
(Bl 2 (Sq (Ra 52 [.C 7,.f 2 6,.O .lss 52 54]
(cX 55 2))
(Sq (Bk 3 (Ra 58 [.f 0 1,.C 5,.C 7,.O .add 60 61,.I 5 59 62,.A 5 63,.b 8 [65,70,77,84,91] (.bx 5 (.c (.agg sX))),.S 5 8 64]
(Ra 65 [.f 1 8,.C 7,.O .neq 66 67,.C 68,.G 69 false,.f 0 8,.f 0 6,.O .neq 71 73,.e,.V 69 74,.C 75,.G 76 false,.f 2 8,.f 2 6,.O .neq 78 80,.e,.V 76 81,.C 82,.G 83 false,.f 4 8,.f 4 6,.O .neq 85 87,.e,.V 83 88,.C 89,.G 90 false,.f 3 8,.e,.V 90 92]
(Ci 93 (Rb 2 [.o (.mv (.c (.own false 1 []))),.B 3 false])))))
(Rc 56 [.C 7,.P .add 56 1,.M 7 57])))))
(Rc 94 [.C 5,.f 2 6,.O .add 94 96,.M 5 97]))))))))))
(Sq (Ra 0 [.K 9 0]
(Bl 4 (Sq (Ra 98 [.C 9,.f 1 1,.Z 100,.O .lss 98 101]
(cX 102 4))
(Sq (Bk 5 (Rc 105 [.y 4 (.cp (.t 4)),.f 1 1,.C 9,.I 2 107 108,.U 0 109,.o (.Eg 1 [[Ao ⟨#[]⟩]] [(0,.t 111)]),.o (.app 1 16 (.t 105) (.t 112)),.b 4 [21,105,121,130,134] (.mv (.t 113))]))
(Rc 103 [.C 9,.P .add 103 1,.M 9 104])))))
(Sq (Ra 0 [.K 10 0]
(Bl 6 (Sq (Ra 114 [.C 10,.f 2 1,.Z 116,.O .lss 114 117]
(cX 118 6))
(Sq (Bk 7 (Rc 121 [.y 4 (.cp (.t 4)),.f 2 1,.C 10,.I 2 123 124,.U 0 125,.o (.Eg 1 [[Ao ⟨#[]⟩]] [(0,.t 127)]),.o (.app 1 16 (.t 121) (.t 128)),.b 4 [21,105,121,130,134] (.mv (.t 129))]))
(Rc 119 [.C 10,.P .add 119 1,.M 10 120])))))
(Ra 130 [.y 4 (.cp (.t 4)),.f 3 1,.o (.app 1 16 (.t 130) (.t 132)),.b 4 [21,105,121,130,134] (.mv (.t 133))]
(Rb 134 [.y 4 (.cp (.t 4)),.f 4 1,.o (.app 1 16 (.t 134) (.t 136)),.M 2 137,.B 3 true])))))))
def zB:Gi:=⟨[(12,[1]),(16,[1]),(21,[4]),(22,[6]),(26,[6]),(29,[6]),(34,[6]),(38,[6]),(43,[6]),(45,[1]),(53,[6]),(58,[1]),(65,[8]),(70,[8]),(72,[6]),(77,[8]),(79,[6]),(84,[8]),(86,[6]),(91,[8]),(95,[6]),(99,[1]),(105,[4]),(106,[1]),(115,[1]),(121,[4]),(122,[1]),(130,[4]),(131,[1]),(134,[4]),(135,[1])]⟩
def zC:List RV:=[.tmp 2,.tmp 3]
namespace A6
def J6 (a:AB) (q:List ByteArray):Option ((List ByteArray)×Bool):=
if Aq (q.length+a.AH.length) 16=true then
if Aq ((q++a.AH).length+a.AA.length) 16=true then
some ((q++a.AH)++a.AA,true)
else none
else none
def L4 (a:AB) (L4:(List ByteArray)->Int->Option ((List ByteArray)×Bool)) (l:List ByteArray) (i:Int):Option ((List ByteArray)×Bool):=
if decide (i<(a.Au.length:Int))then
(gt a.Au i).bind λw=>
if Aq (l.length+1) 16=true then
L4 (l++[w.Name]) (BE (i+1))
else none
else
J6 a l
def tF (a:AB):Nat->(List ByteArray)->Int->Option ((List ByteArray)×Bool)
|0,_,_=>none
|n+1,l,i=>L4 a (tF a n) l i
def J5 (a:AB) (t:List ByteArray):Option ((List ByteArray)×Bool):=
tF a Bo t 0
def L3 (a:AB) (L3:(List ByteArray)->Int->Option ((List ByteArray)×Bool)) (j:List ByteArray) (f:Int):Option ((List ByteArray)×Bool):=
if decide (f<(a.AG.length:Int))then
(gt a.AG f).bind λv=>
if Aq (j.length+1) 16=true then
L3 (j++[v.Name]) (BE (f+1))
else none
else
J5 a j
def Gx (a:AB):Nat->(List ByteArray)->Int->Option ((List ByteArray)×Bool)
|0,_,_=>none
|n+1,j,f=>L3 a (Gx a n) j f
def J4 (a:AB) (s:List ByteArray):Option ((List ByteArray)×Bool):=
Gx a Bo s 0
def J3 (L1:(List ByteArray)->Int->Option ((List ByteArray)×Bool)) (c:Int) (d:List ByteArray) (b:DJ):Option ((List ByteArray)×Bool):=
L1 (d++[b.Name]) (BE (c+b.Bn))
def J2 (L2:Int->Option ((List ByteArray)×Bool)) (e:Int) (u:Bool):Option ((List ByteArray)×Bool):=
if u then
some ([],false)
else
L2 (BE (e+1))
def L2 (L1:(List ByteArray)->Int->Option ((List ByteArray)×Bool)) (c:Int) (d:List ByteArray) (a:AB) (b:DJ) (L2:Int->Option ((List ByteArray)×Bool)) (e:Int):Option ((List ByteArray)×Bool):=
if decide (e<b.Bn)then
(gt a.Cells (BE (c+e))).bind λo=>
if o.Index != e then
J2 L2 e true
else
if !(o.Name.toList==b.Name.toList)then
J2 L2 e true
else
if o.Bn != b.Bn then
J2 L2 e true
else
if o.Init != b.Init then
J2 L2 e true
else
J2 L2 e o.E0
else
J3 L1 c d b
def Da (L1:(List ByteArray)->Int->Option ((List ByteArray)×Bool)) (c:Int) (d:List ByteArray) (a:AB) (b:DJ):Nat->Int->Option ((List ByteArray)×Bool)
|0,_=>none
|n+1,e=>L2 L1 c d a b (Da L1 c d a b n) e
def J1 (L1:(List ByteArray)->Int->Option ((List ByteArray)×Bool)) (c:Int) (d:List ByteArray) (a:AB) (b:DJ) (p:Bool):Option ((List ByteArray)×Bool):=
if p then
some ([],false)
else
Da L1 c d a b Bo 0
def L1 (a:AB) (L1:(List ByteArray)->Int->Option ((List ByteArray)×Bool)) (d:List ByteArray) (c:Int):Option ((List ByteArray)×Bool):=
if decide (c<(a.Cells.length:Int))then
(gt a.Cells c).bind λb=>
if Aq (d.length+1) 16=true then
if b.Bn==0 then
if b.Index != 0 then
some ([],false)
else
L1 (d++[b.Name]) (BE (c+1))
else
if decide (b.Bn<1)then
J1 L1 c d a b true
else
if decide (b.Bn>4)then
J1 L1 c d a b true
else
J1 L1 c d a b (decide (b.Bn>(BE ((a.Cells.length:Int)-c))))
else none
else
J4 a d
def Ac (a:AB):Nat->(List ByteArray)->Int->Option ((List ByteArray)×Bool)
|0,_,_=>none
|n+1,d,c=>L1 a (Ac a n) d c
end A6
section
open A6
def A6 (a:AB):Option ((List ByteArray)×Bool):=
Ac a Bo [] 0
theorem RI {a:AB} {r:(List ByteArray)×Bool} (h:A6 a=some r):Says Tryz.prog 41 [.agg (Ap a)] (.A9 [vO 1 eS r.1,sb r.2]):=by
 refine wO mix Tryz.func41 (I:=⟨zA,zB,zC⟩) ?_
 simp only[zA,zB,zC]
 have l4:=λn1 n2 n3 n4:Nat=>BM λn τ=>∃(l:List ByteArray) (i:Int),(τ 1=bA 6 (Ap a)/\τ 4=vO 1 eS l/\τ 10=si i)/\tF a n l i=some r
 have l3:=λn1 n2 n3 n4:Nat=>BM λn τ=>∃(j:List ByteArray) (f:Int),(τ 1=bA 6 (Ap a)/\τ 4=vO 1 eS j/\τ 9=si f)/\Gx a n j f=some r
 have l1:=λn1 n2 n3 n4:Nat=>BM λn τ=>∃(d:List ByteArray) (c:Int),(τ 1=bA 6 (Ap a)/\τ 4=vO 1 eS d/\τ 5=si c)/\Ac a n d c=some r
 have l2:=λn1 n2 n3 n4:Nat=>BM λn τ=>∃(c:Int) (d:List ByteArray) (b:DJ) (e:Int),(τ 1=bA 6 (Ap a)/\τ 4= .own false 1 ((d++[b.Name]).map eS)/\τ 5=si c/\τ 6=bA 5 (Fg b)/\τ 7=si e)/\Da (Ac a n1) c d a b n e=some r
 have c1:=λn1 n2 n3 n4:Nat=>B7 1 λτ=>∃(c:Int) (d:List ByteArray) (b:DJ) (p:Bool),(τ 1=bA 6 (Ap a)/\τ 4= .own false 1 ((d++[b.Name]).map eS)/\τ 5=si c/\τ 6=bA 5 (Fg b)/\τ 51=sb p)/\J1 (Ac a n1) c d a b p=some r
 unfold A6 at h
 exact walk
end
def wZ:IC:=(Ra 0 [.b 1 [10,15,21,27,33,39,45,81,87,97,103,111,117,128,136,154,168] (.bx 6 (.t 0)),.B 2 false]
(Sq (Bw 1 (Rc 10 [.f 0 1,.Z 11,.P .gtr 12 12,.C 13,.G 14 false,.f 1 1,.Z 16,.P .gtr 17 4,.e,.V 14 18,.C 19,.G 20 false,.f 2 1,.Z 22,.P .gtr 23 2,.e,.V 20 24,.C 25,.G 26 false,.f 3 1,.Z 28,.P .gtr 29 2,.e,.V 26 30,.C 31,.G 32 false,.f 4 1,.Z 34,.P .lss 35 1,.e,.V 32 36,.C 37,.G 38 false,.f 4 1,.Z 40,.P .gtr 41 4,.e,.V 38 42,.C 43,.G 44 false,.f 5 1,.Z 46,.P .gtr 47 60,.e,.V 44 48])
(Ci 49 (Rb 0 [.B 2 false])))
(Ra 51 [.A 6 1,.c 41 [51] 1,.w 50,.C 52,.w 53,.o (.ext (.t 50) 0),.o (.ext (.t 50) 1),.M 3 53,.M 4 54]
(Sq (Ra 55 [.C 4,.N 55]
(Ci 56 (Rb 0 [.B 2 false])))
(Sq (Ra 0 [.K 5 0]
(Bl 0 (Sq (Ra 57 [.C 5,.C 3,.Z 58,.O .lss 57 59]
(cX 60 0))
(Sq (Bk 1 (Ra 63 [.C 3,.C 5,.I 1 63 64,.L 65,.c 42 [66] 0,.N 67,.C 68,.G 69 false,.C 3,.C 5,.o (.UM 1 true (.t 70) none (some (.t 71)) none),.C 3,.C 5,.I 1 73 74,.L 75,.c 43 [72,76] 0,.P .geq 77 0,.e,.V 69 78]
(Ci 79 (Rb 0 [.B 2 false]))))
(Rc 61 [.C 5,.P .add 61 1,.M 5 62])))))
(Sq (Ra 0 [.K 6 0]
(Bl 2 (Sq (Ra 80 [.C 6,.f 2 1,.Z 82,.O .lss 80 83]
(cX 84 2))
(Sq (Bk 3 (Ra 87 [.f 2 1,.C 6,.I 2 88 89,.U 1 90,.M 7 92]
(Ra 93 [.C 7,.P .lss 93 0,.C 94,.G 95 false,.C 7,.f 1 1,.Z 98,.O .geq 96 99,.e,.V 95 100,.C 101,.G 102 false,.f 1 1,.C 7,.I 2 104 105,.U 1 106,.e,.V 102 108]
(Ci 109 (Rb 0 [.B 2 false])))))
(Rc 85 [.C 6,.P .add 85 1,.M 6 86])))))
(Sq (Ra 0 [.K 8 0]
(Bl 4 (Sq (Ra 110 [.C 8,.f 5 1,.Z 112,.O .lss 110 113]
(cX 114 4))
(Sq (Bk 5 (Ra 117 [.f 5 1,.C 8,.I 3 118 119,.A 3 120,.b 9 [122,126,143,147,161,166] (.bx 3 (.c (.agg [si 0,si 0,si 0]))),.S 3 9 121]
(Sq (Bw 6 (Rc 122 [.f 0 9,.P .lss 123 0,.C 124,.G 125 false,.f 0 9,.f 4 1,.Z 129,.O .geq 127 130,.e,.V 125 131])
(Ci 132 (Rb 0 [.B 2 false])))
(Ra 133 [.C 8,.Q 133 0,.C 134,.G 135 false,.f 5 1,.C 8,.P .sub 138 1,.I 3 137 139,.U 0 140,.f 0 9,.O .neq 142 144,.e,.V 135 145]
(Cn 146 (Ra 147 [.f 1 9,.P .neq 148 0,.C 149,.G 150 false,.C 8,.P .gtr 151 0,.C 152,.G 153 true,.f 5 1,.C 8,.P .sub 156 1,.I 3 155 157,.U 0 158,.f 0 9,.O .gtr 160 162,.G 150 false,.o (.pick (.t 153) (.t 163) (.c (sb false))),.e,.V 150 164]
(Ci 165 (Rb 0 [.B 2 false]))) (Ra 166 [.f 1 9,.f 5 1,.C 8,.P .sub 170 1,.I 3 169 171,.U 1 172,.P .add 174 1,.O .neq 167 175]
(Ci 176 (Rb 0 [.B 2 false]))))))))
(Rc 115 [.C 8,.P .add 115 1,.M 8 116])))))
(Rb 0 [.B 2 true]))))))))
def w9:Gi:=⟨[(10,[1]),(15,[1]),(21,[1]),(27,[1]),(33,[1]),(39,[1]),(45,[1]),(81,[1]),(87,[1]),(97,[1]),(103,[1]),(111,[1]),(117,[1]),(122,[9]),(126,[9]),(128,[1]),(136,[1]),(143,[9]),(147,[9]),(154,[1]),(161,[9]),(166,[9]),(168,[1])]⟩
def xA:List RV:=[.tmp 2]
namespace Ah
def Oj:Option Bool:=
some true
def J9 (L3:Int->Option Bool) (b:Int):Option Bool:=
L3 (BE (b+1))
def J8 (L3:Int->Option Bool) (b:Int) (s:Bool):Option Bool:=
if s then
some false
else
J9 L3 b
def J7 (L3:Int->Option Bool) (b:Int) (a:AB) (c:DO) (q:Bool):Option Bool:=
if q then
if c.Stmt != 0 then
J8 L3 b true
else
if decide (b>0)then
(gt a.BA (BE (b-1))).bind λy=>
J8 L3 b (decide (y.Thread>c.Thread))
else
J8 L3 b false
else
(gt a.BA (BE (b-1))).bind λz=>
if c.Stmt != (BE (z.Stmt+1))then
some false
else
J9 L3 b
def J6 (L3:Int->Option Bool) (b:Int) (a:AB) (c:DO) (i:Bool):Option Bool:=
if i then
some false
else
if b==0 then
J7 L3 b a c true
else
(gt a.BA (BE (b-1))).bind λx=>
J7 L3 b a c (x.Thread != c.Thread)
def L3 (a:AB) (L3:Int->Option Bool) (b:Int):Option Bool:=
if decide (b<(a.BA.length:Int))then
(gt a.BA b).bind λc=>
if decide (c.Thread<0)then
J6 L3 b a c true
else
J6 L3 b a c (decide (c.Thread≥(a.AA.length:Int)))
else
Oj
def Gx (a:AB):Nat->Int->Option Bool
|0,_=>none
|n+1,b=>L3 a (Gx a n) b
def J5 (a:AB):Option Bool:=
Gx a Bo 0
def J4 (L2:Int->Option Bool) (f:Int) (p:Bool):Option Bool:=
if p then
some false
else
L2 (BE (f+1))
def L2 (a:AB) (L2:Int->Option Bool) (f:Int):Option Bool:=
if decide (f<(a.Au.length:Int))then
(gt a.Au f).bind λl=>
if decide (l.Mutex<0)then
J4 L2 f true
else
if decide (l.Mutex≥(a.AG.length:Int))then
J4 L2 f true
else
(gt a.AG l.Mutex).bind λw=>
J4 L2 f w.RW
else
J5 a
def Da (a:AB):Nat->Int->Option Bool
|0,_=>none
|n+1,f=>L2 a (Da a n) f
def J3 (a:AB):Option Bool:=
Da a Bo 0
def J2 (L1:Int->Option Bool) (d:Int) (t:Bool):Option Bool:=
if t then
some false
else
L1 (BE (d+1))
def L1 (e:(List ByteArray)×Bool) (a:AB) (L1:Int->Option Bool) (d:Int):Option Bool:=
if decide (d<(e.1.length:Int))then
(gt e.1 d).bind λo=>
(BV o).bind λu=>
if !u then
J2 L1 d true
else
if 0≤d/\d.toNat≤e.1.length then
(CF (e.1.take d.toNat) o).bind λv=>
J2 L1 d (decide (v≥0))
else none
else
J3 a
def Ac (e:(List ByteArray)×Bool) (a:AB):Nat->Int->Option Bool
|0,_=>none
|n+1,d=>L1 e a (Ac e a n) d
def J1 (a:AB) (j:Bool):Option Bool:=
if j then
some false
else
(A6 a).bind λe=>
if !e.2 then
some false
else
Ac e a Bo 0
end Ah
section
open Ah
def Ah (a:AB):Option Bool:=
if decide ((a.Cells.length:Int)>12)then
J1 a true
else
if decide ((a.AG.length:Int)>4)then
J1 a true
else
if decide ((a.Au.length:Int)>2)then
J1 a true
else
if decide ((a.AH.length:Int)>2)then
J1 a true
else
if decide ((a.AA.length:Int)<1)then
J1 a true
else
if decide ((a.AA.length:Int)>4)then
J1 a true
else
J1 a (decide ((a.BA.length:Int)>60))
theorem Jq {a:AB} {r:Bool} (h:Ah a=some r):Says Tryz.prog 19 [.agg (Ap a)] (sb r):=by
 refine wO mix Tryz.func19 (I:=⟨wZ,w9,xA⟩) ?_
 simp only[wZ,w9,xA]
 have a1:= @RI
 have a2:= @FV
 have a3:= @FB
 have l3:=λn1 n2 n3 n4:Nat=>BM λn τ=>∃(b:Int),(τ 1=bA 6 (Ap a)/\τ 8=si b)/\Gx a n b=some r
 have l2:=λn1 n2 n3 n4:Nat=>BM λn τ=>∃(f:Int),(τ 1=bA 6 (Ap a)/\τ 6=si f)/\Da a n f=some r
 have l1:=λn1 n2 n3 n4:Nat=>BM λn τ=>∃(e:(List ByteArray)×Bool) (d:Int),(τ 1=bA 6 (Ap a)/\τ 3=vS 1 eS e.1/\τ 5=si d)/\Ac e a n d=some r
 have c6:=λn1 n2 n3 n4:Nat=>B7 6 λτ=>∃(b:Int) (c:DO) (i:Bool),(τ 1=bA 6 (Ap a)/\τ 8=si b/\τ 9=bA 3 (E7 c)/\τ 132=sb i)/\J6 (Gx a n3) b a c i=some r
 have c1:=λn1 n2 n3 n4:Nat=>B7 1 λτ=>∃(j:Bool),(τ 1=bA 6 (Ap a)/\τ 49=sb j)/\J1 a j=some r
 unfold Ah at h
 exact walk
end
end Go.Abs
