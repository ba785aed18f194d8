/- Typed programs of Go functions, and that the functions do what these say. -/
import Derived.Test.YtkpdblcoclbgbaaGreatDoorBaseA
import Derived.Test.YtkpdblcoclbgbaaGreatDoorWalkF
import Derived.Test.YtkpdblcoclbgbaaGreatDoorWalkA
import Derived.Test.YtkpdblcoclbgbaaGreatDoorWalkE
import Derived.Shelf.Slices.SearchI
set_option linter.unusedSimpArgs false
set_option linter.unusedVariables false
namespace Go.Abs
open Go.Proofs
set_option maxRecDepth 100000
set_option maxHeartbeats 4000000
def ABI:IC:=(Ra 0 [.b 3 [22,30,35,49,54,67,75,83] (.bx 6 (.t 0)),.B 6 false]
(Sq (Ra 7 [.C 1]
(Bk 0 (Bw 1 (Ra 9 [.q 7 1 8]
(Cn 8 .skip (Ra 10 [.q 7 2 8]
(Cn 8 .skip (Ra 11 [.q 7 5 8]
(Cn 8 .skip (Ra 12 [.q 7 12 8]
(Cn 8 .skip (Ra 13 [.q 7 13 8]
(Cn 8 .skip (Ra 14 [.q 7 14 8]
(Cn 8 .skip (Rc 15 [.q 7 15 8])))))))))))))
(Cn 8 (Rb 16 [.C 2,.q 16 (-1) 6]) (Bw 2 (Ra 19 [.q 7 3 18]
(Cn 18 .skip (Rc 20 [.q 7 4 18])))
(Cn 18 (Rb 21 [.C 2,.f 0 3,.Z 23,.c 80 [21,24] 0,.M 6 25]) (Bw 3 (Ra 27 [.q 7 6 26]
(Cn 26 .skip (Rc 28 [.q 7 7 26])))
(Cn 26 (Rb 29 [.C 2,.f 1 3,.Z 31,.c 80 [29,32] 0,.C 33,.G 34 true,.f 1 3,.C 2,.I 2 36 37,.U 1 38,.N 40,.e,.W 34 41,.M 6 42]) (Bw 5 (Ra 44 [.q 7 8 43]
(Cn 43 .skip (Ra 45 [.q 7 9 43]
(Cn 43 .skip (Ra 46 [.q 7 10 43]
(Cn 43 .skip (Rc 47 [.q 7 11 43])))))))
(Cn 43 (Rb 48 [.C 2,.f 1 3,.Z 50,.c 80 [48,51] 0,.C 52,.G 53 true,.f 1 3,.C 2,.I 2 55 56,.U 1 57,.e,.W 53 59,.M 6 60]) (Bw 7 (Ra 62 [.q 7 16 61]
(Cn 61 .skip (Ra 63 [.q 7 17 61]
(Cn 61 .skip (Ra 64 [.q 7 18 61]
(Cn 61 .skip (Rc 65 [.q 7 19 61])))))))
(Cn 61 (Rb 66 [.C 2,.f 2 3,.Z 68,.c 80 [66,69] 0,.M 6 70]) (Sq (Ra 72 [.q 7 20 71]
(Cn 71 .skip (Rc 73 [.q 7 21 71])))
(Cn 71 (Rb 74 [.C 2,.f 4 3,.Z 76,.c 80 [74,77] 0,.M 6 78]) (Sq (Ra 80 [.q 7 22 79]
(Cn 79 .skip (Rc 81 [.q 7 23 79])))
(Ci 79 (Rb 82 [.C 2,.f 3 3,.Z 84,.c 80 [82,85] 0,.M 6 86])))))))))))))))))
(Rb 0 [.B 6 false])))
def ABJ:Gi:=⟨[(22,[3]),(30,[3]),(35,[3]),(49,[3]),(54,[3]),(67,[3]),(75,[3]),(83,[3])]⟩
def ABK:List RV:=[.tmp 6]
namespace Fw
def J4 (l:Bool):Option Bool:=
some l
def J6 (o:Bool):Option Bool:=
some o
def J9 (b:Int) (c:AB) (q:Bool):Option Bool:=
if q then
(E4 b (c.AH.length:Int)).bind λx=>
some x
else
some false
def J8 (a b:Int) (c:AB) (p:Bool):Option Bool:=
if p then
(E4 b (c.AA.length:Int)).bind λw=>
some w
else
if a==22 then
J9 b c (a==22)
else
J9 b c (a==23)
def J7 (a b:Int) (c:AB) (i:Bool):Option Bool:=
if i then
(E4 b (c.Au.length:Int)).bind λv=>
some v
else
if a==20 then
J8 a b c (a==20)
else
J8 a b c (a==21)
def J5 (a b:Int) (c:AB) (f:Bool):Option Bool:=
if f then
(E4 b (c.AG.length:Int)).bind λu=>
if u then
(gt c.AG b).bind λz=>
J6 z.RW
else
J6 false
else
if a==16 then
J7 a b c (a==16)
else
if a==17 then
J7 a b c (a==17)
else
if a==18 then
J7 a b c (a==18)
else
J7 a b c (a==19)
def J3 (a b:Int) (c:AB) (e:Bool):Option Bool:=
if e then
(E4 b (c.AG.length:Int)).bind λt=>
if t then
(gt c.AG b).bind λy=>
J4 (!y.RW)
else
J4 false
else
if a==8 then
J5 a b c (a==8)
else
if a==9 then
J5 a b c (a==9)
else
if a==10 then
J5 a b c (a==10)
else
J5 a b c (a==11)
def J2 (a b:Int) (c:AB) (d:Bool):Option Bool:=
if d then
(E4 b (c.Cells.length:Int)).bind λs=>
some s
else
if a==6 then
J3 a b c (a==6)
else
J3 a b c (a==7)
def J1 (a b:Int) (c:AB) (j:Bool):Option Bool:=
if j then
some (b==(-1))
else
if a==3 then
J2 a b c (a==3)
else
J2 a b c (a==4)
end Fw
section
open Fw
def Fw (c:AB) (a b:Int):Option Bool:=
if a==1 then
J1 a b c (a==1)
else
if a==2 then
J1 a b c (a==2)
else
if a==5 then
J1 a b c (a==5)
else
if a==12 then
J1 a b c (a==12)
else
if a==13 then
J1 a b c (a==13)
else
if a==14 then
J1 a b c (a==14)
else
J1 a b c (a==15)
theorem RL {c:AB} {a b:Int} {r:Bool} (h:Fw c a b=some r):Says Tryz.prog 81 [.agg (Ap c),si a,si b] (sb r):=by
 refine wO mix Tryz.func81 (I:=⟨ABI,ABJ,ABK⟩) ?_
 simp only[ABI,ABJ,ABK]
 have a1:= @O6
 have c7:=λn1 n2 n3 n4:Nat=>B7 7 λτ=>∃(i:Bool),(τ 2=si b/\τ 3=bA 6 (Ap c)/\τ 7=si a/\τ 61=sb i)/\J7 a b c i=some r
 have c5:=λn1 n2 n3 n4:Nat=>B7 5 λτ=>∃(f:Bool),(τ 2=si b/\τ 3=bA 6 (Ap c)/\τ 7=si a/\τ 43=sb f)/\J5 a b c f=some r
 have c3:=λn1 n2 n3 n4:Nat=>B7 3 λτ=>∃(e:Bool),(τ 2=si b/\τ 3=bA 6 (Ap c)/\τ 7=si a/\τ 26=sb e)/\J3 a b c e=some r
 have c2:=λn1 n2 n3 n4:Nat=>B7 2 λτ=>∃(d:Bool),(τ 2=si b/\τ 3=bA 6 (Ap c)/\τ 7=si a/\τ 18=sb d)/\J2 a b c d=some r
 have c1:=λn1 n2 n3 n4:Nat=>B7 1 λτ=>∃(j:Bool),(τ 2=si b/\τ 3=bA 6 (Ap c)/\τ 7=si a/\τ 8=sb j)/\J1 a b c j=some r
 unfold Fw at h
 exact walk
end
def ABL:IC:=(Ra 0 [.B 4 false]
(Sq (Ra 0 [.K 5 0]
(Bl 0 (Sq (Ra 6 [.C 5,.C 0,.Z 7,.O .lss 6 8]
(cX 9 0))
(Sq (Bk 1 (Ra 12 [.C 0,.C 5,.I 1 12 13,.L 14,.C 1,.O .eql 15 16]
(Ci 17 (Rb 0 [.B 4 true]))))
(Rc 10 [.C 5,.P .add 10 1,.M 5 11])))))
(Rb 0 [.B 4 false])))
def ABM:Gi:=⟨[]⟩
def ABN:List RV:=[.tmp 4]
namespace Eh
def J1:Option Bool:=
some false
def L1 (a:List Int) (b:Int) (L1:Int->Option Bool) (c:Int):Option Bool:=
if decide (c<(a.length:Int))then
(gt a c).bind λd=>
if d==b then
some true
else
L1 (BE (c+1))
else
J1
def Ac (a:List Int) (b:Int):Nat->Int->Option Bool
|0,_=>none
|n+1,c=>L1 a b (Ac a b n) c
end Eh
section
open Eh
def Eh (a:List Int) (b:Int):Option Bool:=
Ac a b Bo 0
theorem MC {a:List Int} {b:Int} {r:Bool} (h:Eh a b=some r):Says Tryz.prog 82 [vS 1 eI a,si b] (sb r):=by
 refine wO mix Tryz.func82 (I:=⟨ABL,ABM,ABN⟩) ?_
 simp only[ABL,ABM,ABN]
 have l1:=λn1 n2 n3 n4:Nat=>BM λn τ=>∃(c:Int),(τ 0=vS 1 eI a/\τ 1=si b/\τ 5=si c)/\Ac a b n c=some r
 unfold Eh at h
 exact walk
end
def zM:IC:=(Ra 0 [.b 5 [18,56,166] (.bx 6 (.t 0)),.b 6 [31,54,73,82,90,101,109,122,132,142,147,164,183,197,207,215] (.bx 4 (.t 1)),.B 10 false]
(Sq (Bw 1 (Rc 12 [.A 6 5,.A 4 6,.c 79 [12,13] 0,.N 14,.C 15,.G 16 false,.C 2,.f 4 5,.Z 19,.c 80 [17,20] 0,.N 21,.e,.V 16 22,.C 23,.G 24 false,.o (.ld true 6 (.t 5)),.C 3,.C 4,.c 81 [25,26,27] 0,.N 28,.e,.V 24 29])
(Ci 30 (Rb 0 [.B 10 false])))
(Ra 31 [.f 3 6,.C 2,.I 3 32 33,.A 3 34,.b 11 [39,44,48,67,153,158] (.bx 3 (.c (.agg fD))),.S 3 11 35]
(Sq (Ra 36 [.C 3]
(Bk 0 (Ra 38 [.q 36 1 37]
(Cn 37 (Rb 39 [.f 0 11,.q 40 1 10]) (Ra 43 [.q 36 17 42]
(Ci 42 (Rb 44 [.f 0 11,.Q 45 4,.C 46,.G 47 true,.f 1 11,.C 4,.O .eql 49 50,.e,.W 47 51,.C 52,.G 53 true,.f 0 6,.f 2 5,.C 4,.I 2 57 58,.U 1 59,.I 2 55 61,.U 0 62,.P .eql 64 (-1),.e,.W 53 65,.M 10 66])))))))
(Sq (Ra 67 [.f 0 11,.P .neq 68 2]
(Ci 69 (Rb 0 [.B 10 false])))
(Sq (Ra 70 [.C 3]
(Bk 1 (Ra 72 [.q 70 6 71]
(Cn 71 (Rb 73 [.f 0 6,.C 4,.I 2 74 75,.U 0 76,.q 78 (-1) 10]) (Ra 81 [.q 70 10 80]
(Cn 80 (Rb 82 [.f 0 6,.C 4,.I 2 83 84,.U 0 85,.Q 87 (-1),.C 88,.G 89 true,.f 0 6,.C 4,.I 2 91 92,.U 1 93,.Z 95,.P .eql 96 0,.e,.W 89 97,.M 10 98]) (Ra 100 [.q 70 8 99]
(Cn 99 (Rb 101 [.f 0 6,.C 4,.I 2 102 103,.U 0 104,.Q 106 (-1),.C 107,.G 108 true,.f 0 6,.C 4,.I 2 110 111,.U 1 112,.C 2,.c 82 [114,115] 0,.N 116,.e,.W 108 117,.M 10 118]) (Bw 5 (Ra 120 [.q 70 7 119]
(Cn 119 .skip (Rc 121 [.q 70 11 119])))
(Cn 119 (Rb 122 [.f 0 6,.C 4,.I 2 123 124,.U 0 125,.C 2,.O .eql 127 128,.M 10 129]) (Ra 131 [.q 70 9 130]
(Cn 130 (Rb 132 [.f 0 6,.C 4,.I 2 133 134,.U 1 135,.C 2,.c 82 [137,138] 0,.M 10 139]) (Ra 141 [.q 70 12 140]
(Cn 140 (Rb 142 [.f 1 6,.q 143 (-1) 10]) (Ra 146 [.q 70 13 145]
(Cn 145 (Rb 147 [.f 1 6,.C 2,.O .eql 148 149,.M 10 150]) (Ra 152 [.q 70 14 151]
(Cn 151 (Rb 153 [.f 2 11,.N 154,.M 10 155]) (Ra 157 [.q 70 15 156]
(Cn 156 (Rb 158 [.f 2 11,.M 10 159]) (Bw 6 (Ra 161 [.q 70 16 160]
(Cn 160 .skip (Ra 162 [.q 70 18 160]
(Cn 160 .skip (Rc 163 [.q 70 19 160])))))
(Cn 160 (Rb 164 [.f 0 6,.f 2 5,.C 4,.I 2 167 168,.U 1 169,.I 2 165 171,.U 0 172,.C 2,.O .eql 174 175,.M 10 176]) (Ra 178 [.q 70 20 177]
(Cn 177 (Rb 179 [.C 4,.C 2,.O .neq 179 180,.C 181,.G 182 true,.f 3 6,.C 4,.I 3 184 185,.U 0 186,.P .eql 188 0,.e,.W 182 189,.M 10 190]) (Ra 192 [.q 70 21 191]
(Cn 191 (Rb 193 [.C 4,.C 2,.O .neq 193 194,.C 195,.G 196 true,.f 3 6,.C 4,.I 3 198 199,.U 0 200,.P .eql 202 5,.e,.W 196 203,.M 10 204]) (Ra 206 [.q 70 22 205]
(Cn 205 (Rb 207 [.f 2 6,.C 4,.I 1 208 209,.L 210,.N 211,.M 10 212]) (Ra 214 [.q 70 23 213]
(Ci 213 (Rb 215 [.f 2 6,.C 4,.I 1 216 217,.L 218,.M 10 219])))))))))))))))))))))))))))))))
(Rb 0 [.B 10 true])))))))
def zN:Gi:=⟨[(18,[5]),(31,[6]),(39,[11]),(44,[11]),(48,[11]),(54,[6]),(56,[5]),(67,[11]),(73,[6]),(82,[6]),(90,[6]),(101,[6]),(109,[6]),(122,[6]),(132,[6]),(142,[6]),(147,[6]),(153,[11]),(158,[11]),(164,[6]),(166,[5]),(183,[6]),(197,[6]),(207,[6]),(215,[6])]⟩
def zO:List RV:=[.tmp 10]
namespace B1
def J2 (q:Bool):Option Bool:=
some q
def J3 (s:Bool):Option Bool:=
some s
def J4 (t:Bool):Option Bool:=
some t
def J7 (u:Bool):Option Bool:=
some u
def J8 (v:Bool):Option Bool:=
some v
def J6 (a b:Int) (c:AO) (d:Int) (e:AB) (j:Bool):Option Bool:=
if j then
(gt e.Au b).bind λap=>
(gt c.AG ap.Mutex).bind λaq=>
some (aq.En==d)
else
if a==20 then
if b != d then
(gt c.AA b).bind λac=>
J7 (ac.Status==0)
else
J7 false
else
if a==21 then
if b != d then
(gt c.AA b).bind λad=>
J8 (ad.Status==5)
else
J8 false
else
if a==22 then
(gt c.Ce b).bind λae=>
some (!ae)
else
if a==23 then
(gt c.Ce b).bind λaf=>
some af
else
some true
def J5 (a b:Int) (c:AO) (d:Int) (e:AB) (f:AD) (i:Bool):Option Bool:=
if i then
(gt c.AG b).bind λal=>
some (al.En==d)
else
if a==9 then
(gt c.AG b).bind λao=>
(Eh ao.BW d).bind λaa=>
some aa
else
if a==12 then
some (c.Tx==(-1))
else
if a==13 then
some (c.Tx==d)
else
if a==14 then
some (!f.Atomic)
else
if a==15 then
some f.Atomic
else
if a==16 then
J6 a b c d e (a==16)
else
if a==18 then
J6 a b c d e (a==18)
else
J6 a b c d e (a==19)
def J1 (a b:Int) (c:AO) (d:Int) (e:AB) (l:Bool):Option Bool:=
if l then
some false
else
(gt c.AA d).bind λf=>
if a==1 then
some (f.Status==1)
else
if a==17 then
if f.Status==4 then
if f.Ef==b then
(gt e.Au b).bind λab=>
(gt c.AG ab.Mutex).bind λai=>
J2 (ai.En==(-1))
else
J2 false
else
J2 false
else
if f.Status != 2 then
some false
else
if a==6 then
(gt c.AG b).bind λaj=>
some (aj.En==(-1))
else
if a==10 then
(gt c.AG b).bind λo=>
if o.En==(-1)then
J3 ((o.BW.length:Int)==0)
else
J3 false
else
if a==8 then
(gt c.AG b).bind λp=>
if p.En==(-1)then
(Eh p.BW d).bind λz=>
J4 (!z)
else
J4 false
else
if a==7 then
J5 a b c d e f (a==7)
else
J5 a b c d e f (a==11)
end B1
section
open B1
def B1 (e:AB) (c:AO) (d a b:Int):Option Bool:=
(Dd e c).bind λw=>
if !w then
J1 a b c d e true
else
(E4 d (e.AA.length:Int)).bind λx=>
if !x then
J1 a b c d e true
else
(Fw e a b).bind λy=>
J1 a b c d e (!y)
theorem Mt {e:AB} {c:AO} {d a b:Int} {r:Bool} (h:B1 e c d a b=some r):Says Tryz.prog 47 [.agg (Ap e),.agg (GZ c),si d,si a,si b] (sb r):=by
 refine wO mix Tryz.func47 (I:=⟨zM,zN,zO⟩) ?_
 simp only[zM,zN,zO]
 have a1:= @MC
 have a2:= @K2
 have a3:= @O6
 have a4:= @RL
 have c6:=λn1 n2 n3 n4:Nat=>B7 6 λτ=>∃(j:Bool),(τ 2=si d/\τ 4=si b/\τ 5=bA 6 (Ap e)/\τ 6=bA 4 (GZ c)/\τ 70=si a/\τ 160=sb j)/\J6 a b c d e j=some r
 have c5:=λn1 n2 n3 n4:Nat=>B7 5 λτ=>∃(f:AD) (i:Bool),(τ 2=si d/\τ 4=si b/\τ 5=bA 6 (Ap e)/\τ 6=bA 4 (GZ c)/\τ 11=bA 3 (A2 f)/\τ 70=si a/\τ 119=sb i)/\J5 a b c d e f i=some r
 have c1:=λn1 n2 n3 n4:Nat=>B7 1 λτ=>∃(l:Bool),(τ 2=si d/\τ 3=si a/\τ 4=si b/\τ 5=bA 6 (Ap e)/\τ 6=bA 4 (GZ c)/\τ 30=sb l)/\J1 a b c d e l=some r
 unfold B1 at h
 exact walk
end
def ABR:IC:=(Ra 2 [.b 1 [5,8,12,17,25,32] (.bx 4 (.t 0)),.o (.bx 4 (.c (.agg z4)))]
(Ra 5 [.f 1 1,.o (.Eg 1 [] []),.f 2 1,.o (.app 1 1 (.t 7) (.t 9)),.o (.Eg 3 [] []),.f 3 1,.o (.app 3 24 (.t 11) (.t 13)),.o (.Dc z4 [(1,1,.t 6),(2,1,.t 10),(3,1,.t 14)]),.b 3 [23,24,42,43] (.bx 4 (.c (.agg z4))),.S 4 3 15]
(Sq (Ra 0 [.K 4 0]
(Bl 0 (Sq (Ra 16 [.C 4,.f 0 1,.Z 18,.O .lss 16 19]
(cX 20 0))
(Sq (Bk 1 (Rc 23 [.m 3 0 3,.f 0 1,.C 4,.I 2 26 27,.U 0 28,.o (.Eg 1 [] []),.f 0 1,.C 4,.I 2 33 34,.U 1 35,.o (.app 1 8 (.t 31) (.t 37)),.o (.Dc kN [(0,1,.t 30),(1,1,.t 38)]),.o (.Eg 2 [kN] [(0,.t 39)]),.o (.app 2 32 (.t 24) (.t 40)),.F 0 3,.S 1 42 41]))
(Rc 21 [.C 4,.P .add 21 1,.M 4 22])))))
(Rb 43 [.y 3 (.ld true 4 (.t 3)),.S 4 2 43]))))
def ABS:Gi:=⟨[(5,[1]),(8,[1]),(12,[1]),(17,[1]),(23,[3]),(24,[3]),(25,[1]),(32,[1]),(42,[3]),(43,[3])]⟩
def ABT:List RV:=[.cell 2 true 4]
namespace EP
def J1 (e:AO):Option AO:=
some e
def L1 (a:AO) (L1:AO->Int->Option AO) (b:AO) (c:Int):Option AO:=
if decide (c<(a.AG.length:Int))then
(gt a.AG c).bind λd=>
if Aq (d.BW.length) 8=true then
if Aq (b.AG.length+1) 32=true then
L1 (AO.mk (b.AG++[d]) b.Tx b.Ce b.AA) (BE (c+1))
else none
else none
else
J1 b
def Ac (a:AO):Nat->AO->Int->Option AO
|0,_,_=>none
|n+1,b,c=>L1 a (Ac a n) b c
end EP
section
open EP
def EP (a:AO):Option AO:=
if Aq (a.Ce.length) 1=true then
if Aq (a.AA.length) 24=true then
Ac a Bo (AO.mk [] a.Tx a.Ce a.AA) 0
else none
else none
theorem Lw {a r:AO} (h:EP a=some r):Says Tryz.prog 84 [.agg (GZ a)] (.agg (FK r)):=by
 refine wO mix Tryz.func84 (I:=⟨ABR,ABS,ABT⟩) ?_
 simp only[ABR,ABS,ABT]
 have l1:=λn1 n2 n3 n4:Nat=>BM λn τ=>∃(b:AO) (c:Int),(τ 1=bA 4 (GZ a)/\τ 2=bA 4 z4/\τ 3=bA 4 (FK b)/\τ 4=si c)/\Ac a n b c=some r
 unfold EP at h
 exact walk
end
def zP:IC:=(Ra 12 [.b 6 [118,141] (.bx 6 (.t 0)),.b 7 [21,28,33,34,36,37,40,41,43,44,48,49,52,53,57,58,60,61,64,65,67,68,70,71,72,76,77,80,81,83,84,86,87,88,91,92,96,99,102,103,105,106,109,110,112,113,116,117,124,125,126,127,129,130,133,134,135,136,139,140,148,149,150,151,153,154,156,157,158,159,162,175,176,178,179,183,192,193,198,199,204,205,207,208,211,212,214,215] (.bx 4 (.t 1)),.o (.bx 4 (.c (.agg z4))),.K 13 0,.B 14 false]
(Sq (Ra 20 [.A 6 6,.y 7 (.ld true 4 (.t 7)),.C 2,.C 3,.C 4,.c 47 [20,21,22,23,24] 0,.N 25]
(Ci 26 (Rb 27 [.o (.Dc z4 []),.S 4 12 27,.K 13 0,.B 14 false])))
(Ra 28 [.y 7 (.ld true 4 (.t 7)),.c 84 [28] 2,.S 4 7 29]
(Ra 0 [.K 15 0]
(Bw 5 (Ra 30 [.C 3]
(Bk 0 (Ra 32 [.q 30 1 31]
(Cn 31 (Rc 33 [.m 7 3 7,.C 2,.J 7 3 34 35,.H 7 0 36,.T 37 2]) (Ra 39 [.q 30 2 38]
(Cn 38 (Rc 40 [.m 7 3 7,.C 2,.J 7 3 41 42,.H 7 0 43,.T 44 5]) (Bw 1 (Ra 46 [.q 30 6 45]
(Cn 45 .skip (Rc 47 [.q 30 10 45])))
(Cn 45 (Rc 48 [.m 7 0 7,.C 4,.C 2,.J 7 2 49 50,.H 7 0 52,.S 1 53 51]) (Bw 2 (Ra 55 [.q 30 7 54]
(Cn 54 .skip (Rc 56 [.q 30 11 54])))
(Cn 54 (Rc 57 [.m 7 0 7,.C 4,.J 7 2 58 59,.H 7 0 60,.T 61 (-1)]) (Ra 63 [.q 30 8 62]
(Cn 62 (Rc 64 [.m 7 0 7,.C 4,.m 7 0 7,.C 4,.J 7 2 68 69,.m 7 1 70,.C 2,.o (.Eg 1 [[si 0]] [(0,.t 73)]),.c 85 [72,74] 2,.J 7 2 65 66,.H 7 1 76,.S 1 77 75]) (Ra 79 [.q 30 9 78]
(Cn 78 (Rc 80 [.m 7 0 7,.C 4,.m 7 0 7,.C 4,.J 7 2 84 85,.m 7 1 86,.C 2,.c 86 [88,89] 2,.J 7 2 81 82,.H 7 1 91,.S 1 92 90]) (Ra 94 [.q 30 12 93]
(Cn 93 (Rc 95 [.C 2,.F 1 7,.S 1 96 95]) (Ra 98 [.q 30 13 97]
(Cn 97 (Rc 99 [.F 1 7,.T 99 (-1)]) (Ra 101 [.q 30 14 100]
(Cn 100 (Rc 102 [.m 7 3 7,.C 2,.J 7 3 103 104,.H 7 2 105,.x ⟨none,.st 1 (.t 106) (.c (sb true)),none⟩]) (Ra 108 [.q 30 15 107]
(Cn 107 (Rc 109 [.m 7 3 7,.C 2,.J 7 3 110 111,.H 7 2 112,.x ⟨none,.st 1 (.t 113) (.c (sb false)),none⟩]) (Ra 115 [.q 30 16 114]
(Cn 114 (Ra 116 [.m 7 0 7,.f 2 6,.C 4,.I 2 119 120,.U 1 121,.J 7 2 117 123,.H 7 0 124,.T 125 (-1)]
(Rc 126 [.F 3 7,.y 7 (.Qt (.t 126)),.C 2,.F 3 7,.y 7 (.Qt (.t 129)),.C 2,.C 4,.J 7 3 127 128,.H 7 0 133,.x ⟨none,.P1 (.t 134) (.c (si 3)),none⟩,.J 7 3 130 131,.H 7 1 135,.x ⟨none,.P1 (.t 136) (.t 132),none⟩])) (Ra 138 [.q 30 17 137]
(Cn 137 (Ra 139 [.m 7 0 7,.f 2 6,.C 4,.I 2 142 143,.U 1 144,.C 2,.J 7 2 140 146,.H 7 0 148,.S 1 149 147]
(Rc 150 [.F 3 7,.y 7 (.Qt (.t 150)),.C 2,.F 3 7,.y 7 (.Qt (.t 153)),.C 2,.J 7 3 151 152,.H 7 0 156,.x ⟨none,.P1 (.t 157) (.c (si 2)),none⟩,.J 7 3 154 155,.H 7 1 158,.x ⟨none,.P1 (.t 159) (.c (si 0)),none⟩])) (Ra 161 [.q 30 18 160]
(Cn 160 (Ra 162 [.y 7 (.ld true 4 (.t 7)),.C 4,.c 83 [162,163] 2,.b 16 [165,168,169,171] (.mv (.t 164))]
(Ra 0 [.K 15 (-1)]
(Ra 165 [.y 16 (.cp (.t 16)),.Z 165,.P .gtr 166 0]
(Ci 167 (Ra 168 [.y 16 (.cp (.t 16)),.y 16 (.Lr 1 (.t 168) (.c (si 0))),.L 169,.M 17 170]
(Sq (Ra 171 [.y 16 (.cp (.t 16)),.C 5,.c 82 [171,172] 0]
(Ci 173 (Rc 174 [.C 5,.M 17 174])))
(Ra 175 [.m 7 3 7,.C 17,.J 7 3 176 177,.H 7 0 178,.T 179 4]
(Rc 180 [.C 17,.M 15 180])))))))) (Ra 182 [.q 30 19 181]
(Cn 181 (Ra 183 [.y 7 (.ld true 4 (.t 7)),.C 4,.c 83 [183,184] 2,.b 18 [187,194,196,200] (.mv (.t 185))]
(Sq (Ra 0 [.K 19 0]
(Bl 1 (Sq (Ra 186 [.C 19,.y 18 (.cp (.t 18)),.Z 187,.O .lss 186 188]
(cX 189 1))
(Sq (Bk 2 (Rc 192 [.m 7 3 7,.y 18 (.cp (.t 18)),.C 19,.J 18 1 194 195,.L 196,.J 7 3 193 197,.H 7 0 198,.T 199 4]))
(Rc 190 [.C 19,.P .add 190 1,.M 19 191])))))
(Rc 200 [.y 18 (.cp (.t 18)),.Z 200,.M 15 201]))) (Ra 203 [.q 30 20 202]
(Cn 202 (Rc 204 [.m 7 3 7,.C 4,.J 7 3 205 206,.H 7 0 207,.T 208 1]) (Ra 210 [.q 30 22 209]
(Ci 209 (Rc 211 [.m 7 2 7,.C 4,.J 7 1 212 213,.x ⟨none,.st 1 (.t 214) (.c (sb true)),none⟩])))))))))))))))))))))))))))))))))))
(Rb 215 [.y 7 (.ld true 4 (.t 7)),.C 15,.S 4 12 215,.M 13 216,.B 14 true]))))))
def zQ:Gi:=⟨[(21,[7]),(28,[7]),(33,[7]),(34,[7]),(36,[7]),(37,[7]),(40,[7]),(41,[7]),(43,[7]),(44,[7]),(48,[7]),(49,[7]),(52,[7]),(53,[7]),(57,[7]),(58,[7]),(60,[7]),(61,[7]),(64,[7]),(65,[7]),(67,[7]),(68,[7]),(70,[7]),(71,[7]),(72,[7]),(76,[7]),(77,[7]),(80,[7]),(81,[7]),(83,[7]),(84,[7]),(86,[7]),(87,[7]),(88,[7]),(91,[7]),(92,[7]),(96,[7]),(99,[7]),(102,[7]),(103,[7]),(105,[7]),(106,[7]),(109,[7]),(110,[7]),(112,[7]),(113,[7]),(116,[7]),(117,[7]),(118,[6]),(124,[7]),(125,[7]),(126,[7]),(127,[7]),(129,[7]),(130,[7]),(133,[7]),(134,[7]),(135,[7]),(136,[7]),(139,[7]),(140,[7]),(141,[6]),(148,[7]),(149,[7]),(150,[7]),(151,[7]),(153,[7]),(154,[7]),(156,[7]),(157,[7]),(158,[7]),(159,[7]),(162,[7]),(165,[16]),(168,[16]),(169,[16]),(171,[16]),(175,[7]),(176,[7]),(178,[7]),(179,[7]),(183,[7]),(187,[18]),(192,[7]),(193,[7]),(194,[18]),(196,[18]),(198,[7]),(199,[7]),(200,[18]),(204,[7]),(205,[7]),(207,[7]),(208,[7]),(211,[7]),(212,[7]),(214,[7]),(215,[7])]⟩
def zR:List RV:=[.cell 12 true 4,.tmp 13,.tmp 14]
namespace Cj
def J5 (p:AO) (t:Int):Option (AO×Int×Bool):=
some (p,t,true)
def J3 (a:AO) (w:Int):Option (AO×Int×Bool):=
(gt a.AA w).bind λad=>
J5 (AO.mk a.AG a.Tx a.Ce (a.AA.set w.toNat (AD.mk 4 ad.Ef ad.Atomic))) w
def J4 (i:List Int) (au:AO):Option (AO×Int×Bool):=
J5 au (i.length:Int)
def L1 (i:List Int) (L1:AO->Int->Option (AO×Int×Bool)) (j:AO) (l:Int):Option (AO×Int×Bool):=
if decide (l<(i.length:Int))then
(gt i l).bind λae=>
(gt j.AA ae).bind λaf=>
L1 (AO.mk j.AG j.Tx j.Ce (j.AA.set ae.toNat (AD.mk 4 af.Ef af.Atomic))) (BE (l+1))
else
J4 i j
def Ac (i:List Int):Nat->AO->Int->Option (AO×Int×Bool)
|0,_,_=>none
|n+1,j,l=>L1 i (Ac i n) j l
def J2 (c d b:Int) (a:AO) (f:Int) (e:AB) (s:Bool):Option (AO×Int×Bool):=
if s then
(gt a.AG d).bind λbc=>
J5 (AO.mk (a.AG.set d.toNat (AY.mk (-1) bc.BW)) a.Tx a.Ce a.AA) 0
else
if c==8 then
(gt a.AG d).bind λaj=>
(Cx aj.BW [b]).bind λaw=>
J5 (AO.mk (a.AG.set d.toNat (AY.mk aj.En aw)) a.Tx a.Ce a.AA) 0
else
if c==9 then
(gt a.AG d).bind λal=>
(C0 al.BW b).bind λax=>
J5 (AO.mk (a.AG.set d.toNat (AY.mk al.En ax)) a.Tx a.Ce a.AA) 0
else
if c==12 then
J5 (AO.mk a.AG b a.Ce a.AA) 0
else
if c==13 then
J5 (AO.mk a.AG (-1) a.Ce a.AA) 0
else
if c==14 then
(gt a.AA b).bind λao=>
J5 (AO.mk a.AG a.Tx a.Ce (a.AA.set b.toNat (AD.mk ao.Status ao.Ef true))) 0
else
if c==15 then
(gt a.AA b).bind λap=>
J5 (AO.mk a.AG a.Tx a.Ce (a.AA.set b.toNat (AD.mk ap.Status ap.Ef false))) 0
else
if c==16 then
(gt e.Au d).bind λaq=>
(gt a.AG aq.Mutex).bind λbd=>
(gt a.AA b).bind λu=>
(gt (a.AA.set b.toNat (AD.mk 3 u.Ef u.Atomic)) b).bind λaa=>
J5 (AO.mk (a.AG.set aq.Mutex.toNat (AY.mk (-1) bd.BW)) a.Tx a.Ce ((a.AA.set b.toNat (AD.mk 3 u.Ef u.Atomic)).set b.toNat (AD.mk aa.Status d aa.Atomic))) 0
else
if c==17 then
(gt e.Au d).bind λab=>
(gt a.AG ab.Mutex).bind λaz=>
(gt a.AA b).bind λv=>
(gt (a.AA.set b.toNat (AD.mk 2 v.Ef v.Atomic)) b).bind λac=>
J5 (AO.mk (a.AG.set ab.Mutex.toNat (AY.mk b az.BW)) a.Tx a.Ce ((a.AA.set b.toNat (AD.mk 2 v.Ef v.Atomic)).set b.toNat (AD.mk ac.Status 0 ac.Atomic))) 0
else
if c==18 then
(CO a d).bind λx=>
if decide ((x.length:Int)>0)then
(gt x 0).bind λba=>
(Eh x f).bind λay=>
if ay then
J3 a f
else
J3 a ba
else
J5 a (-1)
else
if c==19 then
(CO a d).bind λi=>
Ac i Bo a 0
else
if c==20 then
(gt a.AA d).bind λai=>
J5 (AO.mk a.AG a.Tx a.Ce (a.AA.set d.toNat (AD.mk 1 ai.Ef ai.Atomic))) 0
else
if c==22 then
(gt a.Ce d).bind λbe=>
J5 (AO.mk a.AG a.Tx (a.Ce.set d.toNat true) a.AA) 0
else
J5 a 0
def J1 (c d b:Int) (a:AO) (f:Int) (e:AB) (q:Bool):Option (AO×Int×Bool):=
if q then
(gt a.AG d).bind λbb=>
J5 (AO.mk (a.AG.set d.toNat (AY.mk b bb.BW)) a.Tx a.Ce a.AA) 0
else
if c==7 then
J2 c d b a f e (c==7)
else
J2 c d b a f e (c==11)
end Cj
section
open Cj
def Cj (e:AB) (o:AO) (b c:Int) (d f:Int):Option (AO×Int×Bool):=
(B1 e o b c d).bind λav=>
if !av then
some ((AO.mk [] 0 [] []),0,false)
else
(EP o).bind λa=>
if c==1 then
(gt a.AA b).bind λy=>
J5 (AO.mk a.AG a.Tx a.Ce (a.AA.set b.toNat (AD.mk 2 y.Ef y.Atomic))) 0
else
if c==2 then
(gt a.AA b).bind λz=>
J5 (AO.mk a.AG a.Tx a.Ce (a.AA.set b.toNat (AD.mk 5 z.Ef z.Atomic))) 0
else
if c==6 then
J1 c d b a f e (c==6)
else
J1 c d b a f e (c==10)
theorem O3 {e:AB} {o:AO} {b c:Int} {d f:Int} {r:AO×Int×Bool} (h:Cj e o b c d f=some r):Says Tryz.prog 50 [.agg (Ap e),.agg (GZ o),si b,si c,si d,si f] (.A9 [.agg (FK r.1),si r.2.1,sb r.2.2]):=by
 refine wO mix Tryz.func50 (I:=⟨zP,zQ,zR⟩) ?_
 simp only[zP,zQ,zR]
 have a1:= @Mt
 have a2:= @Lw
 have a3:= @Kn
 have a4:= @Og
 have a5:= @Mw
 have a6:= @MC
 have l1:=λn1 n2 n3 n4:Nat=>BM λn τ=>∃(i:List Int) (j:AO) (l:Int),(τ 7=bA 4 (FK j)/\τ 12=bA 4 z4/\τ 18=vO 1 eI i/\τ 19=si l)/\Ac i n j l=some r
 have c5:=λn1 n2 n3 n4:Nat=>B7 5 λτ=>∃(p:AO) (t:Int),(τ 7=bA 4 (FK p)/\τ 12=bA 4 z4/\τ 15=si t)/\J5 p t=some r
 have c2:=λn1 n2 n3 n4:Nat=>B7 2 λτ=>∃(a:AO) (s:Bool),(τ 2=si b/\τ 4=si d/\τ 5=si f/\τ 6=bA 6 (Ap e)/\τ 7=bA 4 (FK a)/\τ 12=bA 4 z4/\τ 15=si 0/\τ 30=si c/\τ 54=sb s)/\J2 c d b a f e s=some r
 have c1:=λn1 n2 n3 n4:Nat=>B7 1 λτ=>∃(a:AO) (q:Bool),(τ 2=si b/\τ 4=si d/\τ 5=si f/\τ 6=bA 6 (Ap e)/\τ 7=bA 4 (FK a)/\τ 12=bA 4 z4/\τ 15=si 0/\τ 30=si c/\τ 45=sb q)/\J1 c d b a f e q=some r
 unfold Cj at h
 exact walk
end
def mU:IC:=(Ra 2 [.b 1 [5,7,10,15,24] (.bx 4 (.t 0)),.o (.bx 4 (.c (.agg z6)))]
(Ra 5 [.f 0 1,.f 3 1,.o (.Eg 1 [] []),.f 1 1,.o (.app 1 8 (.t 9) (.t 11)),.o (.Dc z6 [(0,1,.t 6),(3,1,.t 8),(1,1,.t 12)]),.b 3 [21,22,32,33] (.bx 4 (.c (.agg z6))),.S 4 3 13]
(Sq (Ra 0 [.K 4 0]
(Bl 0 (Sq (Ra 14 [.C 4,.f 2 1,.Z 16,.O .lss 14 17]
(cX 18 0))
(Sq (Bk 1 (Rc 21 [.m 3 2 3,.o (.Eg 1 [] []),.f 2 1,.C 4,.I 1 25 26,.L 27,.o (.app 1 8 (.t 23) (.t 28)),.o (.Eg 1 [[.own false 1 []]] [(0,.t 29)]),.o (.app 1 24 (.t 22) (.t 30)),.F 2 3,.S 1 32 31]))
(Rc 19 [.C 4,.P .add 19 1,.M 4 20])))))
(Sq (.gz true 3 [(0,2,0)] (Rc 33 [.y 3 (.ld true 4 (.t 3)),.S 4 2 33]))
.ret))))
def mV:Gi:=⟨[(5,[1]),(7,[1]),(10,[1]),(15,[1]),(21,[3]),(22,[3]),(24,[1]),(32,[3]),(33,[3])]⟩
def mW:List RV:=[.cell 2 true 4]
namespace Dq
def J1 (e:AE):Option AE:=
some e
def L1 (a:AE) (L1:AE->Int->Option AE) (b:AE) (c:Int):Option AE:=
if decide (c<(a.Bt.length:Int))then
(gt a.Bt c).bind λd=>
if Aq (d.length) 8=true then
if Aq (b.Bt.length+1) 24=true then
L1 (AE.mk b.PC b.CN (b.Bt++[d]) b.AX) (BE (c+1))
else none
else none
else
J1 b
def Ac (a:AE):Nat->AE->Int->Option AE
|0,_,_=>none
|n+1,b,c=>L1 a (Ac a n) b c
end Dq
section
open Dq
def Dq (a:AE):Option AE:=
if Aq (a.CN.length) 8=true then
Ac a Bo (AE.mk a.PC a.CN [] a.AX) 0
else none
theorem Lv {a r:AE} (h:Dq a=some r):Says Tryz.prog 130 [.agg (Dh a)] (.agg (BN r)):=by
 refine wO mix Tryz.func130 (I:=⟨mU,mV,mW⟩) ?_
 simp only[mU,mV,mW]
 have l1:=λn1 n2 n3 n4:Nat=>BM λn τ=>∃(b:AE) (c:Int),(τ 1=bA 4 (Dh a)/\τ 2=bA 4 z6/\τ 3=bA 4 [si b.PC,vO 1 eI b.CN,vO 1 Wk b.Bt,si b.AX]/\τ 4=si c)/\Ac a n b c=some r
 unfold Dq at h
 exact walk
end
def AB1:IC:=(Ra 2 [.b 1 [5,9,13,18,26] (.bx 7 (.t 0)),.o (.bx 7 (.c (.agg z2)))]
(Ra 5 [.F 0 1,.A 4 5,.c 84 [6] 2,.o (.Eg 1 [] []),.f 4 1,.o (.app 1 8 (.t 8) (.t 10)),.o (.Eg 1 [] []),.f 5 1,.o (.app 1 8 (.t 12) (.t 14)),.o (.Dc z2 [(0,4,.t 7),(4,1,.t 11),(5,1,.t 15)]),.b 3 [24,25,34,35] (.bx 7 (.c (.agg z2))),.S 7 3 16]
(Sq (Ra 0 [.K 4 0]
(Bl 0 (Sq (Ra 17 [.C 4,.f 6 1,.Z 19,.O .lss 17 20]
(cX 21 0))
(Sq (Bk 1 (Rc 24 [.m 3 6 3,.f 6 1,.C 4,.I 4 27 28,.A 4 29,.c 130 [30] 3,.o (.Eg 4 [z6] [(0,.t 31)]),.o (.app 4 64 (.t 25) (.t 32)),.F 6 3,.S 1 34 33]))
(Rc 22 [.C 4,.P .add 22 1,.M 4 23])))))
(Rb 35 [.y 3 (.ld true 7 (.t 3)),.S 7 2 35]))))
def AB2:Gi:=⟨[(5,[1]),(9,[1]),(13,[1]),(18,[1]),(24,[3]),(25,[3]),(26,[1]),(34,[3]),(35,[3])]⟩
def AB3:List RV:=[.cell 2 true 7]
namespace D7
def J1 (d:AZ):Option AZ:=
some d
def L1 (a:AZ) (L1:AZ->Int->Option AZ) (b:AZ) (c:Int):Option AZ:=
if decide (c<(a.AA.length:Int))then
(gt a.AA c).bind λi=>
(Dq i).bind λf=>
if Aq (b.AA.length+1) 64=true then
L1 (AZ.mk b.Sync b.Cells b.AH (b.AA++[f])) (BE (c+1))
else none
else
J1 b
def Ac (a:AZ):Nat->AZ->Int->Option AZ
|0,_,_=>none
|n+1,b,c=>L1 a (Ac a n) b c
end D7
section
open D7
def D7 (a:AZ):Option AZ:=
(EP a.Sync).bind λe=>
if Aq (a.Cells.length) 8=true then
if Aq (a.AH.length) 8=true then
Ac a Bo (AZ.mk e a.Cells a.AH []) 0
else none
else none
theorem SM {a r:AZ} (h:D7 a=some r):Says Tryz.prog 99 [.agg (HM a)] (.agg (IZ r)):=by
 refine wO mix Tryz.func99 (I:=⟨AB1,AB2,AB3⟩) ?_
 simp only[AB1,AB2,AB3]
 have a1:= @Lw
 have a2:= @Lv
 have l1:=λn1 n2 n3 n4:Nat=>BM λn τ=>∃(b:AZ) (c:Int),(τ 1=bA 7 (HM a)/\τ 2=bA 7 z2/\τ 3=bA 7 (IZ b)/\τ 4=si c)/\Ac a n b c=some r
 unfold D7 at h
 exact walk
end
def o7:IC:=(Ra 0 [.K 2 0]
(Sq (Ra 3 [.C 0,.P .lss 3 1,.C 4,.G 5 false,.C 0,.P .gtr 6 100,.e,.V 5 7]
(Ci 8 (Rb 0 [.K 2 0])))
(Rb 9 [.C 0,.M 2 9])))
def o8:Gi:=⟨[]⟩
def o9:List RV:=[.tmp 2]
namespace DN
def J1 (a:Int) (b:Bool):Option Int:=
if b then
some 0
else
some a
end DN
section
open DN
def DN (a:Int):Option Int:=
if decide (a<1)then
J1 a true
else
J1 a (decide (a>100))
theorem Nz {a r:Int} (h:DN a=some r):Says Tryz.prog 155 [si a] (si r):=by
 refine wO mix Tryz.func155 (I:=⟨o7,o8,o9⟩) ?_
 simp only[o7,o8,o9]
 unfold DN at h
 exact walk
end
def qD:IC:=(Ra 0 [.K 2 0]
(Sq (Ra 3 [.C 0]
(Ci 3 (Rb 0 [.K 2 1])))
(Rb 0 [.K 2 0])))
def qE:Gi:=⟨[]⟩
def qF:List RV:=[.tmp 2]
def Cw (a:Bool):Option Int:=
if a then
some 1
else
some 0
theorem Kk {a:Bool} {r:Int} (h:Cw a=some r):Says Tryz.prog 165 [sb a] (si r):=by
 refine wO mix Tryz.func165 (I:=⟨qD,qE,qF⟩) ?_
 simp only[qD,qE,qF]
 unfold Cw at h
 exact walk
def o4:IC:=(Ra 0 [.K 4 0,.B 5 false]
(Sq (Ra 6 [.C 0]
(Bk 0 (Ra 8 [.q 6 4 7]
(Cn 7 (Rb 9 [.C 1,.o (.un .neg (.t 9)),.M 4 10,.B 5 true]) (Ra 12 [.q 6 5 11]
(Ci 11 (Rb 13 [.C 1,.Q 13 0,.c 165 [14] 0,.M 4 15,.B 5 true])))))))
(Rb 0 [.K 4 0,.B 5 false])))
def o5:Gi:=⟨[]⟩
def o6:List RV:=[.tmp 4,.tmp 5]
def Hg (b a:Int):Option (Int×Bool):=
if b==4 then
some (BE (0-a),true)
else
if b==5 then
(Cw (a==0)).bind λc=>
some (c,true)
else
some (0,false)
theorem RE {b a:Int} {r:Int×Bool} (h:Hg b a=some r):Says Tryz.prog 154 [si b,si a] (.A9 [si r.1,sb r.2]):=by
 refine wO mix Tryz.func154 (I:=⟨o4,o5,o6⟩) ?_
 simp only[o4,o5,o6]
 have a1:= @Kk
 unfold Hg at h
 exact walk
def pF:IC:=(Ra 0 [.K 6 0,.B 7 false]
(Sq (Ra 8 [.C 0]
(Bk 0 (Ra 10 [.q 8 6 9]
(Cn 9 (Rb 11 [.C 1,.C 2,.O .add 11 12,.M 6 13,.B 7 true]) (Ra 15 [.q 8 7 14]
(Cn 14 (Rb 16 [.C 1,.C 2,.O .sub 16 17,.M 6 18,.B 7 true]) (Ra 20 [.q 8 8 19]
(Cn 19 (Rb 21 [.C 1,.C 2,.O .mul 21 22,.M 6 23,.B 7 true]) (Ra 25 [.q 8 9 24]
(Cn 24 (Sq (Ra 26 [.C 2,.Q 26 0]
(Ci 27 (Rb 0 [.K 6 0,.B 7 true])))
(Rb 28 [.C 1,.C 2,.O .quo 28 29,.M 6 30,.B 7 true])) (Ra 32 [.q 8 10 31]
(Cn 31 (Sq (Ra 33 [.C 2,.Q 33 0]
(Ci 34 (Rb 0 [.K 6 0,.B 7 true])))
(Rb 35 [.C 1,.C 2,.O .rem 35 36,.M 6 37,.B 7 true])) (Ra 39 [.q 8 11 38]
(Cn 38 (Rb 40 [.C 1,.C 2,.O .eql 40 41,.c 165 [42] 0,.M 6 43,.B 7 true]) (Ra 45 [.q 8 12 44]
(Cn 44 (Rb 46 [.C 1,.C 2,.O .neq 46 47,.c 165 [48] 0,.M 6 49,.B 7 true]) (Ra 51 [.q 8 13 50]
(Cn 50 (Rb 52 [.C 1,.C 2,.O .lss 52 53,.c 165 [54] 0,.M 6 55,.B 7 true]) (Ra 57 [.q 8 14 56]
(Cn 56 (Rb 58 [.C 1,.C 2,.O .leq 58 59,.c 165 [60] 0,.M 6 61,.B 7 true]) (Ra 63 [.q 8 15 62]
(Cn 62 (Rb 64 [.C 1,.C 2,.O .gtr 64 65,.c 165 [66] 0,.M 6 67,.B 7 true]) (Ra 69 [.q 8 16 68]
(Cn 68 (Rb 70 [.C 1,.C 2,.O .geq 70 71,.c 165 [72] 0,.M 6 73,.B 7 true]) (Ra 75 [.q 8 17 74]
(Cn 74 (Rb 76 [.C 1,.P .neq 76 0,.C 77,.G 78 true,.C 2,.P .neq 79 0,.e,.W 78 80,.c 165 [81] 0,.M 6 82,.B 7 true]) (Ra 84 [.q 8 18 83]
(Ci 83 (Rb 85 [.C 1,.P .neq 85 0,.C 86,.G 87 false,.C 2,.P .neq 88 0,.e,.V 87 89,.c 165 [90] 0,.M 6 91,.B 7 true])))))))))))))))))))))))))))))
(Rb 0 [.K 6 0,.B 7 false])))
def pG:Gi:=⟨[]⟩
def pH:List RV:=[.tmp 6,.tmp 7]
namespace EC
def J1 (d:Int):Option (Int×Bool):=
some (d,true)
def J2 (e:Int):Option (Int×Bool):=
some (e,true)
end EC
section
open EC
def EC (c b a:Int):Option (Int×Bool):=
if c==6 then
some (BE (b+a),true)
else
if c==7 then
some (BE (b-a),true)
else
if c==8 then
some (BE (b*a),true)
else
if c==9 then
if a==0 then
some (0,true)
else
if¬a=0 then
some (BE (b.tdiv a),true)
else none
else
if c==10 then
if a==0 then
some (0,true)
else
if¬a=0 then
some (b.tmod a,true)
else none
else
if c==11 then
(Cw (b==a)).bind λf=>
some (f,true)
else
if c==12 then
(Cw (b != a)).bind λi=>
some (i,true)
else
if c==13 then
(Cw (decide (b<a))).bind λj=>
some (j,true)
else
if c==14 then
(Cw (decide (b≤a))).bind λl=>
some (l,true)
else
if c==15 then
(Cw (decide (b>a))).bind λo=>
some (o,true)
else
if c==16 then
(Cw (decide (b≥a))).bind λp=>
some (p,true)
else
if c==17 then
if b != 0 then
(Cw (a != 0)).bind λq=>
J1 q
else
(Cw false).bind λs=>
J1 s
else
if c==18 then
if b != 0 then
(Cw true).bind λt=>
J2 t
else
(Cw (a != 0)).bind λu=>
J2 u
else
some (0,false)
theorem Pe {c b a:Int} {r:Int×Bool} (h:EC c b a=some r):Says Tryz.prog 156 [si c,si b,si a] (.A9 [si r.1,sb r.2]):=by
 refine wO mix Tryz.func156 (I:=⟨pF,pG,pH⟩) ?_
 simp only[pF,pG,pH]
 have a1:= @Kk
 unfold EC at h
 exact walk
end
def mX:IC:=(Ra 4 [.b 2 [35,38,43,49,58,64,71,77,83,89,96,101,110,116,120] (.bx 6 (.t 0)),.b 3 [29,30,41,42,45,47,48,51,56,57,60,61,62,63,66,67,73,74,81,82,85,87,88,91,92,99,100,103,108,109,112,113,114,115,118,119,126,127,128,131,132] (.bx 4 (.t 1)),.o (.bx 4 (.c (.agg z6))),.B 5 false]
(Ra 11 [.A 6 2,.c 70 [11] 2,.b 6 [14,19,21,25,27] (.mv (.t 12))]
(Sq (Ra 0 [.K 7 0]
(Bl 0 (Sq (Ra 13 [.C 7,.y 6 (.cp (.t 6)),.Z 14,.O .lss 13 15]
(cX 16 0))
(Sq (Bk 1 (Ra 19 [.y 6 (.cp (.t 6)),.C 7,.J 6 1 19 20,.L 21,.P .lss 22 0,.C 23,.G 24 false,.y 6 (.cp (.t 6)),.C 7,.y 6 (.Lr 1 (.t 25) (.t 26)),.L 27,.m 3 1 3,.Z 30,.O .geq 28 31,.e,.V 24 32]
(Ci 33 (Rb 34 [.o (.Dc z6 []),.S 4 4 34,.B 5 false]))))
(Rc 17 [.C 7,.P .add 17 1,.M 7 18])))))
(Ra 0 [.K 8 0,.B 9 true]
(Ra 0 [.b 10 [124] (.mv (.c (.sl false 1 [])))]
(Sq (Ra 35 [.f 0 2]
(Bk 2 (Ra 70 [.q 36 5 69]
(Cn 69 (Ra 71 [.f 1 2,.F 0 3,.S 1 73 72]
(Rb 74 [.y 3 (.ld true 4 (.t 3)),.S 4 4 74,.B 5 true])) (Ra 76 [.q 36 1 75]
(Cn 75 (Rc 77 [.f 4 2,.M 8 78]) (Ra 80 [.q 36 2 79]
(Cn 79 (Rc 81 [.m 3 1 3,.f 2 2,.J 3 1 82 84,.L 85,.m 3 2 3,.f 2 2,.J 3 1 88 90,.l 3 91,.M 8 86,.b 10 [124] (.mv (.t 92))]) (Ra 94 [.q 36 3 93]
(Cn 93 (Ra 96 [.f 4 2,.c 155 [97] 0,.m 3 1 3,.f 2 2,.J 3 1 100 102,.L 103,.c 154 [98,104] 0,.w 95,.C 105,.w 106,.o (.ext (.t 95) 0),.o (.ext (.t 95) 1),.M 8 106,.M 9 107]
(Rc 108 [.m 3 2 3,.f 2 2,.J 3 1 109 111,.l 3 112,.b 10 [124] (.mv (.t 113))])) (Ra 38 [.f 4 2,.c 155 [39] 0,.m 3 1 3,.f 2 2,.J 3 1 42 44,.L 45,.m 3 1 3,.f 3 2,.J 3 1 48 50,.L 51,.c 156 [40,46,52] 0,.w 37,.C 53,.w 54,.o (.ext (.t 37) 0),.o (.ext (.t 37) 1),.M 8 54,.M 9 55]
(Rc 56 [.m 3 2 3,.f 2 2,.J 3 1 57 59,.l 3 60,.m 3 2 3,.f 3 2,.J 3 1 63 65,.l 3 66,.c 85 [61,67] 1,.b 10 [124] (.mv (.t 68))]))))))))))))
(Sq (.pg true 3 [(0,2,0)] (Rc 114 [.F 1 3,.y 3 (.Qt (.t 114)),.f 1 2,.F 2 3,.y 3 (.Qt (.t 118)),.f 1 2,.C 8,.o (.Eg 1 [] []),.y 10 (.cp (.t 10)),.o (.app 1 8 (.t 123) (.t 124)),.J 3 1 115 117,.x ⟨none,.P1 (.t 126) (.t 122),none⟩,.J 3 1 119 121,.S 1 127 125]))
(Ra 128 [.f 0 3,.P .add 129 1,.F 0 3,.S 1 131 130]
(Rb 132 [.y 3 (.ld true 4 (.t 3)),.C 9,.S 4 4 132,.M 5 133])))))))))
def mY:Gi:=⟨[(14,[6]),(19,[6]),(21,[6]),(25,[6]),(27,[6]),(29,[3]),(30,[3]),(35,[2]),(38,[2]),(41,[3]),(42,[3]),(43,[2]),(45,[3]),(47,[3]),(48,[3]),(49,[2]),(51,[3]),(56,[3]),(57,[3]),(58,[2]),(60,[3]),(61,[3]),(62,[3]),(63,[3]),(64,[2]),(66,[3]),(67,[3]),(71,[2]),(73,[3]),(74,[3]),(77,[2]),(81,[3]),(82,[3]),(83,[2]),(85,[3]),(87,[3]),(88,[3]),(89,[2]),(91,[3]),(92,[3]),(96,[2]),(99,[3]),(100,[3]),(101,[2]),(103,[3]),(108,[3]),(109,[3]),(110,[2]),(112,[3]),(113,[3]),(114,[3]),(115,[3]),(116,[2]),(118,[3]),(119,[3]),(120,[2]),(124,[10]),(126,[3]),(127,[3]),(128,[3]),(131,[3]),(132,[3])]⟩
def mZ:List RV:=[.cell 4 true 4,.tmp 5]
namespace DE
def J3 (a:AW) (b:AE) (t:Int) (l:Bool) (e:List Int):Option (AE×Bool):=
if Aq (e.length) 8=true then
(gt b.CN a.A).bind λad=>
(gt b.Bt a.A).bind λac=>
some ((AE.mk (BE (b.PC+1)) (b.CN.set a.A.toNat t) (b.Bt.set a.A.toNat e) b.AX),l)
else none
def J2 (a:AW) (b:AE):Option (AE×Bool):=
if a.Op==5 then
some ((AE.mk a.A b.CN b.Bt b.AX),true)
else
if a.Op==1 then
J3 a b a.N true []
else
if a.Op==2 then
(gt b.CN a.B).bind λu=>
(gt b.Bt a.B).bind λv=>
J3 a b u true v
else
if a.Op==3 then
(DN a.N).bind λp=>
(gt b.CN a.B).bind λw=>
(Hg p w).bind λf=>
(gt b.Bt a.B).bind λx=>
J3 a b f.1 f.2 x
else
(DN a.N).bind λq=>
(gt b.CN a.B).bind λy=>
(gt b.CN a.C).bind λz=>
(EC q y z).bind λi=>
(gt b.Bt a.B).bind λaa=>
(gt b.Bt a.C).bind λab=>
(Cx aa ab).bind λs=>
J3 a b i.1 i.2 s
def J1 (L1:Int->Option (AE×Bool)) (c:Int) (o:Bool):Option (AE×Bool):=
if o then
some ((AE.mk 0 [] [] 0),false)
else
L1 (BE (c+1))
def L1 (a:AW) (b:AE) (d:List Int) (L1:Int->Option (AE×Bool)) (c:Int):Option (AE×Bool):=
if decide (c<(d.length:Int))then
(gt d c).bind λj=>
if decide (j<0)then
J1 L1 c true
else
J1 L1 c (decide (j≥(b.CN.length:Int)))
else
J2 a b
def Ac (a:AW) (b:AE) (d:List Int):Nat->Int->Option (AE×Bool)
|0,_=>none
|n+1,c=>L1 a b d (Ac a b d n) c
end DE
section
open DE
def DE (a:AW) (b:AE):Option (AE×Bool):=
(AQ a).bind λd=>
Ac a b d Bo 0
theorem SL {a:AW} {b:AE} {r:AE×Bool} (h:DE a b=some r):Says Tryz.prog 131 [.agg (C7 a),.agg (BN b)] (.A9 [.agg (BN r.1),sb r.2]):=by
 refine wO mix Tryz.func131 (I:=⟨mX,mY,mZ⟩) ?_
 simp only[mX,mY,mZ]
 have a1:= @Gm
 have a2:= @Nz
 have a3:= @RE
 have a4:= @Pe
 have a5:= @Kn
 have l1:=λn1 n2 n3 n4:Nat=>BM λn τ=>∃(d:List Int) (c:Int),(τ 2=bA 6 (C7 a)/\τ 3=bA 4 (BN b)/\τ 4=bA 4 z6/\τ 6=vO 1 eI d/\τ 7=si c)/\Ac a b d n c=some r
 unfold DE at h
 exact walk
end
end Go.Abs
