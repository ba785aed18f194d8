/- Typed programs of Go functions, and that the functions do what these say. -/
import Derived.Test.YtkpdblcoclbgbaaGreatDoorBaseA
import Derived.Test.YtkpdblcoclbgbaaGreatDoorWalkQ
import Derived.Test.YtkpdblcoclbgbaaGreatDoorWalkP
import Derived.Shelf.Slices.SearchI
set_option linter.unusedSimpArgs false
set_option linter.unusedVariables false
namespace Go.Abs
open Go.Proofs
set_option maxRecDepth 100000
set_option maxHeartbeats 4000000
def ABI:IC:=(Ra 0 [.b 3 [22,30,35,49,54,67,75,83] (.bx 6 (.t 0)),.B 6 false]
(Sq (Ra 7 [.C 1]
(Bk 0 (Bw 1 (Ra 9 [.q 7 1 8]
(Cn 8 .skip (Ra 10 [.q 7 2 8]
(Cn 8 .skip (Ra 11 [.q 7 5 8]
(Cn 8 .skip (Ra 12 [.q 7 12 8]
(Cn 8 .skip (Ra 13 [.q 7 13 8]
(Cn 8 .skip (Ra 14 [.q 7 14 8]
(Cn 8 .skip (Rc 15 [.q 7 15 8])))))))))))))
(Cn 8 (Rb 16 [.C 2,.q 16 (-1) 6]) (Bw 2 (Ra 19 [.q 7 3 18]
(Cn 18 .skip (Rc 20 [.q 7 4 18])))
(Cn 18 (Rb 21 [.C 2,.f 0 3,.Z 23,.c 80 [21,24] 0,.M 6 25]) (Bw 3 (Ra 27 [.q 7 6 26]
(Cn 26 .skip (Rc 28 [.q 7 7 26])))
(Cn 26 (Rb 29 [.C 2,.f 1 3,.Z 31,.c 80 [29,32] 0,.C 33,.G 34 true,.f 1 3,.C 2,.I 2 36 37,.U 1 38,.N 40,.e,.W 34 41,.M 6 42]) (Bw 5 (Ra 44 [.q 7 8 43]
(Cn 43 .skip (Ra 45 [.q 7 9 43]
(Cn 43 .skip (Ra 46 [.q 7 10 43]
(Cn 43 .skip (Rc 47 [.q 7 11 43])))))))
(Cn 43 (Rb 48 [.C 2,.f 1 3,.Z 50,.c 80 [48,51] 0,.C 52,.G 53 true,.f 1 3,.C 2,.I 2 55 56,.U 1 57,.e,.W 53 59,.M 6 60]) (Bw 7 (Ra 62 [.q 7 16 61]
(Cn 61 .skip (Ra 63 [.q 7 17 61]
(Cn 61 .skip (Ra 64 [.q 7 18 61]
(Cn 61 .skip (Rc 65 [.q 7 19 61])))))))
(Cn 61 (Rb 66 [.C 2,.f 2 3,.Z 68,.c 80 [66,69] 0,.M 6 70]) (Sq (Ra 72 [.q 7 20 71]
(Cn 71 .skip (Rc 73 [.q 7 21 71])))
(Cn 71 (Rb 74 [.C 2,.f 4 3,.Z 76,.c 80 [74,77] 0,.M 6 78]) (Sq (Ra 80 [.q 7 22 79]
(Cn 79 .skip (Rc 81 [.q 7 23 79])))
(Ci 79 (Rb 82 [.C 2,.f 3 3,.Z 84,.c 80 [82,85] 0,.M 6 86])))))))))))))))))
(Rb 0 [.B 6 false])))
def ABJ:Gi:=⟨[(22,[3]),(30,[3]),(35,[3]),(49,[3]),(54,[3]),(67,[3]),(75,[3]),(83,[3])]⟩
def ABK:List RV:=[.tmp 6]
namespace Fw
def J4 (l:Bool):Option Bool:=
some l
def J6 (o:Bool):Option Bool:=
some o
def J9 (b:Int) (c:AB) (q:Bool):Option Bool:=
if q then
(E4 b (c.AH.length:Int)).bind λx=>
some x
else
some false
def J8 (a b:Int) (c:AB) (p:Bool):Option Bool:=
if p then
(E4 b (c.AA.length:Int)).bind λw=>
some w
else
if a==22 then
J9 b c (a==22)
else
J9 b c (a==23)
def J7 (a b:Int) (c:AB) (i:Bool):Option Bool:=
if i then
(E4 b (c.Au.length:Int)).bind λv=>
some v
else
if a==20 then
J8 a b c (a==20)
else
J8 a b c (a==21)
def J5 (a b:Int) (c:AB) (f:Bool):Option Bool:=
if f then
(E4 b (c.AG.length:Int)).bind λu=>
if u then
(gt c.AG b).bind λz=>
J6 z.RW
else
J6 false
else
if a==16 then
J7 a b c (a==16)
else
if a==17 then
J7 a b c (a==17)
else
if a==18 then
J7 a b c (a==18)
else
J7 a b c (a==19)
def J3 (a b:Int) (c:AB) (e:Bool):Option Bool:=
if e then
(E4 b (c.AG.length:Int)).bind λt=>
if t then
(gt c.AG b).bind λy=>
J4 (!y.RW)
else
J4 false
else
if a==8 then
J5 a b c (a==8)
else
if a==9 then
J5 a b c (a==9)
else
if a==10 then
J5 a b c (a==10)
else
J5 a b c (a==11)
def J2 (a b:Int) (c:AB) (d:Bool):Option Bool:=
if d then
(E4 b (c.Cells.length:Int)).bind λs=>
some s
else
if a==6 then
J3 a b c (a==6)
else
J3 a b c (a==7)
def J1 (a b:Int) (c:AB) (j:Bool):Option Bool:=
if j then
some (b==(-1))
else
if a==3 then
J2 a b c (a==3)
else
J2 a b c (a==4)
end Fw
section
open Fw
def Fw (c:AB) (a b:Int):Option Bool:=
if a==1 then
J1 a b c (a==1)
else
if a==2 then
J1 a b c (a==2)
else
if a==5 then
J1 a b c (a==5)
else
if a==12 then
J1 a b c (a==12)
else
if a==13 then
J1 a b c (a==13)
else
if a==14 then
J1 a b c (a==14)
else
J1 a b c (a==15)
theorem RL {c:AB} {a b:Int} {r:Bool} (h:Fw c a b=some r):Says Tryz.prog 81 [.agg (Ap c),si a,si b] (sb r):=by
 refine wO mix Tryz.func81 (I:=⟨ABI,ABJ,ABK⟩) ?_
 simp only[ABI,ABJ,ABK]
 have a1:= @O6
 have c7:=λn1 n2 n3 n4:Nat=>B7 7 λτ=>∃(i:Bool),(τ 2=si b/\τ 3=bA 6 (Ap c)/\τ 7=si a/\τ 61=sb i)/\J7 a b c i=some r
 have c5:=λn1 n2 n3 n4:Nat=>B7 5 λτ=>∃(f:Bool),(τ 2=si b/\τ 3=bA 6 (Ap c)/\τ 7=si a/\τ 43=sb f)/\J5 a b c f=some r
 have c3:=λn1 n2 n3 n4:Nat=>B7 3 λτ=>∃(e:Bool),(τ 2=si b/\τ 3=bA 6 (Ap c)/\τ 7=si a/\τ 26=sb e)/\J3 a b c e=some r
 have c2:=λn1 n2 n3 n4:Nat=>B7 2 λτ=>∃(d:Bool),(τ 2=si b/\τ 3=bA 6 (Ap c)/\τ 7=si a/\τ 18=sb d)/\J2 a b c d=some r
 have c1:=λn1 n2 n3 n4:Nat=>B7 1 λτ=>∃(j:Bool),(τ 2=si b/\τ 3=bA 6 (Ap c)/\τ 7=si a/\τ 8=sb j)/\J1 a b c j=some r
 unfold Fw at h
 exact walk
end
def ABL:IC:=(Ra 0 [.B 4 false]
(Sq (Ra 0 [.K 5 0]
(Bl 0 (Sq (Ra 6 [.C 5,.C 0,.Z 7,.O .lss 6 8]
(cX 9 0))
(Sq (Bk 1 (Ra 12 [.C 0,.C 5,.I 1 12 13,.L 14,.C 1,.O .eql 15 16]
(Ci 17 (Rb 0 [.B 4 true]))))
(Rc 10 [.C 5,.P .add 10 1,.M 5 11])))))
(Rb 0 [.B 4 false])))
def ABM:Gi:=⟨[]⟩
def ABN:List RV:=[.tmp 4]
namespace Eh
def J1:Option Bool:=
some false
def L1 (a:List Int) (b:Int) (L1:Int->Option Bool) (c:Int):Option Bool:=
if decide (c<(a.length:Int))then
(gt a c).bind λd=>
if d==b then
some true
else
L1 (BE (c+1))
else
J1
def Ac (a:List Int) (b:Int):Nat->Int->Option Bool
|0,_=>none
|n+1,c=>L1 a b (Ac a b n) c
end Eh
section
open Eh
def Eh (a:List Int) (b:Int):Option Bool:=
Ac a b Bo 0
theorem MC {a:List Int} {b:Int} {r:Bool} (h:Eh a b=some r):Says Tryz.prog 82 [vS 1 eI a,si b] (sb r):=by
 refine wO mix Tryz.func82 (I:=⟨ABL,ABM,ABN⟩) ?_
 simp only[ABL,ABM,ABN]
 have l1:=λn1 n2 n3 n4:Nat=>BM λn τ=>∃(c:Int),(τ 0=vS 1 eI a/\τ 1=si b/\τ 5=si c)/\Ac a b n c=some r
 unfold Eh at h
 exact walk
end
def zM:IC:=(Ra 0 [.b 5 [18,56,166] (.bx 6 (.t 0)),.b 6 [31,54,73,82,90,101,109,122,132,142,147,164,183,197,207,215] (.bx 4 (.t 1)),.B 10 false]
(Sq (Bw 1 (Rc 12 [.A 6 5,.A 4 6,.c 79 [12,13] 0,.N 14,.C 15,.G 16 false,.C 2,.f 4 5,.Z 19,.c 80 [17,20] 0,.N 21,.e,.V 16 22,.C 23,.G 24 false,.o (.ld true 6 (.t 5)),.C 3,.C 4,.c 81 [25,26,27] 0,.N 28,.e,.V 24 29])
(Ci 30 (Rb 0 [.B 10 false])))
(Ra 31 [.f 3 6,.C 2,.I 3 32 33,.A 3 34,.b 11 [39,44,48,67,153,158] (.bx 3 (.c (.agg fD))),.S 3 11 35]
(Sq (Ra 36 [.C 3]
(Bk 0 (Ra 38 [.q 36 1 37]
(Cn 37 (Rb 39 [.f 0 11,.q 40 1 10]) (Ra 43 [.q 36 17 42]
(Ci 42 (Rb 44 [.f 0 11,.Q 45 4,.C 46,.G 47 true,.f 1 11,.C 4,.O .eql 49 50,.e,.W 47 51,.C 52,.G 53 true,.f 0 6,.f 2 5,.C 4,.I 2 57 58,.U 1 59,.I 2 55 61,.U 0 62,.P .eql 64 (-1),.e,.W 53 65,.M 10 66])))))))
(Sq (Ra 67 [.f 0 11,.P .neq 68 2]
(Ci 69 (Rb 0 [.B 10 false])))
(Sq (Ra 70 [.C 3]
(Bk 1 (Ra 72 [.q 70 6 71]
(Cn 71 (Rb 73 [.f 0 6,.C 4,.I 2 74 75,.U 0 76,.q 78 (-1) 10]) (Ra 81 [.q 70 10 80]
(Cn 80 (Rb 82 [.f 0 6,.C 4,.I 2 83 84,.U 0 85,.Q 87 (-1),.C 88,.G 89 true,.f 0 6,.C 4,.I 2 91 92,.U 1 93,.Z 95,.P .eql 96 0,.e,.W 89 97,.M 10 98]) (Ra 100 [.q 70 8 99]
(Cn 99 (Rb 101 [.f 0 6,.C 4,.I 2 102 103,.U 0 104,.Q 106 (-1),.C 107,.G 108 true,.f 0 6,.C 4,.I 2 110 111,.U 1 112,.C 2,.c 82 [114,115] 0,.N 116,.e,.W 108 117,.M 10 118]) (Bw 5 (Ra 120 [.q 70 7 119]
(Cn 119 .skip (Rc 121 [.q 70 11 119])))
(Cn 119 (Rb 122 [.f 0 6,.C 4,.I 2 123 124,.U 0 125,.C 2,.O .eql 127 128,.M 10 129]) (Ra 131 [.q 70 9 130]
(Cn 130 (Rb 132 [.f 0 6,.C 4,.I 2 133 134,.U 1 135,.C 2,.c 82 [137,138] 0,.M 10 139]) (Ra 141 [.q 70 12 140]
(Cn 140 (Rb 142 [.f 1 6,.q 143 (-1) 10]) (Ra 146 [.q 70 13 145]
(Cn 145 (Rb 147 [.f 1 6,.C 2,.O .eql 148 149,.M 10 150]) (Ra 152 [.q 70 14 151]
(Cn 151 (Rb 153 [.f 2 11,.N 154,.M 10 155]) (Ra 157 [.q 70 15 156]
(Cn 156 (Rb 158 [.f 2 11,.M 10 159]) (Bw 6 (Ra 161 [.q 70 16 160]
(Cn 160 .skip (Ra 162 [.q 70 18 160]
(Cn 160 .skip (Rc 163 [.q 70 19 160])))))
(Cn 160 (Rb 164 [.f 0 6,.f 2 5,.C 4,.I 2 167 168,.U 1 169,.I 2 165 171,.U 0 172,.C 2,.O .eql 174 175,.M 10 176]) (Ra 178 [.q 70 20 177]
(Cn 177 (Rb 179 [.C 4,.C 2,.O .neq 179 180,.C 181,.G 182 true,.f 3 6,.C 4,.I 3 184 185,.U 0 186,.P .eql 188 0,.e,.W 182 189,.M 10 190]) (Ra 192 [.q 70 21 191]
(Cn 191 (Rb 193 [.C 4,.C 2,.O .neq 193 194,.C 195,.G 196 true,.f 3 6,.C 4,.I 3 198 199,.U 0 200,.P .eql 202 5,.e,.W 196 203,.M 10 204]) (Ra 206 [.q 70 22 205]
(Cn 205 (Rb 207 [.f 2 6,.C 4,.I 1 208 209,.L 210,.N 211,.M 10 212]) (Ra 214 [.q 70 23 213]
(Ci 213 (Rb 215 [.f 2 6,.C 4,.I 1 216 217,.L 218,.M 10 219])))))))))))))))))))))))))))))))
(Rb 0 [.B 10 true])))))))
def zN:Gi:=⟨[(18,[5]),(31,[6]),(39,[11]),(44,[11]),(48,[11]),(54,[6]),(56,[5]),(67,[11]),(73,[6]),(82,[6]),(90,[6]),(101,[6]),(109,[6]),(122,[6]),(132,[6]),(142,[6]),(147,[6]),(153,[11]),(158,[11]),(164,[6]),(166,[5]),(183,[6]),(197,[6]),(207,[6]),(215,[6])]⟩
def zO:List RV:=[.tmp 10]
namespace B1
def J2 (q:Bool):Option Bool:=
some q
def J3 (s:Bool):Option Bool:=
some s
def J4 (t:Bool):Option Bool:=
some t
def J7 (u:Bool):Option Bool:=
some u
def J8 (v:Bool):Option Bool:=
some v
def J6 (a b:Int) (c:AO) (d:Int) (e:AB) (j:Bool):Option Bool:=
if j then
(gt e.Au b).bind λap=>
(gt c.AG ap.Mutex).bind λaq=>
some (aq.En==d)
else
if a==20 then
if b != d then
(gt c.AA b).bind λac=>
J7 (ac.Status==0)
else
J7 false
else
if a==21 then
if b != d then
(gt c.AA b).bind λad=>
J8 (ad.Status==5)
else
J8 false
else
if a==22 then
(gt c.Ce b).bind λae=>
some (!ae)
else
if a==23 then
(gt c.Ce b).bind λaf=>
some af
else
some true
def J5 (a b:Int) (c:AO) (d:Int) (e:AB) (f:AD) (i:Bool):Option Bool:=
if i then
(gt c.AG b).bind λal=>
some (al.En==d)
else
if a==9 then
(gt c.AG b).bind λao=>
(Eh ao.BW d).bind λaa=>
some aa
else
if a==12 then
some (c.Tx==(-1))
else
if a==13 then
some (c.Tx==d)
else
if a==14 then
some (!f.Atomic)
else
if a==15 then
some f.Atomic
else
if a==16 then
J6 a b c d e (a==16)
else
if a==18 then
J6 a b c d e (a==18)
else
J6 a b c d e (a==19)
def J1 (a b:Int) (c:AO) (d:Int) (e:AB) (l:Bool):Option Bool:=
if l then
some false
else
(gt c.AA d).bind λf=>
if a==1 then
some (f.Status==1)
else
if a==17 then
if f.Status==4 then
if f.Ef==b then
(gt e.Au b).bind λab=>
(gt c.AG ab.Mutex).bind λai=>
J2 (ai.En==(-1))
else
J2 false
else
J2 false
else
if f.Status != 2 then
some false
else
if a==6 then
(gt c.AG b).bind λaj=>
some (aj.En==(-1))
else
if a==10 then
(gt c.AG b).bind λo=>
if o.En==(-1)then
J3 ((o.BW.length:Int)==0)
else
J3 false
else
if a==8 then
(gt c.AG b).bind λp=>
if p.En==(-1)then
(Eh p.BW d).bind λz=>
J4 (!z)
else
J4 false
else
if a==7 then
J5 a b c d e f (a==7)
else
J5 a b c d e f (a==11)
end B1
section
open B1
def B1 (e:AB) (c:AO) (d a b:Int):Option Bool:=
(Dd e c).bind λw=>
if !w then
J1 a b c d e true
else
(E4 d (e.AA.length:Int)).bind λx=>
if !x then
J1 a b c d e true
else
(Fw e a b).bind λy=>
J1 a b c d e (!y)
theorem Mt {e:AB} {c:AO} {d a b:Int} {r:Bool} (h:B1 e c d a b=some r):Says Tryz.prog 47 [.agg (Ap e),.agg (GZ c),si d,si a,si b] (sb r):=by
 refine wO mix Tryz.func47 (I:=⟨zM,zN,zO⟩) ?_
 simp only[zM,zN,zO]
 have a1:= @MC
 have a2:= @K2
 have a3:= @O6
 have a4:= @RL
 have c6:=λn1 n2 n3 n4:Nat=>B7 6 λτ=>∃(j:Bool),(τ 2=si d/\τ 4=si b/\τ 5=bA 6 (Ap e)/\τ 6=bA 4 (GZ c)/\τ 70=si a/\τ 160=sb j)/\J6 a b c d e j=some r
 have c5:=λn1 n2 n3 n4:Nat=>B7 5 λτ=>∃(f:AD) (i:Bool),(τ 2=si d/\τ 4=si b/\τ 5=bA 6 (Ap e)/\τ 6=bA 4 (GZ c)/\τ 11=bA 3 (A2 f)/\τ 70=si a/\τ 119=sb i)/\J5 a b c d e f i=some r
 have c1:=λn1 n2 n3 n4:Nat=>B7 1 λτ=>∃(l:Bool),(τ 2=si d/\τ 3=si a/\τ 4=si b/\τ 5=bA 6 (Ap e)/\τ 6=bA 4 (GZ c)/\τ 30=sb l)/\J1 a b c d e l=some r
 unfold B1 at h
 exact walk
end
def ABR:IC:=(Ra 2 [.b 1 [5,8,12,17,25,32] (.bx 4 (.t 0)),.o (.bx 4 (.c (.agg z4)))]
(Ra 5 [.f 1 1,.o (.Eg 1 [] []),.f 2 1,.o (.app 1 1 (.t 7) (.t 9)),.o (.Eg 3 [] []),.f 3 1,.o (.app 3 24 (.t 11) (.t 13)),.o (.Dc z4 [(1,1,.t 6),(2,1,.t 10),(3,1,.t 14)]),.b 3 [23,24,42,43] (.bx 4 (.c (.agg z4))),.S 4 3 15]
(Sq (Ra 0 [.K 4 0]
(Bl 0 (Sq (Ra 16 [.C 4,.f 0 1,.Z 18,.O .lss 16 19]
(cX 20 0))
(Sq (Bk 1 (Rc 23 [.m 3 0 3,.f 0 1,.C 4,.I 2 26 27,.U 0 28,.o (.Eg 1 [] []),.f 0 1,.C 4,.I 2 33 34,.U 1 35,.o (.app 1 8 (.t 31) (.t 37)),.o (.Dc kN [(0,1,.t 30),(1,1,.t 38)]),.o (.Eg 2 [kN] [(0,.t 39)]),.o (.app 2 32 (.t 24) (.t 40)),.F 0 3,.S 1 42 41]))
(Rc 21 [.C 4,.P .add 21 1,.M 4 22])))))
(Rb 43 [.y 3 (.ld true 4 (.t 3)),.S 4 2 43]))))
def ABS:Gi:=⟨[(5,[1]),(8,[1]),(12,[1]),(17,[1]),(23,[3]),(24,[3]),(25,[1]),(32,[1]),(42,[3]),(43,[3])]⟩
def ABT:List RV:=[.cell 2 true 4]
namespace EP
def J1 (e:AO):Option AO:=
some e
def L1 (a:AO) (L1:AO->Int->Option AO) (b:AO) (c:Int):Option AO:=
if decide (c<(a.AG.length:Int))then
(gt a.AG c).bind λd=>
if Aq (d.BW.length) 8=true then
if Aq (b.AG.length+1) 32=true then
L1 (AO.mk (b.AG++[d]) b.Tx b.Ce b.AA) (BE (c+1))
else none
else none
else
J1 b
def Ac (a:AO):Nat->AO->Int->Option AO
|0,_,_=>none
|n+1,b,c=>L1 a (Ac a n) b c
end EP
section
open EP
def EP (a:AO):Option AO:=
if Aq (a.Ce.length) 1=true then
if Aq (a.AA.length) 24=true then
Ac a Bo (AO.mk [] a.Tx a.Ce a.AA) 0
else none
else none
theorem Lw {a r:AO} (h:EP a=some r):Says Tryz.prog 84 [.agg (GZ a)] (.agg (FK r)):=by
 refine wO mix Tryz.func84 (I:=⟨ABR,ABS,ABT⟩) ?_
 simp only[ABR,ABS,ABT]
 have l1:=λn1 n2 n3 n4:Nat=>BM λn τ=>∃(b:AO) (c:Int),(τ 1=bA 4 (GZ a)/\τ 2=bA 4 z4/\τ 3=bA 4 (FK b)/\τ 4=si c)/\Ac a n b c=some r
 unfold EP at h
 exact walk
end
end Go.Abs
