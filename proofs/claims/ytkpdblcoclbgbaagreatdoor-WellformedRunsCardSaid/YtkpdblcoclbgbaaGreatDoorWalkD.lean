/- Typed programs of Go functions, and that the functions do what these say. -/
import Derived.Test.YtkpdblcoclbgbaaGreatDoorBaseA
import Derived.Test.YtkpdblcoclbgbaaGreatDoorWalkC
import Derived.Test.YtkpdblcoclbgbaaGreatDoorWalkB
import Derived.Test.YtkpdblcoclbgbaaGreatDoorWalkA
import Derived.Shelf.Slices.SearchI
set_option linter.unusedSimpArgs false
set_option linter.unusedVariables false
namespace Go.Abs
open Go.Proofs
set_option maxRecDepth 100000
set_option maxHeartbeats 4000000
def pW:IC:=(Ra 5 [.o (.bx 2 (.t 0)),.K 10 0]
(Ra 12 [.A 2 5,.C 1,.C 2,.c 168 [12,13,14] 0,.M 11 15]
(Sq (Ra 16 [.C 11,.Q 16 0]
(Ci 17 (Rb 0 [.K 10 5])))
(Sq (Ra 18 [.C 11,.C 3,.O .neq 18 19,.C 20,.G 21 true,.C 11,.C 4,.O .neq 22 23,.e,.W 21 24]
(Ci 25 (Rb 0 [.K 10 6])))
(Rb 0 [.K 10 0])))))
def pX:Gi:=⟨[]⟩
def pY:List RV:=[.tmp 10]
namespace CS
def J1 (i:Bool):Option Int:=
if i then
some 6
else
some 0
end CS
section
open CS
def CS (c:AL) (e:Int) (d:ByteArray) (a b:Int):Option Int:=
(DQ c e d).bind λf=>
if f==0 then
some 5
else
if f != a then
J1 (f != b)
else
J1 false
theorem Lu {c:AL} {e:Int} {d:ByteArray} {a b r:Int} (h:CS c e d a b=some r):Says Tryz.prog 160 [.agg (Bb c),si e,Ao d,si a,si b] (si r):=by
 refine wO mix Tryz.func160 (I:=⟨pW,pX,pY⟩) ?_
 simp only[pW,pX,pY]
 have a1:= @PZ
 unfold CS at h
 exact walk
end
def qP:IC:=(Ra 0 [.b 1 [10,17] (.bx 4 (.t 0)),.K 2 0,.K 3 0]
(Ra 0 [.K 4 1,.K 5 0]
(Sq (Ra 0 [.K 6 0]
(Bl 0 (Sq (Ra 9 [.C 6,.f 3 1,.Z 11,.O .lss 9 12]
(cX 13 0))
(Sq (Bk 1 (Ra 17 [.f 3 1,.C 6,.I 4 18 19,.A 4 20,.c 169 [21] 0,.w 16,.C 22,.w 23,.o (.ext (.t 16) 0),.o (.ext (.t 16) 1),.M 7 23,.M 8 24]
(Rc 25 [.C 4,.C 7,.O .add 25 26,.C 5,.C 8,.o (.mm true (.t 28) (.t 29)),.M 4 27,.M 5 30])))
(Rc 14 [.C 6,.P .add 14 1,.M 6 15])))))
(Rb 31 [.C 4,.C 5,.P .add 32 1,.M 2 31,.M 3 33]))))
def qQ:Gi:=⟨[(10,[1]),(17,[1])]⟩
def qR:List RV:=[.tmp 2,.tmp 3]
namespace Dw
def J1 (i f:Int):Option (Int×Int):=
some (i,BE (f+1))
def L1 (R169:As->Option (Int×Int)) (a:As) (L1:Int->Int->Int->Option (Int×Int)) (d b c:Int):Option (Int×Int):=
if decide (c<(a.L.length:Int))then
(gt a.L c).bind λj=>
(R169 j).bind λe=>
L1 (BE (d+e.1)) (if e.2>b then e.2 else b) (BE (c+1))
else
J1 d b
def Ac (R169:As->Option (Int×Int)) (a:As):Nat->Int->Int->Int->Option (Int×Int)
|0,_,_,_=>none
|n+1,d,b,c=>L1 R169 a (Ac R169 a n) d b c
end Dw
section
open Dw
def Dw (R169:As->Option (Int×Int)) (a:As):Option (Int×Int):=
Ac R169 a Bo 1 0 0
theorem Q9 {R169:As->Option (Int×Int)} (H169:∀{x0 r},R169 x0=some r->Says Tryz.prog 169 [.agg [si x0.Op,si x0.N,Ao x0.Name,vS 4 Av x0.L]] (.A9 [si r.1,si r.2])) {a:As} {r:Int×Int} (h:Dw R169 a=some r):Says Tryz.prog 169 [.agg [si a.Op,si a.N,Ao a.Name,vS 4 Av a.L]] (.A9 [si r.1,si r.2]):=by
 refine wO mix Tryz.func169 (I:=⟨qP,qQ,qR⟩) ?_
 simp only[qP,qQ,qR]
 have a1:= @H169
 have l1:=λn1 n2 n3 n4:Nat=>BM λn τ=>∃(d b c:Int),(τ 1=bA 4 [si a.Op,si a.N,Ao a.Name,vS 4 Av a.L]/\τ 4=si d/\τ 5=si b/\τ 6=si c)/\Ac R169 a n d b c=some r
 unfold Dw at h
 exact walk
end
def Nq:Nat->(As->Option (Int×Int))
|0=>(λ_=>none)
|n+1=>Dw ((Nq n))
def G8 (n:Nat):As->Option (Int×Int):=(Nq n)
theorem Pa (n:Nat):(∀{x0 r},(G8 n) x0=some r->Says Tryz.prog 169 [.agg [si x0.Op,si x0.N,Ao x0.Name,.sl false 4 (x0.L.map Av)]] (.A9 [si r.1,si r.2])):=by
  induction n with
  |zero=>exactλh=>B9 h
  |succ n ih=>exactλh=>Q9 ih h
theorem Pb {n:Nat}:∀{x0 r},(G8 n) x0=some r->Says Tryz.prog 169 [.agg [si x0.Op,si x0.N,Ao x0.Name,.sl false 4 (x0.L.map Av)]] (.A9 [si r.1,si r.2]):=(Pa n)
def qT:IC:=(Ra 3 [.o (.bx 2 (.t 0)),.b 5 [9,15,22,26,38] (.bx 4 (.t 2)),.K 6 0]
(Ra 0 [.K 7 0]
(Bw 1 (Ra 9 [.f 0 5]
(Bk 0 (Ra 12 [.q 10 2 11]
(Cn 11 (Rc 13 [.A 2 3,.C 1,.f 2 5,.o (.call 160 [.t 13,.t 14,.t 16,.c (si 8),.c (si 1)] 0),.M 7 17]) (Ra 19 [.q 10 3 18]
(Ci 18 (Rc 20 [.A 2 3,.C 1,.f 2 5,.o (.call 160 [.t 20,.t 21,.t 23,.c (si 2),.c (si 2)] 0),.M 7 24])))))))
(Sq (Ra 0 [.K 8 0]
(Bl 1 (Sq (Ra 25 [.C 8,.f 3 5,.Z 27,.O .lss 25 28,.C 29,.G 30 true,.C 7,.P .eql 31 0,.e,.W 30 32]
(cX 33 1))
(Sq (Bk 2 (Rc 36 [.A 2 3,.C 1,.f 3 5,.C 8,.I 4 39 40,.A 4 41,.c 170 [36,37,42] 0,.M 7 43]))
(Rc 34 [.C 8,.P .add 34 1,.M 8 35])))))
(Rb 44 [.C 7,.M 6 44])))))
def qU:Gi:=⟨[(9,[5]),(15,[5]),(22,[5]),(26,[5]),(38,[5])]⟩
def qV:List RV:=[.tmp 6]
namespace Cv
def J3 (i:Int):Option Int:=
some i
def J2 (L1:Int->Int->Option Int) (R170:AL->Int->As->Option Int) (a:As) (d:Int) (b:AL) (e c:Int) (j:Bool):Option Int:=
if j then
(gt a.L d).bind λq=>
(R170 b c q).bind λp=>
L1 p (BE (d+1))
else
J3 e
def L1 (R170:AL->Int->As->Option Int) (a:As) (b:AL) (c:Int) (L1:Int->Int->Option Int) (e d:Int):Option Int:=
if decide (d<(a.L.length:Int))then
J2 L1 R170 a d b e c (e==0)
else
J2 L1 R170 a d b e c false
def Ac (R170:AL->Int->As->Option Int) (a:As) (b:AL) (c:Int):Nat->Int->Int->Option Int
|0,_,_=>none
|n+1,e,d=>L1 R170 a b c (Ac R170 a b c n) e d
def J1 (R170:AL->Int->As->Option Int) (a:As) (b:AL) (c f:Int):Option Int:=
Ac R170 a b c Bo f 0
end Cv
section
open Cv
def Cv (R170:AL->Int->As->Option Int) (b:AL) (c:Int) (a:As):Option Int:=
if a.Op==2 then
(CS b c a.Name 8 1).bind λl=>
J1 R170 a b c l
else
if a.Op==3 then
(CS b c a.Name 2 2).bind λo=>
J1 R170 a b c o
else
J1 R170 a b c 0
theorem RC {R170:AL->Int->As->Option Int} (H170:∀{x0 x1 x2 r},R170 x0 x1 x2=some r->Says Tryz.prog 170 [.agg (Bb x0),si x1,.agg [si x2.Op,si x2.N,Ao x2.Name,vS 4 Av x2.L]] (si r)) {b:AL} {c:Int} {a:As} {r:Int} (h:Cv R170 b c a=some r):Says Tryz.prog 170 [.agg (Bb b),si c,.agg [si a.Op,si a.N,Ao a.Name,vS 4 Av a.L]] (si r):=by
 refine wO mix Tryz.func170 (I:=⟨qT,qU,qV⟩) ?_
 simp only[qT,qU,qV]
 have a1:= @H170
 have a2:= @Lu
 have l1:=λn1 n2 n3 n4:Nat=>BM λn τ=>∃(e d:Int),(τ 1=si c/\τ 3=bA 2 (Bb b)/\τ 5=bA 4 [si a.Op,si a.N,Ao a.Name,vS 4 Av a.L]/\τ 7=si e/\τ 8=si d)/\Ac R170 a b c n e d=some r
 have c1:=λn1 n2 n3 n4:Nat=>B7 1 λτ=>∃(f:Int),(τ 1=si c/\τ 3=bA 2 (Bb b)/\τ 5=bA 4 [si a.Op,si a.N,Ao a.Name,vS 4 Av a.L]/\τ 7=si f)/\J1 R170 a b c f=some r
 unfold Cv at h
 exact walk
end
def Nr:Nat->(AL->Int->As->Option Int)
|0=>(λ_ _ _=>none)
|n+1=>Cv ((Nr n))
def GL (n:Nat):AL->Int->As->Option Int:=(Nr n)
theorem Pc (n:Nat):(∀{x0 x1 x2 r},(GL n) x0 x1 x2=some r->Says Tryz.prog 170 [.agg (Bb x0),si x1,.agg [si x2.Op,si x2.N,Ao x2.Name,.sl false 4 (x2.L.map Av)]] (si r)):=by
  induction n with
  |zero=>exactλh=>B9 h
  |succ n ih=>exactλh=>RC ih h
theorem Pd {n:Nat}:∀{x0 x1 x2 r},(GL n) x0 x1 x2=some r->Says Tryz.prog 170 [.agg (Bb x0),si x1,.agg [si x2.Op,si x2.N,Ao x2.Name,.sl false 4 (x2.L.map Av)]] (si r):=(Pc n)
def pZ:IC:=(Ra 3 [.o (.bx 2 (.t 0)),.w 5,.o (.bx 4 (.t 2)),.K 6 0]
(Sq (Ra 9 [.A 4 5,.c 166 [9] 0,.N 10]
(Ci 11 (Rb 0 [.K 6 3])))
(Ra 13 [.A 4 5,.c 169 [13] 0,.w 12,.C 14,.w 15,.o (.ext (.t 12) 0),.o (.ext (.t 12) 1),.M 7 15,.M 8 16]
(Sq (Ra 17 [.C 7,.P .gtr 17 24,.C 18,.G 19 false,.C 8,.P .gtr 20 6,.e,.V 19 21]
(Ci 22 (Rb 0 [.K 6 2])))
(Rb 23 [.A 2 3,.C 1,.A 4 5,.c 170 [23,24,25] 0,.M 6 26])))))
def p5:Gi:=⟨[]⟩
def p6:List RV:=[.tmp 6]
namespace Dn
def J1 (a:As) (b:AL) (c:Int) (e:Bool):Option Int:=
if e then
some 2
else
(GL Bo b c a).bind λi=>
some i
end Dn
section
open Dn
def Dn (b:AL) (c:Int) (a:As):Option Int:=
(CE Bo a).bind λf=>
if !f then
some 3
else
(G8 Bo a).bind λd=>
if decide (d.1>24)then
J1 a b c true
else
J1 a b c (decide (d.2>6))
theorem SK {b:AL} {c:Int} {a:As} {r:Int} (h:Dn b c a=some r):Says Tryz.prog 161 [.agg (Bb b),si c,.agg [si a.Op,si a.N,Ao a.Name,vS 4 Av a.L]] (si r):=by
 refine wO mix Tryz.func161 (I:=⟨pZ,p5,p6⟩) ?_
 simp only[pZ,p5,p6]
 have a1:= @Hf
 have a2:= @Pb
 have a3:= @Pd
 unfold Dn at h
 exact walk
end
def pS:IC:=(Ra 0 [.K 4 0]
(Sq (Ra 5 [.C 0,.P .neq 5 0]
(Ci 6 (Rb 7 [.C 0,.M 4 7])))
(Rb 8 [.C 1,.M 4 8])))
def pU:Gi:=⟨[]⟩
def pV:List RV:=[.tmp 4]
def Dp (a b:Int):Option Int:=
if a != 0 then
some a
else
some b
theorem VW {a b r:Int} (h:Dp a b=some r):Says Tryz.prog 159 [si a,si b] (si r):=by
 refine wO mix Tryz.func159 (I:=⟨pS,pU,pV⟩) ?_
 simp only[pS,pU,pV]
 unfold Dp at h
 exact walk
def p7:IC:=(Ra 0 [.K 2 0]
(Sq (Ra 3 [.C 0]
(Ci 3 (Rb 0 [.K 2 7])))
(Rb 0 [.K 2 0])))
def p8:Gi:=⟨[]⟩
def p9:List RV:=[.tmp 2]
def BO (a:Bool):Option Int:=
if a then
some 7
else
some 0
theorem Oc {a:Bool} {r:Int} (h:BO a=some r):Says Tryz.prog 162 [sb a] (si r):=by
 refine wO mix Tryz.func162 (I:=⟨p7,p8,p9⟩) ?_
 simp only[p7,p8,p9]
 unfold BO at h
 exact walk
def nP:IC:=(Ra 0 [.b 3 [29,33,39,44,50,55,62,72,79,85,96,102,125,136,149,161,169,192,201,211,221,233,249,259,268,274,279] (.bx 11 (.t 1)),.K 4 0]
(Ra 15 [.D 0,.H 0 0 16,.A 2 17,.p 0 2,.b 5 [132,134,167,219] (.bx 2 (.c (.agg z17))),.S 2 5 18,.M 6 22]
(Ra 23 [.y 0 (.cp (.t 0)),.o (.EK 158 [] (.t 23) none [.c (si 7),.c (si 7),.c (Ao ⟨#[]⟩)]),.M 7 24]
(Ra 25 [.y 0 (.cp (.t 0)),.o (.EK 158 [] (.t 25) none [.c (si 8),.c (si 8),.c (Ao ⟨#[]⟩)]),.M 8 26]
(Ra 27 [.y 0 (.cp (.t 0)),.o (.EK 158 [] (.t 27) none [.c (si 3),.c (si 3),.c (Ao ⟨#[]⟩)]),.M 9 28]
(Sq (Ra 29 [.f 0 3]
(Bk 0 (Ra 32 [.q 30 1 31]
(Cn 31 (Sq (Ra 33 [.f 4 3,.Z 34,.Q 35 0]
(Ci 36 (Rb 37 [.A 2 5,.C 6,.f 2 3,.o (.call 160 [.t 37,.t 38,.t 40,.c (si 8),.c (si 1)] 0),.A 2 5,.C 6,.F 5 3,.A 4 44,.c 161 [42,43,45] 0,.c 159 [41,46] 0,.M 4 47])))
(Rb 48 [.A 2 5,.C 6,.f 2 3,.o (.call 160 [.t 48,.t 49,.t 51,.c (si 2),.c (si 2)] 0),.A 2 5,.C 6,.f 4 3,.o (.Lr 4 (.t 56) (.c (si 0))),.A 4 57,.c 161 [53,54,58] 0,.A 2 5,.C 6,.F 5 3,.A 4 62,.c 161 [60,61,63] 0,.c 159 [59,64] 0,.c 159 [52,65] 0,.M 4 66])) (Bw 1 (Ra 68 [.q 30 2 67]
(Cn 67 .skip (Rc 69 [.q 30 3 67])))
(Cn 67 (Rb 70 [.A 2 5,.C 6,.F 5 3,.A 4 72,.c 161 [70,71,73] 0,.M 4 74]) (Ra 76 [.q 30 4 75]
(Cn 75 (Rb 77 [.A 2 5,.C 6,.f 2 3,.o (.call 160 [.t 77,.t 78,.t 80,.c (si 3),.c (si 3)] 0),.C 7,.C 82,.G 83 false,.y 0 (.cp (.t 0)),.f 2 3,.o (.EK 158 [] (.t 84) none [.c (si 4),.c (si 4),.t 86]),.e,.V 83 87,.c 162 [88] 0,.c 159 [81,89] 0,.M 4 90]) (Bw 3 (Ra 92 [.q 30 5 91]
(Cn 91 .skip (Rc 93 [.q 30 6 91])))
(Cn 91 (Rb 94 [.A 2 5,.C 6,.f 2 3,.o (.call 160 [.t 94,.t 95,.t 97,.c (si 4),.c (si 4)] 0),.C 7,.C 99,.G 100 false,.y 0 (.cp (.t 0)),.f 2 3,.o (.EK 158 [] (.t 101) none [.c (si 5),.c (si 6),.t 103]),.e,.V 100 104,.c 162 [105] 0,.c 159 [98,106] 0,.M 4 107]) (Ra 109 [.q 30 7 108]
(Cn 108 (Rb 110 [.C 7,.c 162 [110] 0,.M 4 111]) (Ra 113 [.q 30 8 112]
(Cn 112 (Rb 114 [.C 7,.C 114,.G 115 false,.C 8,.e,.V 115 116,.c 162 [117] 0,.M 4 118]) (Bw 6 (Ra 120 [.q 30 9 119]
(Cn 119 .skip (Ra 121 [.q 30 10 119]
(Cn 119 .skip (Rc 122 [.q 30 11 119])))))
(Cn 119 (Ra 123 [.A 2 5,.C 6,.f 2 3,.o (.call 160 [.t 123,.t 124,.t 126,.c (si 5),.c (si 5)] 0),.M 10 127]
(Sq (Ra 128 [.C 10,.P .neq 128 0]
(Ci 129 (Rb 130 [.C 10,.M 4 130])))
(Ra 131 [.y 0 (.cp (.t 0)),.f 0 5,.f 0 5,.f 2 3,.c 134 [135,137] 0,.I 6 133 138,.U 5 139,.o (.EK 158 [] (.t 131) none [.c (si 4),.c (si 4),.t 141]),.M 11 142]
(Rb 143 [.C 7,.C 143,.G 144 false,.C 11,.N 145,.e,.V 144 146,.C 147,.G 148 false,.f 0 3,.P .eql 150 9,.C 151,.G 152 true,.C 8,.G 148 false,.o (.pick (.t 152) (.t 153) (.c (sb false))),.e,.V 148 154,.c 162 [155] 0,.M 4 156])))) (Ra 158 [.q 30 12 157]
(Cn 157 (Ra 159 [.A 2 5,.C 6,.f 2 3,.o (.call 160 [.t 159,.t 160,.t 162,.c (si 7),.c (si 7)] 0),.M 12 163]
(Sq (Ra 164 [.C 12,.P .neq 164 0]
(Ci 165 (Rb 166 [.C 12,.M 4 166])))
(Ra 167 [.f 1 5,.f 2 3,.c 135 [168,170] 0,.M 13 171]
(Sq (Bw 8 (Rc 172 [.C 7,.C 172,.G 173 false,.C 8,.e,.V 173 174,.C 175,.G 176 false,.C 9,.e,.V 176 177,.C 178,.G 179 false,.C 13,.C 6,.O .eql 180 181,.e,.V 179 182,.C 183,.G 184 false,.C 13,.P .eql 185 0,.e,.V 184 186])
(Ci 187 (Rb 0 [.K 4 7])))
(Sq (Ra 188 [.r 0 4,.f 2 3,.c 43 [191,193] 0,.P .geq 194 0]
(Ci 195 (Rb 0 [.K 4 8])))
(Sq (.Vt [(0,0,9,196)] [i0 196 .fl,i1 197 0 (.cp (.t 0)),i1 198 0 (.FF (.t 197)),LQ 199 0 4 198,VD 200 0 199,LQ 201 3 2 3,iL 202 201,i0 203 (.Eg 1 [[Ao ⟨#[]⟩]] [(0,.t 202)]),i0 204 (.app 1 16 (.t 200) (.t 203)),i1 205 0 (.FF (.t 0)),LQ 206 0 4 205,iS 1 206 204])
(Rb 0 [.K 4 0]))))))) (Ra 208 [.q 30 13 207]
(Cn 207 (Rb 209 [.A 2 5,.C 6,.f 2 3,.o (.call 160 [.t 209,.t 210,.t 212,.c (si 7),.c (si 7)] 0),.C 7,.C 214,.G 215 false,.C 8,.e,.V 215 216,.C 217,.G 218 false,.f 1 5,.f 2 3,.c 135 [220,222] 0,.C 6,.O .eql 223 224,.e,.V 218 225,.c 162 [226] 0,.c 159 [213,227] 0,.M 4 228]) (Ra 230 [.q 30 14 229]
(Ci 229 (Ra 231 [.A 2 5,.C 6,.f 2 3,.o (.call 160 [.t 231,.t 232,.t 234,.c (si 6),.c (si 6)] 0),.C 7,.C 236,.G 237 false,.C 9,.e,.V 237 238,.c 162 [239] 0,.c 159 [235,240] 0,.M 14 241]
(Sq (Ra 242 [.C 14,.Q 242 0,.C 243,.G 244 true,.r 0 5,.f 2 3,.c 43 [248,250] 0,.P .geq 251 0,.e,.W 244 252]
(Ci 253 (Rc 0 [.K 14 8])))
(Sq (.Vt [(0,0,9,254)] [i0 254 .fl,i1 255 0 (.cp (.t 0)),i1 256 0 (.FF (.t 255)),LQ 257 0 5 256,VD 258 0 257,LQ 259 3 2 3,iL 260 259,i0 261 (.Eg 1 [[Ao ⟨#[]⟩]] [(0,.t 260)]),i0 262 (.app 1 16 (.t 258) (.t 261)),i1 263 0 (.FF (.t 0)),LQ 264 0 5 263,iS 1 264 262])
(Rb 265 [.C 14,.A 2 5,.C 6,.F 5 3,.A 4 268,.c 161 [266,267,269] 0,.c 159 [265,270] 0,.M 4 271]))))))))))))))))))))))))))
(Rb 272 [.A 2 5,.C 6,.f 2 3,.o (.call 160 [.t 272,.t 273,.t 275,.c (si 8),.c (si 8)] 0),.A 2 5,.C 6,.f 3 3,.o (.call 160 [.t 277,.t 278,.t 280,.c (si 6),.c (si 6)] 0),.C 7,.c 162 [282] 0,.c 159 [281,283] 0,.c 159 [276,284] 0,.M 4 285])))))))
def nQ:Gi:=⟨[(15,[0]),(16,[0]),(17,[0]),(19,[0]),(20,[0]),(21,[0]),(23,[0]),(25,[0]),(27,[0]),(29,[3]),(33,[3]),(39,[3]),(44,[3]),(50,[3]),(55,[3]),(62,[3]),(72,[3]),(79,[3]),(84,[0]),(85,[3]),(96,[3]),(101,[0]),(102,[3]),(125,[3]),(131,[0]),(132,[5]),(134,[5]),(136,[3]),(149,[3]),(161,[3]),(167,[5]),(169,[3]),(188,[0]),(189,[0]),(190,[0]),(191,[0]),(192,[3]),(197,[0]),(198,[0]),(199,[0]),(200,[0]),(201,[3]),(205,[0]),(206,[0]),(211,[3]),(219,[5]),(221,[3]),(233,[3]),(245,[0]),(246,[0]),(247,[0]),(248,[0]),(249,[3]),(255,[0]),(256,[0]),(257,[0]),(258,[0]),(259,[3]),(263,[0]),(264,[0]),(268,[3]),(274,[3]),(279,[3])]⟩
def nR:List RV:=[.tmp 4]
namespace Ay
def J2 (cv:A1) (ac:Int):Option (Int×A1):=
some (ac,cv)
def J4 (cw:A1) (ad:Int):Option (Int×A1):=
some (ad,cw)
def J5 (b:Bool×A1) (ae:Int):Option (Int×A1):=
some (ae,b.2)
def J7 (f:Bool×A1) (af:Int):Option (Int×A1):=
some (af,f.2)
def J8 (a:AK) (b:Bool×A1) (l:Bool):Option (Int×A1):=
if l then
some (7,b.2)
else
(CF b.2.IU a.Name).bind λbl=>
if decide (bl≥0)then
some (8,b.2)
else
if Aq (b.2.IU.length+1) 16=true then
some (0,(A1.mk b.2.p b.2.BG b.2.EN (b.2.IU++[a.Name]) b.2.RZ))
else none
def J9 (b:Bool×A1) (ai:Int):Option (Int×A1):=
some (ai,b.2)
def Z8 (a:AK) (b:Bool×A1) (c:A1) (aa:Int):Option (Int×A1):=
if Aq (b.2.RZ.length+1) 16=true then
(Dn c.p c.BG a.Expr).bind λce=>
(Dp aa ce).bind λcf=>
some (cf,(A1.mk b.2.p b.2.BG b.2.EN b.2.IU (b.2.RZ++[a.Name])))
else none
def XY (i:Int) (a:AK) (b:Bool×A1) (c:A1) (ab:Bool):Option (Int×A1):=
if ab then
Z8 a b c 8
else
Z8 a b c i
def Oj (a:AK) (b:Bool×A1) (c:A1) (i:Int):Option (Int×A1):=
if i==0 then
(CF b.2.RZ a.Name).bind λcd=>
XY i a b c (decide (cd≥0))
else
XY i a b c false
def J6 (a:AK) (d e b:Bool×A1) (c:A1) (j:Bool):Option (Int×A1):=
if j then
(CS c.p c.BG a.Name 5 5).bind λw=>
if w != 0 then
some (w,b.2)
else
(Bz c.p.Decls a.Name).bind λbc=>
(gt c.p.Decls bc).bind λcy=>
(BD b.2 4 4 cy.On).bind λf=>
if d.1 then
(BO true).bind λbe=>
J7 f be
else
if !f.1 then
(BO true).bind λbf=>
J7 f bf
else
if a.Op==9 then
(BO e.1).bind λbi=>
J7 f bi
else
(BO false).bind λbj=>
J7 f bj
else
if a.Op==12 then
(CS c.p c.BG a.Name 7 7).bind λx=>
if x != 0 then
some (x,b.2)
else
(Bv c.p.AA a.Name).bind λy=>
if d.1 then
J8 a b true
else
if e.1 then
J8 a b true
else
if b.1 then
J8 a b true
else
if y==c.BG then
J8 a b true
else
J8 a b (y==0)
else
if a.Op==13 then
(CS c.p c.BG a.Name 7 7).bind λq=>
if d.1 then
(BO true).bind λbo=>
(Dp q bo).bind λbp=>
J9 b bp
else
if e.1 then
(BO true).bind λbs=>
(Dp q bs).bind λbt=>
J9 b bt
else
(Bv c.p.AA a.Name).bind λbu=>
(BO (bu==c.BG)).bind λbv=>
(Dp q bv).bind λbw=>
J9 b bw
else
if a.Op==14 then
(CS c.p c.BG a.Name 6 6).bind λz=>
if d.1 then
(BO true).bind λbx=>
(Dp z bx).bind λbz=>
Oj a b c bz
else
(BO b.1).bind λca=>
(Dp z ca).bind λcb=>
Oj a b c cb
else
(CS c.p c.BG a.Name 8 8).bind λci=>
(CS c.p c.BG a.Arg 6 6).bind λcj=>
(BO d.1).bind λcl=>
(Dp cj cl).bind λco=>
(Dp ci co).bind λcp=>
some (cp,b.2)
def J3 (a:AK) (d e b:Bool×A1) (c:A1) (p:Bool):Option (Int×A1):=
if p then
(CS c.p c.BG a.Name 4 4).bind λu=>
if d.1 then
(BO true).bind λav=>
(Dp u av).bind λaw=>
J4 b.2 aw
else
(BD b.2 5 6 a.Name).bind λv=>
(BO v.1).bind λax=>
(Dp u ax).bind λay=>
J4 v.2 ay
else
if a.Op==7 then
(BO d.1).bind λaz=>
some (az,b.2)
else
if a.Op==8 then
if d.1 then
(BO true).bind λba=>
J5 b ba
else
(BO e.1).bind λbb=>
J5 b bb
else
if a.Op==9 then
J6 a d e b c (a.Op==9)
else
if a.Op==10 then
J6 a d e b c (a.Op==10)
else
J6 a d e b c (a.Op==11)
def J1 (a:AK) (d e b:Bool×A1) (c:A1) (o:Bool):Option (Int×A1):=
if o then
(Dn c.p c.BG a.Expr).bind λal=>
some (al,b.2)
else
if a.Op==4 then
(CS c.p c.BG a.Name 3 3).bind λs=>
if d.1 then
(BO true).bind λao=>
(Dp s ao).bind λap=>
J2 b.2 ap
else
(BD b.2 4 4 a.Name).bind λt=>
(BO t.1).bind λaq=>
(Dp s aq).bind λau=>
J2 t.2 au
else
if a.Op==5 then
J3 a d e b c (a.Op==5)
else
J3 a d e b c (a.Op==6)
end Ay
section
open Ay
def Ay (c:A1) (a:AK):Option (Int×A1):=
(BD c 7 7 (⟨#[]⟩:ByteArray)).bind λd=>
(BD d.2 8 8 (⟨#[]⟩:ByteArray)).bind λe=>
(BD e.2 3 3 (⟨#[]⟩:ByteArray)).bind λb=>
if a.Op==1 then
if(a.Index.length:Int)==0 then
(CS c.p c.BG a.Name 8 1).bind λbd=>
(Dn c.p c.BG a.Expr).bind λbq=>
(Dp bd bq).bind λcc=>
some (cc,b.2)
else
(CS c.p c.BG a.Name 2 2).bind λcq=>
(gt a.Index 0).bind λcx=>
(Dn c.p c.BG cx).bind λcs=>
(Dn c.p c.BG a.Expr).bind λct=>
(Dp cs ct).bind λcu=>
(Dp cq cu).bind λaj=>
some (aj,b.2)
else
if a.Op==2 then
J1 a d e b c (a.Op==2)
else
J1 a d e b c (a.Op==3)
theorem Nt {c:A1} {a:AK} {r:Int×A1} (h:Ay c a=some r):A5 Tryz.prog 136 [bA 6 (Es c),.agg [si a.Op,si a.D4,Ao a.Name,Ao a.Arg,vS 4 Av a.Index,si a.Expr.Op,si a.Expr.N,Ao a.Expr.Name,vS 4 Av a.Expr.L,vS 11 An a.Body,vS 11 An a.Else]] (si r.1) [bA 6 (Es r.2),.dead]:=by
 refine wL mix Tryz.func136 (I:=⟨nP,nQ,nR⟩) ?_
 simp only[nP,nQ,nR]
 have a1:= @Kj
 have a2:= @Lu
 have a3:= @SK
 have a4:= @VW
 have a5:= @Oc
 have a6:= @Gd
 have a7:= @G9
 have a8:= @FB
 have c8:=λn1 n2 n3 n4:Nat=>B7 8 λτ=>∃(b:Bool×A1) (l:Bool),(τ 0=bA 6 (Es b.2)/\τ 3=bA 11 [si a.Op,si a.D4,Ao a.Name,Ao a.Arg,vS 4 Av a.Index,si a.Expr.Op,si a.Expr.N,Ao a.Expr.Name,vS 4 Av a.Expr.L,vS 11 An a.Body,vS 11 An a.Else]/\τ 187=sb l)/\J8 a b l=some r
 have c6:=λn1 n2 n3 n4:Nat=>B7 6 λτ=>∃(d e b:Bool×A1) (j:Bool),(τ 0=bA 6 (Es b.2)/\τ 3=bA 11 [si a.Op,si a.D4,Ao a.Name,Ao a.Arg,vS 4 Av a.Index,si a.Expr.Op,si a.Expr.N,Ao a.Expr.Name,vS 4 Av a.Expr.L,vS 11 An a.Body,vS 11 An a.Else]/\τ 5=bA 2 (Bb c.p)/\τ 6=si c.BG/\τ 7=sb d.1/\τ 8=sb e.1/\τ 9=sb b.1/\τ 30=si a.Op/\τ 119=sb j)/\J6 a d e b c j=some r
 have c3:=λn1 n2 n3 n4:Nat=>B7 3 λτ=>∃(d e b:Bool×A1) (p:Bool),(τ 0=bA 6 (Es b.2)/\τ 3=bA 11 [si a.Op,si a.D4,Ao a.Name,Ao a.Arg,vS 4 Av a.Index,si a.Expr.Op,si a.Expr.N,Ao a.Expr.Name,vS 4 Av a.Expr.L,vS 11 An a.Body,vS 11 An a.Else]/\τ 5=bA 2 (Bb c.p)/\τ 6=si c.BG/\τ 7=sb d.1/\τ 8=sb e.1/\τ 9=sb b.1/\τ 30=si a.Op/\τ 91=sb p)/\J3 a d e b c p=some r
 have c1:=λn1 n2 n3 n4:Nat=>B7 1 λτ=>∃(d e b:Bool×A1) (o:Bool),(τ 0=bA 6 (Es b.2)/\τ 3=bA 11 [si a.Op,si a.D4,Ao a.Name,Ao a.Arg,vS 4 Av a.Index,si a.Expr.Op,si a.Expr.N,Ao a.Expr.Name,vS 4 Av a.Expr.L,vS 11 An a.Body,vS 11 An a.Else]/\τ 5=bA 2 (Bb c.p)/\τ 6=si c.BG/\τ 7=sb d.1/\τ 8=sb e.1/\τ 9=sb b.1/\τ 30=si a.Op/\τ 67=sb o)/\J1 a d e b c o=some r
 unfold Ay at h
 exact walk
end
def lJ:IC:=(Ra 0 [.K 4 0,.K 5 0]
(Sq (Ra 0 [.K 6 0]
(Bl 0 (Sq (Ra 10 [.C 6,.C 1,.Z 11,.O .lss 10 12]
(cX 13 0))
(Sq (Bk 1 (Ra 16 [.C 1,.C 6,.I 11 16 17,.A 11 18,.b 7 [33,48,57] (.bx 11 (.c (.agg z8))),.S 11 7 19]
(Ra 20 [.y 0 (.cp (.t 0)),.A 11 7,.o (.EK 136 [] (.t 20) none [.t 21]),.M 8 22]
(Bw 1 (Ra 23 [.r 0 3,.Z 26,.P .add 27 1,.P .gtr 28 6]
(Ci 29 (Rc 0 [.K 8 2])))
(Sq (Ra 30 [.C 8,.P .neq 30 0]
(Ci 31 (Rb 32 [.C 8,.f 1 7,.M 4 32,.M 5 34])))
(Sq (.tO ⟨42,43,45,7,8,9,11,12⟩ [i1 35 0 (.cp (.t 0)),i1 36 0 (.FF (.t 35)),LQ 37 0 3 36,VD 38 0 37,iA 39 11 7,iZ 40 38,i0 41 (.Eg 11 [z8] [(0,.c (.agg z8))]),⟨some ⟨42,[43],[]⟩,.app 11 176 (.t 38) (.t 41),none⟩,rV 43 42 11 42 40,iS 11 43 39,i1 44 0 (.FF (.t 35)),LQ 45 0 3 44,⟨none,.q9 (.t 45),none⟩])
(Ra 47 [.y 0 (.cp (.t 0)),.f 9 7,.o (.EK 105 [] (.t 47) none [.t 49]),.w 46,.C 50,.w 51,.o (.ext (.t 46) 0),.o (.ext (.t 46) 1),.M 8 51,.M 9 52]
(Sq (Ra 53 [.C 8,.Q 53 0]
(Ci 54 (Rc 56 [.y 0 (.cp (.t 0)),.f 10 7,.o (.EK 105 [] (.t 56) none [.t 58]),.w 55,.C 59,.w 60,.o (.ext (.t 55) 0),.o (.ext (.t 55) 1),.M 8 60,.M 9 61])))
(Sq (.Vt [(0,0,12,62)] [i0 62 .fl,i1 63 0 (.cp (.t 0)),i1 64 0 (.FF (.t 63)),LQ 65 0 3 64,VD 66 0 65,i1 67 0 (.cp (.t 0)),i1 68 0 (.FF (.t 67)),LQ 69 0 3 68,VD 70 0 69,iZ 71 70,iP 72 .sub 71 1,i0 73 (.UM 11 false (.t 66) none (some (.t 72)) none),i1 74 0 (.FF (.t 0)),LQ 75 0 3 74,iS 1 75 73])
(Ra 76 [.C 8,.P .neq 76 0]
(Ci 77 (Rb 78 [.C 8,.C 9,.M 4 78,.M 5 79]))))))))))))
(Rc 14 [.C 6,.P .add 14 1,.M 6 15])))))
(Rb 0 [.K 4 0,.K 5 0])))
def lK:Gi:=⟨[(20,[0]),(23,[0]),(24,[0]),(25,[0]),(26,[0]),(33,[7]),(35,[0]),(36,[0]),(37,[0]),(38,[0]),(43,[42]),(44,[0]),(45,[0]),(47,[0]),(48,[7]),(56,[0]),(57,[7]),(63,[0]),(64,[0]),(65,[0]),(66,[0]),(67,[0]),(68,[0]),(69,[0]),(70,[0]),(74,[0]),(75,[0])]⟩
def lL:List RV:=[.tmp 4,.tmp 5]
namespace BR
def J3 (s:A1):Option (Int×Int×A1):=
some (0,0,s)
def J2 (L1:A1->Int->Option (Int×Int×A1)) (c:Int) (d:A1) (p q:Int):Option (Int×Int×A1):=
if 0≤(BE ((d.EN.length:Int)-1))/\((BE ((d.EN.length:Int)-1)).toNat)≤d.EN.length then
if p != 0 then
some (p,q,(A1.mk d.p d.BG (d.EN.take ((BE ((d.EN.length:Int)-1)).toNat)) d.IU d.RZ))
else
L1 (A1.mk d.p d.BG (d.EN.take ((BE ((d.EN.length:Int)-1)).toNat)) d.IU d.RZ) (BE (c+1))
else none
def J1 (L1:A1->Int->Option (Int×Int×A1)) (R105:A1->(List AK)->Option (Int×Int×A1)) (c:Int) (b:Int×A1) (a:AK) (i:Int):Option (Int×Int×A1):=
if i != 0 then
some (i,a.D4,b.2)
else
if Aq (b.2.EN.length+1) 176=true then
(gt (b.2.EN++[(AK.mk 0 0 (⟨#[]⟩:ByteArray) (⟨#[]⟩:ByteArray) [] (As.mk 0 0 (⟨#[]⟩:ByteArray) []) [] [])]) (b.2.EN.length:Int)).bind λt=>
(R105 (A1.mk b.2.p b.2.BG ((b.2.EN++[(AK.mk 0 0 (⟨#[]⟩:ByteArray) (⟨#[]⟩:ByteArray) [] (As.mk 0 0 (⟨#[]⟩:ByteArray) []) [] [])]).set b.2.EN.length a) b.2.IU b.2.RZ) a.Body).bind λj=>
if j.1==0 then
(R105 j.2.2 a.Else).bind λo=>
J2 L1 c o.2.2 o.1 o.2.1
else
J2 L1 c j.2.2 j.1 j.2.1
else none
def L1 (R105:A1->(List AK)->Option (Int×Int×A1)) (e:List AK) (L1:A1->Int->Option (Int×Int×A1)) (f:A1) (c:Int):Option (Int×Int×A1):=
if decide (c<(e.length:Int))then
(gt e c).bind λa=>
(Ay f a).bind λb=>
if decide ((BE ((b.2.EN.length:Int)+1))>6)then
J1 L1 R105 c b a 2
else
J1 L1 R105 c b a b.1
else
J3 f
def Ac (R105:A1->(List AK)->Option (Int×Int×A1)) (e:List AK):Nat->A1->Int->Option (Int×Int×A1)
|0,_,_=>none
|n+1,f,c=>L1 R105 e (Ac R105 e n) f c
end BR
section
open BR
def BR (R105:A1->(List AK)->Option (Int×Int×A1)) (l:A1) (e:List AK):Option (Int×Int×A1):=
Ac R105 e Bo l 0
theorem Ns {R105:A1->(List AK)->Option (Int×Int×A1)} (H105:∀{x0 x1 r},R105 x0 x1=some r->A5 Tryz.prog 105 [bA 6 (Es x0),vS 11 An x1] (.A9 [si r.1,si r.2.1]) [bA 6 (Es r.2.2),.dead]) {l:A1} {e:List AK} {r:Int×Int×A1} (h:BR R105 l e=some r):A5 Tryz.prog 105 [bA 6 (Es l),vS 11 An e] (.A9 [si r.1,si r.2.1]) [bA 6 (Es r.2.2),.dead]:=by
 refine wL mix Tryz.func105 (I:=⟨lJ,lK,lL⟩) ?_
 simp only[lJ,lK,lL]
 have a1:= @Nt
 have a2:= @H105
 have l1:=λn1 n2 n3 n4:Nat=>BM λn τ=>∃(f:A1) (c:Int),(τ 0=bA 6 (Es f)/\τ 1=vS 11 An e/\τ 6=si c)/\Ac R105 e n f c=some r
 have c1:=λn1 n2 n3 n4:Nat=>B7 1 λτ=>∃(c:Int) (b:Int×A1) (a:AK) (i:Int),(τ 0=bA 6 (Es b.2)/\τ 1=vS 11 An e/\τ 6=si c/\τ 7=bA 11 [si a.Op,si a.D4,Ao a.Name,Ao a.Arg,vS 4 Av a.Index,si a.Expr.Op,si a.Expr.N,Ao a.Expr.Name,vS 4 Av a.Expr.L,vS 11 An a.Body,vS 11 An a.Else]/\τ 8=si i)/\J1 (Ac R105 e n1) R105 c b a i=some r
 unfold BR at h
 exact walk
end
def Jh:Nat->(A1->(List AK)->Option (Int×Int×A1))
|0=>(λ_ _=>none)
|n+1=>BR ((Jh n))
def DR (n:Nat):A1->(List AK)->Option (Int×Int×A1):=(Jh n)
theorem Me (n:Nat):(∀{x0 x1 r},(DR n) x0 x1=some r->A5 Tryz.prog 105 [bA 6 (Es x0),.sl false 11 (x1.map An)] (.A9 [si r.1,si r.2.1]) [bA 6 (Es r.2.2),.dead]):=by
  induction n with
  |zero=>exactλh=>B9 h
  |succ n ih=>exactλh=>Ns ih h
theorem Mf {n:Nat}:∀{x0 x1 r},(DR n) x0 x1=some r->A5 Tryz.prog 105 [bA 6 (Es x0),.sl false 11 (x1.map An)] (.A9 [si r.1,si r.2.1]) [bA 6 (Es r.2.2),.dead]:=(Me n)
def AAZ:IC:=(Ra 0 [.b 1 [18,27,41,48,62,74] (.bx 2 (.t 0)),.K 2 0,.K 3 0]
(Sq (Ra 14 [.A 2 1,.c 101 [14] 0,.N 15]
(Ci 16 (Rb 0 [.K 2 3,.K 3 0])))
(Sq (Ra 18 [.f 0 1,.c 102 [19] 0,.w 17,.C 20,.w 21,.o (.ext (.t 17) 0),.o (.ext (.t 17) 1),.M 4 21,.M 5 22]
(Ra 23 [.C 4,.P .neq 23 0]
(Ci 24 (Rb 25 [.C 4,.C 5,.M 2 25,.M 3 26]))))
(Sq (Ra 27 [.f 1 1,.Z 28,.P .gtr 29 4]
(Ci 30 (Rb 0 [.K 2 2,.K 3 0])))
(Sq (Ra 32 [.A 2 1,.c 103 [32] 0,.w 31,.C 33,.w 34,.o (.ext (.t 31) 0),.o (.ext (.t 31) 1),.M 6 34,.M 7 35]
(Ra 36 [.C 6,.P .neq 36 0]
(Ci 37 (Rb 38 [.C 6,.C 7,.M 2 38,.M 3 39]))))
(Ra 0 [.K 8 0]
(Sq (Ra 0 [.K 9 0]
(Bl 0 (Sq (Ra 40 [.C 9,.f 1 1,.Z 42,.O .lss 40 43]
(cX 44 0))
(Sq (Bk 1 (Rc 47 [.C 8,.f 1 1,.C 9,.I 4 49 50,.U 3 51,.c 104 [53] 0,.O .add 47 54,.M 8 55]))
(Rc 45 [.C 9,.P .add 45 1,.M 9 46])))))
(Sq (Ra 56 [.C 8,.P .gtr 56 60]
(Ci 57 (Rb 0 [.K 2 2,.K 3 0])))
(Ra 58 [.A 2 1,.o (.Dc [.own false 6 [],.own false 4 [],si 0,.own false 11 [],.own false 1 [],.own false 1 []] [(0,2,.t 58)]),.o (.bx 6 (.t 59)),.b 10 [68,70,71,73] (.mv (.t 60))]
(Sq (Ra 0 [.K 11 0]
(Bl 2 (Sq (Ra 61 [.C 11,.f 1 1,.Z 63,.O .lss 61 64]
(cX 65 2))
(Sq (Bk 3 (Ra 68 [.y 10 (.cp (.t 10)),.C 11,.y 10 (.FF (.t 68)),.H 10 2 70,.S 1 71 69]
(Ra 73 [.y 10 (.cp (.t 10)),.f 1 1,.C 11,.I 4 75 76,.U 3 77,.o (.EK 105 [] (.t 73) none [.t 79]),.w 72,.C 80,.w 81,.o (.ext (.t 72) 0),.o (.ext (.t 72) 1),.M 12 81,.M 13 82]
(Ra 83 [.C 12,.P .neq 83 0]
(Ci 84 (Rb 85 [.C 12,.C 13,.M 2 85,.M 3 86]))))))
(Rc 66 [.C 11,.P .add 66 1,.M 11 67])))))
(Rb 0 [.K 2 0,.K 3 0])))))))))))
def AAa:Gi:=⟨[(18,[1]),(27,[1]),(41,[1]),(48,[1]),(62,[1]),(68,[10]),(70,[10]),(71,[10]),(73,[10]),(74,[1])]⟩
def AAb:List RV:=[.tmp 2,.tmp 3]
namespace BH
def J2:Option (Int×Int):=
some (0,0)
def L2 (a:AL) (L2:A1->Int->Option (Int×Int)) (c:A1) (b:Int):Option (Int×Int):=
if decide (b<(a.AA.length:Int))then
(gt a.AA b).bind λs=>
(DR Bo (A1.mk c.p b c.EN c.IU c.RZ) s.Body).bind λf=>
if f.1 != 0 then
some (f.1,f.2.1)
else
L2 f.2.2 (BE (b+1))
else
J2
def Da (a:AL):Nat->A1->Int->Option (Int×Int)
|0,_,_=>none
|n+1,c,b=>L2 a (Da a n) c b
def J1 (a:AL) (l:Int):Option (Int×Int):=
if decide (l>60)then
some (2,0)
else
Da a Bo (A1.mk a 0 [] [] []) 0
def L1 (a:AL) (L1:Int->Int->Option (Int×Int)) (e d:Int):Option (Int×Int):=
if decide (d<(a.AA.length:Int))then
(gt a.AA d).bind λq=>
(FW Bo q.Body).bind λp=>
L1 (BE (e+p)) (BE (d+1))
else
J1 a e
def Ac (a:AL):Nat->Int->Int->Option (Int×Int)
|0,_,_=>none
|n+1,e,d=>L1 a (Ac a n) e d
end BH
section
open BH
def BH (a:AL):Option (Int×Int):=
(Bh a).bind λo=>
if !o then
some (3,0)
else
(FC a.Decls).bind λi=>
if i.1 != 0 then
some (i.1,i.2)
else
if decide ((a.AA.length:Int)>4)then
some (2,0)
else
(BU a).bind λj=>
if j.1 != 0 then
some (j.1,j.2)
else
Ac a Bo 0 0
theorem HS {a:AL} {r:Int×Int} (h:BH a=some r):Says Tryz.prog 66 [.agg (Bb a)] (.A9 [si r.1,si r.2]):=by
 refine wO mix Tryz.func66 (I:=⟨AAZ,AAa,AAb⟩) ?_
 simp only[AAZ,AAa,AAb]
 have a1:= @PW
 have a2:= @RA
 have a3:= @Od
 have a4:= @Mf
 have a5:= @PY
 have l2:=λn1 n2 n3 n4:Nat=>BM λn τ=>∃(c:A1) (b:Int),(τ 1=bA 2 (Bb a)/\τ 10=bA 6 (Es c)/\τ 11=si b)/\Da a n c b=some r
 have l1:=λn1 n2 n3 n4:Nat=>BM λn τ=>∃(e d:Int),(τ 1=bA 2 (Bb a)/\τ 8=si e/\τ 9=si d)/\Ac a n e d=some r
 unfold BH at h
 exact walk
end
def yX:IC:=(Ra 2 [.o (.bx 2 (.c (.agg z17)))]
(Ra 12 [.C 0,.o (.Dc [.own false 1 [],si 0] [(0,1,.t 12)]),.o (.bx 2 (.t 13)),.o (.Dc [.sc (.pointer none),si 0,si 0,sb false,sb false,sb false,sb false,.own false 1 []] [(0,1,.t 14),(2,1,.c (si 20))]),.o (.bx 8 (.t 15)),.b 3 [19,20,21,22,31,33,34,61,62,63,64,73,74,75,76] (.mv (.t 16))]
(Ra 17 [.c 71 [] 2,.o (.Dc z17 [(0,1,.t 17)]),.b 4 [89,90,94,96,110] (.bx 2 (.c (.agg z17))),.S 2 4 18]
(Ra 19 [.r 3 0,.o (.EK 72 [] (.t 22) none [.c (si 3)]),.o (.bin .add (.c (si 2)) (.t 23)),.M 5 24]
(Ra 25 [.o (.Eg 1 [[Ao ⟨#[]⟩],[Ao ⟨#[]⟩],[Ao ⟨#[]⟩],[Ao ⟨#[]⟩]] [(0,.c (Ao ⟨#[109,97,105,110]⟩)),(1,.c (Ao ⟨#[116,49]⟩)),(2,.c (Ao ⟨#[116,50]⟩)),(3,.c (Ao ⟨#[116,51]⟩))]),.b 6 [35,37,50,52,82,83] (.mv (.t 25))]
(Sq (Ra 0 [.K 7 0]
(Bl 0 (Sq (Ra 26 [.C 7,.C 5,.O .lss 26 27]
(cX 28 0))
(Sq (Bk 1 (Ra 31 [.y 3 (.cp (.t 3)),.C 7,.y 3 (.FF (.t 31)),.H 3 1 33,.S 1 34 32]
(Ra 35 [.y 6 (.cp (.t 6)),.C 7,.J 6 1 35 36,.L 37,.o (.Eg 1 z20 [(0,.c (Ao ⟨#[97]⟩)),(1,.c (Ao ⟨#[98]⟩))]),.o (.Dc kM [(0,1,.t 38),(2,1,.t 39)]),.b 8 [48,49,57,58,59,69,80,81,88,91] (.bx 4 (.c (.agg kM))),.S 4 8 40]
(Sq (Ra 41 [.C 7,.Q 41 0]
(Ci 42 (Ra 0 [.K 9 1]
(Bl 2 (Sq (Ra 43 [.C 9,.C 5,.O .lss 43 44]
(cX 45 2))
(Sq (Bk 3 (Rc 48 [.m 8 3 8,.y 6 (.cp (.t 6)),.C 9,.J 6 1 50 51,.L 52,.o (.Dc z8 [(0,1,.c (si 12)),(2,1,.t 53)]),.o (.Eg 11 [z8] [(0,.t 54)]),.o (.app 11 176 (.t 49) (.t 55)),.F 3 8,.S 1 57 56]))
(Rc 46 [.C 9,.P .add 46 1,.M 9 47])))))))
(Sq (.Vt [(3,2,9,60)] [LQ 58 8 3 8,VD 59 8 58,i0 60 .fl,i1 61 3 (.cp (.t 3)),i1 62 3 (.FF (.t 61)),LQ 63 3 0 62,VD 64 3 63,i0 65 (.EK 72 [] (.t 64) none [.c (si 3)]),i0 66 (.bin .add (.c (si 1)) (.t 65)),i0 67 (.EK 73 [] (.t 3) none [.c (si 2),.t 66]),i0 68 (.app 11 176 (.t 59) (.t 67)),LQ 69 8 3 8,iS 1 69 68])
(Sq (Ra 70 [.C 7,.Q 70 0,.C 71,.G 72 true,.r 3 0,.o (.EK 72 [] (.t 76) none [.c (si 3)]),.P .eql 77 2,.e,.W 72 78]
(Ci 79 (Rc 80 [.m 8 3 8,.y 6 (.cp (.t 6)),.y 6 (.Lr 1 (.t 82) (.c (si 1))),.L 83,.o (.Dc z8 [(0,1,.c (si 13)),(2,1,.t 84)]),.o (.Eg 11 [z8] [(0,.t 85)]),.o (.app 11 176 (.t 81) (.t 86)),.F 3 8,.S 1 88 87])))
(.gz false 8 [(0,3,0)] (.gz false 8 [(0,2,0)] (Rc 89 [.m 4 1 4,.y 8 (.ld true 4 (.t 8)),.o (.Eg 4 [kM] [(0,.t 91)]),.o (.app 4 72 (.t 90) (.t 92)),.F 1 4,.S 1 94 93])))))))))
(Rc 29 [.C 7,.P .add 29 1,.M 7 30])))))
(Sq (Ra 96 [.y 4 (.ld true 2 (.t 4)),.c 66 [96] 0,.w 95,.C 97,.w 98,.o (.ext (.t 95) 0),.o (.ext (.t 95) 1),.M 10 98,.M 11 99]
(Ra 100 [.C 10,.P .neq 100 0]
(Ci 101 (Rb 102 [.c 71 [] 2,.o (.Eg 1 z20 [(0,.c (Ao ⟨#[97]⟩)),(1,.c (Ao ⟨#[98]⟩))]),.o (.call 75 [.c (si 1)] 1),.o (.call 74 [.c (Ao ⟨#[120]⟩),.t 104] 1),.o (.Eg 11 [z8] [(0,.t 105)]),.o (.Dc kM [(0,1,.c (Ao ⟨#[109,97,105,110]⟩)),(2,1,.t 103),(3,1,.t 106)]),.o (.Eg 4 [kM] [(0,.t 107)]),.o (.Dc z17 [(0,1,.t 102),(1,1,.t 108)]),.S 2 2 109]))))
(Rb 110 [.y 4 (.ld true 2 (.t 4)),.S 2 2 110]))))))))
def yY:Gi:=⟨[(19,[3]),(20,[3]),(21,[3]),(22,[3]),(31,[3]),(33,[3]),(34,[3]),(35,[6]),(37,[6]),(48,[8]),(49,[8]),(50,[6]),(52,[6]),(57,[8]),(58,[8]),(59,[8]),(61,[3]),(62,[3]),(63,[3]),(64,[3]),(69,[8]),(73,[3]),(74,[3]),(75,[3]),(76,[3]),(80,[8]),(81,[8]),(82,[6]),(83,[6]),(88,[8]),(89,[4]),(90,[4]),(91,[8]),(94,[4]),(96,[4]),(110,[4])]⟩
def yZ:List RV:=[.cell 2 true 2]
def f40:FI:=⟨yX,yY,yZ⟩
theorem vK:I2 Tryz.prog Tryz.f40 f40=true:=by kernel_rfl
namespace BL
def J5 (p_2:AL):Option AL:=
(BH p_2).bind λv_5=>
if v_5.1 != 0 then
(Dz).bind λv_6=>
(G4 1).bind λv_7=>
(DX (⟨#[120]⟩:ByteArray) v_7).bind λv_8=>
some (AL.mk v_6 [(CA.mk (⟨#[109,97,105,110]⟩:ByteArray) 0 [(⟨#[97]⟩:ByteArray),(⟨#[98]⟩:ByteArray)] [v_8])])
else
some p_2
def J4 (L1:AF->AL->Int->Option AL) (i:Int) (m_3:AF) (p_1:AL):Option AL:=
L1 m_3 p_1 (BE (i+1))
def J3 (L1:AF->AL->Int->Option AL) (i:Int) (p:AL) (m_2:AF) (t_2:CA):Option AL:=
if Aq (p.AA.length+1) 72=true then
J4 L1 i m_2 (AL.mk p.Decls (p.AA++[t_2]))
else none
def J2 (L1:AF->AL->Int->Option AL) (i:Int) (p:AL) (t_1:CA) (v_3:(List AK)×AF) (m_1:AF) (t79v:Bool):Option AL:=
if t79v then
if Aq ((t_1.Body++v_3.1).length+1) 176=true then
J3 L1 i p m_1 (CA.mk t_1.Name t_1.D4 t_1.EY ((t_1.Body++v_3.1)++[(AK.mk 13 0 (⟨#[116,49]⟩:ByteArray) (⟨#[]⟩:ByteArray) [] (As.mk 0 0 (⟨#[]⟩:ByteArray) []) [] [])]))
else none
else
J3 L1 i p m_1 (CA.mk t_1.Name t_1.D4 t_1.EY (t_1.Body++v_3.1))
def J1 (L1:AF->AL->Int->Option AL) (i:Int) (m:AF) (p:AL) (t_1:CA):Option AL:=
(BF m.t 3).bind λv_2=>
(Cp Bo (AF.mk v_2.2 i m.left m.E5 m.tx m.atomic m.loop m.held) 2 (BE (1+v_2.1))).bind λv_3=>
if Aq (t_1.Body.length+v_3.1.length) 176=true then
if i==0 then
(BF v_3.2.t 3).bind λv_4=>
J2 L1 i p t_1 v_3 (AF.mk v_4.2 v_3.2.BG v_3.2.left v_3.2.E5 v_3.2.tx v_3.2.atomic v_3.2.loop v_3.2.held) (v_4.1==2)
else
J2 L1 i p t_1 v_3 v_3.2 false
else none
def L2 (L1:AF->AL->Int->Option AL) (i:Int) (m:AF) (p:AL) (v_1:Int×Cm) (L2:CA->Int->Option AL) (t:CA) (k:Int):Option AL:=
if decide (k<(BE (2+v_1.1)))then
(gt [(⟨#[109,97,105,110]⟩:ByteArray),(⟨#[116,49]⟩:ByteArray),(⟨#[116,50]⟩:ByteArray),(⟨#[116,51]⟩:ByteArray)] k).bind λx_1=>
if Aq (t.Body.length+1) 176=true then
L2 (CA.mk t.Name t.D4 t.EY (t.Body++[(AK.mk 12 0 x_1 (⟨#[]⟩:ByteArray) [] (As.mk 0 0 (⟨#[]⟩:ByteArray) []) [] [])])) (BE (k+1))
else none
else
J1 L1 i m p t
def Da (L1:AF->AL->Int->Option AL) (i:Int) (m:AF) (p:AL) (v_1:Int×Cm):Nat->CA->Int->Option AL
|0,_,_=>none
|n+1,t,k=>L2 L1 i m p v_1 (Da L1 i m p v_1 n) t k
def L1 (v_1:Int×Cm) (L1:AF->AL->Int->Option AL) (m:AF) (p:AL) (i:Int):Option AL:=
if decide (i<(BE (2+v_1.1)))then
(gt [(⟨#[109,97,105,110]⟩:ByteArray),(⟨#[116,49]⟩:ByteArray),(⟨#[116,50]⟩:ByteArray),(⟨#[116,51]⟩:ByteArray)] i).bind λx=>
if i==0 then
Da L1 i m p v_1 Bo (CA.mk x 0 [(⟨#[97]⟩:ByteArray),(⟨#[98]⟩:ByteArray)] []) 1
else
J1 L1 i m p (CA.mk x 0 [(⟨#[97]⟩:ByteArray),(⟨#[98]⟩:ByteArray)] [])
else
J5 p
def Ac (v_1:Int×Cm):Nat->AF->AL->Int->Option AL
|0,_,_,_=>none
|n+1,m,p,i=>L1 v_1 (Ac v_1 n) m p i
end BL
section
open BL
def BL (l:List Int):Option AL:=
(Dz).bind λv=>
(BF (Cm.mk l 0) 3).bind λv_1=>
Ac v_1 Bo (AF.mk v_1.2 0 20 false false false false []) (AL.mk v []) 0
theorem PN {l:List Int} {r:AL} (h:BL l=some r):Says Tryz.prog 40 [vS 1 UN l] (.agg (Bb r)):=by
 refine Vi mix Tryz.func40 vK (of_decide_eq_true (by kernel_rfl)) rfl ?_
 simp only[f40,yX,yY,yZ]
 repeat' first
  |with_reducible exact B9 h
  |with_reducible refine gBm eS h λ_ _ h=> ?_
  |with_reducible refine gBe h (by assumption) λh=> ?_
  |with_reducible refine gBk h λ_ _ h=> ?_
  | (with_reducible refine cSk h λg h=> ?_
     try simp only[List.length_nil,List.nil_append,Nat.zero_add]at g)
  | (with_reducible refine bSs h λh=> ?_
     try simp +decide only[go_sem, *]
     refine⟨_,by first|exact Ls (by assumption),?_⟩)
  | (with_reducible refine bSk h λ_ g h=> ?_
     try simp +decide only[go_sem, *]
     refine⟨_,by first|exact Ls g|exact HS g|exact KW g|exact KS g,?_⟩)
  | (with_reducible refine bSk h λ_ g h=> ?_
     try simp +decide only[go_sem, *]
     refine YC.intro (by first|exact Fi g|exact KV g) rfl ?_ ?_ ?_
     . rfl
     . first|rfl|simp +decide only[go_sem, *])
  | (with_reducible cases h
     simp +decide only[go_sem, *]
     done)
  |simp only[eq_self,if_true,if_false,Bool.false_eq_true]at h
  |simp +decide only[go_sem, *]
  | (with_reducible refine Jc (λn τ=>∃v_1:Int×Cm,∃m:AF,∃p:AL,∃i:Int,(τ 2=bA 2 z17/\τ 3=bA 8 (Be m)/\τ 4=bA 2 [vO 6 G2 p.Decls,vO 4 GD p.AA]/\τ 5=si (BE (2+v_1.1))/\τ 6= .own false 1 (z21)/\τ 7=si i)/\Ac v_1 n m p i=some r) ⟨_,_,_,_,?_,h⟩ ?_
     rotate_left
     rintro(_|n1) τ N ⟨v_1,_,_,_,_,h⟩ k1
     . exact B9 h
     rw[Ac]at h)
  | (with_reducible refine Jc (λn τ=>∃i:Int,∃m:AF,∃p:AL,∃t:CA,∃k:Int,(τ 2=bA 2 z17/\τ 3=bA 8 [bA 2 (Ot m.t),si i,si m.left,sb m.E5,sb m.tx,sb m.atomic,sb m.loop,vO 1 eS m.held]/\τ 4=bA 2 [vO 6 G2 p.Decls,vO 4 GD p.AA]/\τ 5=si (BE (2+v_1.1))/\τ 6= .own false 1 (z21)/\τ 7=si i/\τ 8=bA 4 (U6 t)/\τ 9=si k)/\Da (Ac v_1 n1) i m p v_1 n t k=some r) ⟨_,_,_,_,_,?_,h⟩ ?_
     rotate_left
     rintro(_|n2) τ N ⟨i,m,p,_,_,_,h⟩ k2
     . exact B9 h
     rw[Da]at h)
  |with_reducible refine bO k2 ⟨_,_,_,_,_,?_,h⟩
  |with_reducible refine bO k1 ⟨_,_,_,_,?_,h⟩
  |simp only[*,eq_self,if_true,if_false,Bool.false_eq_true,decide_true,decide_false]at h
  | (with_reducible refine bI h ?_ ?_
     all_goals clear h;intro _ h)
  | (simp[GD,eS];done)
  |unfold BL at h
  |unfold J5 at h
  |unfold J4 at h
  |unfold J3 at h
  |unfold J2 at h
  |unfold J1 at h
  |unfold L2 at h
  |unfold L1 at h
end
def lM:IC:=(Ra 0 [.K 4 0]
(Sq (Ra 0 [.K 5 0]
(Bl 0 (Sq (Ra 6 [.C 5,.C 0,.Z 7,.O .lss 6 8]
(cX 9 0))
(Sq (Bk 1 (Ra 12 [.C 0,.C 5,.I 2 12 13,.U 0 14,.C 1,.O .eql 16 17]
(Ci 18 (Rb 19 [.C 5,.M 4 19]))))
(Rc 10 [.C 5,.P .add 10 1,.M 5 11])))))
(Rb 0 [.K 4 (-1)])))
def lN:Gi:=⟨[]⟩
def lO:List RV:=[.tmp 4]
namespace Cr
def J1:Option Int:=
some (-1)
def L1 (a:List Iy) (b:ByteArray) (L1:Int->Option Int) (c:Int):Option Int:=
if decide (c<(a.length:Int))then
(gt a c).bind λd=>
if d.Name.toList==b.toList then
some c
else
L1 (BE (c+1))
else
J1
def Ac (a:List Iy) (b:ByteArray):Nat->Int->Option Int
|0,_=>none
|n+1,c=>L1 a b (Ac a b n) c
end Cr
section
open Cr
def Cr (a:List Iy) (b:ByteArray):Option Int:=
Ac a b Bo 0
theorem Jl {a:List Iy} {b:ByteArray} {r:Int} (h:Cr a b=some r):Says Tryz.prog 106 [vS 2 HI a,Ao b] (si r):=by
 refine wO mix Tryz.func106 (I:=⟨lM,lN,lO⟩) ?_
 simp only[lM,lN,lO]
 have l1:=λn1 n2 n3 n4:Nat=>BM λn τ=>∃(c:Int),(τ 0=vS 2 HI a/\τ 1=Ao b/\τ 5=si c)/\Ac a b n c=some r
 unfold Cr at h
 exact walk
end
def lP:IC:=(Ra 8 [.o (.mv (.c (.own false 3 []))),.K 9 0]
(Sq (Ra 0 [.K 10 0]
(Bl 0 (Sq (Ra 11 [.C 10,.C 3,.Z 12,.O .lss 11 13]
(cX 14 0))
(Sq (Bk 1 (Ra 17 [.y 0 (.cp (.t 0)),.C 1,.y 2 (.cp (.t 2)),.C 3,.C 10,.I 11 20 21,.U 1 22,.o (.Dc [si 0,si 0,si 0] [(0,1,.t 18),(1,1,.t 19),(2,1,.t 24)]),.o (.Eg 3 [[si 0,si 0,si 0]] [(0,.t 25)]),.o (.app 3 24 (.t 17) (.t 26)),.b 0 [17,31,43,54] (.mv (.t 27))]
(Ra 28 [.y 2 (.cp (.t 2)),.P .add 28 1,.b 2 [19,28,33,45,55] (.mv (.t 29))]
(Ra 31 [.y 0 (.cp (.t 0)),.C 1,.y 2 (.cp (.t 2)),.C 3,.C 10,.I 11 34 35,.U 9 36,.b 39 [30,40,41] (.call 107 [.t 31,.t 32,.t 33,.t 38] 3),.w 30,.y 39 (.cp (.t 39)),.w 40,.y 39 (.ext (.t 30) 0),.y 39 (.ext (.t 30) 1),.b 0 [17,31,43,54] (.mv (.t 40)),.b 2 [19,28,33,45,55] (.mv (.t 41))]
(Rc 43 [.y 0 (.cp (.t 0)),.C 1,.y 2 (.cp (.t 2)),.C 3,.C 10,.I 11 46 47,.U 10 48,.b 51 [42,52,53] (.call 107 [.t 43,.t 44,.t 45,.t 50] 3),.w 42,.y 51 (.cp (.t 51)),.w 52,.y 51 (.ext (.t 42) 0),.y 51 (.ext (.t 42) 1),.b 0 [17,31,43,54] (.mv (.t 52)),.b 2 [19,28,33,45,55] (.mv (.t 53))])))))
(Rc 15 [.C 10,.P .add 15 1,.M 10 16])))))
(Rb 54 [.y 0 (.cp (.t 0)),.y 2 (.cp (.t 2)),.M 8 54,.M 9 55])))
def lQ:Gi:=⟨[(17,[0]),(19,[2]),(28,[2]),(30,[39]),(31,[0]),(33,[2]),(40,[39]),(41,[39]),(42,[51]),(43,[0]),(45,[2]),(52,[51]),(53,[51]),(54,[0]),(55,[2])]⟩
def lR:List RV:=[.tmp 8,.tmp 9]
namespace C2
def J1 (q:List DO) (p:Int):Option ((List DO)×Int):=
some (q,p)
def L1 (R107:(List DO)->Int->Int->(List AK)->Option ((List DO)×Int)) (b:List AK) (a:Int) (L1:(List DO)->Int->Int->Option ((List DO)×Int)) (e:List DO) (d c:Int):Option ((List DO)×Int):=
if decide (c<(b.length:Int))then
(gt b c).bind λj=>
if Aq (e.length+1) 24=true then
(R107 (e++[(DO.mk a d j.D4)]) a (BE (d+1)) j.Body).bind λl=>
(R107 l.1 a l.2 j.Else).bind λo=>
L1 o.1 o.2 (BE (c+1))
else none
else
J1 e d
def Ac (R107:(List DO)->Int->Int->(List AK)->Option ((List DO)×Int)) (b:List AK) (a:Int):Nat->(List DO)->Int->Int->Option ((List DO)×Int)
|0,_,_,_=>none
|n+1,e,d,c=>L1 R107 b a (Ac R107 b a n) e d c
end C2
section
open C2
def C2 (R107:(List DO)->Int->Int->(List AK)->Option ((List DO)×Int)) (i:List DO) (a f:Int) (b:List AK):Option ((List DO)×Int):=
Ac R107 b a Bo i f 0
theorem RJ {R107:(List DO)->Int->Int->(List AK)->Option ((List DO)×Int)} (H107:∀{x0 x1 x2 x3 r},R107 x0 x1 x2 x3=some r->Says Tryz.prog 107 [vO 3 E7 x0,si x1,si x2,vS 11 An x3] (.A9 [vO 3 E7 r.1,si r.2])) {i:List DO} {a f:Int} {b:List AK} {r:(List DO)×Int} (h:C2 R107 i a f b=some r):Says Tryz.prog 107 [vO 3 E7 i,si a,si f,vS 11 An b] (.A9 [vO 3 E7 r.1,si r.2]):=by
 refine wO mix Tryz.func107 (I:=⟨lP,lQ,lR⟩) ?_
 simp only[lP,lQ,lR]
 have a1:= @H107
 have l1:=λn1 n2 n3 n4:Nat=>BM λn τ=>∃(e:List DO) (d c:Int),(τ 0=vO 3 E7 e/\τ 1=si a/\τ 2=si d/\τ 3=vS 11 An b/\τ 10=si c)/\Ac R107 b a n e d c=some r
 unfold C2 at h
 exact walk
end
def Ny:Nat->((List DO)->Int->Int->(List AK)->Option ((List DO)×Int))
|0=>(λ_ _ _ _=>none)
|n+1=>C2 ((Ny n))
def FY (n:Nat):(List DO)->Int->Int->(List AK)->Option ((List DO)×Int):=(Ny n)
theorem Pf (n:Nat):(∀{x0 x1 x2 x3 r},(FY n) x0 x1 x2 x3=some r->Says Tryz.prog 107 [.own false 3 (x0.map E7),si x1,si x2,.sl false 11 (x3.map An)] (.A9 [.own false 3 (r.1.map E7),si r.2])):=by
  induction n with
  |zero=>exactλh=>B9 h
  |succ n ih=>exactλh=>RJ ih h
theorem Pg {n:Nat}:∀{x0 x1 x2 x3 r},(FY n) x0 x1 x2 x3=some r->Says Tryz.prog 107 [.own false 3 (x0.map E7),si x1,si x2,.sl false 11 (x3.map An)] (.A9 [.own false 3 (r.1.map E7),si r.2]):=(Pf n)
end Go.Abs
