/- Typed programs of Go functions, and that the functions do what these say. -/
import Derived.Test.YthmijagacgnmkaaGreatDoorBaseA
set_option linter.unusedSimpArgs false
set_option linter.unusedVariables false
namespace Go.Abs
open Go.Proofs
set_option maxRecDepth 1000000
set_option maxHeartbeats 4000000
def f95c:IC:=(Ra 0 [.b 2 [11,19,28,37,46,55,64,70,82,88,100,106,118,124,136,142,154,160] (.bx 6 (.t 0)),.b 3 [14,22,31,40,49,58,75,93,111,129,147,165] (.bx 6 (.t 1)),.B 4 false]
(Sq (Nf 1 (Rc 11 [.f 0 2,.Z 12,.f 0 3,.Z 15,.O .neq 13 16,.C 17,.G 18 false,.f 1 2,.Z 20,.f 1 3,.Z 23,.O .neq 21 24,.e,.V 18 25,.C 26,.G 27 false,.f 2 2,.Z 29,.f 2 3,.Z 32,.O .neq 30 33,.e,.V 27 34,.C 35,.G 36 false,.f 3 2,.Z 38,.f 3 3,.Z 41,.O .neq 39 42,.e,.V 36 43,.C 44,.G 45 false,.f 4 2,.Z 47,.f 4 3,.Z 50,.O .neq 48 51,.e,.V 45 52,.C 53,.G 54 false,.f 5 2,.Z 56,.f 5 3,.Z 59,.O .neq 57 60,.e,.V 54 61])
(Ci 62 (Rb 0 [.B 4 false])))
(Sq (Ra 0 [.K 5 0]
(Bl 0 (Sq (Ra 63 [.C 5,.f 0 2,.Z 65,.O .lss 63 66]
(cX 67 0))
(Sq (Bk 1 (Ra 70 [.f 0 2,.C 5,.I 5 71 72,.A 5 73,.f 0 3,.C 5,.I 5 76 77,.A 5 78,.o (.Wf true [2,1,1,0,1] (.t 74) (.t 79))]
(Ci 80 (Rb 0 [.B 4 false]))))
(Rc 68 [.C 5,.P .add 68 1,.M 5 69])))))
(Sq (Ra 0 [.K 6 0]
(Bl 2 (Sq (Ra 81 [.C 6,.f 1 2,.Z 83,.O .lss 81 84]
(cX 85 2))
(Sq (Bk 3 (Ra 88 [.f 1 2,.C 6,.I 2 89 90,.A 2 91,.f 1 3,.C 6,.I 2 94 95,.A 2 96,.o (.Wf true [2,0] (.t 92) (.t 97))]
(Ci 98 (Rb 0 [.B 4 false]))))
(Rc 86 [.C 6,.P .add 86 1,.M 6 87])))))
(Sq (Ra 0 [.K 7 0]
(Bl 4 (Sq (Ra 99 [.C 7,.f 2 2,.Z 101,.O .lss 99 102]
(cX 103 4))
(Sq (Bk 5 (Ra 106 [.f 2 2,.C 7,.I 2 107 108,.A 2 109,.f 2 3,.C 7,.I 2 112 113,.A 2 114,.o (.Wf true [2,1] (.t 110) (.t 115))]
(Ci 116 (Rb 0 [.B 4 false]))))
(Rc 104 [.C 7,.P .add 104 1,.M 7 105])))))
(Sq (Ra 0 [.K 8 0]
(Bl 6 (Sq (Ra 117 [.C 8,.f 3 2,.Z 119,.O .lss 117 120]
(cX 121 6))
(Sq (Bk 7 (Ra 124 [.f 3 2,.C 8,.I 1 125 126,.L 127,.f 3 3,.C 8,.I 1 130 131,.L 132,.O .neq 128 133]
(Ci 134 (Rb 0 [.B 4 false]))))
(Rc 122 [.C 8,.P .add 122 1,.M 8 123])))))
(Sq (Ra 0 [.K 9 0]
(Bl 8 (Sq (Ra 135 [.C 9,.f 4 2,.Z 137,.O .lss 135 138]
(cX 139 8))
(Sq (Bk 9 (Ra 142 [.f 4 2,.C 9,.I 1 143 144,.L 145,.f 4 3,.C 9,.I 1 148 149,.L 150,.O .neq 146 151]
(Ci 152 (Rb 0 [.B 4 false]))))
(Rc 140 [.C 9,.P .add 140 1,.M 9 141])))))
(Sq (Ra 0 [.K 10 0]
(Bl 10 (Sq (Ra 153 [.C 10,.f 5 2,.Z 155,.O .lss 153 156]
(cX 157 10))
(Sq (Bk 11 (Ra 160 [.f 5 2,.C 10,.I 3 161 162,.A 3 163,.f 5 3,.C 10,.I 3 166 167,.A 3 168,.o (.Wf true [1,1,1] (.t 164) (.t 169))]
(Ci 170 (Rb 0 [.B 4 false]))))
(Rc 158 [.C 10,.P .add 158 1,.M 10 159])))))
(Rb 0 [.B 4 true])))))))))
def f95g:Gi:=⟨[(11,[2]),(14,[3]),(19,[2]),(22,[3]),(28,[2]),(31,[3]),(37,[2]),(40,[3]),(46,[2]),(49,[3]),(55,[2]),(58,[3]),(64,[2]),(70,[2]),(75,[3]),(82,[2]),(88,[2]),(93,[3]),(100,[2]),(106,[2]),(111,[3]),(118,[2]),(124,[2]),(129,[3]),(136,[2]),(142,[2]),(147,[3]),(154,[2]),(160,[2]),(165,[3])]⟩
def f95r:List RV:=[.tmp 4]
def f95:FI:=⟨f95c,f95g,f95r⟩
theorem chk95:Lj Tryz.prog Tryz.f95 f95=true:=by kernel_rfl
namespace Br
def J7:AB8 Bool:=
some true
def L6 (a b:AD) (L6:Int->AB8 Bool) (i_5:Int):AB8 Bool:=
if decide (i_5<(a.BL.length:Int))then
(gt a.BL i_5).bind λx_10=>
(gt b.BL i_5).bind λx_11=>
if !(x_10.Thread==x_11.Thread&&(x_10.Stmt==x_11.Stmt&&(x_10.FA==x_11.FA)))then
some false
else
L6 (A1 (i_5+1))
else
J7
def L6r (a b:AD):Nat->Int->AB8 Bool
|0,_=>none
|n+1,i_5=>L6 a b (L6r a b n) i_5
def J6 (a b:AD):AB8 Bool:=
L6r a b BP 0
def L5 (a b:AD) (L5:Int->AB8 Bool) (i_4:Int):AB8 Bool:=
if decide (i_4<(a.AA.length:Int))then
(gt a.AA i_4).bind λx_8=>
(gt b.AA i_4).bind λx_9=>
if !(x_8.toList==x_9.toList)then
some false
else
L5 (A1 (i_4+1))
else
J6 a b
def L5r (a b:AD):Nat->Int->AB8 Bool
|0,_=>none
|n+1,i_4=>L5 a b (L5r a b n) i_4
def J5 (a b:AD):AB8 Bool:=
L5r a b BP 0
def L4 (a b:AD) (L4:Int->AB8 Bool) (i_3:Int):AB8 Bool:=
if decide (i_3<(a.AK.length:Int))then
(gt a.AK i_3).bind λx_6=>
(gt b.AK i_3).bind λx_7=>
if !(x_6.toList==x_7.toList)then
some false
else
L4 (A1 (i_3+1))
else
J5 a b
def yG (a b:AD):Nat->Int->AB8 Bool
|0,_=>none
|n+1,i_3=>L4 a b (yG a b n) i_3
def J4 (a b:AD):AB8 Bool:=
yG a b BP 0
def L3 (a b:AD) (L3:Int->AB8 Bool) (i_2:Int):AB8 Bool:=
if decide (i_2<(a.Af.length:Int))then
(gt a.Af i_2).bind λx_4=>
(gt b.Af i_2).bind λx_5=>
if !(x_4.Name.toList==x_5.Name.toList&&(x_4.Mutex==x_5.Mutex))then
some false
else
L3 (A1 (i_2+1))
else
J4 a b
def Gq (a b:AD):Nat->Int->AB8 Bool
|0,_=>none
|n+1,i_2=>L3 a b (Gq a b n) i_2
def J3 (a b:AD):AB8 Bool:=
Gq a b BP 0
def L2 (a b:AD) (L2:Int->AB8 Bool) (i_1:Int):AB8 Bool:=
if decide (i_1<(a.AE.length:Int))then
(gt a.AE i_1).bind λyE=>
(gt b.AE i_1).bind λx_3=>
if !(yE.Name.toList==x_3.Name.toList&&(yE.RW==x_3.RW))then
some false
else
L2 (A1 (i_1+1))
else
J3 a b
def Cr (a b:AD):Nat->Int->AB8 Bool
|0,_=>none
|n+1,i_1=>L2 a b (Cr a b n) i_1
def J2 (a b:AD):AB8 Bool:=
Cr a b BP 0
def L1 (a b:AD) (L1:Int->AB8 Bool) (i:Int):AB8 Bool:=
if decide (i<(a.Cells.length:Int))then
(gt a.Cells i).bind λx=>
(gt b.Cells i).bind λx_1=>
if !(x.Name.toList==x_1.Name.toList&&(x.Index==x_1.Index&&(x.Bw==x_1.Bw&&(x.Gl==x_1.Gl&&(x.Init==x_1.Init)))))then
some false
else
L1 (A1 (i+1))
else
J2 a b
def AZ (a b:AD):Nat->Int->AB8 Bool
|0,_=>none
|n+1,i=>L1 a b (AZ a b n) i
def J1 (a b:AD) (t62v:Bool):AB8 Bool:=
if t62v then
some false
else
AZ a b BP 0
end Br
section
open Br
def Br (a b:AD):AB8 Bool:=
if(a.Cells.length:Int) != (b.Cells.length:Int)then
J1 a b true
else
if(a.AE.length:Int) != (b.AE.length:Int)then
J1 a b true
else
if(a.Af.length:Int) != (b.Af.length:Int)then
J1 a b true
else
if(a.AK.length:Int) != (b.AK.length:Int)then
J1 a b true
else
if(a.AA.length:Int) != (b.AA.length:Int)then
J1 a b true
else
J1 a b ((a.BL.length:Int) != (b.BL.length:Int))
theorem Sa {a b:AD} {r:Bool} (h:Br a b=some r):Says Tryz.prog 95 [.agg (Ah a),.agg (Ah b)] (sb r):=by
 refine JX mix Tryz.func95 chk95 (AAq (by kernel_rfl)) rfl ?_;simp only[f95,f95c,f95g,f95r]
 repeat' first
  |with_reducible exact DP h
  |with_reducible refine gBe h (by assumption) λh=> ?_
  |with_reducible refine gBk h λ_ _ h=> ?_
  | (with_reducible cases h
     simp +decide only[go_sem, *]
     done)
  |simp only[eq_self,AA5,AAx,AAr]at h
  |simp +decide only[go_sem, *]
  | (with_reducible refine cutNH 1 (λτ=>∃t62v:Bool,(τ 2=bA 6 (Ah a)/\τ 3=bA 6 (Ah b)/\τ 62=sb t62v)/\J1 a b t62v=some r) λM m1=>⟨?_,?_⟩
     rotate_left;clear h;rintro τ ⟨_,_,h⟩;rotate_left)
  | (with_reducible refine impI m1 ⟨_,?_,h⟩;simp +decide only[go_sem, *];done)
  | (with_reducible refine Pt (λn τ=>∃i_5:Int,(τ 2=bA 6 (Ah a)/\τ 3=bA 6 (Ah b)/\τ 10=si i_5)/\L6r a b n i_5=some r) ⟨_,?_,h⟩ ?_
     rotate_left;rintro(_|n6) τ N ⟨_,_,h⟩ k6
     . exact DP h
     rw[L6r]at h)
  | (with_reducible refine Pt (λn τ=>∃i_4:Int,(τ 2=bA 6 (Ah a)/\τ 3=bA 6 (Ah b)/\τ 9=si i_4)/\L5r a b n i_4=some r) ⟨_,?_,h⟩ ?_
     rotate_left;rintro(_|n5) τ N ⟨_,_,h⟩ k5
     . exact DP h
     rw[L5r]at h)
  | (with_reducible refine Pt (λn τ=>∃i_3:Int,(τ 2=bA 6 (Ah a)/\τ 3=bA 6 (Ah b)/\τ 8=si i_3)/\yG a b n i_3=some r) ⟨_,?_,h⟩ ?_
     rotate_left;rintro(_|n4) τ N ⟨_,_,h⟩ k4
     . exact DP h
     rw[yG]at h)
  | (with_reducible refine Pt (λn τ=>∃i_2:Int,(τ 2=bA 6 (Ah a)/\τ 3=bA 6 (Ah b)/\τ 7=si i_2)/\Gq a b n i_2=some r) ⟨_,?_,h⟩ ?_
     rotate_left;rintro(_|n3) τ N ⟨_,_,h⟩ k3
     . exact DP h
     rw[Gq]at h)
  | (with_reducible refine Pt (λn τ=>∃i_1:Int,(τ 2=bA 6 (Ah a)/\τ 3=bA 6 (Ah b)/\τ 6=si i_1)/\Cr a b n i_1=some r) ⟨_,?_,h⟩ ?_
     rotate_left;rintro(_|n2) τ N ⟨_,_,h⟩ k2
     . exact DP h
     rw[Cr]at h)
  | (with_reducible refine Pt (λn τ=>∃i:Int,(τ 2=bA 6 (Ah a)/\τ 3=bA 6 (Ah b)/\τ 5=si i)/\AZ a b n i=some r) ⟨_,?_,h⟩ ?_
     rotate_left;rintro(_|n1) τ N ⟨_,_,h⟩ k1
     . exact DP h
     rw[AZ]at h)
  |with_reducible refine S6 k1 ⟨_,?_,h⟩
  |with_reducible refine S6 k2 ⟨_,?_,h⟩
  |with_reducible refine S6 k3 ⟨_,?_,h⟩
  |with_reducible refine S6 k4 ⟨_,?_,h⟩
  |with_reducible refine S6 k5 ⟨_,?_,h⟩
  |with_reducible refine S6 k6 ⟨_,?_,h⟩
  |simp only[*,eq_self,AA5,AAx,AAr,decide_true,decide_false]at h
  | (with_reducible refine bI h ?_ ?_
     all_goals clear h;intro _ h)
  |unfold Br at h
  |unfold J7 at h
  |unfold L6 at h
  |unfold J6 at h
  |unfold L5 at h
  |unfold J5 at h
  |unfold L4 at h
  |unfold J4 at h
  |unfold L3 at h
  |unfold J3 at h
  |unfold L2 at h
  |unfold J2 at h
  |unfold L1 at h
  |unfold J1 at h
end
namespace BR
def J6 (a:AD) (q:List AB9):AB8 ((List AB9)×Bool):=
if Ak (q.length+a.AK.length) 16=true then
if Ak ((q++a.AK).length+a.AA.length) 16=true then
some ((q++a.AK)++a.AA,true)
else none
else none
def L4 (a:AD) (L4:(List AB9)->Int->AB8 ((List AB9)×Bool)) (l:List AB9) (i:Int):AB8 ((List AB9)×Bool):=
if decide (i<(a.Af.length:Int))then
(gt a.Af i).bind λw=>
if Ak (l.length+1) 16=true then
L4 (l++[w.Name]) (A1 (i+1))
else none
else
J6 a l
def yG (a:AD):Nat->(List AB9)->Int->AB8 ((List AB9)×Bool)
|0,_,_=>none
|n+1,l,i=>L4 a (yG a n) l i
def J5 (a:AD) (t:List AB9):AB8 ((List AB9)×Bool):=
yG a BP t 0
def L3 (a:AD) (L3:(List AB9)->Int->AB8 ((List AB9)×Bool)) (j:List AB9) (f:Int):AB8 ((List AB9)×Bool):=
if decide (f<(a.AE.length:Int))then
(gt a.AE f).bind λv=>
if Ak (j.length+1) 16=true then
L3 (j++[v.Name]) (A1 (f+1))
else none
else
J5 a j
def Gq (a:AD):Nat->(List AB9)->Int->AB8 ((List AB9)×Bool)
|0,_,_=>none
|n+1,j,f=>L3 a (Gq a n) j f
def J4 (a:AD) (s:List AB9):AB8 ((List AB9)×Bool):=
Gq a BP s 0
def J3 (L1:(List AB9)->Int->AB8 ((List AB9)×Bool)) (c:Int) (d:List AB9) (b:DL):AB8 ((List AB9)×Bool):=
L1 (d++[b.Name]) (A1 (c+b.Bw))
def J2 (L2:Int->AB8 ((List AB9)×Bool)) (e:Int) (u:Bool):AB8 ((List AB9)×Bool):=
if u then
some ([],false)
else
L2 (A1 (e+1))
def L2 (L1:(List AB9)->Int->AB8 ((List AB9)×Bool)) (c:Int) (d:List AB9) (a:AD) (b:DL) (L2:Int->AB8 ((List AB9)×Bool)) (e:Int):AB8 ((List AB9)×Bool):=
if decide (e<b.Bw)then
(gt a.Cells (A1 (c+e))).bind λo=>
if o.Index != e then
J2 L2 e true
else
if !(o.Name.toList==b.Name.toList)then
J2 L2 e true
else
if o.Bw != b.Bw then
J2 L2 e true
else
if o.Init != b.Init then
J2 L2 e true
else
J2 L2 e o.Gl
else
J3 L1 c d b
def Cr (L1:(List AB9)->Int->AB8 ((List AB9)×Bool)) (c:Int) (d:List AB9) (a:AD) (b:DL):Nat->Int->AB8 ((List AB9)×Bool)
|0,_=>none
|n+1,e=>L2 L1 c d a b (Cr L1 c d a b n) e
def J1 (L1:(List AB9)->Int->AB8 ((List AB9)×Bool)) (c:Int) (d:List AB9) (a:AD) (b:DL) (p:Bool):AB8 ((List AB9)×Bool):=
if p then
some ([],false)
else
Cr L1 c d a b BP 0
def L1 (a:AD) (L1:(List AB9)->Int->AB8 ((List AB9)×Bool)) (d:List AB9) (c:Int):AB8 ((List AB9)×Bool):=
if decide (c<(a.Cells.length:Int))then
(gt a.Cells c).bind λb=>
if Ak (d.length+1) 16=true then
if b.Bw==0 then
if b.Index != 0 then
some ([],false)
else
L1 (d++[b.Name]) (A1 (c+1))
else
if decide (b.Bw<1)then
J1 L1 c d a b true
else
if decide (b.Bw>4)then
J1 L1 c d a b true
else
J1 L1 c d a b (decide (b.Bw>(A1 ((a.Cells.length:Int)-c))))
else none
else
J4 a d
def AZ (a:AD):Nat->(List AB9)->Int->AB8 ((List AB9)×Bool)
|0,_,_=>none
|n+1,d,c=>L1 a (AZ a n) d c
end BR
section
open BR
def BR (a:AD):AB8 ((List AB9)×Bool):=
AZ a BP [] 0
theorem Yp {a:AD} {r:(List AB9)×Bool} (h:BR a=some r):Says Tryz.prog 124 [.agg (Ah a)] (.BM [vO 1 eS r.1,sb r.2]):=by refine kO mix Tryz.func124 (hn [(1,[12,16,45,58,99,106,115,122,131,135]),(4,[21,105,121,130,134]),(6,[22,26,29,34,38,43,53,72,79,86,95]),(8,[65,70,77,84,91])] [(15,1)]) ?_;have l4:=λn1 n2 n3 n4:Nat=>Av λn τ=>∃(l:List AB9) (i:Int),(τ 1=bA 6 (Ah a)/\τ 4=vO 1 eS l/\τ 10=si i)/\yG a n l i=some r;have l3:=λn1 n2 n3 n4:Nat=>Av λn τ=>∃(j:List AB9) (f:Int),(τ 1=bA 6 (Ah a)/\τ 4=vO 1 eS j/\τ 9=si f)/\Gq a n j f=some r;have l1:=λn1 n2 n3 n4:Nat=>Av λn τ=>∃(d:List AB9) (c:Int),(τ 1=bA 6 (Ah a)/\τ 4=vO 1 eS d/\τ 5=si c)/\AZ a n d c=some r;have l2:=λn1 n2 n3 n4:Nat=>Av λn τ=>∃(c:Int) (d:List AB9) (b:DL) (e:Int),(τ 1=bA 6 (Ah a)/\τ 4= .own false 1 ((d++[b.Name]).map eS)/\τ 5=si c/\τ 6=bA 5 (Gx b)/\τ 7=si e)/\Cr (AZ a n1) c d a b n e=some r;have c1:=λn1 n2 n3 n4:Nat=>Bm 1 λτ=>∃(c:Int) (d:List AB9) (b:DL) (p:Bool),(τ 1=bA 6 (Ah a)/\τ 4= .own false 1 ((d++[b.Name]).map eS)/\τ 5=si c/\τ 6=bA 5 (Gx b)/\τ 51=sb p)/\J1 (AZ a n1) c d a b p=some r;unfold BR at h;exact walk
end
namespace Ab
def J7:AB8 Bool:=
some true
def J6 (L1:Int->AB8 Bool) (c:Int):AB8 Bool:=
L1 (A1 (c+1))
def J5 (L2:Int->Int->AB8 Bool) (i l:Int) (s:Bool):AB8 Bool:=
if s then
some false
else
L2 l (A1 (i+1))
def L2 (L1:Int->AB8 Bool) (a:AG) (f:List Int) (b:AB) (c:Int) (L2:Int->Int->AB8 Bool) (j i:Int):AB8 Bool:=
if decide (i<(f.length:Int))then
(gt f i).bind λl=>
if decide (l≤j)then
J5 L2 i l true
else
(gt b.Count a.Thread).bind λv=>
J5 L2 i l (decide (l≥v))
else
J6 L1 c
def Cr (L1:Int->AB8 Bool) (a:AG) (f:List Int) (b:AB) (c:Int):Nat->Int->Int->AB8 Bool
|0,_,_=>none
|n+1,j,i=>L2 L1 a f b c (Cr L1 a f b c n) j i
def J4 (L1:Int->AB8 Bool) (a:AG) (f:List Int) (b:AB) (c:Int) (q:Bool):AB8 Bool:=
if q then
some false
else
Cr L1 a f b c BP 0 0
def J3 (L1:Int->AB8 Bool) (d e:Bool) (a:AG) (b:AB) (c:Int) (f:List Int):AB8 Bool:=
if decide ((f.length:Int)>0)then
if c==0 then
J4 L1 a f b c (!d)
else
if c==1 then
J4 L1 a f b c (!e)
else
none
else
J4 L1 a f b c false
def L1 (d e:Bool) (a:AG) (b:AB) (L1:Int->AB8 Bool) (c:Int):AB8 Bool:=
if decide (c<2)then
if c==0 then
J3 L1 d e a b c a.Du
else
if c==1 then
J3 L1 d e a b c a.DR
else
none
else
J7
def AZ (d e:Bool) (a:AG) (b:AB):Nat->Int->AB8 Bool
|0,_=>none
|n+1,c=>L1 d e a b (AZ d e a b n) c
def J2 (a:AG) (b:AB) (d e:Bool):AB8 Bool:=
AZ d e a b BP 0
def J1 (a:AG) (b:AB) (o:Bool):AB8 Bool:=
if a.Kind==5 then
if a.Kind==4 then
J2 a b true true
else
J2 a b true (a.Kind==22)
else
if a.Kind==4 then
J2 a b o true
else
J2 a b o (a.Kind==22)
end Ab
section
open Ab
def Ab (p:AD) (b:AB) (a:AG):AB8 Bool:=
if a.Kind==3 then
(gt p.Cells a.Obj).bind λt=>
J1 a b (t.Bw != 0)
else
if a.Kind==4 then
(gt p.Cells a.Obj).bind λu=>
J1 a b (u.Bw != 0)
else
J1 a b false
theorem NX {p:AD} {b:AB} {a:AG} {r:Bool} (h:Ab p b a=some r):Says Tryz.prog 56 [.agg (Ah p),.agg (A3 b),.agg (BX a)] (sb r):=by refine kO mix Tryz.func56 (hn [(3,[23]),(4,[76]),(5,[14,18,25,32,38,42,47,49,78]),(8,[61])] [(1,1),(2,2),(8,3),(10,4)]) ?_;have l1:=λn1 n2 n3 n4:Nat=>Av λn τ=>∃(d e:Bool) (c:Int),(τ 4=bA 7 (A3 b)/\τ 5=bA 7 (BX a)/\τ 8=bA 2 [sb d,sb e]/\τ 51= .agg [vS 1 eI a.Du,vS 1 eI a.DR]/\τ 52=si c)/\AZ d e a b n c=some r;have l2:=λn1 n2 n3 n4:Nat=>Av λn τ=>∃(d e:Bool) (f:List Int) (c j i:Int),(τ 4=bA 7 (A3 b)/\τ 5=bA 7 (BX a)/\τ 8=bA 2 [sb d,sb e]/\τ 11=si j/\τ 51= .agg [vS 1 eI a.Du,vS 1 eI a.DR]/\τ 52=si c/\τ 65=vS 1 eI f/\τ 66=si (f.length:Int)/\τ 67=si i)/\Cr (AZ d e a b n1) a f b c n j i=some r;have c4:=λn1 n2 n3 n4:Nat=>Bm 4 λτ=>∃(d e:Bool) (f:List Int) (c:Int) (q:Bool),(τ 4=bA 7 (A3 b)/\τ 5=bA 7 (BX a)/\τ 8=bA 2 [sb d,sb e]/\τ 10=vS 1 eI f/\τ 51= .agg [vS 1 eI a.Du,vS 1 eI a.DR]/\τ 52=si c/\τ 64=sb q)/\J4 (AZ d e a b n1) a f b c q=some r;have c3:=λn1 n2 n3 n4:Nat=>Bm 3 λτ=>∃(d e:Bool) (c:Int) (f:List Int),(τ 4=bA 7 (A3 b)/\τ 5=bA 7 (BX a)/\τ 8=bA 2 [sb d,sb e]/\τ 9=si c/\τ 10=vS 1 eI f/\τ 51= .agg [vS 1 eI a.Du,vS 1 eI a.DR]/\τ 52=si c)/\J3 (AZ d e a b n1) d e a b c f=some r;have c2:=λn1 n2 n3 n4:Nat=>Bm 2 λτ=>∃(d e:Bool),(τ 4=bA 7 (A3 b)/\τ 5=bA 7 (BX a)/\τ 8=bA 2 [sb d,sb e])/\J2 a b d e=some r;have c1:=λn1 n2 n3 n4:Nat=>Bm 1 λτ=>∃(o:Bool),(τ 4=bA 7 (A3 b)/\τ 5=bA 7 (BX a)/\τ 7=sb o)/\J1 a b o=some r;unfold Ab at h;exact walk
end
namespace A4
def QZ (a:AG):AB8 Bool:=
some (a.Value==0)
def J1 (q:Bool):AB8 Bool:=
some q
def J6 (s:Bool):AB8 Bool:=
some s
def J5 (a:AG) (v:Int) (z:Bool):AB8 Bool:=
if z then
J6 true
else
if v==0 then
J6 (a.Value==(-1))
else
J6 false
def J4 (L1:Int->Bool->Int->AB8 Bool) (c u:Int) (y:Bool):AB8 Bool:=
L1 u y (A1 (c+1))
def J3 (L1:Int->Bool->Int->AB8 Bool) (a:AG) (c e:Int) (i t:Bool):AB8 Bool:=
if t then
if i then
J4 L1 c (A1 (e+1)) true
else
J4 L1 c (A1 (e+1)) (a.Value==c)
else
J4 L1 c e i
def L1 (a:AG) (b:AB) (L1:Int->Bool->Int->AB8 Bool) (e:Int) (i:Bool) (c:Int):AB8 Bool:=
if decide (c<(b.Sync.AA.length:Int))then
(gt b.Sync.AA c).bind λl=>
if l.Status==3 then
J3 L1 a c e i (l.D7==a.Obj)
else
J3 L1 a c e i false
else
J5 a e i
def AZ (a:AG) (b:AB):Nat->Int->Bool->Int->AB8 Bool
|0,_,_,_=>none
|n+1,e,i,c=>L1 a b (AZ a b n) e i c
def J9 (a:AG) (x:Int):AB8 Bool:=
some (a.Value==x)
def J8 (L2:Int->Int->AB8 Bool) (d w:Int):AB8 Bool:=
L2 w (A1 (d+1))
def J7 (L2:Int->Int->AB8 Bool) (d f:Int) (p:Bool):AB8 Bool:=
if p then
J8 L2 d (A1 (f+1))
else
J8 L2 d f
def L2 (a:AG) (b:AB) (L2:Int->Int->AB8 Bool) (f d:Int):AB8 Bool:=
if decide (d<(b.Sync.AA.length:Int))then
(gt b.Sync.AA d).bind λo=>
if o.Status==3 then
J7 L2 d f (o.D7==a.Obj)
else
J7 L2 d f false
else
J9 a f
def Cr (a:AG) (b:AB):Nat->Int->Int->AB8 Bool
|0,_,_=>none
|n+1,f,d=>L2 a b (Cr a b n) f d
def J2 (a:AG) (b:AB) (j:Bool):AB8 Bool:=
if j then
some true
else
if a.Kind==18 then
AZ a b BP 0 false 0
else
if a.Kind==19 then
Cr a b BP 0 0
else
QZ a
end A4
section
open A4
def A4 (b:AB) (a:AG):AB8 Bool:=
if a.Kind==3 then
(gt b.Cells a.Obj).bind λaa=>
some (a.Value==aa)
else
if a.Kind==23 then
(gt b.AK a.Obj).bind λab=>
some (a.Value==ab)
else
if a.Kind==5 then
if a.Value==0 then
J1 true
else
J1 (a.Value==1)
else
if a.Kind==4 then
J2 a b (a.Kind==4)
else
J2 a b (a.Kind==22)
theorem QT {b:AB} {a:AG} {r:Bool} (h:A4 b a=some r):Says Tryz.prog 57 [.agg (A3 b),.agg (BX a)] (sb r):=by refine kO mix Tryz.func57 (hn [(2,[18,29,51,52,92,93]),(3,[12,16,20,27,31,38,42,66,74,85,106,113,117]),(8,[60,64]),(11,[100,104])] [(9,2)]) ?_;have l1:=λn1 n2 n3 n4:Nat=>Av λn τ=>∃(e:Int) (i:Bool) (c:Int),(τ 3=bA 7 (BX a)/\τ 5=si e/\τ 6=sb i/\τ 53=vS 3 An b.Sync.AA/\τ 54=si (b.Sync.AA.length:Int)/\τ 55=si c)/\AZ a b n e i c=some r;have l2:=λn1 n2 n3 n4:Nat=>Av λn τ=>∃(f d:Int),(τ 3=bA 7 (BX a)/\τ 9=si f/\τ 94=vS 3 An b.Sync.AA/\τ 95=si (b.Sync.AA.length:Int)/\τ 96=si d)/\Cr a b n f d=some r;have c2:=λn1 n2 n3 n4:Nat=>Bm 2 λτ=>∃(j:Bool),(τ 2=bA 7 (A3 b)/\τ 3=bA 7 (BX a)/\τ 13=si a.Kind/\τ 46=sb j)/\J2 a b j=some r;unfold A4 at h;exact walk
end
namespace AY
def J3 (l:List AB9):AB8 ((List AB9)×Bool):=
some (l,true)
def J2 (L1:(List AB9)->Int->AB8 ((List AB9)×Bool)) (c:Int) (d:List AB9) (b o:DL):AB8 ((List AB9)×Bool):=
L1 (d++[b.Name]) (A1 (c+o.Bw))
def L2 (L1:(List AB9)->Int->AB8 ((List AB9)×Bool)) (c:Int) (a:List DL) (d:List AB9) (b:DL) (L2:DL->Int->AB8 ((List AB9)×Bool)) (e:DL) (f:Int):AB8 ((List AB9)×Bool):=
if decide (f<b.Bw)then
(gt a (A1 (c+f))).bind λi=>
if !(i.Name.toList==e.Name.toList&&(i.Index==f&&(i.Bw==e.Bw&&(i.Gl==e.Gl&&(i.Init==e.Init)))))then
some ([],false)
else
L2 (DL.mk e.Name f e.Bw e.Gl e.Init) (A1 (f+1))
else
J2 L1 c d b e
def Cr (L1:(List AB9)->Int->AB8 ((List AB9)×Bool)) (c:Int) (a:List DL) (d:List AB9) (b:DL):Nat->DL->Int->AB8 ((List AB9)×Bool)
|0,_,_=>none
|n+1,e,f=>L2 L1 c a d b (Cr L1 c a d b n) e f
def J1 (L1:(List AB9)->Int->AB8 ((List AB9)×Bool)) (c:Int) (a:List DL) (d:List AB9) (b:DL) (j:Bool):AB8 ((List AB9)×Bool):=
if j then
some ([],false)
else
Cr L1 c a d b BP b 0
def L1 (a:List DL) (L1:(List AB9)->Int->AB8 ((List AB9)×Bool)) (d:List AB9) (c:Int):AB8 ((List AB9)×Bool):=
if decide (c<(a.length:Int))then
(gt a c).bind λb=>
if Ak (d.length+1) 16=true then
if b.Bw==0 then
if b.Index != 0 then
some ([],false)
else
L1 (d++[b.Name]) (A1 (c+1))
else
if decide (b.Bw<1)then
J1 L1 c a d b true
else
if decide (b.Bw>4)then
J1 L1 c a d b true
else
if b.Gl then
J1 L1 c a d b true
else
J1 L1 c a d b (decide (b.Bw>(A1 ((a.length:Int)-c))))
else none
else
J3 d
def AZ (a:List DL):Nat->(List AB9)->Int->AB8 ((List AB9)×Bool)
|0,_,_=>none
|n+1,d,c=>L1 a (AZ a n) d c
end AY
section
open AY
def AY (a:List DL):AB8 ((List AB9)×Bool):=
AZ a BP [] 0
theorem O8 {a:List DL} {r:(List AB9)×Bool} (h:AY a=some r):Says Tryz.prog 120 [vS 5 Gx a] (.BM [vO 1 eS r.1,sb r.2]):=by refine kO mix Tryz.func120 (hn [(4,[16,70]),(6,[17,21,24,29,33,38,42,50,56,67])] [(15,1)]) ?_;have l1:=λn1 n2 n3 n4:Nat=>Av λn τ=>∃(d:List AB9) (c:Int),(τ 0=vS 5 Gx a/\τ 4=vO 1 eS d/\τ 5=si c)/\AZ a n d c=some r;have l2:=λn1 n2 n3 n4:Nat=>Av λn τ=>∃(c:Int) (d:List AB9) (b e:DL) (f:Int),(τ 0=vS 5 Gx a/\τ 4= .own false 1 ((d++[b.Name]).map eS)/\τ 5=si c/\τ 6=bA 5 (Gx e)/\τ 51=si b.Bw/\τ 52=si f)/\Cr (AZ a n1) c a d b n e f=some r;have c1:=λn1 n2 n3 n4:Nat=>Bm 1 λτ=>∃(c:Int) (d:List AB9) (b:DL) (j:Bool),(τ 0=vS 5 Gx a/\τ 4= .own false 1 ((d++[b.Name]).map eS)/\τ 5=si c/\τ 6=bA 5 (Gx b)/\τ 49=sb j)/\J1 (AZ a n1) c a d b j=some r;unfold AY at h;exact walk
end
namespace Bc
def J6:AB8 Bool:=
some true
def J5 (L1:Int->AB8 Bool) (b:Int):AB8 Bool:=
L1 (A1 (b+1))
def J4 (L1:Int->AB8 Bool) (b:Int) (a:AO) (c:AH) (i:Bool):AB8 Bool:=
if i then
some false
else
(gt a.World.Af c.D7).bind λl=>
(gt a.Init.Sync.AE l.Mutex).bind λo=>
if o.B6==b then
some false
else
J5 L1 b
def J3 (L1:Int->AB8 Bool) (b:Int) (a:AO) (c:AH) (f:Bool):AB8 Bool:=
if f then
if c.D7 != 0 then
some false
else
J5 L1 b
else
if decide (c.D7<0)then
J4 L1 b a c true
else
J4 L1 b a c (decide (c.D7≥(a.World.Af.length:Int)))
def J2 (L1:Int->AB8 Bool) (b:Int) (a:AO) (c:AH) (d:Bool):AB8 Bool:=
(gt a.Init.Count b).bind λj=>
if !((j==0)==d)then
some false
else
if c.Status != 3 then
J3 L1 b a c (c.Status != 4)
else
J3 L1 b a c false
def J1 (L1:Int->AB8 Bool) (b:Int) (a:AO) (c:AH) (e:Bool):AB8 Bool:=
if e then
some false
else
if c.Status==0 then
J2 L1 b a c true
else
J2 L1 b a c (c.Status==1)
def L1 (a:AO) (L1:Int->AB8 Bool) (b:Int):AB8 Bool:=
if decide (b<(a.Init.Sync.AA.length:Int))then
(gt a.Init.Sync.AA b).bind λc=>
if decide (c.Status<0)then
J1 L1 b a c true
else
if decide (c.Status>5)then
J1 L1 b a c true
else
if b==0 then
J1 L1 b a c (c.Status==0)
else
J1 L1 b a c false
else
J6
def AZ (a:AO):Nat->Int->AB8 Bool
|0,_=>none
|n+1,b=>L1 a (AZ a n) b
end Bc
section
open Bc
def Bc (a:AO):AB8 Bool:=
AZ a BP 0
theorem Oh {a:AO} {r:Bool} (h:Bc a=some r):Says Tryz.prog 83 [.agg (BV a)] (sb r):=by refine kO mix Tryz.func83 (hn [(1,[6,7,8,41,42,67,68,73,74,75,77,78]),(4,[16,20,28,33,37,50,54,58,61,65,80])] [(8,1),(10,2),(15,3)]) ?_;have l1:=λn1 n2 n3 n4:Nat=>Av λn τ=>∃(b:Int),(τ 1=bA 15 (BV a)/\τ 9=vS 3 An a.Init.Sync.AA/\τ 10=si (a.Init.Sync.AA.length:Int)/\τ 11=si b)/\AZ a n b=some r;have c3:=λn1 n2 n3 n4:Nat=>Bm 3 λτ=>∃(b:Int) (c:AH) (f:Bool),(τ 1=bA 15 (BV a)/\τ 3=si b/\τ 4=bA 3 (An c)/\τ 9=vS 3 An a.Init.Sync.AA/\τ 10=si (a.Init.Sync.AA.length:Int)/\τ 11=si b/\τ 57=sb f)/\J3 (AZ a n1) b a c f=some r;have c2:=λn1 n2 n3 n4:Nat=>Bm 2 λτ=>∃(b:Int) (c:AH) (d:Bool),(τ 1=bA 15 (BV a)/\τ 3=si b/\τ 4=bA 3 (An c)/\τ 5=sb d/\τ 9=vS 3 An a.Init.Sync.AA/\τ 10=si (a.Init.Sync.AA.length:Int)/\τ 11=si b)/\J2 (AZ a n1) b a c d=some r;have c1:=λn1 n2 n3 n4:Nat=>Bm 1 λτ=>∃(b:Int) (c:AH) (e:Bool),(τ 1=bA 15 (BV a)/\τ 3=si b/\τ 4=bA 3 (An c)/\τ 9=vS 3 An a.Init.Sync.AA/\τ 10=si (a.Init.Sync.AA.length:Int)/\τ 11=si b/\τ 32=sb e)/\J1 (AZ a n1) b a c e=some r;unfold Bc at h;exact walk
end
namespace C0
def J1 (q:List Da) (p:Int):AB8 ((List Da)×Int):=
some (q,p)
def L1 (R100:(List Da)->Int->Int->(List AQ)->AB8 ((List Da)×Int)) (b:List AQ) (a:Int) (L1:(List Da)->Int->Int->AB8 ((List Da)×Int)) (e:List Da) (d c:Int):AB8 ((List Da)×Int):=
if decide (c<(b.length:Int))then
(gt b c).bind λj=>
if Ak (e.length+1) 24=true then
(R100 (e++[(Da.mk a d j.FA)]) a (A1 (d+1)) j.Body).bind λl=>
(R100 l.1 a l.2 j.Else).bind λo=>
L1 o.1 o.2 (A1 (c+1))
else none
else
J1 e d
def AZ (R100:(List Da)->Int->Int->(List AQ)->AB8 ((List Da)×Int)) (b:List AQ) (a:Int):Nat->(List Da)->Int->Int->AB8 ((List Da)×Int)
|0,_,_,_=>none
|n+1,e,d,c=>L1 R100 b a (AZ R100 b a n) e d c
end C0
section
open C0
def C0 (R100:(List Da)->Int->Int->(List AQ)->AB8 ((List Da)×Int)) (i:List Da) (a f:Int) (b:List AQ):AB8 ((List Da)×Int):=
AZ R100 b a BP i f 0
theorem Yq {R100:(List Da)->Int->Int->(List AQ)->AB8 ((List Da)×Int)} (H100:∀{x0 x1 x2 x3 r},R100 x0 x1 x2 x3=some r->Says Tryz.prog 219 [vO 3 GX x0,si x1,si x2,vS 11 A7 x3] (.BM [vO 3 GX r.1,si r.2])) {i:List Da} {a f:Int} {b:List AQ} {r:(List Da)×Int} (h:C0 R100 i a f b=some r):Says Tryz.prog 219 [vO 3 GX i,si a,si f,vS 11 A7 b] (.BM [vO 3 GX r.1,si r.2]):=by refine kO mix Tryz.func219 (hn [(0,[17,31,43,54]),(2,[19,28,33,45,55]),(39,[30,40,41]),(51,[42,52,53])]) ?_;have a1:= @H100;have l1:=λn1 n2 n3 n4:Nat=>Av λn τ=>∃(e:List Da) (d c:Int),(τ 0=vO 3 GX e/\τ 1=si a/\τ 2=si d/\τ 3=vS 11 A7 b/\τ 10=si c)/\AZ R100 b a n e d c=some r;unfold C0 at h;exact walk
end
def UB:Nat->((List Da)->Int->Int->(List AQ)->AB8 ((List Da)×Int))
|0=>(λ_ _ _ _=>none)
|n+1=>C0 ((UB n))
def Gu (n:Nat):(List Da)->Int->Int->(List AQ)->AB8 ((List Da)×Int):=(UB n)
theorem WX (n:Nat):(∀{x0 x1 x2 x3 r},(Gu n) x0 x1 x2 x3=some r->Says Tryz.prog 219 [.own false 3 (x0.map GX),si x1,si x2,.sl false 11 (x3.map A7)] (.BM [.own false 3 (r.1.map GX),si r.2])):=by
  induction n with
  |zero=>exactλh=>DP h
  |succ n ih=>exactλh=>Yq ih h
theorem WY {n:Nat}:∀{x0 x1 x2 x3 r},(Gu n) x0 x1 x2 x3=some r->Says Tryz.prog 219 [.own false 3 (x0.map GX),si x1,si x2,.sl false 11 (x3.map A7)] (.BM [.own false 3 (r.1.map GX),si r.2]):=(WX n)
namespace OV
def J5 (j:List Int):AB8 (List Int):=
some j
def J4 (L1:(List Int)->Int->AB8 (List Int)) (b:Int) (i:List Int):AB8 (List Int):=
L1 i (A1 (b+1))
def J3 (L1:(List Int)->Int->AB8 (List Int)) (d:Int) (a:List Int) (b c:Int) (o:Bool):AB8 (List Int):=
if o then
J4 L1 b a
else
if 0≤d/\d.toNat≤a.length then
if Ak (1+((a.drop d.toNat).take (a.length-d.toNat)).length) 8=true then
if 0≤d/\d.toNat≤a.length then
if Ak ((a.take d.toNat).length+(((a.drop d.toNat).take (a.length-d.toNat)).length+1)) 8=true then
J4 L1 b ((a.take d.toNat)++([c]++((a.drop d.toNat).take (a.length-d.toNat))))
else none
else none
else none
else none
def J2 (L1:(List Int)->Int->AB8 (List Int)) (a:List Int) (b c d:Int):AB8 (List Int):=
if decide (d<(a.length:Int))then
(gt a d).bind λq=>
J3 L1 d a b c (q==c)
else
J3 L1 d a b c false
def J1 (L1:(List Int)->Int->AB8 (List Int)) (L2:Int->AB8 (List Int)) (f:Int) (a:List Int) (b c:Int) (l:Bool):AB8 (List Int):=
if l then
L2 (A1 (f+1))
else
J2 L1 a b c f
def L2 (L1:(List Int)->Int->AB8 (List Int)) (a:List Int) (b c:Int) (L2:Int->AB8 (List Int)) (f:Int):AB8 (List Int):=
if decide (f<(a.length:Int))then
(gt a f).bind λp=>
J1 L1 L2 f a b c (decide (p<c))
else
J1 L1 L2 f a b c false
def Cr (L1:(List Int)->Int->AB8 (List Int)) (a:List Int) (b c:Int):Nat->Int->AB8 (List Int)
|0,_=>none
|n+1,f=>L2 L1 a b c (Cr L1 a b c n) f
def L1 (e:List Int) (L1:(List Int)->Int->AB8 (List Int)) (a:List Int) (b:Int):AB8 (List Int):=
if decide (b<(e.length:Int))then
(gt e b).bind λc=>
Cr L1 a b c BP 0
else
J5 a
def AZ (e:List Int):Nat->(List Int)->Int->AB8 (List Int)
|0,_,_=>none
|n+1,a,b=>L1 e (AZ e n) a b
end OV
section
open OV
def OV (e:List Int):AB8 (List Int):=
AZ e BP [] 0
end
def f135c:IC:=(Ra 2 [.o (.mv (.c (.own false 1 [])))]
(Ra 0 [.K 3 0]
(Sq (Ra 9 [.C 0,.Z 9,.Y 0]
(Bl 0 (Ra 12 [.O .lss 11 10]
(Sq (cX 12 0)
(Sq (Bk 1 (Ra 13 [.I 1 9 11,.L 13,.M 5 14]
(Ra 15 [.C 3,.C 5,.Z 16,.O .add 15 17,.M 3 18]
(Ra 19 [.C 3,.P .lss 19 0]
(Ci 20 .bad)))))
(Rc 22 [.P .add 11 1,.w 11,.C 22]))))))
(Ra 23 [.C 3,.o (.call 171 [.c (.sc (.slice none 0 0)),.t 23] 2),.b 6 [31,35] (.mv (.t 24))]
(Sq (Ra 25 [.C 0,.Z 25,.Y 0]
(Bl 2 (Ra 28 [.O .lss 27 26]
(Sq (cX 28 2)
(Sq (Bk 3 (Ra 29 [.I 1 25 27,.L 29,.M 8 30]
(Rc 31 [.y 6 (.cp (.t 6)),.C 8,.o (.app 1 8 (.t 31) (.t 32)),.b 6 [31,35] (.mv (.t 33))])))
(Rc 34 [.P .add 27 1,.w 27,.C 34]))))))
(Rb 35 [.y 6 (.cp (.t 6)),.M 2 35]))))))
def f135g:Gi:=⟨[(31,[6]),(35,[6])]⟩
def f135r:List RV:=[.tmp 2]
namespace IU
def J2 (j:List Int):AB8 (List Int):=
some j
def L2 (a:List (List Int)) (L2:(List Int)->Int->AB8 (List Int)) (b:List Int) (e:Int):AB8 (List Int):=
if decide (e<(a.length:Int))then
(gt a e).bind λi=>
if Ak (b.length+i.length) 8=true then
L2 (b++i) (A1 (e+1))
else none
else
J2 b
def Cr (a:List (List Int)):Nat->(List Int)->Int->AB8 (List Int)
|0,_,_=>none
|n+1,b,e=>L2 a (Cr a n) b e
def J1 (a:List (List Int)) (l:Int):AB8 (List Int):=
(Vm l).bind λo=>
Cr a BP o 0
def L1 (a:List (List Int)) (L1:Int->Int->AB8 (List Int)) (c d:Int):AB8 (List Int):=
if decide (d<(a.length:Int))then
(gt a d).bind λf=>
if decide ((A1 (c+(f.length:Int)))<0)then
none
else
L1 (A1 (c+(f.length:Int))) (A1 (d+1))
else
J1 a c
def AZ (a:List (List Int)):Nat->Int->Int->AB8 (List Int)
|0,_,_=>none
|n+1,c,d=>L1 a (AZ a n) c d
end IU
section
open IU
def IU (a:List (List Int)):AB8 (List Int):=
AZ a BP 0 0
theorem U9 {a:List (List Int)} {r:List Int} (h:IU a=some r):Says Tryz.prog 135 [vS 1 ZS a] (vO 1 eI r):=by refine wO mix Tryz.func135 (I:=⟨f135c,f135g,f135r⟩) ?_;simp only[f135c,f135g,f135r];have a1:= @ZG;have l2:=λn1 n2 n3 n4:Nat=>Av λn τ=>∃(b:List Int) (e:Int),(τ 6=vO 1 eI b/\τ 25=vS 1 ZS a/\τ 26=si (a.length:Int)/\τ 27=si e)/\Cr a n b e=some r;have l1:=λn1 n2 n3 n4:Nat=>Av λn τ=>∃(c d:Int),(τ 0=vS 1 ZS a/\τ 3=si c/\τ 9=vS 1 ZS a/\τ 10=si (a.length:Int)/\τ 11=si d)/\AZ a n c d=some r;unfold IU at h;exact walk
end
namespace CR
def J4 (o:AP):AB8 AP:=
some o
def J3 (L3:AP->Int->AB8 AP) (c:Int) (b:AP) (p:AH):AB8 AP:=
if Ak (b.AA.length+1) 24=true then
L3 (AP.mk b.AE b.Tx b.Bp (b.AA++[p])) (A1 (c+1))
else none
def L3 (a:AD) (L3:AP->Int->AB8 AP) (b:AP) (c:Int):AB8 AP:=
if decide (c<(a.AA.length:Int))then
if c==0 then
J3 L3 c b (AH.mk 1 0 false)
else
J3 L3 c b (AH.mk 0 0 false)
else
J4 b
def Gq (a:AD):Nat->AP->Int->AB8 AP
|0,_,_=>none
|n+1,b,c=>L3 a (Gq a n) b c
def J2 (a:AD) (l:AP):AB8 AP:=
Gq a BP l 0
def L2 (a:AD) (L2:AP->Int->AB8 AP) (e:AP) (i:Int):AB8 AP:=
if decide (i<(a.AK.length:Int))then
if Ak (e.Bp.length+1) 1=true then
L2 (AP.mk e.AE e.Tx (e.Bp++[false]) e.AA) (A1 (i+1))
else none
else
J2 a e
def Cr (a:AD):Nat->AP->Int->AB8 AP
|0,_,_=>none
|n+1,e,i=>L2 a (Cr a n) e i
def J1 (a:AD) (j:AP):AB8 AP:=
Cr a BP j 0
def L1 (a:AD) (L1:AP->Int->AB8 AP) (d:AP) (f:Int):AB8 AP:=
if decide (f<(a.AE.length:Int))then
if Ak (d.AE.length+1) 32=true then
L1 (AP.mk (d.AE++[(AW.mk (-1) [])]) d.Tx d.Bp d.AA) (A1 (f+1))
else none
else
J1 a d
def AZ (a:AD):Nat->AP->Int->AB8 AP
|0,_,_=>none
|n+1,d,f=>L1 a (AZ a n) d f
end CR
section
open CR
def CR (a:AD):AB8 AP:=
AZ a BP (AP.mk [] (-1) [] []) 0
theorem QC {a:AD} {r:AP} (h:CR a=some r):Says Tryz.prog 27 [.agg (Ah a)] (.agg (IF r)):=by refine kO mix Tryz.func27 (hn [(1,[10,23,35]),(3,[16,17,21,29,30,33,45,46,50,51]),(7,[44])]) ?_;have l3:=λn1 n2 n3 n4:Nat=>Av λn τ=>∃(b:AP) (c:Int),(τ 1=bA 6 (Ah a)/\τ 2=bA 4 z4/\τ 3=bA 4 (IF b)/\τ 6=si c)/\Gq a n b c=some r;have l2:=λn1 n2 n3 n4:Nat=>Av λn τ=>∃(e:AP) (i:Int),(τ 1=bA 6 (Ah a)/\τ 2=bA 4 z4/\τ 3=bA 4 (IF e)/\τ 5=si i)/\Cr a n e i=some r;have l1:=λn1 n2 n3 n4:Nat=>Av λn τ=>∃(d:AP) (f:Int),(τ 1=bA 6 (Ah a)/\τ 2=bA 4 z4/\τ 3=bA 4 (IF d)/\τ 4=si f)/\AZ a n d f=some r;unfold CR at h;exact walk
end
namespace C2
def J5:AB8 Bool:=
some true
def J4 (L1:Int->AB8 Bool) (a:Int):AB8 Bool:=
L1 (A1 (a+1))
def J3 (L1:Int->AB8 Bool) (a:Int) (s:Bool):AB8 Bool:=
if !s then
some false
else
J4 L1 a
def J2 (L2:Int->Bool->Int->AB8 Bool) (f o:Int) (q:Bool):AB8 Bool:=
L2 o q (A1 (f+1))
def J1 (L2:Int->Bool->Int->AB8 Bool) (f i:Int) (p:Bool):AB8 Bool:=
J2 L2 f (A1 (i+1)) p
def L2 (L1:Int->AB8 Bool) (c a:Int) (d:List AG) (b:List Int) (e:Int) (L2:Int->Bool->Int->AB8 Bool) (i:Int) (j:Bool) (f:Int):AB8 Bool:=
if decide (f<c)then
(gt d f).bind λl=>
if l.Thread != e then
J2 L2 f i j
else
if j then
J1 L2 f i true
else
(gt b a).bind λt=>
if i==t then
if l.Kind==3 then
J1 L2 f i true
else
J1 L2 f i (l.Kind==23)
else
J1 L2 f i false
else
J3 L1 a j
def Cr (L1:Int->AB8 Bool) (c a:Int) (d:List AG) (b:List Int) (e:Int):Nat->Int->Bool->Int->AB8 Bool
|0,_,_,_=>none
|n+1,i,j,f=>L2 L1 c a d b e (Cr L1 c a d b e n) i j f
def L1 (c:Int) (d:List AG) (b:List Int) (e:Int) (L1:Int->AB8 Bool) (a:Int):AB8 Bool:=
if decide (a<(b.length:Int))then
Cr L1 c a d b e BP 0 false 0
else
J5
def AZ (c:Int) (d:List AG) (b:List Int) (e:Int):Nat->Int->AB8 Bool
|0,_=>none
|n+1,a=>L1 c d b e (AZ c d b e n) a
end C2
section
open C2
def C2 (d:List AG) (c e:Int) (b:List Int):AB8 Bool:=
AZ c d b e BP 0
theorem Yu {d:List AG} {c e:Int} {b:List Int} {r:Bool} (h:C2 d c e b=some r):Says Tryz.prog 64 [vS 7 BX d,si c,si e,vS 1 eI b] (sb r):=by refine kO mix Tryz.func64 hn ?_;have l1:=λn1 n2 n3 n4:Nat=>Av λn τ=>∃(a:Int),(τ 0=vS 7 BX d/\τ 1=si c/\τ 2=si e/\τ 3=vS 1 eI b/\τ 9=si a)/\AZ c d b e n a=some r;have l2:=λn1 n2 n3 n4:Nat=>Av λn τ=>∃(a i:Int) (j:Bool) (f:Int),(τ 0=vS 7 BX d/\τ 1=si c/\τ 2=si e/\τ 3=vS 1 eI b/\τ 9=si a/\τ 10=si i/\τ 11=sb j/\τ 12=si f)/\Cr (AZ c d b e n1) c a d b e n i j f=some r;unfold C2 at h;exact walk
end
end Go.Abs
