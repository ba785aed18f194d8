/- Typed programs of Go functions, and that the functions do what these say. -/
import Derived.Test.YthmijagacgnmkaaGreatDoorWalkR
set_option linter.unusedSimpArgs false
set_option linter.unusedVariables false
namespace Go.Abs
open Go.Proofs
set_option maxRecDepth 1000000
set_option maxHeartbeats 4000000
namespace HE
def J1 (f:Ac):ABr Ac:=
some f
end HE
section
open HE
def HE (e:KH) (d:Int) (c:WX):ABr Ac:=
(D8 e d).bind λa=>
if(a.AH.length:Int)==0 then
some a
else
if Af (a.AH.length) 88=true then
if¬(a.AH.length:Int)=0 then
(gt a.AH ((Ay c.At).tmod (a.AH.length:Int))).bind λb=>
if(c.Field.tmod 9)==0 then
J1 (Ac.mk a.World (a.AH.set (((Ay c.At).tmod (a.AH.length:Int)).toNat) (AE.mk ((Ay c.N).tmod 8) b.Kind b.Obj b.Value b.Site b.DE b.C2)))
else
if(c.Field.tmod 9)==1 then
J1 (Ac.mk a.World (a.AH.set (((Ay c.At).tmod (a.AH.length:Int)).toNat) (AE.mk b.Thread (Ay (1+((Ay (w8 c.N)).tmod 24))) b.Obj b.Value b.Site b.DE b.C2)))
else
if(c.Field.tmod 9)==2 then
J1 (Ac.mk a.World (a.AH.set (((Ay c.At).tmod (a.AH.length:Int)).toNat) (AE.mk b.Thread b.Kind ((Ay c.N).tmod 8) b.Value b.Site b.DE b.C2)))
else
if(c.Field.tmod 9)==3 then
J1 (Ac.mk a.World (a.AH.set (((Ay c.At).tmod (a.AH.length:Int)).toNat) (AE.mk b.Thread b.Kind b.Obj ((Ay c.N).tmod 8) b.Site b.DE b.C2)))
else
if(c.Field.tmod 9)==4 then
J1 (Ac.mk a.World (a.AH.set (((Ay c.At).tmod (a.AH.length:Int)).toNat) (AE.mk b.Thread b.Kind b.Obj b.Value ((Ay c.N).tmod 8) b.DE b.C2)))
else
if(c.Field.tmod 9)==5 then
if Af (b.DE.length) 8=true then
if Af (b.DE.length+1) 8=true then
J1 (Ac.mk a.World (a.AH.set (((Ay c.At).tmod (a.AH.length:Int)).toNat) (AE.mk b.Thread b.Kind b.Obj b.Value b.Site (b.DE++[(Ay c.N).tmod 8]) b.C2)))
else none
else none
else
if(c.Field.tmod 9)==6 then
if Af (b.C2.length) 8=true then
if Af (b.C2.length+1) 8=true then
J1 (Ac.mk a.World (a.AH.set (((Ay c.At).tmod (a.AH.length:Int)).toNat) (AE.mk b.Thread b.Kind b.Obj b.Value b.Site b.DE (b.C2++[(Ay c.N).tmod 8]))))
else none
else none
else
if(c.Field.tmod 9)==7 then
if 0≤((Ay c.At).tmod (a.AH.length:Int))/\(((Ay c.At).tmod (a.AH.length:Int)).toNat)≤a.AH.length then
if 0≤(Ay (((Ay c.At).tmod (a.AH.length:Int))+1))/\((Ay (((Ay c.At).tmod (a.AH.length:Int))+1)).toNat)≤a.AH.length then
if((a.AH.drop ((Ay (((Ay c.At).tmod (a.AH.length:Int))+1)).toNat)).take (a.AH.length-((Ay (((Ay c.At).tmod (a.AH.length:Int))+1)).toNat))).isEmpty then
J1 (Ac.mk a.World (a.AH.take (((Ay c.At).tmod (a.AH.length:Int)).toNat)))
else
if Af ((a.AH.take (((Ay c.At).tmod (a.AH.length:Int)).toNat)).length+((a.AH.drop ((Ay (((Ay c.At).tmod (a.AH.length:Int))+1)).toNat)).take (a.AH.length-((Ay (((Ay c.At).tmod (a.AH.length:Int))+1)).toNat))).length) 88=true then
J1 (Ac.mk a.World ((a.AH.take (((Ay c.At).tmod (a.AH.length:Int)).toNat))++((a.AH.drop ((Ay (((Ay c.At).tmod (a.AH.length:Int))+1)).toNat)).take (a.AH.length-((Ay (((Ay c.At).tmod (a.AH.length:Int))+1)).toNat)))))
else none
else none
else none
else
J1 a
else none
else none
theorem Tn {e:KH} {d:Int} {c:WX} {r:Ac} (h:HE e d c=some r):Says Tryz.prog 35 [.agg (SV e),si d,.agg (mC c)] (.agg (FP r)):=by refine kF mix Tryz.func35 (hn [(5,[23,34,38,50]),(7,[9,14,15,18,19,20,22,26,27,30,31,33,43,45,46,49,56,57,60,62,63,66,68,69,72,74,75,78,79,80,81,82,87,88,91,92,93,94,95,100,101,104,109,115,116])] (E:=[(10,(.pg false 7 [(0,6,0)] (Rc 43 [.y 7 (.cp (.t 9)),.C 10,.y 7 (.Hx (.t 43)),.H 7 0 45,.S 1 46 44]))),(12,(.pg false 7 [(0,6,0)] (Rc 49 [.y 7 (.cp (.t 9)),.f 2 5,.o (.cvt .u8 (.t 51)),.o (.cvt .i64 (.t 52)),.P .rem 53 24,.o (.bin .add (.c (si 1)) (.t 54)),.y 7 (.Hx (.t 49)),.H 7 1 56,.S 1 57 55]))),(14,(.pg false 7 [(0,6,0)] (Rc 60 [.y 7 (.cp (.t 9)),.C 10,.y 7 (.Hx (.t 60)),.H 7 2 62,.S 1 63 61]))),(16,(.pg false 7 [(0,6,0)] (Rc 66 [.y 7 (.cp (.t 9)),.C 10,.y 7 (.Hx (.t 66)),.H 7 3 68,.S 1 69 67]))),(18,(.pg false 7 [(0,6,0)] (Rc 72 [.y 7 (.cp (.t 9)),.C 10,.y 7 (.Hx (.t 72)),.H 7 4 74,.S 1 75 73]))),(20,(.pg false 7 [(0,6,0)] (.pg true 7 [(0,6,0)] (Rc 78 [.y 7 (.cp (.t 9)),.y 7 (.cp (.t 9)),.y 7 (.Hx (.t 79)),.m 7 5 80,.o (.app 1 8 (.c (.own false 1 [])) (.t 82)),.C 10,.o (.OD 1 [[si 0]] [(0,.t 84)]),.o (.app 1 8 (.t 83) (.t 85)),.y 7 (.Hx (.t 78)),.H 7 5 87,.S 1 88 86])))),(22,(.pg false 7 [(0,6,0)] (.pg true 7 [(0,6,0)] (Rc 91 [.y 7 (.cp (.t 9)),.y 7 (.cp (.t 9)),.y 7 (.Hx (.t 92)),.m 7 6 93,.o (.app 1 8 (.c (.own false 1 [])) (.t 95)),.C 10,.o (.OD 1 [[si 0]] [(0,.t 97)]),.o (.app 1 8 (.t 96) (.t 98)),.y 7 (.Hx (.t 91)),.H 7 6 100,.S 1 101 99])))),(23,(.pg false 7 [(0,6,0)] (Rc 103 [.o (.bin .eql (.t 40) (.c (.sc (.int .u8 7)))),.M 102 103]))),(24,(.pg false 7 [(0,6,0)] (Rc 104 [.f 6 7,.C 8,.C 8,.o (.qZ 7 true (.t 105) none (some (.t 106)) (some (.t 107))),.f 6 7,.C 8,.P .add 111 1,.o (.qZ 7 true (.t 110) (some (.t 112)) none none),.o (.app 7 88 (.t 108) (.t 113)),.F 6 7,.S 1 115 114])))])) ?_;have a1:= @Fe;unfold HE at h;exact walk
end
namespace CQ
def J8:ABr Bool:=
(GA).bind λy=>
some y
def J7 (L1:Int->ABr Bool) (d:Int):ABr Bool:=
L1 (Ay (d+1))
def J6 (L2:Int->ABr Bool) (e:Int):ABr Bool:=
L2 (Ay (e+1))
def J5 (L2:Int->ABr Bool) (e:Int) (u:Bool):ABr Bool:=
if u then
some false
else
J6 L2 e
def J4 (L2:Int->ABr Bool) (d e:Int) (b:(List Int)×Int) (s:Bool):ABr Bool:=
if s then
(gt b.1 d).bind λz=>
J5 L2 e (decide (z≥0))
else
J5 L2 e false
def J3 (L3:Bool->Int->ABr Bool) (f:Int) (q:Bool):ABr Bool:=
L3 q (Ay (f+1))
def J2 (L3:Bool->Int->ABr Bool) (i:Bool) (f:Int) (t:Bool):ABr Bool:=
if t then
J3 L3 f false
else
J3 L3 f i
def L3 (L2:Int->ABr Bool) (d e:Int) (a:Ac) (b:(List Int)×Int) (c:(List Be)×Int) (L3:Bool->Int->ABr Bool) (i:Bool) (f:Int):ABr Bool:=
if decide (f<(a.AH.length:Int))then
(gt a.AH f).bind λo=>
(Ge o).bind λv=>
if v then
if o.Obj==d then
(gt c.1 f).bind λp=>
(IF p.E9 e).bind λw=>
if !w then
if o.Kind==3 then
(IF p.JK e).bind λx=>
J2 L3 i f (!x)
else
J2 L3 i f true
else
J2 L3 i f false
else
J2 L3 i f false
else
J2 L3 i f false
else
J4 L2 d e b i
def Hz (L2:Int->ABr Bool) (d e:Int) (a:Ac) (b:(List Int)×Int) (c:(List Be)×Int):Nat->Bool->Int->ABr Bool
|0,_,_=>none
|n+1,i,f=>L3 L2 d e a b c (Hz L2 d e a b c n) i f
def L2 (L1:Int->ABr Bool) (d:Int) (a:Ac) (b:(List Int)×Int) (c:(List Be)×Int) (L2:Int->ABr Bool) (e:Int):ABr Bool:=
if decide (e<(a.World.AF.length:Int))then
Hz L2 d e a b c BU true 0
else
J7 L1 d
def Cf (L1:Int->ABr Bool) (d:Int) (a:Ac) (b:(List Int)×Int) (c:(List Be)×Int):Nat->Int->ABr Bool
|0,_=>none
|n+1,e=>L2 L1 d a b c (Cf L1 d a b c n) e
def L1 (a:Ac) (b:(List Int)×Int) (c:(List Be)×Int) (L1:Int->ABr Bool) (d:Int):ABr Bool:=
if decide (d<(a.World.Cells.length:Int))then
Cf L1 d a b c BU 0
else
J8
def AZ (a:Ac) (b:(List Int)×Int) (c:(List Be)×Int):Nat->Int->ABr Bool
|0,_=>none
|n+1,d=>L1 a b c (AZ a b c n) d
def J1 (a:Ac) (b:(List Int)×Int) (c:(List Be)×Int) (l:Bool):ABr Bool:=
if l then
some false
else
AZ a b c BU 0
end CQ
section
open CQ
def CQ (j:KH):ABr Bool:=
(D8 j 60).bind λa=>
(BV a).bind λb=>
(HO a).bind λc=>
if b.2 != 0 then
J1 a b c true
else
if c.2 != 0 then
J1 a b c true
else
if(c.1.length:Int) != (a.AH.length:Int)then
J1 a b c true
else
J1 a b c ((b.1.length:Int) != (a.World.Cells.length:Int))
theorem UH {j:KH} {r:Bool} (h:CQ j=some r):Says Tryz.prog 7 [.agg (SV j)] (sb r):=by refine kO mix Tryz.func7 (hn [(3,[34,42,43,48,49,55,56,62]),(4,[40,106,108]),(5,[25]),(12,[73,89]),(17,[15,18,19])] [(5,1)]) ?_;have a1:= @Fe;have a2:= @Iz;have a3:= @JI;have a4:= @Jo;have a5:= @LC;have a6:= @Tb;have l1:=λn1 n2 n3 n4:Nat=>A0 λn τ=>∃(a:Ac) (b:(List Int)×Int) (c:(List Be)×Int) (d:Int),(τ 3=bA 7 (FP a)/\τ 4=vO 1 eI b.1/\τ 6=vS 2 G6 c.1/\τ 51=si (a.World.Cells.length:Int)/\τ 52=si d)/\AZ a b c n d=some r;have l2:=λn1 n2 n3 n4:Nat=>A0 λn τ=>∃(a:Ac) (b:(List Int)×Int) (c:(List Be)×Int) (d e:Int),(τ 3=bA 7 (FP a)/\τ 4=vO 1 eI b.1/\τ 6=vS 2 G6 c.1/\τ 8=si d/\τ 51=si (a.World.Cells.length:Int)/\τ 52=si d/\τ 58=si (a.World.AF.length:Int)/\τ 59=si e)/\Cf (AZ a b c n1) d a b c n e=some r;have l3:=λn1 n2 n3 n4:Nat=>A0 λn τ=>∃(a:Ac) (b:(List Int)×Int) (c:(List Be)×Int) (d e:Int) (i:Bool) (f:Int),(τ 3=bA 7 (FP a)/\τ 4=vO 1 eI b.1/\τ 6=vS 2 G6 c.1/\τ 8=si d/\τ 9=si e/\τ 10=sb i/\τ 51=si (a.World.Cells.length:Int)/\τ 52=si d/\τ 58=si (a.World.AF.length:Int)/\τ 59=si e/\τ 63=vS 7 Bi a.AH/\τ 64=si (a.AH.length:Int)/\τ 65=si f)/\Hz (Cf (AZ a b c n1) d a b c n2) d e a b c n i f=some r;have c1:=λn1 n2 n3 n4:Nat=>Bo 1 λτ=>∃(a:Ac) (b:(List Int)×Int) (c:(List Be)×Int) (l:Bool),(τ 3=bA 7 (FP a)/\τ 4=vO 1 eI b.1/\τ 6=vS 2 G6 c.1/\τ 47=sb l)/\J1 a b c l=some r;unfold CQ at h;exact walk
end
namespace DQ
def J5:ABr Bool:=
(IE).bind λy=>
some y
def J4 (L2:Int->ABr Bool) (c:Int) (u:Bool):ABr Bool:=
if u then
some false
else
L2 (Ay (c+1))
def J3 (L2:Int->ABr Bool) (c:Int) (a:Ac) (f:AE) (i:AD×Bool) (p:Bool):ABr Bool:=
if p then
some false
else
if Af (a.AH.length) 88=true then
if Af (a.AH.length+1) 88=true then
(Bc (Ac.mk a.World (a.AH++[f]))).bind λq=>
(D6 (Ac.mk a.World (a.AH++[f]))).bind λt=>
if q.1 != t.1 then
J4 L2 c true
else
if q.2 != t.2 then
J4 L2 c true
else
if q.2==0 then
J4 L2 c (!i.2)
else
J4 L2 c false
else none
else none
def L2 (b:List NA) (e:AD) (a:Ac) (L2:Int->ABr Bool) (c:Int):ABr Bool:=
if decide (c<(b.length:Int))then
(gt b c).bind λaa=>
(FE aa).bind λf=>
(BW a.World e f).bind λi=>
(BZ a.World e f).bind λs=>
if !(i.2==s.2)then
J3 L2 c a f i true
else
(FB i.1 s.1).bind λx=>
J3 L2 c a f i (!x)
else
J5
def Cf (b:List NA) (e:AD) (a:Ac):Nat->Int->ABr Bool
|0,_=>none
|n+1,c=>L2 b e a (Cf b e a n) c
def J2 (b:List NA) (a:Ac) (e:AD):ABr Bool:=
Cf b e a BU 0
def L1 (b:List NA) (a:Ac) (L1:AD->Int->ABr Bool) (l:AD) (j:Int):ABr Bool:=
if decide (j<(a.AH.length:Int))then
(gt a.AH j).bind λz=>
(BZ a.World l z).bind λw=>
L1 w.1 (Ay (j+1))
else
J2 b a l
def AZ (b:List NA) (a:Ac):Nat->AD->Int->ABr Bool
|0,_,_=>none
|n+1,l,j=>L1 b a (AZ b a n) l j
def J1 (b:List NA) (d:KH) (o:Bool):ABr Bool:=
if o then
some true
else
(D8 d 30).bind λa=>
(Eo a.World).bind λv=>
AZ b a BU v 0
end DQ
section
open DQ
def DQ (d:KH) (b:List NA):ABr Bool:=
if decide ((d.Program.length:Int)>200)then
J1 b d true
else
if decide ((d.Dy.length:Int)>100)then
J1 b d true
else
if decide ((d.WY.length:Int)>200)then
J1 b d true
else
J1 b d (decide ((b.length:Int)>30))
theorem Vw {d:KH} {b:List NA} {r:Bool} (h:DQ d b=some r):Says Tryz.prog 4 [.agg (SV d),vS 7 Yh b] (sb r):=by refine kO mix Tryz.func4 (hn [(2,[19,24,30]),(5,[42,46,53,56,76,84,100,103]),(10,[95]),(11,[91,132]),(14,[111,116]),(80,[75,81,82])] [(2,1),(20,3)] [(20,1)]) ?_;have a1:= @Fe;have a2:= @Lu;have a3:= @PN;have a4:= @RO;have a5:= @Ht;have a6:= @Kl;have a7:= @HR;have a8:= @Jx;have a9:= @Om;have l2:=λn1 n2 n3 n4:Nat=>A0 λn τ=>∃(e:AD) (a:Ac) (c:Int),(τ 1=vS 7 Yh b/\τ 5=bA 7 (FP a)/\τ 6=bA 7 (BH e)/\τ 8=si c)/\Cf b e a n c=some r;have l1:=λn1 n2 n3 n4:Nat=>A0 λn τ=>∃(a:Ac) (l:AD) (j:Int),(τ 1=vS 7 Yh b/\τ 5=bA 7 (FP a)/\τ 6=bA 7 (BH l)/\τ 7=si j)/\AZ b a n l j=some r;have c3:=λn1 n2 n3 n4:Nat=>Bo 3 λτ=>∃(e:AD) (a:Ac) (c:Int) (f:AE) (i:AD×Bool) (p:Bool),(τ 1=vS 7 Yh b/\τ 5=bA 7 (FP a)/\τ 6=bA 7 (BH e)/\τ 8=si c/\τ 9=bA 7 (Bi f)/\τ 11=sb i.2/\τ 99=sb p)/\J3 (Cf b e a n2) c a f i p=some r;have c1:=λn1 n2 n3 n4:Nat=>Bo 1 λτ=>∃(o:Bool),(τ 1=vS 7 Yh b/\τ 2=bA 3 (SV d)/\τ 39=sb o)/\J1 b d o=some r;unfold DQ at h;exact walk
end
namespace Di
def J3 (i:Bool):ABr Bool:=
some i
def J2 (a:Ac):ABr Bool:=
(Bc a).bind λl=>
(D6 a).bind λo=>
if l.2==o.2 then
(IE).bind λp=>
J3 p
else
J3 false
def L1 (a:Ac) (L1:AD->Int->ABr Bool) (d:AD) (c:Int):ABr Bool:=
if decide (c<(a.AH.length:Int))then
(gt a.AH c).bind λq=>
(BW a.World d q).bind λf=>
if !f.2 then
some false
else
L1 f.1 (Ay (c+1))
else
J2 a
def AZ (a:Ac):Nat->AD->Int->ABr Bool
|0,_,_=>none
|n+1,d,c=>L1 a (AZ a n) d c
def J1 (b:KH) (e:Bool):ABr Bool:=
if e then
some true
else
(D8 b 60).bind λa=>
(Cc a.World).bind λj=>
AZ a BU j 0
end Di
section
open Di
def Di (b:KH):ABr Bool:=
if decide ((b.Program.length:Int)>200)then
J1 b true
else
if decide ((b.Dy.length:Int)>100)then
J1 b true
else
J1 b (decide ((b.WY.length:Int)>200))
theorem U8 {b:KH} {r:Bool} (h:Di b=some r):Says Tryz.prog 3 [.agg (SV b)] (sb r):=by refine kO mix Tryz.func3 (hn [(1,[12,17,23]),(3,[30,34,41,44])] [(2,1)] [(15,1),(16,1)]) ?_;have a1:= @Fe;have a2:= @I4;have a3:= @HR;have a4:= @Jx;have a5:= @PN;have a6:= @Ht;have l1:=λn1 n2 n3 n4:Nat=>A0 λn τ=>∃(a:Ac) (d:AD) (c:Int),(τ 3=bA 7 (FP a)/\τ 4=bA 7 (BH d)/\τ 5=si c)/\AZ a n d c=some r;have c1:=λn1 n2 n3 n4:Nat=>Bo 1 λτ=>∃(e:Bool),(τ 1=bA 3 (SV b)/\τ 27=sb e)/\J1 b e=some r;unfold Di at h;exact walk
end
namespace Gb
def J1 (d:Bool):ABr Bool:=
some d
end Gb
section
open Gb
def Gb (a:KH):ABr Bool:=
(D8 a 60).bind λb=>
(HO b).bind λc=>
if c.2==0 then
(B2 b.World).bind λe=>
(HZ b.World e b.AH).bind λf=>
(Gt c.1 f).bind λi=>
if i then
(GA).bind λj=>
J1 j
else
J1 false
else
J1 false
theorem Z4 {a:KH} {r:Bool} (h:Gb a=some r):Says Tryz.prog 5 [.agg (SV a)] (sb r):=by refine kO mix Tryz.func5 (hn [(3,[17,19,22])]) ?_;have a1:= @Fe;have a2:= @JI;have a3:= @Jw;have a4:= @Qy;have a5:= @Tc;have a6:= @Jo;unfold Gb at h;exact walk
end
namespace F7
def J1 (d:Bool):ABr Bool:=
some d
end F7
section
open F7
def F7 (a:KH):ABr Bool:=
(D8 a 60).bind λb=>
(BV b).bind λc=>
if c.2==0 then
(Ep b).bind λe=>
(GD c.1 e).bind λf=>
if f then
(GA).bind λi=>
J1 i
else
J1 false
else
J1 false
theorem Yi {a:KH} {r:Bool} (h:F7 a=some r):Says Tryz.prog 6 [.agg (SV a)] (sb r):=by refine kO mix Tryz.func6 (hn [(4,[16]),(5,[13]),(10,[8,11,12])]) ?_;have a1:= @Fe;have a2:= @Iz;have a3:= @Td;have a4:= @Lv;have a5:= @Jo;unfold F7 at h;exact walk
end
end Go.Abs
