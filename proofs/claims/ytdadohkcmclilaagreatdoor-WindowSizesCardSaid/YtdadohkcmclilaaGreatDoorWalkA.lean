/- Typed programs of Go functions, and that the functions do what these say. -/
import Derived.Test.YtdadohkcmclilaaGreatDoorBaseA
import Derived.Shelf.Slices.SearchI
set_option linter.unusedSimpArgs false
set_option linter.unusedVariables false
namespace Go.Abs
open Go.Proofs
set_option maxRecDepth 1000000
set_option maxHeartbeats 4000000
def G0:ABp (List EM):=
some [(EM.mk 1 0 (⟨#[120]⟩:ABq) 0 0 (⟨#[]⟩:ABq)),(EM.mk 1 0 (⟨#[121]⟩:ABq) 0 1 (⟨#[]⟩:ABq)),(EM.mk 2 0 (⟨#[118]⟩:ABq) 0 0 (⟨#[]⟩:ABq)),(EM.mk 1 0 (⟨#[113]⟩:ABq) 2 0 (⟨#[]⟩:ABq)),(EM.mk 3 0 (⟨#[109]⟩:ABq) 0 0 (⟨#[]⟩:ABq)),(EM.mk 3 0 (⟨#[110]⟩:ABq) 0 0 (⟨#[]⟩:ABq)),(EM.mk 4 0 (⟨#[114]⟩:ABq) 0 0 (⟨#[]⟩:ABq)),(EM.mk 5 0 (⟨#[99]⟩:ABq) 0 0 (⟨#[109]⟩:ABq)),(EM.mk 6 0 (⟨#[102]⟩:ABq) 0 0 (⟨#[]⟩:ABq))]
theorem QG {r:List EM} (h:G0=some r):Says Tryz.prog 62 [] (vO 6 JQ r):=by
 refine kO mix Tryz.func62 hn ?_
 unfold G0 at h
 exact walk
namespace BU
def J1 (b:Int) (a:EH) (c:Bool):ABp (Int×EH):=
if c then
some (0,a)
else
(gt a.L (Ap ((Ap (a.At+1))-1))).bind λd=>
if¬b=0 then
some ((Ap d).tmod b,(EH.mk a.L (Ap (a.At+1))))
else none
end BU
section
open BU
def BU (a:EH) (b:Int):ABp (Int×EH):=
if decide (a.At≥(a.L.length:Int))then
J1 b a true
else
J1 b a (decide (b<1))
theorem Hh {a:EH} {b:Int} {r:Int×EH} (h:BU a b=some r):BD Tryz.prog 63 [bA 2 (Tt a),si b] (si r.1) [bA 2 (Tt r.2),.dead]:=by
 refine kL mix Tryz.func63 (hn [(0,[5,6,7,9,10,11,12,19,20,21,24,25,26,27,28,29,30,31,32,35])]) ?_
 unfold BU at h
 exact walk
end
def Kh (a:Int):ABp A4:=
some (A4.mk 1 a (⟨#[]⟩:ABq) [])
theorem Og {a:Int} {r:A4} (h:Kh a=some r):Says Tryz.prog 66 [si a] (.agg [si r.Op,si r.N,BM r.Name,vS 4 A0 r.L]):=by
 refine kF mix Tryz.func66 hn ?_
 unfold Kh at h
 exact walk
def Ja (a:ABq):ABp A4:=
some (A4.mk 2 0 a [])
theorem Rv {a:ABq} {r:A4} (h:Ja a=some r):Says Tryz.prog 156 [BM a] (.agg [si r.Op,si r.N,BM r.Name,vS 4 A0 r.L]):=by
 refine kF mix Tryz.func156 hn ?_
 unfold Ja at h
 exact walk
def JB (c:Int) (a b:A4):ABp A4:=
some (A4.mk c 0 (⟨#[]⟩:ABq) [a,b])
theorem Od {c:Int} {a b r:A4} (h:JB c a b=some r):Says Tryz.prog 155 [si c,.agg [si a.Op,si a.N,BM a.Name,vS 4 A0 a.L],.agg [si b.Op,si b.N,BM b.Name,vS 4 A0 b.L]] (.agg [si r.Op,si r.N,BM r.Name,vS 4 A0 r.L]):=by
 refine kF mix Tryz.func155 hn ?_
 unfold JB at h
 exact walk
def Fh (b:ABq) (a:A4):ABp AP:=
some (AP.mk 1 0 b (⟨#[]⟩:ABq) [] a [] [])
theorem Oc {b:ABq} {a:A4} {r:AP} (h:Fh b a=some r):Says Tryz.prog 65 [BM b,.agg [si a.Op,si a.N,BM a.Name,vS 4 A0 a.L]] (.agg [si r.Op,si r.Ep,BM r.Name,BM r.Arg,vS 4 A0 r.Index,si r.Expr.Op,si r.Expr.N,BM r.Expr.Name,vS 4 A0 r.Expr.L,vS 11 Av r.Body,vS 11 Av r.Else]):=by
 refine kF mix Tryz.func65 hn ?_
 unfold Fh at h
 exact walk
namespace Ca
def J1:ABp Int:=
some (-1)
def L1 (a:List ABq) (b:ABq) (L1:Int->ABp Int) (c:Int):ABp Int:=
if decide (c<(a.length:Int))then
(gt a c).bind λd=>
if d.toList==b.toList then
some c
else
L1 (Ap (c+1))
else
J1
def Aa (a:List ABq) (b:ABq):Nat->Int->ABp Int
|0,_=>none
|n+1,c=>L1 a b (Aa a b n) c
end Ca
section
open Ca
def Ca (a:List ABq) (b:ABq):ABp Int:=
Aa a b BT 0
theorem HJ {a:List ABq} {b:ABq} {r:Int} (h:Ca a b=some r):Says Tryz.prog 95 [vS 1 eS a,BM b] (si r):=by
 refine kO mix Tryz.func95 hn ?_
 have l1:=λn1 n2 n3 n4:Nat=>Ax λn τ=>∃(c:Int),(τ 0=vS 1 eS a/\τ 1=BM b/\τ 5=si c)/\Aa a b n c=some r
 unfold Ca at h
 exact walk
end
namespace FC
def J1 (b:Bool):ABp Bool:=
some b
end FC
section
open FC
def FC (a:Int):ABp Bool:=
if decide (a≥97)then
if decide (a≤122)then
J1 true
else
if decide (a≥65)then
J1 (decide (a≤90))
else
J1 false
else
if decide (a≥65)then
J1 (decide (a≤90))
else
J1 false
theorem Nd {a:Int} {r:Bool} (h:FC a=some r):Says Tryz.prog 134 [.sc (.int .u8 a)] (sb r):=by
 refine kO mix Tryz.func134 hn ?_
 unfold FC at h
 exact walk
end
def JV:ABp (List ABq):=
some [(⟨#[118,97,114]⟩:ABq),(⟨#[118,111,108,97,116,105,108,101]⟩:ABq),(⟨#[109,117,116,101,120]⟩:ABq),(⟨#[114,119,108,111,99,107]⟩:ABq),(⟨#[99,111,110,100]⟩:ABq),(⟨#[102,117,116,117,114,101]⟩:ABq),(⟨#[116,104,114,101,97,100]⟩:ABq),(⟨#[105,102]⟩:ABq),(⟨#[101,108,115,101]⟩:ABq),(⟨#[119,104,105,108,101]⟩:ABq),(⟨#[108,111,99,107]⟩:ABq),(⟨#[114,101,97,100]⟩:ABq),(⟨#[119,114,105,116,101]⟩:ABq),(⟨#[116,114,97,110,115,97,99,116,105,111,110]⟩:ABq),(⟨#[97,116,111,109,105,99]⟩:ABq),(⟨#[119,97,105,116]⟩:ABq),(⟨#[110,111,116,105,102,121]⟩:ABq),(⟨#[110,111,116,105,102,121,97,108,108]⟩:ABq),(⟨#[115,112,97,119,110]⟩:ABq),(⟨#[106,111,105,110]⟩:ABq),(⟨#[115,101,116]⟩:ABq),(⟨#[103,101,116]⟩:ABq)]
theorem SP {r:List ABq} (h:JV=some r):Says Tryz.prog 172 [] (vO 1 eS r):=by
 refine kO mix Tryz.func172 hn ?_
 unfold JV at h
 exact walk
namespace HI
def J1 (b:Bool):ABp Bool:=
some b
end HI
section
open HI
def HI (a:Int):ABp Bool:=
if decide (a≥48)then
J1 (decide (a≤57))
else
J1 false
theorem WX {a:Int} {r:Bool} (h:HI a=some r):Says Tryz.prog 173 [.sc (.int .u8 a)] (sb r):=by
 refine kO mix Tryz.func173 hn ?_
 unfold HI at h
 exact walk
end
namespace Ez
def J3 (d:Bool):ABp Int:=
if d then
some 2
else
some (-1)
def J2 (a:Int) (c:Bool):ABp Int:=
if c then
some 1
else
if decide (a≥6)then
J3 (decide (a≤18))
else
J3 false
def J1 (a:Int) (b:Bool):ABp Int:=
if b then
some 0
else
if decide (a≥3)then
J2 a (decide (a≤5))
else
J2 a false
end Ez
section
open Ez
def Ez (a:Int):ABp Int:=
if a==1 then
J1 a true
else
J1 a (a==2)
theorem SQ {a r:Int} (h:Ez a=some r):Says Tryz.prog 210 [si a] (si r):=by
 refine kO mix Tryz.func210 (hn (Q:=[(2,1)])) ?_
 have c1:=λn1 n2 n3 n4:Nat=>Bh 1 λτ=>∃(b:Bool),(τ 0=si a/\τ 3=sb b)/\J1 a b=some r
 unfold Ez at h
 exact walk
end
namespace Ho
def J1 (b:Bool):ABp Bool:=
some b
end Ho
section
open Ho
def Ho (a:A4):ABp Bool:=
if a.Op==0 then
if a.N==0 then
if a.Name.toList==(⟨#[]⟩:ABq).toList then
J1 ((a.L.length:Int)==0)
else
J1 false
else
J1 false
else
J1 false
theorem Wa {a:A4} {r:Bool} (h:Ho a=some r):Says Tryz.prog 199 [.agg [si a.Op,si a.N,BM a.Name,vS 4 A0 a.L]] (sb r):=by
 refine kO mix Tryz.func199 (hn [(1,[3,7,12,17])]) ?_
 unfold Ho at h
 exact walk
end
namespace DJ
def J1:ABp Int:=
some (-1)
def L1 (a:List EM) (b:ABq) (L1:Int->ABp Int) (c:Int):ABp Int:=
if decide (c<(a.length:Int))then
(gt a c).bind λd=>
if d.Name.toList==b.toList then
some c
else
L1 (Ap (c+1))
else
J1
def Aa (a:List EM) (b:ABq):Nat->Int->ABp Int
|0,_=>none
|n+1,c=>L1 a b (Aa a b n) c
end DJ
section
open DJ
def DJ (a:List EM) (b:ABq):ABp Int:=
Aa a b BT 0
theorem Ix {a:List EM} {b:ABq} {r:Int} (h:DJ a b=some r):Says Tryz.prog 146 [vS 6 JQ a,BM b] (si r):=by
 refine kO mix Tryz.func146 hn ?_
 have l1:=λn1 n2 n3 n4:Nat=>Ax λn τ=>∃(c:Int),(τ 0=vS 6 JQ a/\τ 1=BM b/\τ 5=si c)/\Aa a b n c=some r
 unfold DJ at h
 exact walk
end
namespace Cu
def J1:ABp Int:=
some (-1)
def L1 (a:List CZ) (b:ABq) (L1:Int->ABp Int) (c:Int):ABp Int:=
if decide (c<(a.length:Int))then
(gt a c).bind λd=>
if d.Name.toList==b.toList then
some c
else
L1 (Ap (c+1))
else
J1
def Aa (a:List CZ) (b:ABq):Nat->Int->ABp Int
|0,_=>none
|n+1,c=>L1 a b (Aa a b n) c
end Cu
section
open Cu
def Cu (a:List CZ) (b:ABq):ABp Int:=
Aa a b BT 0
theorem JW {a:List CZ} {b:ABq} {r:Int} (h:Cu a b=some r):Says Tryz.prog 147 [vS 4 Hz a,BM b] (si r):=by
 refine kO mix Tryz.func147 hn ?_
 have l1:=λn1 n2 n3 n4:Nat=>Ax λn τ=>∃(c:Int),(τ 0=vS 4 Hz a/\τ 1=BM b/\τ 5=si c)/\Aa a b n c=some r
 unfold Cu at h
 exact walk
end
namespace EU
def J1 (e:Int):ABp Int:=
some e
def L1 (R100:(List AP)->ABp Int) (a:List AP) (L1:Int->Int->ABp Int) (c b:Int):ABp Int:=
if decide (b<(a.length:Int))then
(gt a b).bind λd=>
(R100 d.Body).bind λf=>
(R100 d.Else).bind λi=>
L1 (Ap ((Ap (c+f))+i)) (Ap (b+1))
else
J1 c
def Aa (R100:(List AP)->ABp Int) (a:List AP):Nat->Int->Int->ABp Int
|0,_,_=>none
|n+1,c,b=>L1 R100 a (Aa R100 a n) c b
end EU
section
open EU
def EU (R100:(List AP)->ABp Int) (a:List AP):ABp Int:=
Aa R100 a BT (a.length:Int) 0
theorem Wb {R100:(List AP)->ABp Int} (H100:∀{x0 r},R100 x0=some r->Says Tryz.prog 110 [vS 11 Av x0] (si r)) {a:List AP} {r:Int} (h:EU R100 a=some r):Says Tryz.prog 110 [vS 11 Av a] (si r):=by
 refine kO mix Tryz.func110 hn ?_
 have a1:= @H100
 have l1:=λn1 n2 n3 n4:Nat=>Ax λn τ=>∃(c b:Int),(τ 0=vS 11 Av a/\τ 3=si c/\τ 4=si b)/\Aa R100 a n c b=some r
 unfold EU at h
 exact walk
end
def SS:Nat->((List AP)->ABp Int)
|0=>(λ_=>none)
|n+1=>EU ((SS n))
def IF (n:Nat):(List AP)->ABp Int:=(SS n)
theorem Uc (n:Nat):(∀{x0 r},(IF n) x0=some r->Says Tryz.prog 110 [.sl false 11 (x0.map Av)] (si r)):=by
  induction n with
  |zero=>exactλh=>Bi h
  |succ n ih=>exactλh=>Wb ih h
theorem Ud {n:Nat}:∀{x0 r},(IF n) x0=some r->Says Tryz.prog 110 [.sl false 11 (x0.map Av)] (si r):=(Uc n)
namespace Bj
def J2 (a:BA):ABp (Bool×BA):=
some (false,a)
def J1 (L1:Int->ABp (Bool×BA)) (b:Int) (a:BA) (i:Bool):ABp (Bool×BA):=
if i then
some (true,a)
else
L1 (Ap (b+1))
def L1 (d e:Int) (c:ABq) (a:BA) (L1:Int->ABp (Bool×BA)) (b:Int):ABp (Bool×BA):=
if decide (b<(a.GH.length:Int))then
(gt a.GH b).bind λf=>
if f.Op==d then
if c.toList==(⟨#[]⟩:ABq).toList then
J1 L1 b a true
else
J1 L1 b a (f.Name.toList==c.toList)
else
if f.Op==e then
if c.toList==(⟨#[]⟩:ABq).toList then
J1 L1 b a true
else
J1 L1 b a (f.Name.toList==c.toList)
else
J1 L1 b a false
else
J2 a
def Aa (d e:Int) (c:ABq) (a:BA):Nat->Int->ABp (Bool×BA)
|0,_=>none
|n+1,b=>L1 d e c a (Aa d e c a n) b
end Bj
section
open Bj
def Bj (a:BA) (d e:Int) (c:ABq):ABp (Bool×BA):=
Aa d e c a BT 0
theorem Ow {a:BA} {d e:Int} {c:ABq} {r:Bool×BA} (h:Bj a d e c=some r):BD Tryz.prog 176 [bA 6 (Gj a),si d,si e,BM c] (sb r.1) [bA 6 (Gj r.2),.dead,.dead,.dead]:=by
 refine kL mix Tryz.func176 (hn [(0,[12,13,14,15,20,21,22,23,25,26]),(10,[27,32,41])]) ?_
 have l1:=λn1 n2 n3 n4:Nat=>Ax λn τ=>∃(b:Int),(τ 0=bA 6 (Gj a)/\τ 1=si d/\τ 2=si e/\τ 3=BM c/\τ 9=si b)/\Aa d e c a n b=some r
 unfold Bj at h
 exact walk
end
namespace Gf
def J1 (i f:Int):ABp (Int×Int):=
some (i,Ap (f+1))
def L1 (R100:A4->ABp (Int×Int)) (a:A4) (L1:Int->Int->Int->ABp (Int×Int)) (d b c:Int):ABp (Int×Int):=
if decide (c<(a.L.length:Int))then
(gt a.L c).bind λj=>
(R100 j).bind λe=>
L1 (Ap (d+e.1)) (if e.2>b then e.2 else b) (Ap (c+1))
else
J1 d b
def Aa (R100:A4->ABp (Int×Int)) (a:A4):Nat->Int->Int->Int->ABp (Int×Int)
|0,_,_,_=>none
|n+1,d,b,c=>L1 R100 a (Aa R100 a n) d b c
end Gf
section
open Gf
def Gf (R100:A4->ABp (Int×Int)) (a:A4):ABp (Int×Int):=
Aa R100 a BT 1 0 0
theorem Wc {R100:A4->ABp (Int×Int)} (H100:∀{x0 r},R100 x0=some r->Says Tryz.prog 201 [.agg [si x0.Op,si x0.N,BM x0.Name,vS 4 A0 x0.L]] (.BJ [si r.1,si r.2])) {a:A4} {r:Int×Int} (h:Gf R100 a=some r):Says Tryz.prog 201 [.agg [si a.Op,si a.N,BM a.Name,vS 4 A0 a.L]] (.BJ [si r.1,si r.2]):=by
 refine kO mix Tryz.func201 (hn [(1,[10,17])]) ?_
 have a1:= @H100
 have l1:=λn1 n2 n3 n4:Nat=>Ax λn τ=>∃(d b c:Int),(τ 1=bA 4 [si a.Op,si a.N,BM a.Name,vS 4 A0 a.L]/\τ 4=si d/\τ 5=si b/\τ 6=si c)/\Aa R100 a n d b c=some r
 unfold Gf at h
 exact walk
end
def SU:Nat->(A4->ABp (Int×Int))
|0=>(λ_=>none)
|n+1=>Gf ((SU n))
def Kr (n:Nat):A4->ABp (Int×Int):=(SU n)
theorem Uf (n:Nat):(∀{x0 r},(Kr n) x0=some r->Says Tryz.prog 201 [.agg [si x0.Op,si x0.N,BM x0.Name,.sl false 4 (x0.L.map A0)]] (.BJ [si r.1,si r.2])):=by
  induction n with
  |zero=>exactλh=>Bi h
  |succ n ih=>exactλh=>Wc ih h
theorem Ug {n:Nat}:∀{x0 r},(Kr n) x0=some r->Says Tryz.prog 201 [.agg [si x0.Op,si x0.N,BM x0.Name,.sl false 4 (x0.L.map A0)]] (.BJ [si r.1,si r.2]):=(Uf n)
def E0 (a b:Int):ABp Int:=
if a != 0 then
some a
else
some b
theorem cD {a b r:Int} (h:E0 a b=some r):Says Tryz.prog 177 [si a,si b] (si r):=by
 refine kO mix Tryz.func177 hn ?_
 unfold E0 at h
 exact walk
def Bm (a:Bool):ABp Int:=
if a then
some 7
else
some 0
theorem TV {a:Bool} {r:Int} (h:Bm a=some r):Says Tryz.prog 180 [sb a] (si r):=by
 refine kO mix Tryz.func180 hn ?_
 unfold Bm at h
 exact walk
namespace EY
def J1:ABp Int:=
some (-1)
def L1 (a:List Ic) (b:ABq) (L1:Int->ABp Int) (c:Int):ABp Int:=
if decide (c<(a.length:Int))then
(gt a c).bind λd=>
if d.Name.toList==b.toList then
some c
else
L1 (Ap (c+1))
else
J1
def Aa (a:List Ic) (b:ABq):Nat->Int->ABp Int
|0,_=>none
|n+1,c=>L1 a b (Aa a b n) c
end EY
section
open EY
def EY (a:List Ic) (b:ABq):ABp Int:=
Aa a b BT 0
theorem Ni {a:List Ic} {b:ABq} {r:Int} (h:EY a b=some r):Says Tryz.prog 112 [vS 2 HG a,BM b] (si r):=by
 refine kO mix Tryz.func112 hn ?_
 have l1:=λn1 n2 n3 n4:Nat=>Ax λn τ=>∃(c:Int),(τ 0=vS 2 HG a/\τ 1=BM b/\τ 5=si c)/\Aa a b n c=some r
 unfold EY at h
 exact walk
end
namespace EV
def J1 (q:List DL) (p:Int):ABp ((List DL)×Int):=
some (q,p)
def L1 (R100:(List DL)->Int->Int->(List AP)->ABp ((List DL)×Int)) (b:List AP) (a:Int) (L1:(List DL)->Int->Int->ABp ((List DL)×Int)) (e:List DL) (d c:Int):ABp ((List DL)×Int):=
if decide (c<(b.length:Int))then
(gt b c).bind λj=>
if Al (e.length+1) 24=true then
(R100 (e++[(DL.mk a d j.Ep)]) a (Ap (d+1)) j.Body).bind λl=>
(R100 l.1 a l.2 j.Else).bind λo=>
L1 o.1 o.2 (Ap (c+1))
else none
else
J1 e d
def Aa (R100:(List DL)->Int->Int->(List AP)->ABp ((List DL)×Int)) (b:List AP) (a:Int):Nat->(List DL)->Int->Int->ABp ((List DL)×Int)
|0,_,_,_=>none
|n+1,e,d,c=>L1 R100 b a (Aa R100 b a n) e d c
end EV
section
open EV
def EV (R100:(List DL)->Int->Int->(List AP)->ABp ((List DL)×Int)) (i:List DL) (a f:Int) (b:List AP):ABp ((List DL)×Int):=
Aa R100 b a BT i f 0
theorem Wl {R100:(List DL)->Int->Int->(List AP)->ABp ((List DL)×Int)} (H100:∀{x0 x1 x2 x3 r},R100 x0 x1 x2 x3=some r->Says Tryz.prog 113 [vO 3 FO x0,si x1,si x2,vS 11 Av x3] (.BJ [vO 3 FO r.1,si r.2])) {i:List DL} {a f:Int} {b:List AP} {r:(List DL)×Int} (h:EV R100 i a f b=some r):Says Tryz.prog 113 [vO 3 FO i,si a,si f,vS 11 Av b] (.BJ [vO 3 FO r.1,si r.2]):=by
 refine kO mix Tryz.func113 (hn [(0,[17,31,43,54]),(2,[19,28,33,45,55]),(39,[30,40,41]),(51,[42,52,53])]) ?_
 have a1:= @H100
 have l1:=λn1 n2 n3 n4:Nat=>Ax λn τ=>∃(e:List DL) (d c:Int),(τ 0=vO 3 FO e/\τ 1=si a/\τ 2=si d/\τ 3=vS 11 Av b/\τ 10=si c)/\Aa R100 b a n e d c=some r
 unfold EV at h
 exact walk
end
def Sb:Nat->((List DL)->Int->Int->(List AP)->ABp ((List DL)×Int))
|0=>(λ_ _ _ _=>none)
|n+1=>EV ((Sb n))
def IG (n:Nat):(List DL)->Int->Int->(List AP)->ABp ((List DL)×Int):=(Sb n)
theorem Uk (n:Nat):(∀{x0 x1 x2 x3 r},(IG n) x0 x1 x2 x3=some r->Says Tryz.prog 113 [.own false 3 (x0.map FO),si x1,si x2,.sl false 11 (x3.map Av)] (.BJ [.own false 3 (r.1.map FO),si r.2])):=by
  induction n with
  |zero=>exactλh=>Bi h
  |succ n ih=>exactλh=>Wl ih h
theorem Ul {n:Nat}:∀{x0 x1 x2 x3 r},(IG n) x0 x1 x2 x3=some r->Says Tryz.prog 113 [.own false 3 (x0.map FO),si x1,si x2,.sl false 11 (x3.map Av)] (.BJ [.own false 3 (r.1.map FO),si r.2]):=(Uk n)
def A8 (a:A5) (b:Ab):ABp A5:=
if Al (a.out.length+1) 48=true then
some (A5.mk a.w a.locals (a.out++[(Ab.mk b.Op b.A b.B b.C b.N a.site)]) a.site a.next)
else none
theorem F9 {a:A5} {b:Ab} {r:A5} (h:A8 a b=some r):BD Tryz.prog 60 [bA 10 (EA a),.agg (Du b)] (.BJ []) [bA 10 (EA r),.dead]:=by
 refine kL mix Tryz.func60 (hn [(0,[4,5,6,10,11,12,13,17,18]),(3,[8])] (E:=[(2,(.Zq [(0,0,8,9)] [i0 9 .fl,i1 10 0 (.cp (.t 0)),i1 11 0 (.JT (.t 10)),Lt 12 0 7 11,Zu 13 0 12,iA 14 6 3,i0 15 (.Mr 6 [[si 0,si 0,si 0,si 0,si 0,si 0]] [(0,.t 14)]),i0 16 (.app 6 48 (.t 13) (.t 15)),i1 17 0 (.JT (.t 0)),Lt 18 0 7 17,iS 1 18 16]))])) ?_
 unfold A8 at h
 exact walk
namespace CJ
def J1:ABp Int:=
some (-1)
def L1 (b:ABq) (a:AD) (L1:Int->ABp Int) (c:Int):ABp Int:=
if decide (c<(a.Cells.length:Int))then
(gt a.Cells c).bind λd=>
if d.Name.toList==b.toList then
some c
else
L1 (Ap (c+1))
else
J1
def Aa (b:ABq) (a:AD):Nat->Int->ABp Int
|0,_=>none
|n+1,c=>L1 b a (Aa b a n) c
end CJ
section
open CJ
def CJ (a:AD) (b:ABq):ABp Int:=
Aa b a BT 0
theorem Ng {a:AD} {b:ABq} {r:Int} (h:CJ a b=some r):Says Tryz.prog 181 [.agg (Ai a),BM b] (si r):=by
 refine kO mix Tryz.func181 (hn [(2,[7,13])]) ?_
 have l1:=λn1 n2 n3 n4:Nat=>Ax λn τ=>∃(c:Int),(τ 1=BM b/\τ 2=bA 6 (Ai a)/\τ 5=si c)/\Aa b a n c=some r
 unfold CJ at h
 exact walk
end
namespace Cw
def J1 (a:A5):ABp (Int×A5):=
some ((-1),a)
def L1 (a:A5) (b:ABq) (L1:Int->ABp (Int×A5)) (c:Int):ABp (Int×A5):=
if decide (c<(a.w.Af.length:Int))then
(gt a.w.Af c).bind λd=>
if d.Name.toList==b.toList then
some (c,a)
else
L1 (Ap (c+1))
else
J1 a
def Aa (a:A5) (b:ABq):Nat->Int->ABp (Int×A5)
|0,_=>none
|n+1,c=>L1 a b (Aa a b n) c
end Cw
section
open Cw
def Cw (a:A5) (b:ABq):ABp (Int×A5):=
Aa a b BT 0
theorem SZ {a:A5} {b:ABq} {r:Int×A5} (h:Cw a b=some r):BD Tryz.prog 152 [bA 10 (EA a),BM b] (si r.1) [bA 10 (EA r.2),.dead]:=by
 refine kL mix Tryz.func152 (hn [(0,[7,8,9,10,11,16,17,18,19,20,22,23])]) ?_
 have l1:=λn1 n2 n3 n4:Nat=>Ax λn τ=>∃(c:Int),(τ 0=bA 10 (EA a)/\τ 1=BM b/\τ 5=si c)/\Aa a b n c=some r
 unfold Cw at h
 exact walk
end
namespace AU
def J3 (a:Ab) (d:Bool):ABp (List Int):=
if d then
some [a.B]
else
if a.Op==9 then
some [a.B,a.C]
else
some []
def J2 (a:Ab) (b:Bool):ABp (List Int):=
if b then
some [a.A,a.B]
else
if a.Op==4 then
some [a.A,a.B,a.C]
else
if a.Op==7 then
some [a.A,a.C]
else
if a.Op==8 then
J3 a (a.Op==8)
else
J3 a (a.Op==26)
def J1 (a:Ab) (c:Bool):ABp (List Int):=
if c then
some [a.A]
else
if a.Op==2 then
J2 a (a.Op==2)
else
J2 a (a.Op==3)
end AU
section
open AU
def AU (a:Ab):ABp (List Int):=
if a.Op==1 then
J1 a (a.Op==1)
else
if a.Op==6 then
J1 a (a.Op==6)
else
if a.Op==10 then
J1 a (a.Op==10)
else
J1 a (a.Op==27)
theorem I4 {a:Ab} {r:List Int} (h:AU a=some r):Says Tryz.prog 61 [.agg (Du a)] (vO 1 eI r):=by
 refine kO mix Tryz.func61 (hn [(1,[3,10,16,18,23,25,27,32,34,40,45,47])] [(3,1),(8,2)]) ?_
 have c2:=λn1 n2 n3 n4:Nat=>Bh 2 λτ=>∃(b:Bool),(τ 1=bA 6 (Du a)/\τ 4=si a.Op/\τ 13=sb b)/\J2 a b=some r
 have c1:=λn1 n2 n3 n4:Nat=>Bh 1 λτ=>∃(c:Bool),(τ 1=bA 6 (Du a)/\τ 4=si a.Op/\τ 5=sb c)/\J1 a c=some r
 unfold AU at h
 exact walk
end
namespace Fq
def J1 (e:List BK):ABp (List BK):=
some e
def L1 (a:List Int) (L1:(List BK)->Int->ABp (List BK)) (c:List BK) (b:Int):ABp (List BK):=
if decide (b<(a.length:Int))then
(gt a b).bind λd=>
if Al (c.length+1) 16=true then
L1 (c++[(BK.mk ((Ap d).tmod 4) (Ap (((Ap ((Ap d).tdiv 4)).tmod 5)-1)))]) (Ap (b+1))
else none
else
J1 c
def Aa (a:List Int):Nat->(List BK)->Int->ABp (List BK)
|0,_,_=>none
|n+1,c,b=>L1 a (Aa a n) c b
end Fq
section
open Fq
def Fq (a:List Int):ABp (List BK):=
Aa a BT [] 0
theorem US {a:List Int} {r:List BK} (h:Fq a=some r):Says Tryz.prog 29 [vS 1 YL a] (vO 2 Iu r):=by
 refine kO mix Tryz.func29 (hn [(3,[11,29])]) ?_
 have l1:=λn1 n2 n3 n4:Nat=>Ax λn τ=>∃(c:List BK) (b:Int),(τ 0=vS 1 YL a/\τ 3=vO 2 Iu c/\τ 4=si b)/\Aa a n c b=some r
 unfold Fq at h
 exact walk
end
namespace BI
def J6 (a:AD) (q:List ABq):ABp ((List ABq)×Bool):=
if Al (q.length+a.AK.length) 16=true then
if Al ((q++a.AK).length+a.AA.length) 16=true then
some ((q++a.AK)++a.AA,true)
else none
else none
def L4 (a:AD) (L4:(List ABq)->Int->ABp ((List ABq)×Bool)) (l:List ABq) (i:Int):ABp ((List ABq)×Bool):=
if decide (i<(a.Af.length:Int))then
(gt a.Af i).bind λw=>
if Al (l.length+1) 16=true then
L4 (l++[w.Name]) (Ap (i+1))
else none
else
J6 a l
def rI (a:AD):Nat->(List ABq)->Int->ABp ((List ABq)×Bool)
|0,_,_=>none
|n+1,l,i=>L4 a (rI a n) l i
def J5 (a:AD) (t:List ABq):ABp ((List ABq)×Bool):=
rI a BT t 0
def L3 (a:AD) (L3:(List ABq)->Int->ABp ((List ABq)×Bool)) (j:List ABq) (f:Int):ABp ((List ABq)×Bool):=
if decide (f<(a.AG.length:Int))then
(gt a.AG f).bind λv=>
if Al (j.length+1) 16=true then
L3 (j++[v.Name]) (Ap (f+1))
else none
else
J5 a j
def Gm (a:AD):Nat->(List ABq)->Int->ABp ((List ABq)×Bool)
|0,_,_=>none
|n+1,j,f=>L3 a (Gm a n) j f
def J4 (a:AD) (s:List ABq):ABp ((List ABq)×Bool):=
Gm a BT s 0
def J3 (L1:(List ABq)->Int->ABp ((List ABq)×Bool)) (c:Int) (d:List ABq) (b:DB):ABp ((List ABq)×Bool):=
L1 (d++[b.Name]) (Ap (c+b.B0))
def J2 (L2:Int->ABp ((List ABq)×Bool)) (e:Int) (u:Bool):ABp ((List ABq)×Bool):=
if u then
some ([],false)
else
L2 (Ap (e+1))
def L2 (L1:(List ABq)->Int->ABp ((List ABq)×Bool)) (c:Int) (d:List ABq) (a:AD) (b:DB) (L2:Int->ABp ((List ABq)×Bool)) (e:Int):ABp ((List ABq)×Bool):=
if decide (e<b.B0)then
(gt a.Cells (Ap (c+e))).bind λo=>
if o.Index != e then
J2 L2 e true
else
if !(o.Name.toList==b.Name.toList)then
J2 L2 e true
else
if o.B0 != b.B0 then
J2 L2 e true
else
if o.Init != b.Init then
J2 L2 e true
else
J2 L2 e o.Fv
else
J3 L1 c d b
def C2 (L1:(List ABq)->Int->ABp ((List ABq)×Bool)) (c:Int) (d:List ABq) (a:AD) (b:DB):Nat->Int->ABp ((List ABq)×Bool)
|0,_=>none
|n+1,e=>L2 L1 c d a b (C2 L1 c d a b n) e
def J1 (L1:(List ABq)->Int->ABp ((List ABq)×Bool)) (c:Int) (d:List ABq) (a:AD) (b:DB) (p:Bool):ABp ((List ABq)×Bool):=
if p then
some ([],false)
else
C2 L1 c d a b BT 0
def L1 (a:AD) (L1:(List ABq)->Int->ABp ((List ABq)×Bool)) (d:List ABq) (c:Int):ABp ((List ABq)×Bool):=
if decide (c<(a.Cells.length:Int))then
(gt a.Cells c).bind λb=>
if Al (d.length+1) 16=true then
if b.B0==0 then
if b.Index != 0 then
some ([],false)
else
L1 (d++[b.Name]) (Ap (c+1))
else
if decide (b.B0<1)then
J1 L1 c d a b true
else
if decide (b.B0>4)then
J1 L1 c d a b true
else
J1 L1 c d a b (decide (b.B0>(Ap ((a.Cells.length:Int)-c))))
else none
else
J4 a d
def Aa (a:AD):Nat->(List ABq)->Int->ABp ((List ABq)×Bool)
|0,_,_=>none
|n+1,d,c=>L1 a (Aa a n) d c
end BI
section
open BI
def BI (a:AD):ABp ((List ABq)×Bool):=
Aa a BT [] 0
theorem Wk {a:AD} {r:(List ABq)×Bool} (h:BI a=some r):Says Tryz.prog 93 [.agg (Ai a)] (.BJ [vO 1 eS r.1,sb r.2]):=by
 refine kO mix Tryz.func93 (hn [(1,[12,16,45,58,99,106,115,122,131,135]),(4,[21,105,121,130,134]),(6,[22,26,29,34,38,43,53,72,79,86,95]),(8,[65,70,77,84,91])] [(15,1)]) ?_
 have l4:=λn1 n2 n3 n4:Nat=>Ax λn τ=>∃(l:List ABq) (i:Int),(τ 1=bA 6 (Ai a)/\τ 4=vO 1 eS l/\τ 10=si i)/\rI a n l i=some r
 have l3:=λn1 n2 n3 n4:Nat=>Ax λn τ=>∃(j:List ABq) (f:Int),(τ 1=bA 6 (Ai a)/\τ 4=vO 1 eS j/\τ 9=si f)/\Gm a n j f=some r
 have l1:=λn1 n2 n3 n4:Nat=>Ax λn τ=>∃(d:List ABq) (c:Int),(τ 1=bA 6 (Ai a)/\τ 4=vO 1 eS d/\τ 5=si c)/\Aa a n d c=some r
 have l2:=λn1 n2 n3 n4:Nat=>Ax λn τ=>∃(c:Int) (d:List ABq) (b:DB) (e:Int),(τ 1=bA 6 (Ai a)/\τ 4= .own false 1 ((d++[b.Name]).map eS)/\τ 5=si c/\τ 6=bA 5 (Fw b)/\τ 7=si e)/\C2 (Aa a n1) c d a b n e=some r
 have c1:=λn1 n2 n3 n4:Nat=>Bh 1 λτ=>∃(c:Int) (d:List ABq) (b:DB) (p:Bool),(τ 1=bA 6 (Ai a)/\τ 4= .own false 1 ((d++[b.Name]).map eS)/\τ 5=si c/\τ 6=bA 5 (Fw b)/\τ 51=sb p)/\J1 (Aa a n1) c d a b p=some r
 unfold BI at h
 exact walk
end
namespace DS
def J1 (c:Bool):ABp Bool:=
some c
end DS
section
open DS
def DS (a b:Int):ABp Bool:=
if decide (a≥0)then
J1 (decide (a<b))
else
J1 false
theorem Oy {a b:Int} {r:Bool} (h:DS a b=some r):Says Tryz.prog 128 [si a,si b] (sb r):=by
 refine kO mix Tryz.func128 hn ?_
 unfold DS at h
 exact walk
end
namespace FE
def J1 (b:Bool):ABp Bool:=
some b
end FE
section
open FE
def FE (a:Int):ABp Bool:=
if decide (a≥1)then
J1 (decide (a≤5))
else
J1 false
theorem Nh {a:Int} {r:Bool} (h:FE a=some r):Says Tryz.prog 165 [si a] (sb r):=by
 refine kO mix Tryz.func165 hn ?_
 unfold FE at h
 exact walk
end
namespace CV
def J4 (o:AN):ABp AN:=
some o
def J3 (L3:AN->Int->ABp AN) (c:Int) (b:AN) (p:AE):ABp AN:=
if Al (b.AA.length+1) 24=true then
L3 (AN.mk b.AG b.Tx b.Bq (b.AA++[p])) (Ap (c+1))
else none
def L3 (a:AD) (L3:AN->Int->ABp AN) (b:AN) (c:Int):ABp AN:=
if decide (c<(a.AA.length:Int))then
if c==0 then
J3 L3 c b (AE.mk 1 0 false)
else
J3 L3 c b (AE.mk 0 0 false)
else
J4 b
def Gm (a:AD):Nat->AN->Int->ABp AN
|0,_,_=>none
|n+1,b,c=>L3 a (Gm a n) b c
def J2 (a:AD) (l:AN):ABp AN:=
Gm a BT l 0
def L2 (a:AD) (L2:AN->Int->ABp AN) (e:AN) (i:Int):ABp AN:=
if decide (i<(a.AK.length:Int))then
if Al (e.Bq.length+1) 1=true then
L2 (AN.mk e.AG e.Tx (e.Bq++[false]) e.AA) (Ap (i+1))
else none
else
J2 a e
def C2 (a:AD):Nat->AN->Int->ABp AN
|0,_,_=>none
|n+1,e,i=>L2 a (C2 a n) e i
def J1 (a:AD) (j:AN):ABp AN:=
C2 a BT j 0
def L1 (a:AD) (L1:AN->Int->ABp AN) (d:AN) (f:Int):ABp AN:=
if decide (f<(a.AG.length:Int))then
if Al (d.AG.length+1) 32=true then
L1 (AN.mk (d.AG++[(AW.mk (-1) [])]) d.Tx d.Bq d.AA) (Ap (f+1))
else none
else
J1 a d
def Aa (a:AD):Nat->AN->Int->ABp AN
|0,_,_=>none
|n+1,d,f=>L1 a (Aa a n) d f
end CV
section
open CV
def CV (a:AD):ABp AN:=
Aa a BT (AN.mk [] (-1) [] []) 0
theorem O2 {a:AD} {r:AN} (h:CV a=some r):Says Tryz.prog 86 [.agg (Ai a)] (.agg (HM r)):=by
 refine kO mix Tryz.func86 (hn [(1,[10,23,35]),(3,[16,17,21,29,30,33,45,46,50,51]),(7,[44])]) ?_
 have l3:=λn1 n2 n3 n4:Nat=>Ax λn τ=>∃(b:AN) (c:Int),(τ 1=bA 6 (Ai a)/\τ 2=bA 4 z3/\τ 3=bA 4 (HM b)/\τ 6=si c)/\Gm a n b c=some r
 have l2:=λn1 n2 n3 n4:Nat=>Ax λn τ=>∃(e:AN) (i:Int),(τ 1=bA 6 (Ai a)/\τ 2=bA 4 z3/\τ 3=bA 4 (HM e)/\τ 5=si i)/\C2 a n e i=some r
 have l1:=λn1 n2 n3 n4:Nat=>Ax λn τ=>∃(d:AN) (f:Int),(τ 1=bA 6 (Ai a)/\τ 2=bA 4 z3/\τ 3=bA 4 (HM d)/\τ 4=si f)/\Aa a n d f=some r
 unfold CV at h
 exact walk
end
namespace ER
def J3 (f:Bool):ABp Bool:=
some f
def J2 (b:AN) (a:AD):ABp Bool:=
if(b.AG.length:Int)==(a.AG.length:Int)then
if(b.Bq.length:Int)==(a.AK.length:Int)then
J3 ((b.AA.length:Int)==(a.AA.length:Int))
else
J3 false
else
J3 false
def J1 (L1:Int->ABp Bool) (c:Int) (e:Bool):ABp Bool:=
if e then
some false
else
L1 (Ap (c+1))
def L1 (b:AN) (a:AD) (L1:Int->ABp Bool) (c:Int):ABp Bool:=
if decide (c<(a.Af.length:Int))then
(gt a.Af c).bind λd=>
if decide (d.Mutex<0)then
J1 L1 c true
else
J1 L1 c (decide (d.Mutex≥(a.AG.length:Int)))
else
J2 b a
def Aa (b:AN) (a:AD):Nat->Int->ABp Bool
|0,_=>none
|n+1,c=>L1 b a (Aa b a n) c
end ER
section
open ER
def ER (a:AD) (b:AN):ABp Bool:=
Aa b a BT 0
theorem Lz {a:AD} {b:AN} {r:Bool} (h:ER a b=some r):Says Tryz.prog 96 [.agg (Ai a),.agg (E1 b)] (sb r):=by
 refine kO mix Tryz.func96 (hn [(2,[7,13,21,27,35,43,52]),(3,[32,40,49])]) ?_
 have l1:=λn1 n2 n3 n4:Nat=>Ax λn τ=>∃(c:Int),(τ 2=bA 6 (Ai a)/\τ 3=bA 4 (E1 b)/\τ 5=si c)/\Aa b a n c=some r
 unfold ER at h
 exact walk
end
namespace HQ
def J1 (a:Int) (b:Bool):ABp Int:=
if b then
some 0
else
(gt [3,3,4,4,5,6,7,8,9,10,11,12,13,14,15,16,18,19,20,21,22,23,2] (Ap (a-6))).bind λc=>
some c
end HQ
section
open HQ
def HQ (a:Int):ABp Int:=
if decide (a<6)then
J1 a true
else
J1 a (decide (a>28))
theorem X0 {a r:Int} (h:HQ a=some r):Says Tryz.prog 167 [si a] (si r):=by
 refine kO mix Tryz.func167 (hn [(3,[11,14])]) ?_
 unfold HQ at h
 exact walk
end
namespace F7
def J1 (c:Int):ABp Int:=
some c
end F7
section
open F7
def F7 (b a:Int):ABp Int:=
if decide (a<1)then
some 0
else
if¬a=0 then
if decide ((b.tmod a)<0)then
J1 (Ap ((b.tmod a)+a))
else
J1 (b.tmod a)
else none
theorem Wf {b a r:Int} (h:F7 b a=some r):Says Tryz.prog 194 [si b,si a] (si r):=by
 refine kO mix Tryz.func194 hn ?_
 unfold F7 at h
 exact walk
end
namespace G4
def J1 (c:Bool):ABp Bool:=
some c
end G4
section
open G4
def G4 (a b:Int):ABp Bool:=
if decide (a≥0)then
J1 (decide (a<b))
else
J1 false
theorem T9 {a b:Int} {r:Bool} (h:G4 a b=some r):Says Tryz.prog 137 [si a,si b] (sb r):=by
 refine kO mix Tryz.func137 hn ?_
 unfold G4 at h
 exact walk
end
namespace GA
def J1:ABp Bool:=
some false
def L1 (a:List Int) (b:Int) (L1:Int->ABp Bool) (c:Int):ABp Bool:=
if decide (c<(a.length:Int))then
(gt a c).bind λd=>
if d==b then
some true
else
L1 (Ap (c+1))
else
J1
def Aa (a:List Int) (b:Int):Nat->Int->ABp Bool
|0,_=>none
|n+1,c=>L1 a b (Aa a b n) c
end GA
section
open GA
def GA (a:List Int) (b:Int):ABp Bool:=
Aa a b BT 0
theorem NG {a:List Int} {b:Int} {r:Bool} (h:GA a b=some r):Says Tryz.prog 139 [vS 1 eI a,si b] (sb r):=by
 refine kO mix Tryz.func139 hn ?_
 have l1:=λn1 n2 n3 n4:Nat=>Ax λn τ=>∃(c:Int),(τ 0=vS 1 eI a/\τ 1=si b/\τ 5=si c)/\Aa a b n c=some r
 unfold GA at h
 exact walk
end
namespace Fe
def J1 (e:AN):ABp AN:=
some e
def L1 (a:AN) (L1:AN->Int->ABp AN) (b:AN) (c:Int):ABp AN:=
if decide (c<(a.AG.length:Int))then
(gt a.AG c).bind λd=>
if Al (d.As.length) 8=true then
if Al (b.AG.length+1) 32=true then
L1 (AN.mk (b.AG++[d]) b.Tx b.Bq b.AA) (Ap (c+1))
else none
else none
else
J1 b
def Aa (a:AN):Nat->AN->Int->ABp AN
|0,_,_=>none
|n+1,b,c=>L1 a (Aa a n) b c
end Fe
section
open Fe
def Fe (a:AN):ABp AN:=
if Al (a.Bq.length) 1=true then
if Al (a.AA.length) 24=true then
Aa a BT (AN.mk [] a.Tx a.Bq a.AA) 0
else none
else none
theorem QK {a r:AN} (h:Fe a=some r):Says Tryz.prog 141 [.agg (E1 a)] (.agg (HM r)):=by
 refine kO mix Tryz.func141 (hn [(1,[5,8,12,17,25,32]),(3,[23,24,42,43])]) ?_
 have l1:=λn1 n2 n3 n4:Nat=>Ax λn τ=>∃(b:AN) (c:Int),(τ 1=bA 4 (E1 a)/\τ 2=bA 4 z3/\τ 3=bA 4 (HM b)/\τ 4=si c)/\Aa a n b c=some r
 unfold Fe at h
 exact walk
end
end Go.Abs
