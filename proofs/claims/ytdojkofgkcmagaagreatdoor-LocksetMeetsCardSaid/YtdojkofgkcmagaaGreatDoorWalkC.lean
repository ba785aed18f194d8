/- Typed programs of Go functions, and that the functions do what these say. -/
import Derived.Test.YtdojkofgkcmagaaGreatDoorBaseA
set_option linter.defProp false
set_option linter.unusedSimpArgs false
set_option linter.unusedVariables false
namespace Go.Abs
open Go.Proofs Tryz
set_option maxRecDepth 1000000
set_option maxHeartbeats 4000000
namespace EZ
def J2(i:iq):ABu (List Int):=
some i
def J1(L1:iw)(b:Int)(f:iq):=
L1 f (A6 (b+1))
def L1(a:iq)(c:Int)(L1:iw)(d:iq)(b:Int):=
if decide (b<(a.length:Int))then
(gt a b).bind λe=>
if e != c then
if Am (d.length+1) 8=true then
J1 L1 b (d++[e])
else none
else
J1 L1 b d
else
J2 d
def AW(a:iq)(c:Int):Nat->(List Int)->Int->ABu (List Int)
|0,_,_=>none
|n+1,d,b=>L1 a c (AW a c n) d b
end EZ
section
open EZ
def EZ(a:iq)(c:Int):=
AW a c BT [] 0
def V9{a:iq}{c:Int}{r:iq}(h:EZ a c=some r):Says prog 157 [vS 1 eI a,si c] (vO 1 eI r):=by refine kO mix func157 (hn [(5,[19,26])]) ?_;have l1:=im λ_ _ _ _ n e=>∃d b,(e 0=vS 1 eI a/\e 1=si c/\e 5=vO 1 eI d/\e 6=si b)/\AW a c n d b=some r;unfold EZ at h;exact walk
end
def Kz:ABu (List ABv):=
some [(⟨#[118,97,114]⟩:ABv),(⟨#[118,111,108,97,116,105,108,101]⟩:ABv),(⟨#[109,117,116,101,120]⟩:ABv),(⟨#[114,119,108,111,99,107]⟩:ABv),(⟨#[99,111,110,100]⟩:ABv),(⟨#[102,117,116,117,114,101]⟩:ABv),(⟨#[116,104,114,101,97,100]⟩:ABv),(⟨#[105,102]⟩:ABv),(⟨#[101,108,115,101]⟩:ABv),(⟨#[119,104,105,108,101]⟩:ABv),(⟨#[108,111,99,107]⟩:ABv),(⟨#[114,101,97,100]⟩:ABv),(⟨#[119,114,105,116,101]⟩:ABv),(⟨#[116,114,97,110,115,97,99,116,105,111,110]⟩:ABv),(⟨#[97,116,111,109,105,99]⟩:ABv),(⟨#[119,97,105,116]⟩:ABv),(⟨#[110,111,116,105,102,121]⟩:ABv),(⟨#[110,111,116,105,102,121,97,108,108]⟩:ABv),(⟨#[115,112,97,119,110]⟩:ABv),(⟨#[106,111,105,110]⟩:ABv),(⟨#[115,101,116]⟩:ABv),(⟨#[103,101,116]⟩:ABv)]
def U4{r:jf}(h:Kz=some r):Says prog 198 [] (vO 1 eS r):=by refine kO mix func198 hn ?_;unfold Kz at h;exact walk
namespace EC
def J2:=
some true
def J1(L1:ir)(a:Int)(e:Bool):=
if e then
some false
else
L1 (A6 (a+1))
def L1(c:Int)(b:iq)(L1:ir)(a:Int):=
if decide (a<(b.length:Int))then
(gt b a).bind λd=>
if decide (d<1)then
J1 L1 a true
else
if decide (d>=c)then
J1 L1 a true
else
if decide (a>0)then
(gt b (A6 (a-1))).bind λf=>
J1 L1 a (decide (d<=f))
else
J1 L1 a false
else
J2
def AW(c:Int)(b:iq):Nat->Int->ABu Bool
|0,_=>none
|n+1,a=>L1 c b (AW c b n) a
end EC
section
open EC
def EC(b:iq)(c:Int):=
AW c b BT 0
def WC{b:iq}{c:Int}{r:Bool}(h:EC b c=some r):Says prog 104 [vS 1 eI b,si c] (sb r):=by refine kO mix func104 hn ?_;have l1:=im λ_ _ _ _ n d=>∃a,(d 0=vS 1 eI b/\d 1=si c/\d 5=si a)/\AW c b n a=some r;unfold EC at h;exact walk
end
namespace Bx
def J2:=
some true
def J1(L1:ir)(b:Int)(c:Bool):=
if c then
some false
else
L1 (A6 (b+1))
def L1(a:AD)(L1:ir)(b:Int):=
if decide (b<(a.de.Bp.length:Int))then
(gt a.de.Bp b).bind λd=>
if !d then
(gt a.AL b).bind λe=>
J1 L1 b (e != 0)
else
J1 L1 b false
else
J2
def AW(a:AD):Nat->Int->ABu Bool
|0,_=>none
|n+1,b=>L1 a (AW a n) b
end Bx
section
open Bx
def Bx(a:AD):=
AW a BT 0
def Pf{a:AD}{r:Bool}(h:Bx a=some r):Says prog 48 [.agg (BQ a)] (sb r):=by refine kO mix func48 (hn [(1,[5,6,17])]) ?_;have l1:=im λ_ _ _ _ n c=>∃b,(c 1=bA 7 (BQ a)/\c 7=vS 1 eB a.de.Bp/\c 8=si (a.de.Bp.length:Int)/\c 9=si b)/\AW a n b=some r;unfold Bx at h;exact walk
end
namespace E0
def J1(e:kv):ABu (List Ao):=
some e
def L1(a:iq)(L1:(List Ao)->Int->ABu (List Ao))(c:kv)(b:Int):=
if decide (b<(a.length:Int))then
(gt a b).bind λd=>
if Am (c.length+1) 16=true then
L1 (c++[(Ao.mk ((A6 d).tmod 4) (A6 (((A6 ((A6 d).tdiv 4)).tmod 5)-1)))]) (A6 (b+1))
else none
else
J1 c
def AW(a:iq):Nat->(List Ao)->Int->ABu (List Ao)
|0,_,_=>none
|n+1,c,b=>L1 a (AW a n) c b
end E0
section
open E0
def E0(a:iq):=
AW a BT [] 0
def XV{a:iq}{r:kv}(h:E0 a=some r):Says prog 87 [vS 1 iX a] (vO 2 HD r):=by refine kO mix func87 (hn [(3,[11,29])]) ?_;have l1:=im λ_ _ _ _ n d=>∃c b,(d 0=vS 1 iX a/\d 3=vO 2 HD c/\d 4=si b)/\AW a n c b=some r;unfold E0 at h;exact walk
end
namespace Cj
def J1(a:BL):ABu (Int×BL):=
some ((-1),a)
def L1(a:BL)(b:ABv)(L1:Int->ABu (Int×BL))(c:Int):=
if decide (c<(a.w.Ak.length:Int))then
(gt a.w.Ak c).bind λd=>
if d.di.toList==b.toList then
some (c,a)
else
L1 (A6 (c+1))
else
J1 a
def AW(a:BL)(b:ABv):Nat->Int->ABu (Int×BL)
|0,_=>none
|n+1,c=>L1 a b (AW a b n) c
end Cj
section
open Cj
def Cj(a:BL)(b:ABv):=
AW a b BT 0
def VD{a:BL}{b:ABv}{r:Int×BL}(h:Cj a b=some r):BB prog 252 [bA 10 (El a),Bq b] (si r.1) [bA 10 (El r.2),.dead]:=by refine kL mix func252 (hn [(0,[7,8,9,10,11,16,17,18,19,20,22,23])]) ?_;have l1:=im λ_ _ _ _ n d=>∃c,(d 0=bA 10 (El a)/\d 1=Bq b/\d 5=si c)/\AW a b n c=some r;unfold Cj at h;exact walk
end
namespace Gx
def J2:ABu Int:=
some (-1)
def J1(L1:mg)(a f:Int):=
L1 f (A6 (a+1))
def L1(c:Int)(b:AG)(L1:mg)(d a:Int):=
if decide (a<(b.AB.length:Int))then
(gt b.AB a).bind λi=>
if i.cr==c then
if d==0 then
some a
else
J1 L1 a (A6 (d-1))
else
J1 L1 a d
else
J2
def AW(c:Int)(b:AG):Nat->Int->Int->ABu Int
|0,_,_=>none
|n+1,d,a=>L1 c b (AW c b n) d a
end Gx
section
open Gx
def Gx(b:AG)(c e:Int):=
AW c b BT e 0
def VH{b:AG}{c e r:Int}(h:Gx b c e=some r):Says prog 107 [.agg (A4 b),si c,si e] (si r):=by refine kO mix func107 (hn [(3,[9,15])]) ?_;have l1:=im λ_ _ _ _ n e=>∃d a,(e 1=si c/\e 2=si d/\e 3=bA 15 (A4 b)/\e 7=si a)/\AW c b n d a=some r;unfold Gx at h;exact walk
end
namespace CH
def J1(c:Bool):ABu Bool:=
some c
end CH
section
open CH
def CH(b:Int)(a:AG):=
if decide (b>=0)then
if decide (b<(a.db.dc.length:Int))then
(gt a.db.dc b).bind λd=>
J1 (decide (d>=1))
else
J1 false
else
J1 false
def OL{b:Int}{a:AG}{r:Bool}(h:CH b a=some r):Says prog 95 [si b,.fp [vS 5 HV a.cT.df,vS 2 IX a.cT.AK,vS 2 IW a.cT.Ak,vS 1 eS a.cT.AL,vS 1 eS a.cT.AA,vS 3 Gu a.cT.Be,si a.ej,vS 2 C9 a.db.de.AK,si a.db.de.Tx,vS 1 eB a.db.de.Bp,vS 3 Ap a.db.de.AA,vS 1 eI a.db.df,vS 1 eI a.db.AL,vS 1 eI a.db.dc,vS 7 A7 a.AB]] (sb r):=by refine kO mix func95 hn ?_;unfold CH at h;exact walk
end
namespace HM
def J1:=
some true
def L1(a b:iq)(L1:ir)(c:Int):=
if decide (c<(a.length:Int))then
(gt a c).bind λd=>
(gt b c).bind λe=>
if d != e then
some false
else
L1 (A6 (c+1))
else
J1
def AW(a b:iq):Nat->Int->ABu Bool
|0,_=>none
|n+1,c=>L1 a b (AW a b n) c
end HM
section
open HM
def HM(a b:iq):=
if(a.length:Int) != (b.length:Int)then
some false
else
AW a b BT 0
def Q8{a b:iq}{r:Bool}(h:HM a b=some r):Says prog 30 [vS 1 eI a,vS 1 eI b] (sb r):=by refine kO mix func30 hn ?_;have l1:=im λ_ _ _ _ n d=>∃c,(d 0=vS 1 eI a/\d 1=vS 1 eI b/\d 12=si (a.length:Int)/\d 13=si c)/\AW a b n c=some r;unfold HM at h;exact walk
end
namespace IA
def J1(a:AH)(b:AF)(c:Bool):ABu Int:=
if c then
some a.dn
else
if a.da==16 then
(gt b.Ak a.dn).bind λd=>
some d.dm
else
if a.da==13 then
some (b.AK.length:Int)
else
some (-1)
end IA
section
open IA
def IA(b:AF)(a:AH):=
if a.da==7 then
J1 a b (a.da==7)
else
if a.da==9 then
J1 a b (a.da==9)
else
J1 a b (a.da==11)
def Vz{b:AF}{a:AH}{r:Int}(h:IA b a=some r):Says prog 206 [.agg (Aw b),.agg (A7 a)] (si r):=by refine kO mix func206 (hn [(2,[15,24]),(3,[5,11,17])] [(3,1)]) ?_;have c1:=ip 1 λ_ _ _ _ d=>∃c,(d 2=bA 6 (Aw b)/\d 3=bA 7 (A7 a)/\d 6=si a.da/\d 7=sb c)/\J1 a b c=some r;unfold IA at h;exact walk
end
namespace Hz
def J1(a:AH)(b:AF)(c:Bool):ABu Int:=
if c then
some a.dn
else
if a.da==17 then
(gt b.Ak a.dn).bind λd=>
some d.dm
else
if a.da==12 then
some (b.AK.length:Int)
else
some (-1)
end Hz
section
open Hz
def Hz(b:AF)(a:AH):=
if a.da==6 then
J1 a b (a.da==6)
else
if a.da==8 then
J1 a b (a.da==8)
else
J1 a b (a.da==10)
def Vy{b:AF}{a:AH}{r:Int}(h:Hz b a=some r):Says prog 207 [.agg (Aw b),.agg (A7 a)] (si r):=by refine kO mix func207 (hn [(2,[15,24]),(3,[5,11,17])] [(3,1)]) ?_;have c1:=ip 1 λ_ _ _ _ d=>∃c,(d 2=bA 6 (Aw b)/\d 3=bA 7 (A7 a)/\d 6=si a.da/\d 7=sb c)/\J1 a b c=some r;unfold Hz at h;exact walk
end
namespace DB
def J1:ABu Int:=
some (-1)
def L1(a:List C7)(b:ABv)(L1:lA)(c:Int):=
if decide (c<(a.length:Int))then
(gt a c).bind λd=>
if d.di.toList==b.toList then
some c
else
L1 (A6 (c+1))
else
J1
def AW(a:List C7)(b:ABv):Nat->Int->ABu Int
|0,_=>none
|n+1,c=>L1 a b (AW a b n) c
end DB
section
open DB
def DB(a:List C7)(b:ABv):=
AW a b BT 0
def K4{a:List C7}{b:ABv}{r:Int}(h:DB a b=some r):Says prog 247 [vS 4 JU a,Bq b] (si r):=by refine kO mix func247 hn ?_;have l1:=im λ_ _ _ _ n d=>∃c,(d 0=vS 4 JU a/\d 1=Bq b/\d 5=si c)/\AW a b n c=some r;unfold DB at h;exact walk
end
namespace Bz
def J1:ABu Int:=
some (-1)
def L1(b:ABv)(a:AF)(L1:lA)(c:Int):=
if decide (c<(a.df.length:Int))then
(gt a.df c).bind λd=>
if d.di.toList==b.toList then
some c
else
L1 (A6 (c+1))
else
J1
def AW(b:ABv)(a:AF):Nat->Int->ABu Int
|0,_=>none
|n+1,c=>L1 b a (AW b a n) c
end Bz
section
open Bz
def Bz(a:AF)(b:ABv):=
AW b a BT 0
def Pz{a:AF}{b:ABv}{r:Int}(h:Bz a b=some r):Says prog 274 [.agg (Aw a),Bq b] (si r):=by refine kO mix func274 (hn [(2,[7,13])]) ?_;have l1:=im λ_ _ _ _ n d=>∃c,(d 1=Bq b/\d 2=bA 6 (Aw a)/\d 5=si c)/\AW b a n c=some r;unfold Bz at h;exact walk
end
namespace D9
def J1:=
some false
def L1(a:ABv)(L1:ir)(b:Int):=
if decide (b<22)then
if b<22 then
(gt Mw b).bind λc=>
if a.toList==c.toList then
some true
else
L1 (A6 (b+1))
else none
else
J1
def AW(a:ABv):Nat->Int->ABu Bool
|0,_=>none
|n+1,b=>L1 a (AW a n) b
end D9
variable{c:ABv}{b:Bool}
section
open D9
def D9(a:ABv):=
AW a BT 0
theorem T0(h:D9 c=some b):Says prog 190 [Bq c] (sb b):=by refine kO mix func190 (hn (E:=[(1,(.fR [.gld ⟨5,[],[]⟩ 0 22,.o (iU 6 0)]))])) ?_;have l1:=im λ_ _ _ _ n a=>∃r,(a 0=Bq c/\a 5= .agg (Mw.map Bq)/\a 6=si r)/\AW c n r=some b;unfold D9 at h;exact walk
end
namespace DD
def J1:ABu Int:=
some (-1)
def L1(a:ml)(b:ABv)(L1:lA)(c:Int):=
if decide (c<(a.length:Int))then
(gt a c).bind λd=>
if d.di.toList==b.toList then
some c
else
L1 (A6 (c+1))
else
J1
def AW(a:ml)(b:ABv):Nat->Int->ABu Int
|0,_=>none
|n+1,c=>L1 a b (AW a b n) c
end DD
section
open DD
def DD(a:ml)(b:ABv):=
AW a b BT 0
theorem KG{a:ml}{b:ABv}{r:Int}(h:DD a b=some r):Says prog 246 [vS 6 Kq a,Bq b] (si r):=by refine kO mix func246 hn ?_;have l1:=im λ_ _ _ _ n d=>∃c,(d 0=vS 6 Kq a/\d 1=Bq b/\d 5=si c)/\AW a b n c=some r;unfold DD at h;exact walk
end
namespace EL
def J1:ABu Int:=
some (-1)
def L1(a:List Kj)(b:ABv)(L1:lA)(c:Int):=
if decide (c<(a.length:Int))then
(gt a c).bind λd=>
if d.di.toList==b.toList then
some c
else
L1 (A6 (c+1))
else
J1
def AW(a:List Kj)(b:ABv):Nat->Int->ABu Int
|0,_=>none
|n+1,c=>L1 a b (AW a b n) c
end EL
section
open EL
def EL(a:List Kj)(b:ABv):=
AW a b BT 0
theorem P2{a:List Kj}{b:ABv}{r:Int}(h:EL a b=some r):Says prog 220 [vS 2 IX a,Bq b] (si r):=by refine kO mix func220 hn ?_;have l1:=im λ_ _ _ _ n d=>∃c,(d 0=vS 2 IX a/\d 1=Bq b/\d 5=si c)/\AW a b n c=some r;unfold EL at h;exact walk
end
namespace Ch
def J1:ABu Int:=
some (-1)
def L1(a:jf)(b:ABv)(L1:lA)(c:Int):=
if decide (c<(a.length:Int))then
(gt a c).bind λd=>
if d.toList==b.toList then
some c
else
L1 (A6 (c+1))
else
J1
def AW(a:jf)(b:ABv):Nat->Int->ABu Int
|0,_=>none
|n+1,c=>L1 a b (AW a b n) c
end Ch
section
open Ch
def Ch(a:jf)(b:ABv):=
AW a b BT 0
theorem Ic{a:jf}{b:ABv}{r:Int}(h:Ch a b=some r):Says prog 99 [vS 1 eS a,Bq b] (si r):=by refine kO mix func99 hn ?_;have l1:=im λ_ _ _ _ n d=>∃c,(d 0=vS 1 eS a/\d 1=Bq b/\d 5=si c)/\AW a b n c=some r;unfold Ch at h;exact walk
end
namespace fP
def J1:=
some false
def L1(a:iq)(b:Int)(L1:ir)(c:Int):=
if decide (c<(a.length:Int))then
(gt a c).bind λd=>
if d==b then
some true
else
L1 (A6 (c+1))
else
J1
def AW(a:iq)(b:Int):Nat->Int->ABu Bool
|0,_=>none
|n+1,c=>L1 a b (AW a b n) c
end fP
section
open fP
def fP(a:iq)(b:Int):=
AW a b BT 0
end
namespace Gh
def J1:ABu Int:=
some (-1)
def L1(a:iq)(b:Int)(L1:lA)(c:Int):=
if decide (c<(a.length:Int))then
(gt a c).bind λd=>
if b==d then
some c
else
L1 (A6 (c+1))
else
J1
def AW(a:iq)(b:Int):Nat->Int->ABu Int
|0,_=>none
|n+1,c=>L1 a b (AW a b n) c
end Gh
section
open Gh
def Gh(a:iq)(b:Int):=
AW a b BT 0
theorem Xx{a:iq}{b r:Int}(h:Gh a b=some r):Says prog 201 [vS 1 eI a,si b] (si r):=by refine kO mix func201 hn ?_;have l1:=im λ_ _ _ _ n d=>∃c,(d 0=vS 1 eI a/\d 1=si b/\d 7=si (a.length:Int)/\d 8=si c)/\AW a b n c=some r;unfold Gh at h;exact walk
end
namespace Dq
def J2(d:Bool):ABu Bool:=
some d
def J1(a:AH)(b:AF)(c:Bool):=
if c then
some (a.d3==(-1))
else
if decide (a.d3>=0)then
if decide (a.d3<(b.Be.length:Int))then
(gt b.Be a.d3).bind λe=>
J2 (e.cr==a.cr)
else
J2 false
else
J2 false
end Dq
section
open Dq
def Dq(b:AF)(a:AH):=
if a.da==1 then
J1 a b true
else
J1 a b (a.da==2)
theorem RM{b:AF}{a:AH}{r:Bool}(h:Dq b a=some r):Says prog 147 [.agg (Aw b),.agg (A7 a)] (sb r):=by refine kO mix func147 (hn [(2,[22,28]),(3,[5,9,13,16,20,30,35])]) ?_;unfold Dq at h;exact walk
end
namespace ET
def J3(d:Bool):ABu Int:=
if d then
some 2
else
some (-1)
def J2(a:Int)(c:Bool):=
if c then
some 1
else
if decide (a>=6)then
J3 (decide (a<=18))
else
J3 false
def J1(a:Int)(b:Bool):=
if b then
some 0
else
if decide (a>=3)then
J2 a (decide (a<=5))
else
J2 a false
end ET
section
open ET
def ET(a:Int):=
if a==1 then
J1 a true
else
J1 a (a==2)
theorem U5{a r:Int}(h:ET a=some r):Says prog 282 [si a] (si r):=by refine kO mix func282 (hn (Q:=[(2,1)])) ?_;have c1:=ip 1 λ_ _ _ _ c=>∃b,(c 0=si a/\c 3=sb b)/\J1 a b=some r;unfold ET at h;exact walk
end
namespace Gw
def J1:=
some false
def L1(a:iq)(b:Int)(L1:ir)(c:Int):=
if decide (c<(a.length:Int))then
(gt a c).bind λd=>
if d==b then
some true
else
L1 (A6 (c+1))
else
J1
def AW(a:iq)(b:Int):Nat->Int->ABu Bool
|0,_=>none
|n+1,c=>L1 a b (AW a b n) c
end Gw
section
open Gw
def Gw(a:iq)(b:Int):=
AW a b BT 0
theorem Mh{a:iq}{b:Int}{r:Bool}(h:Gw a b=some r):Says prog 65 [vS 1 eI a,si b] (sb r):=by refine kO mix func65 hn ?_;have l1:=im λ_ _ _ _ n d=>∃c,(d 0=vS 1 eI a/\d 1=si b/\d 5=si c)/\AW a b n c=some r;unfold Gw at h;exact walk
end
namespace Al
def J1(b:Int)(a:AX)(c:Bool):ABu (Int×AX):=
if c then
some (0,a)
else
(gt a.L (A6 ((A6 (a.At+1))-1))).bind λd=>
if¬b=0 then
some ((A6 d).tmod b,(AX.mk a.L (A6 (a.At+1))))
else none
end Al
section
open Al
def Al(a:AX)(b:Int):=
if decide (a.At>=(a.L.length:Int))then
J1 b a true
else
J1 b a (decide (b<1))
theorem DT{a:AX}{b:Int}{r:jr}(h:Al a b=some r):BB prog 132 [bA 2 (GO a),si b] (si r.1) [bA 2 (GO r.2),.dead]:=by refine kL mix func132 (hn [(0,[5,6,7,9,10,11,12,19,20,21,24,25,26,27,28,29,30,31,32,35])]) ?_;unfold Al at h;exact walk
end
def E7:ABu (List Ey):=
some [(Ey.mk 1 0 (⟨#[120]⟩:ABv) 0 0 (⟨#[]⟩:ABv)),(Ey.mk 1 0 (⟨#[121]⟩:ABv) 0 1 (⟨#[]⟩:ABv)),(Ey.mk 2 0 (⟨#[118]⟩:ABv) 0 0 (⟨#[]⟩:ABv)),(Ey.mk 1 0 (⟨#[113]⟩:ABv) 2 0 (⟨#[]⟩:ABv)),(Ey.mk 3 0 (⟨#[109]⟩:ABv) 0 0 (⟨#[]⟩:ABv)),(Ey.mk 3 0 (⟨#[110]⟩:ABv) 0 0 (⟨#[]⟩:ABv)),(Ey.mk 4 0 (⟨#[114]⟩:ABv) 0 0 (⟨#[]⟩:ABv)),(Ey.mk 5 0 (⟨#[99]⟩:ABv) 0 0 (⟨#[109]⟩:ABv)),(Ey.mk 6 0 (⟨#[102]⟩:ABv) 0 0 (⟨#[]⟩:ABv))]
variable{a:ml}
theorem Sv(h:E7=some a):Says prog 186 [] (vO 6 Kq a):=by refine kO mix func186 hn ?_;unfold E7 at h;exact walk
def BH(a:BL)(b:Ai):ABu BL:=
if Am (a.dr.length+1) 48=true then
some (BL.mk a.w a.dq (a.dr++[(Ai.mk b.Op b.A b.B b.C b.N a.dt)]) a.dt a.next)
else none
theorem HR{a:BL}{b:Ai}{r:BL}(h:BH a b=some r):BB prog 184 [bA 10 (El a),.agg (Ed b)] (.BZ []) [bA 10 (El r),.dead]:=by refine kL mix func184 (hn [(0,[4,5,6,10,11,12,13,17,18]),(3,[8])] (E:=[(2,(.jB [(0,0,8,9)] [i0 9 .fl,i1 10 0 (.cp (.t 0)),i1 11 0 (.I6 (.t 10)),Kf 12 0 7 11,Vg 13 0 12,iA 14 6 3,i0 15 (.OR 6 [z17] [(0,.t 14)]),i0 16 (.app 6 48 (.t 13) (.t 15)),i1 17 0 (.I6 (.t 0)),Kf 18 0 7 17,iS 1 18 16]))])) ?_;unfold BH at h;exact walk
namespace HN
def J1(c:Bool):ABu Bool:=
some c
end HN
section
open HN
def HN(b:AG)(a:AH):=
if a.da==23 then
(gt b.db.de.Bp a.dn).bind λd=>
if d then
(gt b.db.AL a.dn).bind λe=>
J1 (e==a.dh)
else
J1 false
else
(gt b.db.df a.dn).bind λf=>
some (f==a.dh)
theorem WE{b:AG}{a:AH}{r:Bool}(h:HN b a=some r):Says prog 78 [.agg (A4 b),.agg (A7 a)] (sb r):=by refine kO mix func78 (hn [(2,[8,9,10,17,18,28,29]),(3,[5,12,20,24,31,35])]) ?_;unfold HN at h;exact walk
end
namespace Hv
def J1(c:Bool):ABu Bool:=
some c
end Hv
section
open Hv
def Hv(b a:AH):=
if b.dn==a.dn then
if b.da==4 then
if a.da==3 then
J1 true
else
if b.da==22 then
J1 (a.da==23)
else
J1 false
else
if b.da==22 then
J1 (a.da==23)
else
J1 false
else
J1 false
theorem Xu{b a:AH}{r:Bool}(h:Hv b a=some r):Says prog 34 [.agg (A7 b),.agg (A7 a)] (sb r):=by refine kO mix func34 (hn [(2,[5,11,20]),(3,[7,15,24])]) ?_;unfold Hv at h;exact walk
end
namespace Ib
def J1(b:Bool):ABu Bool:=
some b
end Ib
section
open Ib
def Ib(a:BO):=
if a.Op==0 then
if a.N==0 then
if a.di.toList==(⟨#[]⟩:ABv).toList then
J1 ((a.L.length:Int)==0)
else
J1 false
else
J1 false
else
J1 false
theorem Zn{a:BO}{r:Bool}(h:Ib a=some r):Says prog 278 [.agg [si a.Op,si a.N,Bq a.di,vS 4 BR a.L]] (sb r):=by refine kO mix func278 (hn [(1,[3,7,12,17])]) ?_;unfold Ib at h;exact walk
end
namespace Ge
def J1(b:Bool):ABu Bool:=
some b
end Ge
section
open Ge
def Ge(a:Int):=
if decide (a>=97)then
if decide (a<=122)then
J1 true
else
if decide (a>=65)then
J1 (decide (a<=90))
else
J1 false
else
if decide (a>=65)then
J1 (decide (a<=90))
else
J1 false
theorem Px{a:Int}{r:Bool}(h:Ge a=some r):Says prog 153 [.sc (.int .u8 a)] (sb r):=by refine kO mix func153 hn ?_;unfold Ge at h;exact walk
end
namespace Im
def J1(a:Int)(b:Bool):ABu Int:=
if b then
some 0
else
(gt [3,3,4,4,5,6,7,8,9,10,11,12,13,14,15,16,18,19,20,21,22,23,2] (A6 (a-6))).bind λc=>
some c
end Im
section
open Im
def Im(a:Int):=
if decide (a<6)then
J1 a true
else
J1 a (decide (a>28))
theorem dB{a r:Int}(h:Im a=some r):Says prog 240 [si a] (si r):=by refine kO mix func240 (hn [(3,[11,14])]) ?_;unfold Im at h;exact walk
end
def FH(b:ABv)(a:BO):ABu AR:=
some (AR.mk 1 0 b (⟨#[]⟩:ABv) [] a [] [])
theorem Ql{b:ABv}{a:BO}{r:AR}(h:FH b a=some r):Says prog 188 [Bq b,.agg [si a.Op,si a.N,Bq a.di,vS 4 BR a.L]] (.agg [si r.Op,si r.GH,Bq r.di,Bq r.ep,vS 4 BR r.dz,si r.dv.Op,si r.dv.N,Bq r.dv.di,vS 4 BR r.dv.L,vS 11 BJ r.dx,vS 11 BJ r.d7]):=by refine kF mix func188 hn ?_;unfold FH at h;exact walk
namespace Q7
def J1(b:iq)(a:Int)(c:Bool):ABu Int:=
if c then
some 0
else
(gt b a).bind λd=>
some d
end Q7
section
open Q7
def Q7(b:iq)(a:Int):=
if decide (a<0)then
J1 b a true
else
J1 b a (decide (a>=(b.length:Int)))
end
namespace HK
def J1(c:Int):ABu Int:=
some c
end HK
section
open HK
def HK(b a:Int):=
if decide (a<1)then
some 0
else
if¬a=0 then
if decide ((b.tmod a)<0)then
J1 (A6 ((b.tmod a)+a))
else
J1 (b.tmod a)
else none
theorem Zs{b a r:Int}(h:HK b a=some r):Says prog 264 [si b,si a] (si r):=by refine kO mix func264 hn ?_;unfold HK at h;exact walk
end
namespace Gd
def J1(c:Bool):ABu Bool:=
some c
end Gd
section
open Gd
def Gd(a:AM)(b:Int):=
if a.dg==3 then
J1 (a.Dy==b)
else
J1 false
theorem Pu{a:AM}{b:Int}{r:Bool}(h:Gd a b=some r):Says prog 225 [.agg (Ap a),si b] (sb r):=by refine kO mix func225 (hn [(2,[5,9])]) ?_;unfold Gd at h;exact walk
end
namespace Ez
def J1(a:Int)(b:Bool):ABu Int:=
if b then
some 0
else
some a
end Ez
section
open Ez
def Ez(a:Int):=
if decide (a<1)then
J1 a true
else
J1 a (decide (a>100))
theorem VG{a r:Int}(h:Ez a=some r):Says prog 266 [si a] (si r):=by refine kO mix func266 hn ?_;unfold Ez at h;exact walk
end
def JF(c:Int)(a b:BO):ABu BO:=
some (BO.mk c 0 (⟨#[]⟩:ABv) [a,b])
theorem Qm{c:Int}{a b r:BO}(h:JF c a b=some r):Says prog 255 [si c,.agg [si a.Op,si a.N,Bq a.di,vS 4 BR a.L],.agg [si b.Op,si b.N,Bq b.di,vS 4 BR b.L]] (.agg [si r.Op,si r.N,Bq r.di,vS 4 BR r.L]):=by refine kF mix func255 hn ?_;unfold JF at h;exact walk
namespace Fg
def J1(c:Bool):ABu Bool:=
some c
end Fg
section
open Fg
def Fg(a b:Int):=
if decide (a>=0)then
J1 (decide (a<b))
else
J1 false
theorem UF{a b:Int}{r:Bool}(h:Fg a b=some r):Says prog 143 [si a,si b] (sb r):=by refine kO mix func143 hn ?_;unfold Fg at h;exact walk
end
namespace Da
def J1(c:Bool):ABu Bool:=
some c
end Da
section
open Da
def Da(a b:Int):=
if decide (a>=0)then
J1 (decide (a<b))
else
J1 false
theorem JZ{a b:Int}{r:Bool}(h:Da a b=some r):Says prog 144 [si a,si b] (sb r):=by refine kO mix func144 hn ?_;unfold Da at h;exact walk
end
namespace JL
def J1(b:Bool):ABu Bool:=
some b
end JL
section
open JL
def JL(a:AH):=
if a.da==3 then
J1 true
else
J1 (a.da==23)
theorem dG{a:AH}{r:Bool}(h:JL a=some r):Says prog 33 [.agg (A7 a)] (sb r):=by refine kO mix func33 (hn [(1,[3,7])]) ?_;unfold JL at h;exact walk
end
namespace Ia
def J1(b:Bool):ABu Bool:=
some b
end Ia
section
open Ia
def Ia(a:Int):=
if decide (a>=48)then
J1 (decide (a<=57))
else
J1 false
theorem Zk{a:Int}{r:Bool}(h:Ia a=some r):Says prog 199 [.sc (.int .u8 a)] (sb r):=by refine kO mix func199 hn ?_;unfold Ia at h;exact walk
end
namespace Gg
def J1(b:Bool):ABu Bool:=
some b
end Gg
section
open Gg
def Gg(a:Int):=
if decide (a>=1)then
J1 (decide (a<=5))
else
J1 false
theorem P0{a:Int}{r:Bool}(h:Gg a=some r):Says prog 238 [si a] (sb r):=by refine kO mix func238 hn ?_;unfold Gg at h;exact walk
end
namespace Lz
def J1(c:Bool):ABu Bool:=
some c
end Lz
section
open Lz
def Lz(a b:Int):=
if decide (a>=0)then
J1 (decide (a<b))
else
J1 false
theorem oW{a b:Int}{r:Bool}(h:Lz a b=some r):Says prog 103 [si a,si b] (sb r):=by refine kO mix func103 hn ?_;unfold Lz at h;exact walk
end
namespace IP
def J1(c:Bool):ABu Bool:=
some c
end IP
section
open IP
def IP(a b:Int):=
if decide (a>=0)then
J1 (decide (a<b))
else
J1 false
theorem Wu{a b:Int}{r:Bool}(h:IP a b=some r):Says prog 114 [si a,si b] (sb r):=by refine kO mix func114 hn ?_;unfold IP at h;exact walk
end
namespace MA
def J1(c:Bool):ABu Bool:=
some c
end MA
section
open MA
def MA(a b:Int):=
if decide (a>=0)then
J1 (decide (a<b))
else
J1 false
theorem Wx{a b:Int}{r:Bool}(h:MA a b=some r):Says prog 101 [si a,si b] (sb r):=by refine kO mix func101 hn ?_;unfold MA at h;exact walk
end
namespace Dw
def J1(c:Bool):ABu Bool:=
some c
end Dw
section
open Dw
def Dw(a b:Int):=
if decide (a>=0)then
J1 (decide (a<b))
else
J1 false
theorem Qz{a b:Int}{r:Bool}(h:Dw a b=some r):Says prog 211 [si a,si b] (sb r):=by refine kO mix func211 hn ?_;unfold Dw at h;exact walk
end
def Nq:ABu (List Int):=
some [3,3,3,3,3,4,4,4,4,4,5,5,5,6,6,6,7,7,7,8,9,10,11,12,13,14,14,15,16,16,17,17,18,18,19,20,1,1,2,21,22,23,23]
theorem aM{r:iq}(h:Nq=some r):Says prog 175 [] (vO 1 eI r):=by refine kO mix func175 hn ?_;unfold Nq at h;exact walk
def Ku(a:Int):ABu BO:=
some (BO.mk 1 a (⟨#[]⟩:ABv) [])
theorem Qp{a:Int}{r:BO}(h:Ku a=some r):Says prog 189 [si a] (.agg [si r.Op,si r.N,Bq r.di,vS 4 BR r.L]):=by refine kF mix func189 hn ?_;unfold Ku at h;exact walk
def JX(a:ABv):ABu BO:=
some (BO.mk 2 0 a [])
theorem Ui{a:ABv}{r:BO}(h:JX a=some r):Says prog 256 [Bq a] (.agg [si r.Op,si r.N,Bq r.di,vS 4 BR r.L]):=by refine kF mix func256 hn ?_;unfold JX at h;exact walk
def CM(a:Bool):ABu Int:=
if a then
some 7
else
some 0
theorem V5{a:Bool}{r:Int}(h:CM a=some r):Says prog 273 [sb a] (si r):=by refine kO mix func273 hn ?_;unfold CM at h;exact walk
def EV(a:Bool):ABu Int:=
if a then
some 1
else
some 0
theorem Qy{a:Bool}{r:Int}(h:EV a=some r):Says prog 276 [sb a] (si r):=by refine kO mix func276 hn ?_;unfold EV at h;exact walk
def Fm(a b:Int):ABu Int:=
if a != 0 then
some a
else
some b
theorem oU{a b r:Int}(h:Fm a b=some r):Says prog 270 [si a,si b] (si r):=by refine kO mix func270 hn ?_;unfold Fm at h;exact walk
end Go.Abs
