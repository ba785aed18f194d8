/- Typed programs of Go functions, and that the functions do what these say. -/
import Derived.Test.YtdojkofgkcmagaaGreatDoorWalkB
import Derived.Test.YtdojkofgkcmagaaGreatDoorWalkC
set_option linter.defProp false
set_option linter.unusedSimpArgs false
set_option linter.unusedVariables false
namespace Go.Abs
open Go.Proofs Tryz
set_option maxRecDepth 1000000
set_option maxHeartbeats 4000000
namespace FK
def J1(e:Bool):ABu Bool:=
some e
end FK
section
open FK
def FK(b:AF)(a c:Int):=
(Dw a (b.df.length:Int)).bind λf=>
if f then
(gt b.df a).bind λd=>
if d.dz==0 then
if d.B3 != 0 then
J1 (d.B3==c)
else
J1 false
else
J1 false
else
J1 false
def Zv{b:AF}{a c:Int}{r:Bool}(h:FK b a c=some r):Says prog 237 [.agg (Aw b),si a,si c] (sb r):=by refine kO mix func237 (hn [(3,[8,13,22,31])]) ?_;have a1:= @Qz;unfold FK at h;exact walk
end
namespace Gl
def J1(d:Bool):ABu Bool:=
some d
end Gl
section
open Gl
def Gl(b:AF)(a:Int)(c:Bool):=
(Fg a (b.AK.length:Int)).bind λe=>
if e then
(gt b.AK a).bind λf=>
J1 (f.RW==c)
else
J1 false
def UE{b:AF}{a:Int}{c r:Bool}(h:Gl b a c=some r):Says prog 92 [.agg (Aw b),si a,sb c] (sb r):=by refine kO mix func92 (hn [(3,[8,13])]) ?_;have a1:= @UF;unfold Gl at h;exact walk
end
namespace GF
def J1(c:Bool):ABu Bool:=
some c
end GF
section
open GF
def GF(b:AG)(a:Int):=
(MA a (b.db.dc.length:Int)).bind λd=>
if d then
(gt b.db.dc a).bind λe=>
J1 (decide (e>=1))
else
J1 false
def Z7{b:AG}{a:Int}{r:Bool}(h:GF b a=some r):Says prog 102 [.agg (A4 b),si a] (sb r):=by refine kO mix func102 (hn [(2,[6,7,12,13])]) ?_;have a1:= @Wx;unfold GF at h;exact walk
end
namespace Hu
def J1(b:Bool):ABu Bool:=
some b
end Hu
section
open Hu
def Hu(a:Int):=
(Ge a).bind λc=>
if c then
J1 true
else
(Ia a).bind λd=>
if d then
J1 true
else
J1 (a==95)
def Zm{a:Int}{r:Bool}(h:Hu a=some r):Says prog 155 [.sc (.int .u8 a)] (sb r):=by refine kO mix func155 hn ?_;have a1:= @Px;have a2:= @Zk;unfold Hu at h;exact walk
end
def EB(a:AP)(b:ABv):ABu (Bool×AP):=
(Ch a.d6 b).bind λc=>
some (decide (c>=0),a)
def SQ{a:AP}{b:ABv}{r:Bool×AP}(h:EB a b=some r):BB prog 257 [bA 8 (Co a),Bq b] (sb r.1) [bA 8 (Co r.2),.dead]:=by refine kL mix func257 (hn [(0,[5,6,7,8])]) ?_;have a1:= @Ic;unfold EB at h;exact walk
def IF(a:iq):ABu (List Int):=
(slices_Clone_int a).bind λb=>
(MD b).bind λc=>
(slices_Compact c).bind λd=>
some d
def M5{a r:iq}(h:IF a=some r):Says prog 116 [vS 1 eI a] (vO 1 eI r):=by refine kO mix func116 (hn [(3,[6,8])]) ?_;have a1:= @Jv;have a2:= @RH;have a3:= @Ns;unfold IF at h;exact walk
def Ly(b a:Int):ABu (Int×Bool):=
if b==4 then
some (A6 (0-a),true)
else
if b==5 then
(EV (a==0)).bind λc=>
some (c,true)
else
some (0,false)
def Zt{b a:Int}{r:Int×Bool}(h:Ly b a=some r):Says prog 265 [si b,si a] (.BZ [si r.1,sb r.2]):=by refine kO mix func265 hn ?_;have a1:= @Qy;unfold Ly at h;exact walk
def GG(a:iq)(b:Int):ABu Bool:=
(Gh a b).bind λc=>
some (decide (c>=0))
def KR{a:iq}{b:Int}{r:Bool}(h:GG a b=some r):Says prog 167 [vS 1 eI a,si b] (sb r):=by refine kO mix func167 hn ?_;have a1:= @Xx;unfold GG at h;exact walk
end Go.Abs
