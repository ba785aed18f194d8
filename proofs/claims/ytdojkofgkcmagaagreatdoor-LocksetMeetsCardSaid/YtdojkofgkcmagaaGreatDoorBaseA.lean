/- The types of the program, how their values are read, and the library's functions. -/
import Derived.Test.YtdojkofgkcmagaaGreatDoorCoreD
import Derived.Test.YtdojkofgkcmagaaGreatDoorChecked
import Derived.KernelRfl
import Derived.Shelf.Small.Bits
import Derived.Shelf.Strconv.Itoa0
import Derived.Shelf.Sort.Plain
import Derived.Ground.Names2Prog
import Derived.Shelf.Slices.Clone
import Derived.Shelf.Slices.CompactI
import Derived.Shelf.Slices.SearchI
import Derived.Shelf.Slices.Cells
import Derived.Shelf.Slices.In.SortNone
import Derived.Shelf.Slices.Empties
import Derived.Ground.SlgnProg
import Derived.Shelf.SlicesE.Compact
import Derived.Shelf.SlicesE.Clone
import Derived.Ground.SlgfProg
import Derived.Shelf.SlicesE.IndexFunc
import Derived.Shelf.SlicesE.DeleteFunc
import Derived.Test.YtdojkofgkcmagaaGreatDoorProg
import Derived.Lib.SliceRun
import Derived.Shelf.Spec.SlicesGrow
import Derived.JoinedOf
import Derived.SevenTiedAt
set_option linter.defProp false
set_option linter.unusedSimpArgs false
set_option linter.unusedVariables false
namespace Go.Abs
open Go.Proofs
set_option maxRecDepth 1000000
set_option maxHeartbeats 4000000
def mix:Tryz.prog.follows .mixedOrders=true:=by kernel_rfl
@[go_sem]theorem eu:nJ 0 22=some (Mw.map Value.string):=by rfl
structure Du where
 di:ABv
 dz:Int
 B3:Int
 Hk:Bool
 db:Int
 deriving DecidableEq
abbrev mt:=List Du
structure Kj where
 di:ABv
 RW:Bool
 deriving DecidableEq
structure T8 where
 di:ABv
 dm:Int
 deriving DecidableEq
structure EG where
 cr:Int
 ek:Int
 GH:Int
 deriving DecidableEq
abbrev mu:=List EG
structure AF where
 df:List Du
 AK:List Kj
 Ak:List T8
 AL:List ABv
 AA:List ABv
 Be:List EG
 deriving DecidableEq
abbrev kf:=AF->Int->ABu AF
structure AY where
 B9:Int
 An:List Int
 deriving DecidableEq
abbrev ng:=List AY
structure AM where
 dg:Int
 Dy:Int
 dy:Bool
 deriving DecidableEq
abbrev ke:=List AM
abbrev ly:=Int->Int->ABu (Int×(List AM))
abbrev mb:=(List AM)->Int->Int->ABu (Int×(List AM))
structure AQ where
 AK:List AY
 Tx:Int
 Bp:List Bool
 AA:List AM
 deriving DecidableEq
abbrev kr:=AQ×Int×Bool
abbrev ma:=AQ->Int->ABu AQ
structure AD where
 de:AQ
 df:List Int
 AL:List Int
 dc:List Int
 deriving DecidableEq
abbrev jJ:=AD->(List (List Bool))->Int->ABu Bool
abbrev kz:=AD->(List (List Bool))->Int->ABu (Int×Int)
abbrev ls:=AD×Bool
structure AX where
 L:List Int
 At:Int
 deriving DecidableEq
abbrev jr:=Int×AX
abbrev jv:=AX->AD->Int->ABu (AD×AX)
abbrev lc:=AX->(List Int)->Int->ABu ((List Int)×AX)
structure AH where
 cr:Int
 da:Int
 dn:Int
 dh:Int
 d3:Int
 EA:List Int
 DW:List Int
 deriving DecidableEq
abbrev jm:=List AH
abbrev jz:=AX->AD->(List AH)->(List (List Int))->ABu ((List AH)×AX)
abbrev ko:=AX->(List (List Int))->Int->ABu ((List AH)×AX)
structure AG where
 cT:AF
 ej:Int
 db:AD
 AB:List AH
 deriving DecidableEq
structure Ey where
 da:Int
 GH:Int
 di:ABv
 B3:Int
 db:Int
 On:ABv
 deriving DecidableEq
abbrev ml:=List Ey
structure BO where
 Op:Int
 N:Int
 di:ABv
 L:List BO
abbrev my:=BO->ABu (Int×Int)
abbrev nc:=BO->ABu Bool
structure AP where
 t:AX
 Bt:Int
 left:Int
 IQ:Bool
 tx:Bool
 d5:Bool
 ea:Bool
 d6:List ABv
 deriving DecidableEq
abbrev mc:=AP->Int->ABu (BO×AP)
structure AR where
 Op:Int
 GH:Int
 di:ABv
 ep:ABv
 dz:List BO
 dv:BO
 dx:List AR
 d7:List AR
abbrev jk:=AP->Int->Int->ABu ((List AR)×AP)
abbrev ju:=List AR
abbrev jA:=AP->ABv->Int->ABu ((List AR)×AP)
abbrev jK:=(List EG)->Int->Int->(List AR)->ABu ((List EG)×Int)
abbrev j8:=(List AR)->ABu Bool
abbrev lg:=AP->Int->ABu (AR×AP)
abbrev mi:=AP->(List AR)->Int->ABu ((List AR)×AP)
abbrev mz:=(List AR)->ABu Int
structure C7 where
 di:ABv
 GH:Int
 G0:List ABv
 dx:List AR
structure AU where
 d9:List Ey
 AA:List C7
abbrev la:=AP->AU->Int->ABu AU
abbrev lm:=AU->Int->BO->ABu Int
structure BX where
 p:AU
 Bt:Int
 G3:List AR
 NG:List ABv
 aQ:List ABv
abbrev kj:=BX->(List AR)->ABu (Int×Int×BX)
abbrev lv:=Bool×BX
abbrev mh:=BX->Int->ABu (Int×Int×BX)
abbrev nl:=Int->ABu (Bool×BX)
structure Ai where
 Op:Int
 A:Int
 B:Int
 C:Int
 N:Int
 d3:Int
 deriving DecidableEq
abbrev li:=List Ai
structure BL where
 w:AF
 dq:List ABv
 dr:List Ai
 dt:Int
 next:Int
 deriving DecidableEq
abbrev lj:=BL->AR->Int->Int->Int->ABu BL
abbrev lr:=BL->AR->ABu BL
abbrev lx:=BL->List AR->ABu BL
abbrev md:=BL->(List AR)->ABu BL
structure A5 where
 C3:Int
 B8:List Ai
 deriving DecidableEq
structure Bj where
 cT:AF
 AA:List A5
 deriving DecidableEq
abbrev km:=Bj->Int->Int->ABu (Bj×Int×Int)
structure Ao where
 cr:Int
 TD:Int
 deriving DecidableEq
abbrev kv:=List Ao
structure AN where
 PC:Int
 C3:List Int
 Cx:List (List Int)
 AB:Int
 deriving DecidableEq
structure As where
 de:AQ
 df:List Int
 AL:List Int
 AA:List AN
 deriving DecidableEq
abbrev lh:=(List AH)->As->Int->ABu ((List AH)×As)
abbrev nk:=As->Int->ABu As
structure Ca where
 cT:AF
 AB:List AH
 deriving DecidableEq
structure Kk where
 ed:List Int
 GM:List Int
 mA:List Int
 B3:Int
 dW:Int
 deriving DecidableEq
structure Em where
 F6:List Int
 MG:List Int
 deriving DecidableEq
abbrev nf:=List Em
structure Dh where
 d8:Int
 B9:Int
 AK:List Int
 deriving DecidableEq
abbrev nd:=List Dh×List Int
structure FC where
 dh:Int
 Pl:Bool
 deriving DecidableEq
structure Ac where
 de:AQ
 df:List FC
 AL:List FC
 du:List Int
 Ej:List Bool
 Nw:List Int
 deriving DecidableEq
abbrev jy:=Ac->(List Ao)->Int->ABu ((List Ao)×Ac)
abbrev kh:=(List Ao)->Int->ABu ((List Ao)×Ac)
abbrev kn:=(List Ao)×Ac
structure AE where
 w:AG
 eb:List (List Int)
 ef:List Int
 d4:List (List Bool)
 deriving DecidableEq
abbrev jg:=AE->Int->ABu AE
abbrev kx:=(List Int)->Int->ABu AE
abbrev ky:=AE->(List Int)->Int->ABu AE
abbrev lp:=(List Int)->Int->ABu ((List Int)×AE)
abbrev ns:=(List Int)×AE
@[go_sem]def HV(x:Du):List AV:=[Bq x.di,si x.dz,si x.B3,sb x.Hk,si x.db]
@[go_sem]theorem ew(l:mt)(y0:ABv)(y1 y2:Int)(y3:Bool)(y4:Int):l.map HV++[[Bq y0,si y1,si y2,sb y3,si y4]]=(l++[(Du.mk y0 y1 y2 y3 y4)]).map HV:=by simp[HV]
@[go_sem]def IX(x:Kj):List AV:=[Bq x.di,sb x.RW]
@[go_sem]theorem ez(l:List Kj)(y0:ABv)(y1:Bool):l.map IX++[[Bq y0,sb y1]]=(l++[(Kj.mk y0 y1)]).map IX:=by simp[IX]
@[go_sem]def IW(x:T8):List AV:=[Bq x.di,si x.dm]
@[go_sem]theorem e6(l:List T8)(y0:ABv)(y1:Int):l.map IW++[[Bq y0,si y1]]=(l++[(T8.mk y0 y1)]).map IW:=by simp[IW]
@[go_sem]def eS(x:ABv):List AV:=[Bq x]
@[go_sem]theorem e7(l:jf)(y0:ABv):l.map eS++[[Bq y0]]=(l++[y0]).map eS:=by simp[eS]
@[go_sem]def Gu(x:EG):List AV:=[si x.cr,si x.ek,si x.GH]
@[go_sem]theorem e8(l:mu)(y0 y1 y2:Int):l.map Gu++[[si y0,si y1,si y2]]=(l++[(EG.mk y0 y1 y2)]).map Gu:=by simp[Gu]
@[go_sem]def Aw(x:AF):List AV:=[vS 5 HV x.df,vS 2 IX x.AK,vS 2 IW x.Ak,vS 1 eS x.AL,vS 1 eS x.AA,vS 3 Gu x.Be]
@[go_sem]def Mc(x:AF):List AV:=[vO 5 HV x.df,vO 2 IX x.AK,vO 2 IW x.Ak,vO 1 eS x.AL,vO 1 eS x.AA,vO 3 Gu x.Be]
@[go_sem]def eI(x:Int):List AV:=[si x]
@[go_sem]theorem fa(l:iq)(y0:Int):l.map eI++[[si y0]]=(l++[y0]).map eI:=by simp[eI]
@[go_sem]theorem fb(l:iq)(i:Nat)(y0:Int):(l.map eI).set i [si y0]=(l.set i y0).map eI:=by simp[eI,ABI]
@[go_sem]theorem fc(n:Nat)(y0:Int):List.replicate n [si y0]=(List.replicate n y0).map eI:=by simp[eI]
@[go_sem]def C9(x:AY):List AV:=[si x.B9,vS 1 eI x.An]
@[go_sem]def eB(x:Bool):List AV:=[sb x]
@[go_sem]theorem fe(l:jD)(y0:Bool):l.map eB++[[sb y0]]=(l++[y0]).map eB:=by simp[eB]
@[go_sem]theorem ff(l:jD)(i:Nat)(y0:Bool):(l.map eB).set i [sb y0]=(l.set i y0).map eB:=by simp[eB,ABI]
@[go_sem]theorem fg(n:Nat)(y0:Bool):List.replicate n [sb y0]=(List.replicate n y0).map eB:=by simp[eB]
@[go_sem]def Ap(x:AM):List AV:=[si x.dg,si x.Dy,sb x.dy]
@[go_sem]theorem fh(l:ke)(y0 y1:Int)(y2:Bool):l.map Ap++[[si y0,si y1,sb y2]]=(l++[(AM.mk y0 y1 y2)]).map Ap:=by simp[Ap]
@[go_sem]theorem fj(l:ke)(i:Nat)(y0 y1:Int)(y2:Bool):(l.map Ap).set i [si y0,si y1,sb y2]=(l.set i (AM.mk y0 y1 y2)).map Ap:=by simp[Ap,ABI]
@[go_sem]def He(x:AQ):List AV:=[vS 2 C9 x.AK,si x.Tx,vS 1 eB x.Bp,vS 3 Ap x.AA]
@[go_sem]def Bf(x:AY):List AV:=[si x.B9,vO 1 eI x.An]
@[go_sem]theorem fk(l:ng)(y0:Int)(y1:iq):l.map Bf++[[si y0,vO 1 eI y1]]=(l++[(AY.mk y0 y1)]).map Bf:=by simp[Bf]
@[go_sem]theorem fm(l:ng)(i:Nat)(y0:Int)(y1:iq):(l.map Bf).set i [si y0,vO 1 eI y1]=(l.set i (AY.mk y0 y1)).map Bf:=by simp[Bf,ABI]
@[go_sem]theorem wM(l:ng)(i:Nat)(y0 y1:Int):(l.map Bf).set i [si y0,.own false 1 [[si y1]]]=(l.set i (AY.mk y0 [y1])).map Bf:=by simp[Bf,eI,ABI,vS,vO]
@[go_sem]theorem fo(l:ng)(y0:Int):l.map Bf++[[si y0,.own false 1 []]]=(l++[(AY.mk y0 [])]).map Bf:=by simp[Bf,vS,vO]
@[go_sem]theorem fq(n:Nat)(y0:Int):List.replicate n [si y0,.own false 1 []]=(List.replicate n (AY.mk y0 [])).map Bf:=by simp[Bf,vS,vO]
@[go_sem]theorem ft(l:ng):Mt (l.map Bf)=l.map C9:=by induction l with|nil=>rfl|cons x l ih=>simp only[AAm,Mt,ih,go_sem,Bf,C9]
@[go_sem]def JB(x:AQ):List AV:=[vO 2 Bf x.AK,si x.Tx,vO 1 eB x.Bp,vO 3 Ap x.AA]
@[go_sem]def BQ(x:AD):List AV:=[vS 2 C9 x.de.AK,si x.de.Tx,vS 1 eB x.de.Bp,vS 3 Ap x.de.AA,vS 1 eI x.df,vS 1 eI x.AL,vS 1 eI x.dc]
@[go_sem]def Ii(x:AD):List AV:=[vO 2 Bf x.de.AK,si x.de.Tx,vO 1 eB x.de.Bp,vO 3 Ap x.de.AA,vO 1 eI x.df,vO 1 eI x.AL,vO 1 eI x.dc]
@[go_sem]def iX(x:Int):List AV:=[.sc (.int .u8 x)]
@[go_sem]def GO(x:AX):List AV:=[vS 1 iX x.L,si x.At]
@[go_sem]def bJ(x:iq):List AV:=[vS 1 eI x]
@[go_sem]theorem fv(l:jb)(i:Nat)(y0:iq):(l.map bJ).set i [vS 1 eI y0]=(l.set i y0).map bJ:=by simp[bJ,ABI]
@[go_sem]theorem fw(l:jb)(i:Nat)(y0:Int):(l.map bJ).set i [.sl false 1 [[si y0]]]=(l.set i [y0]).map bJ:=by simp[bJ,eI,ABI,vS,vO]
@[go_sem]theorem fy(l:jb)(i:Nat):(l.map bJ).set i [.sl false 1 []]=(l.set i []).map bJ:=by simp[bJ,ABI,vS,vO]
@[go_sem]theorem ga(n:Nat):List.replicate n [.sl false 1 []]=(List.replicate n []).map bJ:=by simp[bJ,vS,vO]
@[go_sem]def N6(x:iq):List AV:=[vO 1 eI x]
@[go_sem]theorem gb(l:jb)(y0:iq):l.map N6++[[vO 1 eI y0]]=(l++[y0]).map N6:=by simp[N6]
@[go_sem]theorem gc(l:jb)(i:Nat)(y0:iq):(l.map N6).set i [vO 1 eI y0]=(l.set i y0).map N6:=by simp[N6,ABI]
@[go_sem]theorem gd(n:Nat):List.replicate n [.own false 1 []]=(List.replicate n []).map N6:=by simp[N6,vS,vO]
@[go_sem]theorem gf(l:jb):Mt (l.map N6)=l.map bJ:=by induction l with|nil=>rfl|cons x l ih=>simp only[AAm,Mt,ih,go_sem,N6,bJ]
@[go_sem]def A7(x:AH):List AV:=[si x.cr,si x.da,si x.dn,si x.dh,si x.d3,vS 1 eI x.EA,vS 1 eI x.DW]
@[go_sem]theorem gh(l:jm)(y0 y1 y2 y3 y4:Int)(y5 y6:iq):l.map A7++[[si y0,si y1,si y2,si y3,si y4,vS 1 eI y5,vS 1 eI y6]]=(l++[(AH.mk y0 y1 y2 y3 y4 y5 y6)]).map A7:=by simp[A7]
@[go_sem]def I1(x:AH):List AV:=[si x.cr,si x.da,si x.dn,si x.dh,si x.d3,vO 1 eI x.EA,vO 1 eI x.DW]
@[go_sem]theorem gi(l:jm)(y0 y1 y2 y3 y4:Int):l.map I1++[[si y0,si y1,si y2,si y3,si y4,.own false 1 [],.own false 1 []]]=(l++[(AH.mk y0 y1 y2 y3 y4 [] [])]).map I1:=by simp[I1,vS,vO]
@[go_sem]theorem gj(l:jm):Mt (l.map I1)=l.map A7:=by induction l with|nil=>rfl|cons x l ih=>simp only[AAm,Mt,ih,go_sem,I1,A7]
@[go_sem]def A4(x:AG):List AV:=[vS 5 HV x.cT.df,vS 2 IX x.cT.AK,vS 2 IW x.cT.Ak,vS 1 eS x.cT.AL,vS 1 eS x.cT.AA,vS 3 Gu x.cT.Be,si x.ej,vS 2 C9 x.db.de.AK,si x.db.de.Tx,vS 1 eB x.db.de.Bp,vS 3 Ap x.db.de.AA,vS 1 eI x.db.df,vS 1 eI x.db.AL,vS 1 eI x.db.dc,vS 7 A7 x.AB]
@[go_sem]def Kq(x:Ey):List AV:=[si x.da,si x.GH,Bq x.di,si x.B3,si x.db,Bq x.On]
mutual
def BR:BO->List AV
 |⟨y0,y1,y2,y3⟩=>[si y0,si y1,Bq y2,.sl false 4 (iN y3)]
def iN:List BO->List (List AV)
 |[]=>[]
 |x::l=>BR x::iN l
end
def eExpr_m(l:List BO):iN l=l.map BR:=by induction l<;>simp[iN, *]
@[go_sem]theorem gk(x:BO):BR x=[si x.Op,si x.N,Bq x.di,vS 4 BR x.L]:=by cases x;simp[BR,eExpr_m]
@[go_sem]theorem gm(x:BO):BO.mk x.Op x.N x.di x.L=x:=by cases x;rfl
@[go_sem]def Co(x:AP):List AV:=[bA 2 [vS 1 iX x.t.L,si x.t.At],si x.Bt,si x.left,sb x.IQ,sb x.tx,sb x.d5,sb x.ea,vO 1 eS x.d6]
mutual
def BJ:AR->List AV
 |⟨y0,y1,y2,y3,y4,y5,y6,y7⟩=>[si y0,si y1,Bq y2,Bq y3,vS 4 BR y4,si y5.Op,si y5.N,Bq y5.di,vS 4 BR y5.L,.sl false 11 (Yw y6),.sl false 11 (Yw y7)]
def Yw:List AR->List (List AV)
 |[]=>[]
 |x::l=>BJ x::Yw l
end
def eStmt_m(l:ju):Yw l=l.map BJ:=by induction l<;>simp[Yw, *]
@[go_sem]theorem iR(x:AR):BJ x=[si x.Op,si x.GH,Bq x.di,Bq x.ep,vS 4 BR x.dz,si x.dv.Op,si x.dv.N,Bq x.dv.di,vS 4 BR x.dv.L,vS 11 BJ x.dx,vS 11 BJ x.d7]:=by cases x;simp[BJ,eStmt_m]
@[go_sem]theorem gn(x:AR):AR.mk x.Op x.GH x.di x.ep x.dz x.dv x.dx x.d7=x:=by cases x;rfl
@[go_sem]theorem go(l:ju)(y0 y1:Int)(y2 y3:ByteArray)(y4:List BO)(y5 y6:Int)(y7:ByteArray)(y8:List BO)(y9 y10:ju):l.map BJ++[[si y0,si y1,Bq y2,Bq y3,vS 4 BR y4,si y5,si y6,Bq y7,vS 4 BR y8,vS 11 BJ y9,vS 11 BJ y10]]=(l++[(AR.mk y0 y1 y2 y3 y4 (BO.mk y5 y6 y7 y8) y9 y10)]).map BJ:=by simp[iR]
@[go_sem]theorem gp(l:ju)(i:Nat)(y0 y1:Int)(y2 y3:ByteArray)(y4:List BO)(y5 y6:Int)(y7:ByteArray)(y8:List BO)(y9 y10:ju):(l.map BJ).set i [si y0,si y1,Bq y2,Bq y3,vS 4 BR y4,si y5,si y6,Bq y7,vS 4 BR y8,vS 11 BJ y9,vS 11 BJ y10]=(l.set i (AR.mk y0 y1 y2 y3 y4 (BO.mk y5 y6 y7 y8) y9 y10)).map BJ:=by simp[iR,List.map_set]
@[go_sem]theorem gq(l:ju)(y0 y1:Int)(y2 y3:ByteArray)(y5 y6:Int)(y7:ByteArray):l.map BJ++[[si y0,si y1,Bq y2,Bq y3,.sl false 4 [],si y5,si y6,Bq y7,.sl false 4 [],.sl false 11 [],.sl false 11 []]]=(l++[(AR.mk y0 y1 y2 y3 [] (BO.mk y5 y6 y7 []) [] [])]).map BJ:=by simp[iR,vS,vO]
@[go_sem]def JU(x:C7):List AV:=[Bq x.di,si x.GH,vS 1 eS x.G0,vS 11 BJ x.dx]
@[go_sem]theorem gr(l:List C7)(y0:ByteArray)(y1:Int)(y2:List ByteArray)(y3:ju):l.map JU++[[Bq y0,si y1,vS 1 eS y2,vS 11 BJ y3]]=(l++[(C7.mk y0 y1 y2 y3)]).map JU:=by simp[JU]
@[go_sem]def Cf(x:AU):List AV:=[vS 6 Kq x.d9,vS 4 JU x.AA]
@[go_sem]def Hx(x:BX):List AV:=[vS 6 Kq x.p.d9,vS 4 JU x.p.AA,si x.Bt,vO 11 BJ x.G3,vO 1 eS x.NG,vO 1 eS x.aQ]
@[go_sem]def nH(x:C7):List AV:=[Bq x.di,si x.GH,vO 1 eS x.G0,vO 11 BJ x.dx]
@[go_sem]def Ed(x:Ai):List AV:=[si x.Op,si x.A,si x.B,si x.C,si x.N,si x.d3]
@[go_sem]theorem gu(l:li)(y0 y1 y2 y3 y4 y5:Int):l.map Ed++[[si y0,si y1,si y2,si y3,si y4,si y5]]=(l++[(Ai.mk y0 y1 y2 y3 y4 y5)]).map Ed:=by simp[Ed]
@[go_sem]theorem gv(l:li)(i:Nat)(y0 y1 y2 y3 y4 y5:Int):(l.map Ed).set i [si y0,si y1,si y2,si y3,si y4,si y5]=(l.set i (Ai.mk y0 y1 y2 y3 y4 y5)).map Ed:=by simp[Ed,List.map_set]
@[go_sem]def egen(x:BL):List AV:=[vS 5 HV x.w.df,vS 2 IX x.w.AK,vS 2 IW x.w.Ak,vS 1 eS x.w.AL,vS 1 eS x.w.AA,vS 3 Gu x.w.Be,vS 1 eS x.dq,vS 6 Ed x.dr,si x.dt,si x.next]
@[go_sem]def El(x:BL):List AV:=[vS 5 HV x.w.df,vS 2 IX x.w.AK,vS 2 IW x.w.Ak,vS 1 eS x.w.AL,vS 1 eS x.w.AA,vS 3 Gu x.w.Be,vS 1 eS x.dq,vO 6 Ed x.dr,si x.dt,si x.next]
@[go_sem]def Cz(x:A5):List AV:=[si x.C3,vS 6 Ed x.B8]
@[go_sem]theorem gx(l:List A5)(y0:Int)(y1:li):l.map Cz++[[si y0,vS 6 Ed y1]]=(l++[(A5.mk y0 y1)]).map Cz:=by simp[Cz]
@[go_sem]def KV(x:Bj):List AV:=[vS 5 HV x.cT.df,vS 2 IX x.cT.AK,vS 2 IW x.cT.Ak,vS 1 eS x.cT.AL,vS 1 eS x.cT.AA,vS 3 Gu x.cT.Be,vS 2 Cz x.AA]
@[go_sem]def HD(x:Ao):List AV:=[si x.cr,si x.TD]
@[go_sem]theorem gy(l:kv)(y0 y1:Int):l.map HD++[[si y0,si y1]]=(l++[(Ao.mk y0 y1)]).map HD:=by simp[HD]
@[go_sem]def Fh(x:AN):List AV:=[si x.PC,vS 1 eI x.C3,vS 1 bJ x.Cx,si x.AB]
@[go_sem]def LO(x:As):List AV:=[vS 2 C9 x.de.AK,si x.de.Tx,vS 1 eB x.de.Bp,vS 3 Ap x.de.AA,vS 1 eI x.df,vS 1 eI x.AL,vS 4 Fh x.AA]
@[go_sem]def CL(x:AN):List AV:=[si x.PC,vO 1 eI x.C3,vO 1 bJ x.Cx,si x.AB]
@[go_sem]theorem zY(l:List AN)(y0:Int)(y1:iq)(y2:jb)(y3:Int):l.map CL++[[si y0,vO 1 eI y1,vO 1 bJ y2,si y3]]=(l++[(AN.mk y0 y1 y2 y3)]).map CL:=by simp[CL]
@[go_sem]theorem zX(l:List AN)(i:Nat)(y0:Int)(y1:iq)(y2:jb)(y3:Int):(l.map CL).set i [si y0,vO 1 eI y1,vO 1 bJ y2,si y3]=(l.set i (AN.mk y0 y1 y2 y3)).map CL:=by simp[CL,List.map_set]
@[go_sem]theorem zW(l:List AN):Mt (l.map CL)=l.map Fh:=by induction l with|nil=>rfl|cons x l ih=>simp only[List.map_cons,Mt,ih,go_sem,CL,Fh]
@[go_sem]def Na(x:As):List AV:=[vO 2 Bf x.de.AK,si x.de.Tx,vO 1 eB x.de.Bp,vO 3 Ap x.de.AA,vO 1 eI x.df,vO 1 eI x.AL,vO 4 CL x.AA]
@[go_sem]def TP(x:Ca):List AV:=[vS 5 HV x.cT.df,vS 2 IX x.cT.AK,vS 2 IW x.cT.Ak,vS 1 eS x.cT.AL,vS 1 eS x.cT.AA,vS 3 Gu x.cT.Be,vS 7 A7 x.AB]
@[go_sem]def iT(x:Ca):List AV:=[vS 5 HV x.cT.df,vS 2 IX x.cT.AK,vS 2 IW x.cT.Ak,vS 1 eS x.cT.AL,vS 1 eS x.cT.AA,vS 3 Gu x.cT.Be,vO 7 A7 x.AB]
@[go_sem]def Lp(x:AG):List AV:=[vS 5 HV x.cT.df,vS 2 IX x.cT.AK,vS 2 IW x.cT.Ak,vS 1 eS x.cT.AL,vS 1 eS x.cT.AA,vS 3 Gu x.cT.Be,si x.ej,vO 2 Bf x.db.de.AK,si x.db.de.Tx,vO 1 eB x.db.de.Bp,vO 3 Ap x.db.de.AA,vO 1 eI x.db.df,vO 1 eI x.db.AL,vO 1 eI x.db.dc,vS 7 A7 x.AB]
@[go_sem]theorem gJ(l:List AG)(y0:mt)(y1:List Kj)(y2:List T8)(y3 y4:List ByteArray)(y5:mu)(y6:Int)(y7:ng)(y8:Int)(y9:jD)(y10:ke)(y11 y12 y13:iq)(y14:jm):l.map Lp++[[vS 5 HV y0,vS 2 IX y1,vS 2 IW y2,vS 1 eS y3,vS 1 eS y4,vS 3 Gu y5,si y6,vO 2 Bf y7,si y8,vO 1 eB y9,vO 3 Ap y10,vO 1 eI y11,vO 1 eI y12,vO 1 eI y13,vS 7 A7 y14]]=(l++[(AG.mk (AF.mk y0 y1 y2 y3 y4 y5) y6 (AD.mk (AQ.mk y7 y8 y9 y10) y11 y12 y13) y14)]).map Lp:=by simp[Lp]
@[go_sem]theorem gT(l:List AG):Mt (l.map Lp)=l.map A4:=by induction l with|nil=>rfl|cons x l ih=>simp only[List.map_cons,Mt,ih,go_sem,Lp,A4]
@[go_sem]def Yx(x:Kk):List AV:=[vS 1 iX x.ed,vS 1 iX x.GM,vS 1 iX x.mA,.sc (.int .u8 x.B3),.sc (.int .u8 x.dW)]
@[go_sem]def UJ(x:jD):List AV:=[vO 1 eB x]
@[go_sem]theorem ia(l:jp)(y0:jD):l.map UJ++[[vO 1 eB y0]]=(l++[y0]).map UJ:=by simp[UJ]
@[go_sem]theorem ib(l:jp)(i:Nat)(y0:jD):(l.map UJ).set i [vO 1 eB y0]=(l.set i y0).map UJ:=by simp[UJ,List.map_set]
@[go_sem]def NZ(x:Em):List AV:=[vS 1 eI x.F6,vS 1 eI x.MG]
@[go_sem]theorem ie(l:nf)(i:Nat)(y0 y1:iq):(l.map NZ).set i [vS 1 eI y0,vS 1 eI y1]=(l.set i (Em.mk y0 y1)).map NZ:=by simp[NZ,List.map_set]
@[go_sem]theorem ig(n:Nat):List.replicate n [.sl false 1 [],.sl false 1 []]=(List.replicate n (Em.mk [] [])).map NZ:=by simp[NZ,vS,vO]
@[go_sem]def X9(x:Dh):List AV:=[si x.d8,si x.B9,vS 1 eI x.AK]
@[go_sem]def Hm(x:FC):List AV:=[si x.dh,sb x.Pl]
@[go_sem]theorem ii(l:List FC)(y0:Int)(y1:Bool):l.map Hm++[[si y0,sb y1]]=(l++[(FC.mk y0 y1)]).map Hm:=by simp[Hm]
@[go_sem]theorem ij(l:List FC)(i:Nat)(y0:Int)(y1:Bool):(l.map Hm).set i [si y0,sb y1]=(l.set i (FC.mk y0 y1)).map Hm:=by simp[Hm,List.map_set]
@[go_sem]def IH(x:Ac):List AV:=[vS 2 C9 x.de.AK,si x.de.Tx,vS 1 eB x.de.Bp,vS 3 Ap x.de.AA,vS 2 Hm x.df,vS 2 Hm x.AL,vS 1 eI x.du,vS 1 eB x.Ej,vS 1 eI x.Nw]
@[go_sem]def OU(x:Ac):List AV:=[vO 2 Bf x.de.AK,si x.de.Tx,vO 1 eB x.de.Bp,vO 3 Ap x.de.AA,vO 2 Hm x.df,vO 2 Hm x.AL,vO 1 eI x.du,vO 1 eB x.Ej,vO 1 eI x.Nw]
@[go_sem]def Bh(x:AE):List AV:=[vS 5 HV x.w.cT.df,vS 2 IX x.w.cT.AK,vS 2 IW x.w.cT.Ak,vS 1 eS x.w.cT.AL,vS 1 eS x.w.cT.AA,vS 3 Gu x.w.cT.Be,si x.w.ej,vS 2 C9 x.w.db.de.AK,si x.w.db.de.Tx,vS 1 eB x.w.db.de.Bp,vS 3 Ap x.w.db.de.AA,vS 1 eI x.w.db.df,vS 1 eI x.w.db.AL,vS 1 eI x.w.db.dc,vS 7 A7 x.w.AB,vO 1 N6 x.eb,vO 1 eI x.ef,vO 1 UJ x.d4]
@[go_sem]theorem ik(n:Nat):(List.replicate n ([]:List Bool)).map UJ=(List.replicate n ([]:List Int)).map N6:=by simp[UJ,N6]
abbrev z0:List AV:=[.own false 2 [],si 0,.own false 1 [],.own false 3 [],.own false 1 [],.own false 1 [],.own false 1 []]
abbrev z1:List AV:=[si 0,si 0,Bq ⟨#[]⟩,Bq ⟨#[]⟩,.own false 4 [],si 0,si 0,Bq ⟨#[]⟩,.own false 4 [],.own false 11 [],.own false 11 []]
abbrev z2:List AV:=[.own false 5 [],.own false 2 [],.own false 2 [],.own false 1 [],.own false 1 [],.own false 3 [],si 0,.own false 2 [],si 0,.own false 1 [],.own false 3 [],.own false 1 [],.own false 1 [],.own false 1 [],.own false 7 []]
abbrev z3:List AV:=[si 0,si 0,si 0,si 0,si 0,.own false 1 [],.own false 1 []]
abbrev z4:List AV:=[.own false 2 [],si 0,.own false 1 [],.own false 3 [],.own false 1 [],.own false 1 [],.own false 4 []]
abbrev z5:List AV:=[.own false 2 [],si 0,.own false 1 [],.own false 3 []]
abbrev z6:List AV:=[si 0,si 0,Bq ⟨#[]⟩,Bq ⟨#[]⟩,.sl false 4 [],si 0,si 0,Bq ⟨#[]⟩,.sl false 4 [],.sl false 11 [],.sl false 11 []]
abbrev z7:List AV:=[.own false 2 [],si 0,.own false 1 [],.own false 3 [],.own false 2 [],.own false 2 [],.own false 1 [],.own false 1 [],.own false 1 []]
abbrev z8:List AV:=[.own false 5 [],.own false 2 [],.own false 2 [],.own false 1 [],.own false 1 [],.own false 3 []]
abbrev z9:List AV:=[si 0,.own false 1 [],.own false 1 [],si 0]
abbrev z10:List AV:=[.own false 5 [],.own false 2 [],.own false 2 [],.own false 1 [],.own false 1 [],.own false 3 [],.own false 2 []]
abbrev z11:List AV:=[Bq ⟨#[]⟩,si 0,.own false 1 [],.own false 11 []]
abbrev z12:List AV:=[.sl false 5 [],.sl false 2 [],.sl false 2 [],.sl false 1 [],.sl false 1 [],.sl false 3 [],.own false 7 []]
abbrev z13:List AV:=[.sl false 2 [],si 0,.sl false 1 [],.sl false 3 [],.sl false 1 [],.sl false 1 [],.sl false 4 []]
abbrev z14:List AV:=[.own false 6 [],.own false 4 []]
abbrev z15:List AV:=[.own false 1 []]
abbrev z16:List (List AV):=[[Bq ⟨#[109,97,105,110]⟩],[Bq ⟨#[116,49]⟩],[Bq ⟨#[116,50]⟩],[Bq ⟨#[116,51]⟩]]
abbrev z17:List AV:=[si 0,si 0,si 0,si 0,si 0,si 0]
abbrev z18:List AV:=[.own false 1 [],.own false 1 []]
abbrev z19:List AV:=[.sc (.pointer none),si 0,si 0,sb false,sb false,sb false,sb false,.own false 1 []]
abbrev z20:List AV:=[si 0,si 0,Bq ⟨#[]⟩,.own false 4 []]
abbrev z21:List AV:=[.own false 2 []]
abbrev z22:List AV:=[si 0,si 0,si 0,sb false]
attribute [go_sem] z0 z1 z2 z3 z4 z5 z6 z7 z8 z9 z10 z11 z12 z13 z14 z15 z16 z17 z18 z19 z20 z21 z22
def y0:Y:=⟨[si 0],.i .i64⟩
def y1:Y:=⟨z15,.l 1 8 [si 0]⟩
def y2:Y:=⟨z3,.s [0,0,0,0,0,0,0] []⟩
def y3:Y:=⟨z2,.s [6,0,7,0] []⟩
def y4:Y:=⟨z8,.s [0,0,0,0,0,0] []⟩
def y5:Y:=⟨z0,.s [4,0,0,0] []⟩
def y6:Y:=⟨z5,.s [0,0,0,0] []⟩
def y7:Y:=⟨[.own false 7 []],.l 7 88 z3⟩
def y8:Y:=⟨z15,.l 1 16 [Bq ⟨#[]⟩]⟩
def y9:Y:=⟨[Bq ⟨#[]⟩],.t⟩
def y10:Y:=⟨z1,.s [0,0,0,0,0,4,0,0] []⟩
def y11:Y:=⟨z17,.s [0,0,0,0,0,0] [1,1,1,1,1,1]⟩
def y12:Y:=⟨z20,.s [0,0,0,0] []⟩
def y13:Y:=⟨z21,.l 2 32 [si 0,.own false 1 []]⟩
def y14:Y:=⟨[.own false 3 []],.l 3 24 [si 0,si 0,sb false]⟩
def y15:Y:=⟨[si 0,si 0,sb false],.s [0,0,0] [1,1,0]⟩
def y16:Y:=⟨z14,.s [0,0] []⟩
def y17:Y:=⟨z7,.s [4,0,0,0,0,0] []⟩
def y18:Y:=⟨[sb false],.b⟩
def y19:Y:=⟨z9,.s [0,0,0,0] []⟩
def y20:Y:=⟨z21,.l 2 24 [Bq ⟨#[]⟩,sb false]⟩
def y21:Y:=⟨z15,.l 1 1 [sb false]⟩
def y22:Y:=⟨[.own false 5 []],.l 5 48 [Bq ⟨#[]⟩,si 0,si 0,sb false,si 0]⟩
def y23:Y:=⟨[si 0,.own false 1 []],.s [0,0] []⟩
def y24:Y:=⟨z15,.l 1 24 z15⟩
def y25:Y:=⟨z21,.l 2 24 [Bq ⟨#[]⟩,si 0]⟩
def y26:Y:=⟨[Bq ⟨#[]⟩,si 0,si 0,sb false,si 0],.s [0,0,0,0,0] [2,1,1,0,1]⟩
def y27:Y:=⟨[si 0,si 0,Bq ⟨#[]⟩,si 0,si 0,Bq ⟨#[]⟩],.s [0,0,0,0,0,0] [1,1,2,1,1,2]⟩
def y28:Y:=⟨[.own false 11 []],.l 11 176 z1⟩
def y29:Y:=⟨z4,.s [4,0,0,0] []⟩
def y30:Y:=⟨z10,.s [6,0] []⟩
def y31:Y:=⟨[.own false 6 []],.l 6 48 z17⟩
def y32:Y:=⟨[.own false 4 []],.l 4 72 z11⟩
def y33:Y:=⟨[.own false 5 [],.own false 2 [],.own false 2 [],.own false 1 [],.own false 1 [],.own false 3 [],.own false 1 [],.own false 6 [],si 0,si 0],.s [6,0,0,0,0] []⟩
def y34:Y:=⟨[.sc (.pointer none)],.o⟩
def y35:Y:=⟨[.own false 5 [],.own false 2 [],.own false 2 [],.own false 1 [],.own false 1 [],.own false 3 [],.own false 7 []],.s [6,0] []⟩
def y36:Y:=⟨[.own false 4 []],.l 4 56 z20⟩
def y37:Y:=⟨[.own false 3 []],.l 3 24 [si 0,si 0,si 0]⟩
def y38:Y:=⟨[.own false 1 [],.own false 1 [],.own false 1 [],.sc (.int .u8 0),.sc (.int .u8 0)],.s [0,0,0,0,0] []⟩
def y39:Y:=⟨[.own false 5 [],.own false 2 [],.own false 2 [],.own false 1 [],.own false 1 [],.own false 3 [],si 0,.own false 2 [],si 0,.own false 1 [],.own false 3 [],.own false 1 [],.own false 1 [],.own false 1 [],.own false 7 [],.own false 1 [],.own false 1 [],.own false 1 []],.s [15,0,0,0] []⟩
def y40:Y:=⟨[si 0,si 0,.own false 1 []],.s [0,0,0] []⟩
def y41:Y:=⟨[.own false 6 []],.l 6 64 [si 0,si 0,Bq ⟨#[]⟩,si 0,si 0,Bq ⟨#[]⟩]⟩
def y42:Y:=⟨z19,.s [0,0,0,0,0,0,0,0] []⟩
def y43:Y:=⟨z21,.l 2 32 [si 0,.own false 6 []]⟩
def y44:Y:=⟨z21,.l 2 16 [si 0,sb false]⟩
def y45:Y:=⟨z11,.s [0,0,0,0] []⟩
def y46:Y:=⟨z18,.s [0,0] []⟩
def y47:Y:=⟨[si 0,.own false 6 []],.s [0,0] []⟩
def y48:Y:=⟨z15,.l 1 1 [.sc (.int .u8 0)]⟩
def y49:Y:=⟨[si 0,si 0,si 0],.s [0,0,0] [1,1,1]⟩
def y50:Y:=⟨[Bq ⟨#[]⟩,si 0],.s [0,0] [2,1]⟩
def y51:Y:=⟨[.own false 4 []],.l 4 64 z9⟩
def y52:Y:=⟨z21,.l 2 48 z18⟩
def y53:Y:=⟨[.sc (.int .u8 0)],.i .u8⟩
def y54:Y:=⟨z21,.l 2 16 [si 0,si 0]⟩
def y55:Y:=⟨[.own false 4 []],.l 4 32 z22⟩
def y56:Y:=⟨[Bq ⟨#[]⟩,sb false],.s [0,0] [2,0]⟩
def y57:Y:=⟨[si 0,sb false],.s [0,0] [1,0]⟩
def y58:Y:=⟨[.own false 15 []],.l 15 328 z2⟩
def y59:Y:=⟨[si 0,si 0],.s [0,0] [1,1]⟩
def y60:Y:=⟨[.own false 6 [],.own false 4 [],si 0,.own false 11 [],.own false 1 [],.own false 1 []],.s [2,0,0,0,0] []⟩
def y61:Y:=⟨[.own false 1 [],si 0],.s [0,0] []⟩
def y62:Y:=⟨z22,.s [0,0,0,0] [1,1,1,0]⟩
def y63:Y:=⟨[.own false 4 []],.l 4 80 z5⟩
def y64:Y:=⟨z18,.a 2 1 false⟩
def y65:Y:=⟨[sb false,sb false],.a 2 1 false⟩
def y66:Y:=⟨[Bq ⟨#[]⟩,Bq ⟨#[]⟩,Bq ⟨#[]⟩,Bq ⟨#[]⟩,Bq ⟨#[]⟩,Bq ⟨#[]⟩,Bq ⟨#[]⟩,Bq ⟨#[]⟩,Bq ⟨#[]⟩,Bq ⟨#[]⟩,Bq ⟨#[]⟩,Bq ⟨#[]⟩,Bq ⟨#[]⟩,Bq ⟨#[]⟩,Bq ⟨#[]⟩,Bq ⟨#[]⟩,Bq ⟨#[]⟩,Bq ⟨#[]⟩,Bq ⟨#[]⟩,Bq ⟨#[]⟩,Bq ⟨#[]⟩,Bq ⟨#[]⟩],.a 22 1 false⟩
def tt:List (Nat×Y):=[(3,y0),(38,y1),(68,y2),(43,y3),(31,y4),(40,y5),(36,y6),(41,y7),(28,y8),(9,y9),(2,y0),(258,y10),(248,y11),(37,y1),(256,y12),(32,y13),(34,y14),(153,y15),(203,y16),(55,y17),(4,y18),(235,y19),(26,y20),(33,y21),(25,y22),(155,y23),(76,y24),(27,y25),(168,y26),(287,y27),(240,y28),(134,y29),(139,y30),(229,y31),(201,y32),(244,y33),(125,y34),(239,y34),(81,y35),(254,y36),(29,y37),(24,y38),(120,y39),(99,y40),(64,y24),(200,y41),(252,y42),(84,y0),(137,y43),(53,y44),(242,y45),(62,y46),(231,y47),(22,y48),(164,y49),(149,y50),(250,y34),(132,y51),(49,y52),(5,y53),(52,y54),(115,y55),(158,y56),(181,y57),(83,y58),(105,y59),(284,y60),(121,y34),(127,y61),(118,y62),(282,y34),(94,y63),(159,y64),(262,y65),(293,y66)]
def cc:List (Nat×Nat):=[(15,1),(20,1),(21,1),(23,1),(27,2),(31,2),(32,2),(37,2),(38,2),(40,1),(41,1),(42,1),(55,1),(57,1),(58,1),(59,1),(60,1),(61,1),(62,1),(63,2),(64,1),(75,3),(76,1),(77,2),(81,1),(84,2),(85,3),(86,1),(87,1),(89,2),(90,2),(96,2),(97,1),(106,2),(109,2),(110,1),(111,2),(112,1),(113,1),(115,1),(116,2),(117,1),(118,2),(119,2),(120,2),(122,2),(130,2),(135,2),(139,1),(140,1),(150,2),(151,2),(152,2),(156,1),(159,2),(160,2),(161,2),(162,2),(163,2),(164,2),(165,2),(166,2),(170,3),(175,2),(180,1),(182,1),(185,2),(188,1),(189,1),(198,2),(200,3),(208,2),(221,3),(242,3),(243,3),(255,1),(256,1)]
def ll:List (Nat×Nat×Option Nat):=[(79,0,none),(82,0,none),(83,0,none),(125,0,none),(126,0,none),(127,0,none),(128,0,none),(129,0,none),(132,0,none),(133,0,none),(169,0,none),(173,0,none),(174,0,none),(176,0,none),(177,0,none),(183,0,none),(184,0,none),(187,0,none),(219,0,none),(222,0,none),(223,0,none),(249,0,none),(250,0,none),(251,0,none),(252,0,none),(253,0,none),(254,0,none),(257,0,none),(258,0,none),(269,0,none)]
def hn(K:List (Nat×List Nat):=[])(Q:List (Nat×Nat):=[])(C:List (Nat×Nat):=[])(Z:List (Nat×Bool×Nat×List Step):=[])(F:List Nat:=[])(E:List (Nat×IC):=[]):Hn:=⟨tt,C++cc,ll,K,Q,Z,F,E⟩
end Go.Abs
namespace Go.Proofs
open Go.Shelf Tryz
def il{a:Type _}{x y:a}(h:x=y:=by kernel_rfl):some x=some y:=congrArg some h
def Tryz.oI:Go.Shelf.Ren:=⟨λ|189=>169|125=>203|257=>202|128=>234|129=>235|294=>226|295=>227|296=>228|297=>229|298=>230|299=>231|216=>204|300=>232|301=>233|328=>259|329=>260|330=>261|331=>262|332=>263|215=>236|343=>275|n=>n,λ|28=>38|3=>3|46=>269|0=>0|51=>304|53=>306|4=>4|183=>298|182=>297|131=>112|5=>5|9=>9|218=>323|222=>327|228=>341|229=>342|n=>n,λ|n=>n⟩
def Tryz.xH:Go.Proofs.Lays.n189 prog Tryz.oI:={
 mixed:=by kernel_rfl
 f125:=func203.trans il
 f128:=func234.trans il
 f129:=func235.trans il
 f189:=func169.trans il
 f215:=func236.trans il
 f216:=func204.trans il
 f257:=func202.trans il
 f294:=func226.trans il
 f295:=func227.trans il
 f296:=func228.trans il
 f297:=func229.trans il
 f298:=func230.trans il
 f299:=func231.trans il
 f300:=func232.trans il
 f301:=func233.trans il
 f328:=func259.trans il
 f329:=func260.trans il
 f330:=func261.trans il
 f331:=func262.trans il
 f332:=func263.trans il
 f343:=func275.trans il
 t0:=underlying0
 a0:=isAgg0
 z0:=sizeOf0
 v0:=zeroValue0
 t3:=underlying3
 a3:=isAgg3
 z3:=sizeOf3
 v3:=zeroValue3
 t4:=underlying4
 a4:=isAgg4
 z4:=sizeOf4
 v4:=zeroValue4
 t5:=underlying5
 a5:=isAgg5
 z5:=sizeOf5
 v5:=zeroValue5
 t9:=underlying9
 a9:=isAgg9
 z9:=sizeOf9
 v9:=zeroValue9
 t28:=underlying38
 a28:=isAgg38
 z28:=sizeOf38
 v28:=zeroValue38
 t46:=underlying269
 a46:=isAgg269
 z46:=sizeOf269
 v46:=zeroValue269
 t51:=underlying304
 a51:=isAgg304
 z51:=sizeOf304
 v51:=zeroValue304
 t53:=underlying306
 a53:=isAgg306
 z53:=sizeOf306
 v53:=zeroValue306
 t131:=underlying112
 a131:=isAgg112
 z131:=sizeOf112
 v131:=zeroValue112
 t182:=underlying297
 a182:=isAgg297
 z182:=sizeOf297
 v182:=zeroValue297
 t183:=underlying298
 a183:=isAgg298
 z183:=sizeOf298
 v183:=zeroValue298
 t218:=underlying323
 a218:=isAgg323
 z218:=sizeOf323
 v218:=zeroValue323
 t222:=underlying327
 a222:=isAgg327
 z222:=sizeOf327
 v222:=zeroValue327
 t228:=underlying341
 a228:=isAgg341
 z228:=sizeOf341
 v228:=zeroValue341
 t229:=underlying342
 a229:=isAgg342
 z229:=sizeOf342
 v229:=zeroValue342}
def Tryz.slices_Sort_int:=Any.slices_Sort_int Tryz.xH
def Tryz.cH:Go.Shelf.Ren:=⟨λ|15=>152|n=>n,λ|22=>38|3=>3|4=>4|n=>n,λ|n=>n⟩
def Tryz.laysNm215:Go.Proofs.Lays2.n15 prog Tryz.cH:={
 mixed:=by kernel_rfl
 f15:=func152.trans il
 t3:=underlying3
 a3:=isAgg3
 z3:=sizeOf3
 v3:=zeroValue3
 t4:=underlying4
 a4:=isAgg4
 z4:=sizeOf4
 v4:=zeroValue4
 t22:=underlying38
 a22:=isAgg38
 z22:=sizeOf38
 v22:=zeroValue38
 i3:=by kernel_rfl}
def Tryz.slices_Clone_int:=Any.slices_Clone_int Tryz.laysNm215
def Tryz.cJ:Go.Shelf.Ren:=⟨λ|20=>170|n=>n,λ|22=>38|3=>3|4=>4|0=>0|n=>n,λ|n=>n⟩
def Tryz.fF:Go.Proofs.Lays2.n20 prog Tryz.cJ:={
 mixed:=by kernel_rfl
 f20:=func170.trans il
 t0:=underlying0
 a0:=isAgg0
 z0:=sizeOf0
 v0:=zeroValue0
 t3:=underlying3
 a3:=isAgg3
 z3:=sizeOf3
 v3:=zeroValue3
 t4:=underlying4
 a4:=isAgg4
 z4:=sizeOf4
 v4:=zeroValue4
 t22:=underlying38
 a22:=isAgg38
 z22:=sizeOf38
 v22:=zeroValue38
 i3:=by kernel_rfl}
def Tryz.slices_Compact_int:=Any.slices_Compact_int Tryz.fF
def Tryz.slices_Compact_int_empty:=Any.slices_Compact_int_empty Tryz.fF
def Tryz.cK:Go.Shelf.Ren:=⟨λ|25=>171|31=>204|32=>205|37=>236|n=>n,λ|22=>38|3=>3|4=>4|40=>269|0=>0|n=>n,λ|n=>n⟩
def Tryz.fG:Go.Proofs.Lays2.n25 prog Tryz.cK:={
 mixed:=by kernel_rfl
 f25:=func171.trans il
 f31:=func204.trans il
 f32:=func205.trans il
 f37:=func236.trans il
 t0:=underlying0
 a0:=isAgg0
 z0:=sizeOf0
 v0:=zeroValue0
 t3:=underlying3
 a3:=isAgg3
 z3:=sizeOf3
 v3:=zeroValue3
 t4:=underlying4
 a4:=isAgg4
 z4:=sizeOf4
 v4:=zeroValue4
 t22:=underlying38
 a22:=isAgg38
 z22:=sizeOf38
 v22:=zeroValue38
 t40:=underlying269
 a40:=isAgg269
 z40:=sizeOf269
 v40:=zeroValue269}
def Tryz.slices_BinarySearch_int:=Any.slices_BinarySearch_int Tryz.fG
def Tryz.slices_Sort_int_none:=Any.slices_Sort_int_none Tryz.xH
def Tryz.slices_BinarySearch_int_empty:=Any.slices_BinarySearch_int_empty Tryz.fG
def Tryz.Td:Go.Shelf.Ren:=⟨λ|43=>170|n=>n,λ|22=>38|23=>3|3=>3|4=>4|0=>0|n=>n,λ|n=>n⟩
def Tryz.ZV:Go.Proofs.SlLaysE.n43 prog Tryz.Td:={
 mixed:=by kernel_rfl
 f43:=⟨Tryz.f170.name,by decide,func170.trans (congrArg some (by kernel_rfl))⟩
 t0:=underlying0
 a0:=isAgg0
 z0:=sizeOf0
 v0:=zeroValue0
 t3:=underlying3
 a3:=isAgg3
 z3:=sizeOf3
 v3:=zeroValue3
 t4:=underlying4
 a4:=isAgg4
 z4:=sizeOf4
 v4:=zeroValue4
 t22:=underlying38
 a22:=isAgg38
 z22:=sizeOf38
 v22:=zeroValue38
 a23:=isAgg3
 z23:=sizeOf3}
open Go.RowKit Go.Lib Go.Sort in
def Tryz.slices_Compact{a:Type}[Inhabited a][DecidableEq a](enc:a->Value)(hO:OneCell enc)(heq:EqlAt prog 3 enc (λx y=>decide (x=y)))(Me:NeqAt prog 3 enc (λx y=>decide (x=y)))(zr:a)(v23:∀w,(zeroValue 3).run prog w= .ok (enc zr) w)(NU off cap:Nat)(d:Array a)(w:World)(hH:Holds enc w NU off d)(Pt:d.size<=9223372036854775807)(Ee:d.size<=cap):
 Calls prog 170 #[.slice (some ⟨NU,off,none⟩) d.size cap] w λe w'=>e= .returned (.slice (some ⟨NU,off,none⟩) (compactUpTo d d.size).length cap)/\∃q,w'=putRow enc (Sort.ahead w q) NU off (compactUpTo d d.size++List.replicate (d.size-(compactUpTo d d.size).length) zr).toArray:=AnyE.slices_Compact Tryz.ZV enc hO heq Me zr v23 NU off cap d w hH Pt Ee
def Tryz.Te:Go.Shelf.Ren:=⟨λ|10=>194|6=>224|n=>n,λ|22=>38|23=>3|25=>156|3=>3|4=>4|0=>0|n=>n,λ|n=>n⟩
def Tryz.ZW:Go.Proofs.SlLaysH.n10 prog Tryz.Te:={
 mixed:=by kernel_rfl
 f6:=⟨Tryz.f224.name,by decide,func224.trans (congrArg some (by kernel_rfl))⟩
 f10:=⟨Tryz.f194.name,by decide,func194.trans (congrArg some (by kernel_rfl))⟩
 t0:=underlying0
 a0:=isAgg0
 z0:=sizeOf0
 v0:=zeroValue0
 t3:=underlying3
 a3:=isAgg3
 z3:=sizeOf3
 v3:=zeroValue3
 t4:=underlying4
 a4:=isAgg4
 z4:=sizeOf4
 v4:=zeroValue4
 t22:=underlying38
 a22:=isAgg38
 z22:=sizeOf38
 v22:=zeroValue38
 a23:=isAgg3
 z23:=sizeOf3
 t25:=underlying156
 a25:=isAgg156
 z25:=sizeOf156
 v25:=zeroValue156}
open Go.RowKit Go.Lib Go.Sort in
def Tryz.slices_DeleteFunc{a:Type}[Inhabited a](enc:a->Value)(hO:OneCell enc)(p:a->Bool)(g:Nat)(lb:Array Value)(eg:∀args w,(callFunc g args).run prog w= .ok (.enter g args) w)(zr:a)(v23:∀w,(zeroValue 3).run prog w= .ok (enc zr) w)(NU off cap:Nat)(d:Array a)(w:World)(hp:PredAt prog g lb enc p w)(hpo:PredOver prog g lb enc p NU off d.size w)(hH:Holds enc w NU off d)(Pt:d.size<=9223372036854775807)(Ee:d.size<=cap):
 Calls prog 194 #[.slice (some ⟨NU,off,none⟩) d.size cap,.func (.func g) #[] lb] w λe w'=>e= .returned (.slice (some ⟨NU,off,none⟩) (d.toList.filter λx=> !p x).length cap)/\∃q,w'=putRow enc (Sort.ahead w q) NU off ((d.toList.filter λx=> !p x)++List.replicate (d.size-(d.toList.filter λx=> !p x).length) zr).toArray:=AnyE.slices_DeleteFunc Tryz.ZW enc hO p g lb eg zr v23 NU off cap d w hp hpo hH Pt Ee
end Go.Proofs
namespace Go.Abs
open Go.Proofs Go.Sort Go.RowKit
def Ys(l:iq):(Lib.compact l).length<=l.length:=by unfold Lib.compact Lib.compactUpTo;rw[AA6];exact ABO (List.length_filter_le _ _) ak
def MD(l:iq):ABu (List Int):=if l.length<4611686018427387904 then some (l.mergeSort λx y=>decide (x<=y))else none
def RH{l r:iq}(h:MD l=some r):BB Tryz.prog 169 [vO 1 eI l] (.BZ []) [vO 1 eI r]:=by obtain⟨g,h⟩:=KA h;obtain rfl:=AAW h;exact vE Tryz.slices_Sort_int Tryz.slices_Sort_int_none l g
def slices_Compact(l:iq):ABu (List Int):=if l.length<4611686018427387904 then some (Lib.compact l)else none
def Ns{l r:iq}(h:slices_Compact l=some r):Says Tryz.prog 170 [vO 1 eI l] (.own false 1 (r.map eI)):=by obtain⟨g,h⟩:=KA h;obtain rfl:=AAW h;exact b6 Tryz.slices_Compact_int Tryz.slices_Compact_int_empty l g (Ys l) rfl
def givesEq(b off:Nat)(n x:Int)(W:ja)(hc:W.cell? ⟨b,off,none⟩=some (.int .i64 n)):
 FnGives Tryz.prog 195 #[.pointer (some ⟨b,off,none⟩)] #[.int .i64 x] (.bool (x==n)) W:=by
 show Calls Tryz.prog 195 #[.int .i64 x,.pointer (some ⟨b,off,none⟩)] W _
 go_enter Tryz.func195,Tryz.ntmps195
 go_wp2
 all_goals (go_ret;exact⟨am,0,rfl⟩)
def JO(l:iq)(n:Int):ABu (List Int):=if l≠[]/\l.length<4611686018427387904 then some (l.filter λx=> !(x==n))else none
def Om{l r:iq}{n:Int}(h:JO l n=some r):Says Tryz.prog 194 [vO 1 eI l,.YA 195 [[si n]]] (.own false 1 (r.map eI)):=by obtain⟨⟨g1,g2⟩,h⟩:=KA h;obtain rfl:=AAW h;refine iM (q:=λn x=>x==n) ?_ givesEq l n g1 g2;intro lb p NU off cap d w hp hpo hH Pt Ee;exact Tryz.slices_DeleteFunc (Value.int .i64) (λ_=>rfl) p 195 lb (enters_of Tryz.func195 (by kernel_rfl) rfl) 0 (Tryz.zeroValue3) NU off cap d w hp hpo hH Pt Ee
def Kc(l:iq)(x:Int):ABu (Int×Bool):=if l.length<4611686018427387904/\l.Pairwise (· <= ·)then some (((l.countP (· <x):Nat):Int),l.contains x)else none
def Pd{l:iq}{x:Int}{r:Int×Bool}(h:Kc l x=some r):Says Tryz.prog 171 [vS 1 eI l,si x] (.BZ [si r.1,sb r.2]):=by obtain⟨⟨g1,g2⟩,h⟩:=KA h;obtain rfl:=AAW h;exact hZ Tryz.slices_BinarySearch_int Tryz.slices_BinarySearch_int_empty l x g1 g2
def W6(n:Int):ABu (List Int):=if 0<=n/\n<4611686018427 then some []else none
def growR:Go.Shelf.Ren:=⟨λ|4=>168|n=>n,λ|22=>38|25=>3|n=>n,λ|n=>n⟩
def growL:Go.Proofs.Lays8.n4 Tryz.prog growR:={
 mixed:=by kernel_rfl
 f4:=⟨Tryz.f168.name,bg,Tryz.func168.trans (congrArg some (by kernel_rfl))⟩
 t0:=Tryz.underlying0
 a0:=Tryz.isAgg0
 z0:=Tryz.sizeOf0
 v0:=Tryz.zeroValue0
 t3:=Tryz.underlying3
 a3:=Tryz.isAgg3
 z3:=Tryz.sizeOf3
 v3:=Tryz.zeroValue3
 t4:=Tryz.underlying4
 a4:=Tryz.isAgg4
 z4:=Tryz.sizeOf4
 v4:=Tryz.zeroValue4
 t9:=Tryz.underlying9
 a9:=Tryz.isAgg9
 z9:=Tryz.sizeOf9
 v9:=Tryz.zeroValue9
 t20:=Tryz.underlying20
 a20:=Tryz.isAgg20
 z20:=Tryz.sizeOf20
 v20:=Tryz.zeroValue20
 t22:=Tryz.underlying38
 a22:=Tryz.isAgg38
 z22:=Tryz.sizeOf38
 v22:=Tryz.zeroValue38
}
def growS(n:Nat)(hn:n<4611686018427):Says Tryz.prog 168 [.sc (.slice none 0 0),si n] (.own false 1 []):=by
 refine AAP (E:=3) ?_ ?_ n ah
 . intro n w h0 hn;have hi:Tryz.prog.info? 3=some ((Tryz.prog.info? 3).getD default):=(by kernel_rfl);have hs:((Tryz.prog.info? 3).getD default).size=1:=(by kernel_rfl);have hb:((Tryz.prog.info? 3).getD default).bytes=8:=(by kernel_rfl);have h:=Any8.slices_Grow_grow growL ((Tryz.prog.info? 3).getD default) (.int .i64 0) hi (by kernel_rfl) (by rw[hs];omega) none 0 0 n [] w (AAv _) ah
    (by rw[hb];omega) ah ak ak ak
   refine h.mono ?_;rintro e w' ⟨rfl,rfl⟩;refine⟨_,_,?_,rfl,rfl⟩
   have:=grownCap_ge w (0+n) 0 (growR.t 25);rw[ABW]at this;simp only[Array.size_append,size_zeroCells,Value.cells];simp;omega
 . intro w;have h:=Any8.slices_Grow_room growL none 0 0 0 w ah ah ah ah;exact h
def aV{n:Int}{r:iq}(h:W6 n=some r):Says Tryz.prog 168 [.sc (.slice none 0 0),si n] (.own false 1 (r.map eI)):=by obtain⟨⟨g1,g2⟩,h⟩:=KA h;obtain rfl:=AAW h;obtain⟨m,rfl⟩:=Int.eq_ofNat_of_zero_le g1;exact growS m ah
end Go.Abs
namespace Go.Abs
open Go.Proofs
def rb0:laidOutB Tryz.prog=true:=by kernel_rfl
def rb1:mapsRowed Tryz.prog=true:=by kernel_rfl
def rb2:Tryz.prog.stopsHeard=true:=by kernel_rfl
def rb3:Tryz.prog.mayEnter=true:=by kernel_rfl
def rb4:Tryz.prog.liftsFinal=false:=by kernel_rfl
def rb5:Tryz.prog.plainKeys=true:=by kernel_rfl
def rb6:Tryz.prog.mainIs=some (true,"8a42790257e1b6008a5a8b49b99a48ba9345b5ac028b326e59bb36f246f00561".toList):=by kernel_rfl
def rb7:false=Tryz.prog.looks []:=by kernel_rfl
end Go.Abs
