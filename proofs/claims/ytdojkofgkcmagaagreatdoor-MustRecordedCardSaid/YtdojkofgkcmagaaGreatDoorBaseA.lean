/- Types, readings, library. -/
import Derived.Test.YtdojkofgkcmagaaGreatDoorCoreD
import Derived.Test.YtdojkofgkcmagaaGreatDoorChecked
import Derived.KernelRfl
import Derived.Shelf.Small.Bits
import Derived.Shelf.Strconv.Itoa0
import Derived.Shelf.Sort.Plain
import Derived.Ground.Names2Prog
import Derived.Shelf.Slices.Clone
import Derived.Shelf.Slices.CompactI
import Derived.Shelf.Slices.SearchI
import Derived.Shelf.Slices.In.SortNone
import Derived.Shelf.Slices.Empties
import Derived.Ground.SlgnProg
import Derived.Shelf.SlicesE.Compact
import Derived.Ground.SlgfProg
import Derived.Shelf.SlicesE.IndexFunc
import Derived.Shelf.SlicesE.DeleteFunc
import Derived.Test.YtdojkofgkcmagaaGreatDoorProg
import Derived.Lib.SliceRun
import Derived.Shelf.Spec.SlicesGrow
import Derived.JoinedOf
import Derived.SevenTiedAt
set_option linter.all false
namespace Go.Abs
open Go.Proofs
set_option maxRecDepth 1000000
set_option maxHeartbeats 4000000
def mix:Tryz.prog.follows .mixedOrders:=by kernel_rfl
@[go_sem]theorem e8:qI 0 22=some (NH.map Value.string):=by rfl
structure ED where
 dv:ABj
 d8:Int
 CM:Int
 II:Bool
 dg:Int
 deriving DecidableEq
abbrev nk:=List ED
structure Kt where
 dv:ABj
 RW:Bool
 deriving DecidableEq
structure Uk where
 dv:ABj
 dr:Int
 deriving DecidableEq
structure Eb where
 db:Int
 eA:Int
 Gd:Int
 deriving DecidableEq
abbrev nl:=List Eb
structure AG where
 di:List ED
 AK:List Kt
 Al:List Uk
 AL:List ABj
 AA:List ABj
 Bt:List Eb
 deriving DecidableEq
abbrev la:=AG->Int->ABi AG
structure AW where
 B6:Int
 Am:List Int
 deriving DecidableEq
structure AM where
 dm:Int
 D7:Int
 d6:Bool
 deriving DecidableEq
abbrev kx:=List AM
abbrev mr:=Int->Int->ABi (Int×(List AM))
abbrev mz:=(List AM)->Int->Int->ABi (Int×(List AM))
structure AQ where
 AK:List AW
 Tx:Int
 Br:List Bool
 AA:List AM
 deriving DecidableEq
abbrev lr:=AQ×Int×Bool
abbrev my:=AQ->Int->ABi AQ
structure AD where
 df:AQ
 di:List Int
 AL:List Int
 dh:List Int
 deriving DecidableEq
abbrev kr:=AD->(List (List Bool))->Int->ABi Bool
abbrev ly:=AD->(List (List Bool))->Int->ABi (Int×Int)
abbrev mj:=AD×Bool
structure AZ where
 L:List Int
 At:Int
 deriving DecidableEq
abbrev j9:=Int×AZ
abbrev ki:=AZ->AD->Int->ABi (AD×AZ)
abbrev lA:=AZ->(List Int)->Int->ABi ((List Int)×AZ)
structure AH where
 db:Int
 de:Int
 dq:Int
 dn:Int
 d7:Int
 Dy:List Int
 DS:List Int
 deriving DecidableEq
abbrev js:=List AH
abbrev kn:=AZ->AD->(List AH)->(List (List Int))->ABi ((List AH)×AZ)
abbrev ln:=AZ->(List (List Int))->Int->ABi ((List AH)×AZ)
structure AE where
 dc:AG
 eO:Int
 dg:AD
 AB:List AH
 deriving DecidableEq
structure FF where
 de:Int
 Gd:Int
 dv:ABj
 CM:Int
 dg:Int
 On:ABj
 deriving DecidableEq
abbrev nf:=List FF
structure Ba where
 Op:Int
 N:Int
 dv:ABj
 L:List Ba
abbrev np:=Ba->ABi (Int×Int)
abbrev ny:=Ba->ABi Bool
structure AP where
 t:AZ
 B7:Int
 left:Int
 Ir:Bool
 tx:Bool
 ea:Bool
 eu:Bool
 eb:List ABj
 deriving DecidableEq
abbrev mA:=AP->Int->ABi (Ba×AP)
structure AU where
 Op:Int
 Gd:Int
 dv:ABj
 eT:ABj
 d8:List Ba
 dX:Ba
 dz:List AU
 ed:List AU
abbrev jy:=AP->Int->Int->ABi ((List AU)×AP)
abbrev kf:=List AU
abbrev kp:=AP->ABj->Int->ABi ((List AU)×AP)
abbrev ku:=(List Eb)->Int->Int->(List AU)->ABi ((List Eb)×Int)
abbrev kw:=(List AU)->ABi Bool
abbrev lB:=AP->Int->ABi (AU×AP)
abbrev na:=AP->(List AU)->Int->ABi ((List AU)×AP)
abbrev nq:=(List AU)->ABi Int
structure DM where
 dv:ABj
 Gd:Int
 HE:List ABj
 dz:List AU
structure AY where
 ep:List FF
 AA:List DM
abbrev lz:=AP->AY->Int->ABi AY
abbrev mc:=AY->Int->Ba->ABi Int
structure Bj where
 p:AY
 B7:Int
 HH:List AU
 NW:List ABj
 dD:List ABj
abbrev lh:=Bj->(List AU)->ABi (Int×Int×Bj)
abbrev mn:=Bool×Bj
abbrev m9:=Bj->Int->ABi (Int×Int×Bj)
abbrev oi:=Int->ABi (Bool×Bj)
structure Ak where
 Op:Int
 A:Int
 B:Int
 C:Int
 N:Int
 d7:Int
 deriving DecidableEq
abbrev ma:=List Ak
structure BW where
 w:AG
 du:List ABj
 dx:List Ak
 dy:Int
 next:Int
 deriving DecidableEq
abbrev mb:=BW->AU->Int->Int->Int->ABi BW
abbrev mi:=BW->AU->ABi BW
abbrev mq:=BW->List AU->ABi BW
abbrev mB:=BW->(List AU)->ABi BW
structure BE where
 DH:Int
 CO:List Ak
 deriving DecidableEq
structure Bx where
 dc:AG
 AA:List BE
 deriving DecidableEq
abbrev lj:=Bx->Int->Int->ABi (Bx×Int×Int)
abbrev lx:=BE->Int->ABi (Bx×Int×Int)
structure An where
 db:Int
 Ou:Int
 deriving DecidableEq
abbrev lm:=List An
structure AN where
 PC:Int
 DH:List Int
 C9:List (List Int)
 AB:Int
 deriving DecidableEq
structure A4 where
 df:AQ
 di:List Int
 AL:List Int
 AA:List AN
 deriving DecidableEq
abbrev l8:=(List AH)->A4->Int->ABi ((List AH)×A4)
abbrev oh:=A4->Int->ABi A4
structure Ck where
 dc:AG
 AB:List AH
 deriving DecidableEq
structure Ke where
 ez:List Int
 Gf:List Int
 oW:List Int
 CM:Int
 gX:Int
 deriving DecidableEq
structure Ul where
 SH:List Int
 uV:List Int
 deriving DecidableEq
structure Ks where
 ef:Int
 B6:Int
 AK:List Int
 deriving DecidableEq
abbrev nz:=List Ks×List Int
structure EO where
 dn:Int
 Nc:Bool
 deriving DecidableEq
structure Ab where
 df:AQ
 di:List EO
 AL:List EO
 dt:List Int
 Dr:List Bool
 Nf:List Int
 deriving DecidableEq
abbrev kh:=(List An)×Ab
abbrev km:=Ab->(List An)->Int->ABi ((List An)×Ab)
abbrev lc:=(List An)->Int->ABi ((List An)×Ab)
structure Ae where
 db:Int
 e6:Int
 e7:Int
 eM:Bool
 deriving DecidableEq
abbrev jo:=(List Ae)->Int->ABi (List Ae)
abbrev li:=List Ae
structure AF where
 w:AE
 ej:List (List Int)
 ew:List Int
 d9:List (List Bool)
 deriving DecidableEq
abbrev jr:=AF->Int->ABi AF
abbrev lv:=(List Int)->Int->ABi AF
abbrev lw:=AF->(List Int)->Int->ABi AF
abbrev mf:=(List Int)->Int->ABi ((List Int)×AF)
@[go_sem]def Hp(x:ED):List AV:=[B4 x.dv,si x.d8,si x.CM,sb x.II,si x.dg]
@[go_sem]theorem fa(l:nk)(y0:ABj)(y1 y2:Int)(y3:Bool)(y4:Int):l.map Hp++[[B4 y0,si y1,si y2,sb y3,si y4]]=(l++[(ED.mk y0 y1 y2 y3 y4)]).map Hp:=by simp[Hp]
@[go_sem]def Ix(x:Kt):List AV:=[B4 x.dv,sb x.RW]
@[go_sem]theorem fb(l:List Kt)(y0:ABj)(y1:Bool):l.map Ix++[[B4 y0,sb y1]]=(l++[(Kt.mk y0 y1)]).map Ix:=by simp[Ix]
@[go_sem]def Iw(x:Uk):List AV:=[B4 x.dv,si x.dr]
@[go_sem]theorem fc(l:List Uk)(y0:ABj)(y1:Int):l.map Iw++[[B4 y0,si y1]]=(l++[(Uk.mk y0 y1)]).map Iw:=by simp[Iw]
@[go_sem]def eS(x:ABj):List AV:=[B4 x]
@[go_sem]theorem fe(l:jt)(y0:ABj):l.map eS++[[B4 y0]]=(l++[y0]).map eS:=by simp[eS]
@[go_sem]def G9(x:Eb):List AV:=[si x.db,si x.eA,si x.Gd]
@[go_sem]theorem ff(l:nl)(y0 y1 y2:Int):l.map G9++[[si y0,si y1,si y2]]=(l++[(Eb.mk y0 y1 y2)]).map G9:=by simp[G9]
@[go_sem]def A5(x:AG):List AV:=[vS 5 Hp x.di,vS 2 Ix x.AK,vS 2 Iw x.Al,vS 1 eS x.AL,vS 1 eS x.AA,vS 3 G9 x.Bt]
@[go_sem]def Mo(x:AG):List AV:=[vO 5 Hp x.di,vO 2 Ix x.AK,vO 2 Iw x.Al,vO 1 eS x.AL,vO 1 eS x.AA,vO 3 G9 x.Bt]
@[go_sem]def eI(x:Int):List AV:=[si x]
@[go_sem]theorem fg(l:i6)(y0:Int):l.map eI++[[si y0]]=(l++[y0]).map eI:=by simp[eI]
@[go_sem]theorem fh(l:i6)(i:Nat)(y0:Int):(l.map eI).set i [si y0]=(l.set i y0).map eI:=by simp[eI,ABI]
@[go_sem]theorem fj(n:Nat)(y0:Int):List.replicate n [si y0]=(List.replicate n y0).map eI:=by simp[eI]
@[go_sem]def De(x:AW):List AV:=[si x.B6,vS 1 eI x.Am]
@[go_sem]def eB(x:Bool):List AV:=[sb x]
@[go_sem]theorem fk(l:ko)(y0:Bool):l.map eB++[[sb y0]]=(l++[y0]).map eB:=by simp[eB]
@[go_sem]theorem fm(l:ko)(i:Nat)(y0:Bool):(l.map eB).set i [sb y0]=(l.set i y0).map eB:=by simp[eB,ABI]
@[go_sem]theorem fo(n:Nat)(y0:Bool):List.replicate n [sb y0]=(List.replicate n y0).map eB:=by simp[eB]
@[go_sem]def Ay(x:AM):List AV:=[si x.dm,si x.D7,sb x.d6]
@[go_sem]theorem fq(l:kx)(y0 y1:Int)(y2:Bool):l.map Ay++[[si y0,si y1,sb y2]]=(l++[(AM.mk y0 y1 y2)]).map Ay:=by simp[Ay]
@[go_sem]theorem ft(l:kx)(i:Nat)(y0 y1:Int)(y2:Bool):(l.map Ay).set i [si y0,si y1,sb y2]=(l.set i (AM.mk y0 y1 y2)).map Ay:=by simp[Ay,ABI]
@[go_sem]def Hq(x:AQ):List AV:=[vS 2 De x.AK,si x.Tx,vS 1 eB x.Br,vS 3 Ay x.AA]
@[go_sem]def Bu(x:AW):List AV:=[si x.B6,vO 1 eI x.Am]
@[go_sem]theorem fv(l:List AW)(y0:Int)(y1:i6):l.map Bu++[[si y0,vO 1 eI y1]]=(l++[(AW.mk y0 y1)]).map Bu:=by simp[Bu]
@[go_sem]theorem fw(l:List AW)(i:Nat)(y0:Int)(y1:i6):(l.map Bu).set i [si y0,vO 1 eI y1]=(l.set i (AW.mk y0 y1)).map Bu:=by simp[Bu,ABI]
@[go_sem]theorem zY(l:List AW)(i:Nat)(y0 y1:Int):(l.map Bu).set i [si y0,.own false 1 [[si y1]]]=(l.set i (AW.mk y0 [y1])).map Bu:=by simp[Bu,eI,ABI,vS,vO]
@[go_sem]theorem fy(l:List AW)(y0:Int):l.map Bu++[[si y0,.own false 1 []]]=(l++[(AW.mk y0 [])]).map Bu:=by simp[Bu,vS,vO]
@[go_sem]theorem fB(n:Nat)(y0:Int):List.replicate n [si y0,.own false 1 []]=(List.replicate n (AW.mk y0 [])).map Bu:=by simp[Bu,vS,vO]
@[go_sem]theorem ga(l:List AW):NG (l.map Bu)=l.map De:=by induction l with|nil=>rfl|cons x l ih=>simp only[AAd,NG,ih,go_sem,Bu,De]
@[go_sem]def JV(x:AQ):List AV:=[vO 2 Bu x.AK,si x.Tx,vO 1 eB x.Br,vO 3 Ay x.AA]
@[go_sem]def Bi(x:AD):List AV:=[vS 2 De x.df.AK,si x.df.Tx,vS 1 eB x.df.Br,vS 3 Ay x.df.AA,vS 1 eI x.di,vS 1 eI x.AL,vS 1 eI x.dh]
@[go_sem]def I5(x:AD):List AV:=[vO 2 Bu x.df.AK,si x.df.Tx,vO 1 eB x.df.Br,vO 3 Ay x.df.AA,vO 1 eI x.di,vO 1 eI x.AL,vO 1 eI x.dh]
@[go_sem]def l5(x:Int):List AV:=[.sc (.int .u8 x)]
@[go_sem]def Gg(x:AZ):List AV:=[vS 1 l5 x.L,si x.At]
@[go_sem]def oG(x:i6):List AV:=[vS 1 eI x]
@[go_sem]theorem gb(l:jl)(i:Nat)(y0:i6):(l.map oG).set i [vS 1 eI y0]=(l.set i y0).map oG:=by simp[oG,ABI]
@[go_sem]theorem gc(l:jl)(i:Nat)(y0:Int):(l.map oG).set i [.sl false 1 [[si y0]]]=(l.set i [y0]).map oG:=by simp[oG,eI,ABI,vS,vO]
@[go_sem]theorem gd(l:jl)(i:Nat):(l.map oG).set i [.sl false 1 []]=(l.set i []).map oG:=by simp[oG,ABI,vS,vO]
@[go_sem]theorem gf(n:Nat):List.replicate n [.sl false 1 []]=(List.replicate n []).map oG:=by simp[oG,vS,vO]
@[go_sem]def OX(x:i6):List AV:=[vO 1 eI x]
@[go_sem]theorem gh(l:jl)(y0:i6):l.map OX++[[vO 1 eI y0]]=(l++[y0]).map OX:=by simp[OX]
@[go_sem]theorem gi(l:jl)(i:Nat)(y0:i6):(l.map OX).set i [vO 1 eI y0]=(l.set i y0).map OX:=by simp[OX,ABI]
@[go_sem]theorem gj(n:Nat):List.replicate n [.own false 1 []]=(List.replicate n []).map OX:=by simp[OX,vS,vO]
@[go_sem]theorem gk(l:jl):NG (l.map OX)=l.map oG:=by induction l with|nil=>rfl|cons x l ih=>simp only[AAd,NG,ih,go_sem,OX,oG]
@[go_sem]def Aw(x:AH):List AV:=[si x.db,si x.de,si x.dq,si x.dn,si x.d7,vS 1 eI x.Dy,vS 1 eI x.DS]
@[go_sem]theorem gm(l:js)(y0 y1 y2 y3 y4:Int)(y5 y6:i6):l.map Aw++[[si y0,si y1,si y2,si y3,si y4,vS 1 eI y5,vS 1 eI y6]]=(l++[(AH.mk y0 y1 y2 y3 y4 y5 y6)]).map Aw:=by simp[Aw]
@[go_sem]def JN(x:AH):List AV:=[si x.db,si x.de,si x.dq,si x.dn,si x.d7,vO 1 eI x.Dy,vO 1 eI x.DS]
@[go_sem]theorem gn(l:js)(y0 y1 y2 y3 y4:Int):l.map JN++[[si y0,si y1,si y2,si y3,si y4,.own false 1 [],.own false 1 []]]=(l++[(AH.mk y0 y1 y2 y3 y4 [] [])]).map JN:=by simp[JN,vS,vO]
@[go_sem]theorem go(l:js):NG (l.map JN)=l.map Aw:=by induction l with|nil=>rfl|cons x l ih=>simp only[AAd,NG,ih,go_sem,JN,Aw]
@[go_sem]def Av(x:AE):List AV:=[vS 5 Hp x.dc.di,vS 2 Ix x.dc.AK,vS 2 Iw x.dc.Al,vS 1 eS x.dc.AL,vS 1 eS x.dc.AA,vS 3 G9 x.dc.Bt,si x.eO,vS 2 De x.dg.df.AK,si x.dg.df.Tx,vS 1 eB x.dg.df.Br,vS 3 Ay x.dg.df.AA,vS 1 eI x.dg.di,vS 1 eI x.dg.AL,vS 1 eI x.dg.dh,vS 7 Aw x.AB]
@[go_sem]def Ky(x:FF):List AV:=[si x.de,si x.Gd,B4 x.dv,si x.CM,si x.dg,B4 x.On]
mutual
def Bc:Ba->List AV|⟨y0,y1,y2,y3⟩=>[si y0,si y1,B4 y2,.sl false 4 (lV y3)]
def lV:List Ba->List (List AV)|[]=>[]|x::l=>Bc x::lV l
end
def eExpr_m(l:List Ba):lV l=l.map Bc:=by induction l<;>simp[lV, *]
@[go_sem]theorem gp(x:Ba):Bc x=[si x.Op,si x.N,B4 x.dv,vS 4 Bc x.L]:=by cases x;simp[Bc,eExpr_m]
@[go_sem]theorem gq(x:Ba):Ba.mk x.Op x.N x.dv x.L=x:=by cases x;rfl
@[go_sem]def Cy(x:AP):List AV:=[bA 2 [vS 1 l5 x.t.L,si x.t.At],si x.B7,si x.left,sb x.Ir,sb x.tx,sb x.ea,sb x.eu,vO 1 eS x.eb]
mutual
def BV:AU->List AV|⟨y0,y1,y2,y3,y4,y5,y6,y7⟩=>[si y0,si y1,B4 y2,B4 y3,vS 4 Bc y4,si y5.Op,si y5.N,B4 y5.dv,vS 4 Bc y5.L,.sl false 11 (Zr y6),.sl false 11 (Zr y7)]
def Zr:List AU->List (List AV)|[]=>[]|x::l=>BV x::Zr l
end
def eStmt_m(l:kf):Zr l=l.map BV:=by induction l<;>simp[Zr, *]
@[go_sem]theorem lW(x:AU):BV x=[si x.Op,si x.Gd,B4 x.dv,B4 x.eT,vS 4 Bc x.d8,si x.dX.Op,si x.dX.N,B4 x.dX.dv,vS 4 Bc x.dX.L,vS 11 BV x.dz,vS 11 BV x.ed]:=by cases x;simp[BV,eStmt_m]
@[go_sem]theorem gr(x:AU):AU.mk x.Op x.Gd x.dv x.eT x.d8 x.dX x.dz x.ed=x:=by cases x;rfl
@[go_sem]theorem gu(l:kf)(y0 y1:Int)(y2 y3:ByteArray)(y4:List Ba)(y5 y6:Int)(y7:ByteArray)(y8:List Ba)(y9 y10:kf):l.map BV++[[si y0,si y1,B4 y2,B4 y3,vS 4 Bc y4,si y5,si y6,B4 y7,vS 4 Bc y8,vS 11 BV y9,vS 11 BV y10]]=(l++[(AU.mk y0 y1 y2 y3 y4 (Ba.mk y5 y6 y7 y8) y9 y10)]).map BV:=by simp[lW]
@[go_sem]theorem gv(l:kf)(i:Nat)(y0 y1:Int)(y2 y3:ByteArray)(y4:List Ba)(y5 y6:Int)(y7:ByteArray)(y8:List Ba)(y9 y10:kf):(l.map BV).set i [si y0,si y1,B4 y2,B4 y3,vS 4 Bc y4,si y5,si y6,B4 y7,vS 4 Bc y8,vS 11 BV y9,vS 11 BV y10]=(l.set i (AU.mk y0 y1 y2 y3 y4 (Ba.mk y5 y6 y7 y8) y9 y10)).map BV:=by simp[lW,List.map_set]
@[go_sem]theorem gx(l:kf)(y0 y1:Int)(y2 y3:ByteArray)(y5 y6:Int)(y7:ByteArray):l.map BV++[[si y0,si y1,B4 y2,B4 y3,.sl false 4 [],si y5,si y6,B4 y7,.sl false 4 [],.sl false 11 [],.sl false 11 []]]=(l++[(AU.mk y0 y1 y2 y3 [] (Ba.mk y5 y6 y7 []) [] [])]).map BV:=by simp[lW,vS,vO]
@[go_sem]def Jl(x:DM):List AV:=[B4 x.dv,si x.Gd,vS 1 eS x.HE,vS 11 BV x.dz]
@[go_sem]theorem gy(l:List DM)(y0:ByteArray)(y1:Int)(y2:List ByteArray)(y3:kf):l.map Jl++[[B4 y0,si y1,vS 1 eS y2,vS 11 BV y3]]=(l++[(DM.mk y0 y1 y2 y3)]).map Jl:=by simp[Jl]
@[go_sem]def Ct(x:AY):List AV:=[vS 6 Ky x.ep,vS 4 Jl x.AA]
@[go_sem]def IX(x:Bj):List AV:=[vS 6 Ky x.p.ep,vS 4 Jl x.p.AA,si x.B7,vO 11 BV x.HH,vO 1 eS x.NW,vO 1 eS x.dD]
@[go_sem]def qE(x:DM):List AV:=[B4 x.dv,si x.Gd,vO 1 eS x.HE,vO 11 BV x.dz]
@[go_sem]def Ew(x:Ak):List AV:=[si x.Op,si x.A,si x.B,si x.C,si x.N,si x.d7]
@[go_sem]theorem gL(l:ma)(y0 y1 y2 y3 y4 y5:Int):l.map Ew++[[si y0,si y1,si y2,si y3,si y4,si y5]]=(l++[(Ak.mk y0 y1 y2 y3 y4 y5)]).map Ew:=by simp[Ew]
@[go_sem]theorem gT(l:ma)(i:Nat)(y0 y1 y2 y3 y4 y5:Int):(l.map Ew).set i [si y0,si y1,si y2,si y3,si y4,si y5]=(l.set i (Ak.mk y0 y1 y2 y3 y4 y5)).map Ew:=by simp[Ew,List.map_set]
@[go_sem]def egen(x:BW):List AV:=[vS 5 Hp x.w.di,vS 2 Ix x.w.AK,vS 2 Iw x.w.Al,vS 1 eS x.w.AL,vS 1 eS x.w.AA,vS 3 G9 x.w.Bt,vS 1 eS x.du,vS 6 Ew x.dx,si x.dy,si x.next]
@[go_sem]def E2(x:BW):List AV:=[vS 5 Hp x.w.di,vS 2 Ix x.w.AK,vS 2 Iw x.w.Al,vS 1 eS x.w.AL,vS 1 eS x.w.AA,vS 3 G9 x.w.Bt,vS 1 eS x.du,vO 6 Ew x.dx,si x.dy,si x.next]
@[go_sem]def DB(x:BE):List AV:=[si x.DH,vS 6 Ew x.CO]
@[go_sem]theorem ia(l:List BE)(y0:Int)(y1:ma):l.map DB++[[si y0,vS 6 Ew y1]]=(l++[(BE.mk y0 y1)]).map DB:=by simp[DB]
@[go_sem]def Kg(x:Bx):List AV:=[vS 5 Hp x.dc.di,vS 2 Ix x.dc.AK,vS 2 Iw x.dc.Al,vS 1 eS x.dc.AL,vS 1 eS x.dc.AA,vS 3 G9 x.dc.Bt,vS 2 DB x.AA]
@[go_sem]def HW(x:An):List AV:=[si x.db,si x.Ou]
@[go_sem]theorem ib(l:lm)(y0 y1:Int):l.map HW++[[si y0,si y1]]=(l++[(An.mk y0 y1)]).map HW:=by simp[HW]
@[go_sem]def GC(x:AN):List AV:=[si x.PC,vS 1 eI x.DH,vS 1 oG x.C9,si x.AB]
@[go_sem]def LY(x:A4):List AV:=[vS 2 De x.df.AK,si x.df.Tx,vS 1 eB x.df.Br,vS 3 Ay x.df.AA,vS 1 eI x.di,vS 1 eI x.AL,vS 4 GC x.AA]
@[go_sem]def CW(x:AN):List AV:=[si x.PC,vO 1 eI x.DH,vO 1 oG x.C9,si x.AB]
@[go_sem]theorem ie(l:List AN)(y0:Int)(y1:i6)(y2:jl)(y3:Int):l.map CW++[[si y0,vO 1 eI y1,vO 1 oG y2,si y3]]=(l++[(AN.mk y0 y1 y2 y3)]).map CW:=by simp[CW]
@[go_sem]theorem ig(l:List AN)(i:Nat)(y0:Int)(y1:i6)(y2:jl)(y3:Int):(l.map CW).set i [si y0,vO 1 eI y1,vO 1 oG y2,si y3]=(l.set i (AN.mk y0 y1 y2 y3)).map CW:=by simp[CW,List.map_set]
@[go_sem]theorem ii(l:List AN):NG (l.map CW)=l.map GC:=by induction l with|nil=>rfl|cons x l ih=>simp only[List.map_cons,NG,ih,go_sem,CW,GC]
@[go_sem]def N4(x:A4):List AV:=[vO 2 Bu x.df.AK,si x.df.Tx,vO 1 eB x.df.Br,vO 3 Ay x.df.AA,vO 1 eI x.di,vO 1 eI x.AL,vO 4 CW x.AA]
@[go_sem]def Tu(x:Ck):List AV:=[vS 5 Hp x.dc.di,vS 2 Ix x.dc.AK,vS 2 Iw x.dc.Al,vS 1 eS x.dc.AL,vS 1 eS x.dc.AA,vS 3 G9 x.dc.Bt,vS 7 Aw x.AB]
@[go_sem]def lX(x:Ck):List AV:=[vS 5 Hp x.dc.di,vS 2 Ix x.dc.AK,vS 2 Iw x.dc.Al,vS 1 eS x.dc.AL,vS 1 eS x.dc.AA,vS 3 G9 x.dc.Bt,vO 7 Aw x.AB]
@[go_sem]def Ly(x:AE):List AV:=[vS 5 Hp x.dc.di,vS 2 Ix x.dc.AK,vS 2 Iw x.dc.Al,vS 1 eS x.dc.AL,vS 1 eS x.dc.AA,vS 3 G9 x.dc.Bt,si x.eO,vO 2 Bu x.dg.df.AK,si x.dg.df.Tx,vO 1 eB x.dg.df.Br,vO 3 Ay x.dg.df.AA,vO 1 eI x.dg.di,vO 1 eI x.dg.AL,vO 1 eI x.dg.dh,vS 7 Aw x.AB]
@[go_sem]theorem ij(l:List AE)(y0:nk)(y1:List Kt)(y2:List Uk)(y3 y4:List ByteArray)(y5:nl)(y6:Int)(y7:List AW)(y8:Int)(y9:ko)(y10:kx)(y11 y12 y13:i6)(y14:js):l.map Ly++[[vS 5 Hp y0,vS 2 Ix y1,vS 2 Iw y2,vS 1 eS y3,vS 1 eS y4,vS 3 G9 y5,si y6,vO 2 Bu y7,si y8,vO 1 eB y9,vO 3 Ay y10,vO 1 eI y11,vO 1 eI y12,vO 1 eI y13,vS 7 Aw y14]]=(l++[(AE.mk (AG.mk y0 y1 y2 y3 y4 y5) y6 (AD.mk (AQ.mk y7 y8 y9 y10) y11 y12 y13) y14)]).map Ly:=by simp[Ly]
@[go_sem]theorem ik(l:List AE):NG (l.map Ly)=l.map Av:=by induction l with|nil=>rfl|cons x l ih=>simp only[List.map_cons,NG,ih,go_sem,Ly,Av]
@[go_sem]def Xd(x:Ke):List AV:=[vS 1 l5 x.ez,vS 1 l5 x.Gf,vS 1 l5 x.oW,.sc (.int .u8 x.CM),.sc (.int .u8 x.gX)]
@[go_sem]def Kn(x:ko):List AV:=[vO 1 eB x]
@[go_sem]theorem il(l:jf)(y0:ko):l.map Kn++[[vO 1 eB y0]]=(l++[y0]).map Kn:=by simp[Kn]
@[go_sem]theorem im(l:jf)(i:Nat)(y0:ko):(l.map Kn).set i [vO 1 eB y0]=(l.set i y0).map Kn:=by simp[Kn,List.map_set]
@[go_sem]def IK(x:EO):List AV:=[si x.dn,sb x.Nc]
@[go_sem]theorem ip(l:List EO)(y0:Int)(y1:Bool):l.map IK++[[si y0,sb y1]]=(l++[(EO.mk y0 y1)]).map IK:=by simp[IK]
@[go_sem]theorem iq(l:List EO)(i:Nat)(y0:Int)(y1:Bool):(l.map IK).set i [si y0,sb y1]=(l.set i (EO.mk y0 y1)).map IK:=by simp[IK,List.map_set]
@[go_sem]def G8(x:Ab):List AV:=[vS 2 De x.df.AK,si x.df.Tx,vS 1 eB x.df.Br,vS 3 Ay x.df.AA,vS 2 IK x.di,vS 2 IK x.AL,vS 1 eI x.dt,vS 1 eB x.Dr,vS 1 eI x.Nf]
@[go_sem]def Oz(x:Ab):List AV:=[vO 2 Bu x.df.AK,si x.df.Tx,vO 1 eB x.df.Br,vO 3 Ay x.df.AA,vO 2 IK x.di,vO 2 IK x.AL,vO 1 eI x.dt,vO 1 eB x.Dr,vO 1 eI x.Nf]
@[go_sem]def GA(x:Ae):List AV:=[si x.db,si x.e6,si x.e7,sb x.eM]
@[go_sem]theorem ir(l:li)(y0 y1 y2:Int)(y3:Bool):l.map GA++[[si y0,si y1,si y2,sb y3]]=(l++[(Ae.mk y0 y1 y2 y3)]).map GA:=by simp[GA]
@[go_sem]theorem iu(l:li)(i:Nat)(y0 y1 y2:Int)(y3:Bool):(l.map GA).set i [si y0,si y1,si y2,sb y3]=(l.set i (Ae.mk y0 y1 y2 y3)).map GA:=by simp[GA,List.map_set]
@[go_sem]def Bw(x:AF):List AV:=[vS 5 Hp x.w.dc.di,vS 2 Ix x.w.dc.AK,vS 2 Iw x.w.dc.Al,vS 1 eS x.w.dc.AL,vS 1 eS x.w.dc.AA,vS 3 G9 x.w.dc.Bt,si x.w.eO,vS 2 De x.w.dg.df.AK,si x.w.dg.df.Tx,vS 1 eB x.w.dg.df.Br,vS 3 Ay x.w.dg.df.AA,vS 1 eI x.w.dg.di,vS 1 eI x.w.dg.AL,vS 1 eI x.w.dg.dh,vS 7 Aw x.w.AB,vO 1 OX x.ej,vO 1 eI x.ew,vO 1 Kn x.d9]
@[go_sem]theorem iv(n:Nat):(List.replicate n ([]:List Bool)).map Kn=(List.replicate n ([]:List Int)).map OX:=by simp[Kn,OX]
abbrev z0:List AV:=[.own false 2 [],si 0,.own false 1 [],.own false 3 [],.own false 1 [],.own false 1 [],.own false 1 []]
abbrev z1:List AV:=[si 0,si 0,B4 ⟨#[]⟩,B4 ⟨#[]⟩,.own false 4 [],si 0,si 0,B4 ⟨#[]⟩,.own false 4 [],.own false 11 [],.own false 11 []]
abbrev z2:List AV:=[.own false 5 [],.own false 2 [],.own false 2 [],.own false 1 [],.own false 1 [],.own false 3 [],si 0,.own false 2 [],si 0,.own false 1 [],.own false 3 [],.own false 1 [],.own false 1 [],.own false 1 [],.own false 7 []]
abbrev z3:List AV:=[si 0,si 0,si 0,si 0,si 0,.own false 1 [],.own false 1 []]
abbrev z4:List AV:=[.own false 2 [],si 0,.own false 1 [],.own false 3 [],.own false 1 [],.own false 1 [],.own false 4 []]
abbrev z5:List AV:=[.own false 2 [],si 0,.own false 1 [],.own false 3 []]
abbrev z6:List AV:=[si 0,si 0,B4 ⟨#[]⟩,B4 ⟨#[]⟩,.sl false 4 [],si 0,si 0,B4 ⟨#[]⟩,.sl false 4 [],.sl false 11 [],.sl false 11 []]
abbrev z7:List AV:=[.own false 2 [],si 0,.own false 1 [],.own false 3 [],.own false 2 [],.own false 2 [],.own false 1 [],.own false 1 [],.own false 1 []]
abbrev z8:List AV:=[.own false 5 [],.own false 2 [],.own false 2 [],.own false 1 [],.own false 1 [],.own false 3 []]
abbrev z9:List AV:=[si 0,.own false 1 [],.own false 1 [],si 0]
abbrev z10:List AV:=[.own false 5 [],.own false 2 [],.own false 2 [],.own false 1 [],.own false 1 [],.own false 3 [],.own false 2 []]
abbrev z11:List AV:=[B4 ⟨#[]⟩,si 0,.own false 1 [],.own false 11 []]
abbrev z12:List AV:=[.sl false 5 [],.sl false 2 [],.sl false 2 [],.sl false 1 [],.sl false 1 [],.sl false 3 [],.own false 7 []]
abbrev z13:List AV:=[.sl false 2 [],si 0,.sl false 1 [],.sl false 3 [],.sl false 1 [],.sl false 1 [],.sl false 4 []]
abbrev z14:List AV:=[.own false 6 [],.own false 4 []]
abbrev z15:List AV:=[.own false 1 []]
abbrev z16:List (List AV):=[[B4 ⟨#[109,97,105,110]⟩],[B4 ⟨#[116,49]⟩],[B4 ⟨#[116,50]⟩],[B4 ⟨#[116,51]⟩]]
abbrev z17:List AV:=[si 0,si 0,si 0,si 0,si 0,si 0]
abbrev z18:List AV:=[.own false 1 [],.own false 1 []]
abbrev z19:List AV:=[.sc (.pointer none),si 0,si 0,sb false,sb false,sb false,sb false,.own false 1 []]
abbrev z20:List AV:=[si 0,si 0,B4 ⟨#[]⟩,.own false 4 []]
abbrev z21:List AV:=[.own false 2 []]
abbrev z22:List AV:=[si 0,si 0,si 0,sb false]
attribute [go_sem] z0 z1 z2 z3 z4 z5 z6 z7 z8 z9 z10 z11 z12 z13 z14 z15 z16 z17 z18 z19 z20 z21 z22
def y0:Y:=⟨[si 0],.i .i64⟩
def y1:Y:=⟨z15,.l 1 8 [si 0]⟩
def y2:Y:=⟨z3,.s [0,0,0,0,0,0,0] []⟩
def y3:Y:=⟨z2,.s [6,0,7,0] []⟩
def y4:Y:=⟨z8,.s [0,0,0,0,0,0] []⟩
def y5:Y:=⟨z0,.s [4,0,0,0] []⟩
def y6:Y:=⟨z5,.s [0,0,0,0] []⟩
def y7:Y:=⟨[.own false 7 []],.l 7 88 z3⟩
def y8:Y:=⟨z15,.l 1 16 [B4 ⟨#[]⟩]⟩
def y9:Y:=⟨[B4 ⟨#[]⟩],.t⟩
def y10:Y:=⟨z1,.s [0,0,0,0,0,4,0,0] []⟩
def y11:Y:=⟨z17,.s [0,0,0,0,0,0] [1,1,1,1,1,1]⟩
def y12:Y:=⟨z20,.s [0,0,0,0] []⟩
def y13:Y:=⟨z21,.l 2 32 [si 0,.own false 1 []]⟩
def y14:Y:=⟨[.own false 3 []],.l 3 24 [si 0,si 0,sb false]⟩
def y15:Y:=⟨[si 0,si 0,sb false],.s [0,0,0] [1,1,0]⟩
def y16:Y:=⟨z14,.s [0,0] []⟩
def y17:Y:=⟨z7,.s [4,0,0,0,0,0] []⟩
def y18:Y:=⟨[sb false],.b⟩
def y19:Y:=⟨z9,.s [0,0,0,0] []⟩
def y20:Y:=⟨z21,.l 2 24 [B4 ⟨#[]⟩,sb false]⟩
def y21:Y:=⟨z15,.l 1 1 [sb false]⟩
def y22:Y:=⟨[.own false 5 []],.l 5 48 [B4 ⟨#[]⟩,si 0,si 0,sb false,si 0]⟩
def y23:Y:=⟨[si 0,.own false 1 []],.s [0,0] []⟩
def y24:Y:=⟨z15,.l 1 24 z15⟩
def y25:Y:=⟨z21,.l 2 24 [B4 ⟨#[]⟩,si 0]⟩
def y26:Y:=⟨[B4 ⟨#[]⟩,si 0,si 0,sb false,si 0],.s [0,0,0,0,0] [2,1,1,0,1]⟩
def y27:Y:=⟨[si 0,si 0,B4 ⟨#[]⟩,si 0,si 0,B4 ⟨#[]⟩],.s [0,0,0,0,0,0] [1,1,2,1,1,2]⟩
def y28:Y:=⟨[.own false 11 []],.l 11 176 z1⟩
def y29:Y:=⟨z4,.s [4,0,0,0] []⟩
def y30:Y:=⟨z10,.s [6,0] []⟩
def y31:Y:=⟨[.own false 6 []],.l 6 48 z17⟩
def y32:Y:=⟨[.own false 4 []],.l 4 72 z11⟩
def y33:Y:=⟨[.own false 5 [],.own false 2 [],.own false 2 [],.own false 1 [],.own false 1 [],.own false 3 [],.own false 1 [],.own false 6 [],si 0,si 0],.s [6,0,0,0,0] []⟩
def y34:Y:=⟨[.sc (.pointer none)],.o⟩
def y35:Y:=⟨[.own false 5 [],.own false 2 [],.own false 2 [],.own false 1 [],.own false 1 [],.own false 3 [],.own false 7 []],.s [6,0] []⟩
def y36:Y:=⟨[.own false 4 []],.l 4 56 z20⟩
def y37:Y:=⟨[.own false 3 []],.l 3 24 [si 0,si 0,si 0]⟩
def y38:Y:=⟨[.own false 1 [],.own false 1 [],.own false 1 [],.sc (.int .u8 0),.sc (.int .u8 0)],.s [0,0,0,0,0] []⟩
def y39:Y:=⟨[.own false 5 [],.own false 2 [],.own false 2 [],.own false 1 [],.own false 1 [],.own false 3 [],si 0,.own false 2 [],si 0,.own false 1 [],.own false 3 [],.own false 1 [],.own false 1 [],.own false 1 [],.own false 7 [],.own false 1 [],.own false 1 [],.own false 1 []],.s [15,0,0,0] []⟩
def y40:Y:=⟨[si 0,si 0,.own false 1 []],.s [0,0,0] []⟩
def y41:Y:=⟨[.own false 6 []],.l 6 64 [si 0,si 0,B4 ⟨#[]⟩,si 0,si 0,B4 ⟨#[]⟩]⟩
def y42:Y:=⟨z19,.s [0,0,0,0,0,0,0,0] []⟩
def y43:Y:=⟨z21,.l 2 32 [si 0,.own false 6 []]⟩
def y44:Y:=⟨z21,.l 2 16 [si 0,sb false]⟩
def y45:Y:=⟨z11,.s [0,0,0,0] []⟩
def y46:Y:=⟨z18,.s [0,0] []⟩
def y47:Y:=⟨[si 0,.own false 6 []],.s [0,0] []⟩
def y48:Y:=⟨z15,.l 1 1 [.sc (.int .u8 0)]⟩
def y49:Y:=⟨[si 0,si 0,si 0],.s [0,0,0] [1,1,1]⟩
def y50:Y:=⟨[B4 ⟨#[]⟩,si 0],.s [0,0] [2,1]⟩
def y51:Y:=⟨[.own false 4 []],.l 4 64 z9⟩
def y52:Y:=⟨z21,.l 2 48 z18⟩
def y53:Y:=⟨[.sc (.int .u8 0)],.i .u8⟩
def y54:Y:=⟨z21,.l 2 16 [si 0,si 0]⟩
def y55:Y:=⟨[.own false 4 []],.l 4 32 z22⟩
def y56:Y:=⟨[B4 ⟨#[]⟩,sb false],.s [0,0] [2,0]⟩
def y57:Y:=⟨[si 0,sb false],.s [0,0] [1,0]⟩
def y58:Y:=⟨[.own false 15 []],.l 15 328 z2⟩
def y59:Y:=⟨[si 0,si 0],.s [0,0] [1,1]⟩
def y60:Y:=⟨[.own false 6 [],.own false 4 [],si 0,.own false 11 [],.own false 1 [],.own false 1 []],.s [2,0,0,0,0] []⟩
def y61:Y:=⟨[.own false 1 [],si 0],.s [0,0] []⟩
def y62:Y:=⟨z22,.s [0,0,0,0] [1,1,1,0]⟩
def y63:Y:=⟨[.own false 4 []],.l 4 80 z5⟩
def y64:Y:=⟨z18,.a 2 1 false⟩
def y65:Y:=⟨[sb false,sb false],.a 2 1 false⟩
def y66:Y:=⟨[B4 ⟨#[]⟩,B4 ⟨#[]⟩,B4 ⟨#[]⟩,B4 ⟨#[]⟩,B4 ⟨#[]⟩,B4 ⟨#[]⟩,B4 ⟨#[]⟩,B4 ⟨#[]⟩,B4 ⟨#[]⟩,B4 ⟨#[]⟩,B4 ⟨#[]⟩,B4 ⟨#[]⟩,B4 ⟨#[]⟩,B4 ⟨#[]⟩,B4 ⟨#[]⟩,B4 ⟨#[]⟩,B4 ⟨#[]⟩,B4 ⟨#[]⟩,B4 ⟨#[]⟩,B4 ⟨#[]⟩,B4 ⟨#[]⟩,B4 ⟨#[]⟩],.a 22 1 false⟩
def tt:List (Nat×Y):=[(3,y0),(38,y1),(68,y2),(43,y3),(31,y4),(40,y5),(36,y6),(41,y7),(28,y8),(9,y9),(2,y0),(258,y10),(248,y11),(37,y1),(256,y12),(32,y13),(34,y14),(153,y15),(203,y16),(55,y17),(4,y18),(235,y19),(26,y20),(33,y21),(25,y22),(155,y23),(76,y24),(27,y25),(168,y26),(287,y27),(240,y28),(134,y29),(139,y30),(229,y31),(201,y32),(244,y33),(125,y34),(239,y34),(81,y35),(254,y36),(29,y37),(24,y38),(120,y39),(99,y40),(64,y24),(200,y41),(252,y42),(84,y0),(137,y43),(53,y44),(242,y45),(62,y46),(231,y47),(22,y48),(164,y49),(149,y50),(250,y34),(132,y51),(49,y52),(5,y53),(52,y54),(115,y55),(158,y56),(181,y57),(83,y58),(105,y59),(284,y60),(121,y34),(127,y61),(118,y62),(282,y34),(94,y63),(159,y64),(262,y65),(293,y66)]
def cc:List (Nat×Nat):=[(15,1),(20,1),(21,1),(23,1),(27,2),(31,2),(32,2),(37,2),(38,2),(40,1),(41,1),(42,1),(55,1),(57,1),(58,1),(59,1),(60,1),(61,1),(62,1),(63,2),(64,1),(75,3),(76,1),(77,2),(81,1),(84,2),(85,3),(86,1),(87,1),(89,2),(90,2),(96,2),(97,1),(106,2),(109,2),(110,1),(111,2),(112,1),(113,1),(115,1),(116,2),(117,1),(118,2),(119,2),(120,2),(122,2),(130,2),(135,2),(139,1),(140,1),(150,2),(151,2),(152,2),(156,1),(159,2),(160,2),(161,2),(162,2),(163,2),(164,2),(165,2),(166,2),(170,3),(175,2),(180,1),(182,1),(185,2),(188,1),(189,1),(198,2),(200,3),(208,2),(221,3),(242,3),(243,3),(255,1),(256,1)]
def ll:List (Nat×Nat×Option Nat):=[(79,0,none),(82,0,none),(83,0,none),(125,0,none),(126,0,none),(127,0,none),(128,0,none),(129,0,none),(132,0,none),(133,0,none),(169,0,none),(173,0,none),(174,0,none),(176,0,none),(177,0,none),(183,0,none),(184,0,none),(187,0,none),(219,0,none),(222,0,none),(223,0,none),(249,0,none),(250,0,none),(251,0,none),(252,0,none),(253,0,none),(254,0,none),(257,0,none),(258,0,none),(269,0,none)]
def hn(K:List (Nat×List Nat):=[])(Q:List (Nat×Nat):=[])(C:List (Nat×Nat):=[])(Z:List (Nat×Bool×Nat×List Step):=[])(F:List Nat:=[])(E:List (Nat×IC):=[]):Hn:=⟨tt,C++cc,ll,K,Q,Z,F,E⟩
end Go.Abs
namespace Go.Proofs
open Go.Shelf Tryz
def iw{a:Type _}{x y:a}(h:x=y:=by kernel_rfl):some x=some y:=congrArg some h
def Tryz.rF:Go.Shelf.Ren:=⟨λ|189=>169|125=>203|257=>202|128=>234|129=>235|294=>226|295=>227|296=>228|297=>229|298=>230|299=>231|216=>204|300=>232|301=>233|328=>259|329=>260|330=>261|331=>262|332=>263|215=>236|343=>275|n=>n,λ|28=>38|3=>3|46=>269|0=>0|51=>304|53=>306|4=>4|183=>298|182=>297|131=>112|5=>5|9=>9|218=>323|222=>327|228=>341|229=>342|n=>n,λ|n=>n⟩
def Tryz.lays189:Go.Proofs.Lays.n189 prog Tryz.rF:={
 mixed:=by kernel_rfl
 f125:=func203.trans iw
 f128:=func234.trans iw
 f129:=func235.trans iw
 f189:=func169.trans iw
 f215:=func236.trans iw
 f216:=func204.trans iw
 f257:=func202.trans iw
 f294:=func226.trans iw
 f295:=func227.trans iw
 f296:=func228.trans iw
 f297:=func229.trans iw
 f298:=func230.trans iw
 f299:=func231.trans iw
 f300:=func232.trans iw
 f301:=func233.trans iw
 f328:=func259.trans iw
 f329:=func260.trans iw
 f330:=func261.trans iw
 f331:=func262.trans iw
 f332:=func263.trans iw
 f343:=func275.trans iw
 t0:=underlying0
 a0:=isAgg0
 z0:=sizeOf0
 v0:=zeroValue0
 t3:=underlying3
 a3:=isAgg3
 z3:=sizeOf3
 v3:=zeroValue3
 t4:=underlying4
 a4:=isAgg4
 z4:=sizeOf4
 v4:=zeroValue4
 t5:=underlying5
 a5:=isAgg5
 z5:=sizeOf5
 v5:=zeroValue5
 t9:=underlying9
 a9:=isAgg9
 z9:=sizeOf9
 v9:=zeroValue9
 t28:=underlying38
 a28:=isAgg38
 z28:=sizeOf38
 v28:=zeroValue38
 t46:=underlying269
 a46:=isAgg269
 z46:=sizeOf269
 v46:=zeroValue269
 t51:=underlying304
 a51:=isAgg304
 z51:=sizeOf304
 v51:=zeroValue304
 t53:=underlying306
 a53:=isAgg306
 z53:=sizeOf306
 v53:=zeroValue306
 t131:=underlying112
 a131:=isAgg112
 z131:=sizeOf112
 v131:=zeroValue112
 t182:=underlying297
 a182:=isAgg297
 z182:=sizeOf297
 v182:=zeroValue297
 t183:=underlying298
 a183:=isAgg298
 z183:=sizeOf298
 v183:=zeroValue298
 t218:=underlying323
 a218:=isAgg323
 z218:=sizeOf323
 v218:=zeroValue323
 t222:=underlying327
 a222:=isAgg327
 z222:=sizeOf327
 v222:=zeroValue327
 t228:=underlying341
 a228:=isAgg341
 z228:=sizeOf341
 v228:=zeroValue341
 t229:=underlying342
 a229:=isAgg342
 z229:=sizeOf342
 v229:=zeroValue342}
def Tryz.slices_Sort_int:=Any.slices_Sort_int Tryz.lays189
def Tryz.fG:Go.Shelf.Ren:=⟨λ|15=>152|n=>n,λ|22=>38|3=>3|4=>4|n=>n,λ|n=>n⟩
def Tryz.laysNm215:Go.Proofs.Lays2.n15 prog Tryz.fG:={
 mixed:=by kernel_rfl
 f15:=func152.trans iw
 t3:=underlying3
 a3:=isAgg3
 z3:=sizeOf3
 v3:=zeroValue3
 t4:=underlying4
 a4:=isAgg4
 z4:=sizeOf4
 v4:=zeroValue4
 t22:=underlying38
 a22:=isAgg38
 z22:=sizeOf38
 v22:=zeroValue38
 i3:=by kernel_rfl}
def Tryz.slices_Clone_int:=Any.slices_Clone_int Tryz.laysNm215
def Tryz.fH:Go.Shelf.Ren:=⟨λ|20=>170|n=>n,λ|22=>38|3=>3|4=>4|0=>0|n=>n,λ|n=>n⟩
def Tryz.jU:Go.Proofs.Lays2.n20 prog Tryz.fH:={
 mixed:=by kernel_rfl
 f20:=func170.trans iw
 t0:=underlying0
 a0:=isAgg0
 z0:=sizeOf0
 v0:=zeroValue0
 t3:=underlying3
 a3:=isAgg3
 z3:=sizeOf3
 v3:=zeroValue3
 t4:=underlying4
 a4:=isAgg4
 z4:=sizeOf4
 v4:=zeroValue4
 t22:=underlying38
 a22:=isAgg38
 z22:=sizeOf38
 v22:=zeroValue38
 i3:=by kernel_rfl}
def Tryz.slices_Compact_int:=Any.slices_Compact_int Tryz.jU
def Tryz.slices_Compact_int_empty:=Any.slices_Compact_int_empty Tryz.jU
def Tryz.slices_Sort_int_none:=Any.slices_Sort_int_none Tryz.lays189
def Tryz.UB:Go.Shelf.Ren:=⟨λ|43=>170|n=>n,λ|22=>38|23=>3|3=>3|4=>4|0=>0|n=>n,λ|n=>n⟩
def Tryz.aP:Go.Proofs.SlLaysE.n43 prog Tryz.UB:={
 mixed:=by kernel_rfl
 f43:=⟨Tryz.f170.name,by decide,func170.trans (congrArg some (by kernel_rfl))⟩
 t0:=underlying0
 a0:=isAgg0
 z0:=sizeOf0
 v0:=zeroValue0
 t3:=underlying3
 a3:=isAgg3
 z3:=sizeOf3
 v3:=zeroValue3
 t4:=underlying4
 a4:=isAgg4
 z4:=sizeOf4
 v4:=zeroValue4
 t22:=underlying38
 a22:=isAgg38
 z22:=sizeOf38
 v22:=zeroValue38
 a23:=isAgg3
 z23:=sizeOf3}
open Go.RowKit Go.Lib Go.Sort in
def Tryz.slices_Compact{a:Type}[Inhabited a][DecidableEq a](enc:a->Value)(hO:OneCell enc)(heq:EqlAt prog 3 enc (λx y=>decide (x=y)))(KK:NeqAt prog 3 enc (λx y=>decide (x=y)))(zr:a)(v23:∀w,(zeroValue 3).run prog w=.ok (enc zr) w)(Nw off cap:Nat)(d:Array a)(w:World)(hH:Holds enc w Nw off d)(Qs:d.size<=9223372036854775807)(Ex:d.size<=cap):Calls prog 170 #[.slice (some ⟨Nw,off,none⟩) d.size cap] w λe w'=>e=.returned (.slice (some ⟨Nw,off,none⟩) (compactUpTo d d.size).length cap)/\∃q,w'=putRow enc (Sort.ahead w q) Nw off (compactUpTo d d.size++List.replicate (d.size-(compactUpTo d d.size).length) zr).toArray:=AnyE.slices_Compact Tryz.aP enc hO heq KK zr v23 Nw off cap d w hH Qs Ex
def Tryz.UC:Go.Shelf.Ren:=⟨λ|10=>194|6=>224|n=>n,λ|22=>38|23=>3|25=>156|3=>3|4=>4|0=>0|n=>n,λ|n=>n⟩
def Tryz.aQ:Go.Proofs.SlLaysH.n10 prog Tryz.UC:={
 mixed:=by kernel_rfl
 f6:=⟨Tryz.f224.name,by decide,func224.trans (congrArg some (by kernel_rfl))⟩
 f10:=⟨Tryz.f194.name,by decide,func194.trans (congrArg some (by kernel_rfl))⟩
 t0:=underlying0
 a0:=isAgg0
 z0:=sizeOf0
 v0:=zeroValue0
 t3:=underlying3
 a3:=isAgg3
 z3:=sizeOf3
 v3:=zeroValue3
 t4:=underlying4
 a4:=isAgg4
 z4:=sizeOf4
 v4:=zeroValue4
 t22:=underlying38
 a22:=isAgg38
 z22:=sizeOf38
 v22:=zeroValue38
 a23:=isAgg3
 z23:=sizeOf3
 t25:=underlying156
 a25:=isAgg156
 z25:=sizeOf156
 v25:=zeroValue156}
open Go.RowKit Go.Lib Go.Sort in
def Tryz.slices_DeleteFunc{a:Type}[Inhabited a](enc:a->Value)(hO:OneCell enc)(p:a->Bool)(g:Nat)(lb:Array Value)(eg:∀args w,(callFunc g args).run prog w=.ok (.enter g args) w)(zr:a)(v23:∀w,(zeroValue 3).run prog w=.ok (enc zr) w)(Nw off cap:Nat)(d:Array a)(w:World)(hp:PredAt prog g lb enc p w)(hpo:PredOver prog g lb enc p Nw off d.size w)(hH:Holds enc w Nw off d)(Qs:d.size<=9223372036854775807)(Ex:d.size<=cap):Calls prog 194 #[.slice (some ⟨Nw,off,none⟩) d.size cap,.func (.func g) #[] lb] w λe w'=>e=.returned (.slice (some ⟨Nw,off,none⟩) (d.toList.filter λx=>!p x).length cap)/\∃q,w'=putRow enc (Sort.ahead w q) Nw off ((d.toList.filter λx=>!p x)++List.replicate (d.size-(d.toList.filter λx=>!p x).length) zr).toArray:=AnyE.slices_DeleteFunc Tryz.aQ enc hO p g lb eg zr v23 Nw off cap d w hp hpo hH Qs Ex
end Go.Proofs
namespace Go.Abs
open Go.Proofs Go.Sort Go.RowKit
def Zn(l:i6):(Lib.compact l).length<=l.length:=by unfold Lib.compact Lib.compactUpTo;rw[AAt];exact ABB (List.length_filter_le _ _) ak
def OL(l:i6):ABi (List Int):=if l.length<4611686018427387904 then some (l.mergeSort λx y=>decide (x<=y))else none
def dI{l r:i6}(h:OL l=some r):BM Tryz.prog 169 [vO 1 eI l] (.Bo []) [vO 1 eI r]:=by obtain⟨g,h⟩:=Lx h;obtain rfl:=AAK h;exact yN Tryz.slices_Sort_int Tryz.slices_Sort_int_none l g
def slices_Compact(l:i6):ABi (List Int):=if l.length<4611686018427387904 then some (Lib.compact l)else none
def WL{l r:i6}(h:slices_Compact l=some r):Says Tryz.prog 170 [vO 1 eI l] (.own false 1 (r.map eI)):=by obtain⟨g,h⟩:=Lx h;obtain rfl:=AAK h;exact eW Tryz.slices_Compact_int Tryz.slices_Compact_int_empty l g (Zn l) rfl
def givesEq(b off:Nat)(n x:Int)(W:jm)(hc:W.cell? ⟨b,off,none⟩=some (.int .i64 n)):FnGives Tryz.prog 195 #[.pointer (some ⟨b,off,none⟩)] #[.int .i64 x] (.bool (x==n)) W:=by
 show Calls Tryz.prog 195 #[.int .i64 x,.pointer (some ⟨b,off,none⟩)] W _
 go_enter Tryz.func195,Tryz.ntmps195
 go_wp2
 all_goals (go_ret;exact⟨am,0,rfl⟩)
def Jg(l:i6)(n:Int):ABi (List Int):=if l≠[]/\l.length<4611686018427387904 then some (l.filter λx=>!(x==n))else none
def PK{l r:i6}{n:Int}(h:Jg l n=some r):Says Tryz.prog 194 [vO 1 eI l,.Y7 195 [[si n]]] (.own false 1 (r.map eI)):=by obtain⟨⟨g1,g2⟩,h⟩:=Lx h;obtain rfl:=AAK h;refine lU (q:=λn x=>x==n) ?_ givesEq l n g1 g2;intro lb p Nw off cap d w hp hpo hH Qs Ex;exact Tryz.slices_DeleteFunc (Value.int .i64) (λ_=>rfl) p 195 lb (enters_of Tryz.func195 (by kernel_rfl) rfl) 0 (Tryz.zeroValue3) Nw off cap d w hp hpo hH Qs Ex
def sQ(n:Int):ABi (List Int):=if 0<=n/\n<4611686018427 then some []else none
end Go.Abs
namespace Go.Abs
open Go.Proofs
def rb0:laidOutB Tryz.prog:=by kernel_rfl
def rb1:mapsRowed Tryz.prog:=by kernel_rfl
def rb2:Tryz.prog.stopsHeard:=by kernel_rfl
def rb3:Tryz.prog.mayEnter:=by kernel_rfl
def rb4:Tryz.prog.liftsFinal=false:=by kernel_rfl
def rb5:Tryz.prog.plainKeys:=by kernel_rfl
def rb6:Tryz.prog.mainIs=some (true,"8a42790257e1b6008a5a8b49b99a48ba9345b5ac028b326e59bb36f246f00561".toList):=by kernel_rfl
def rb7:false=Tryz.prog.looks []:=by kernel_rfl
end Go.Abs
