/- Types, readings, library. -/
import Derived.Test.YtdojkofgkcmagaaGreatDoorCoreD
import Derived.Test.YtdojkofgkcmagaaGreatDoorChecked
import Derived.KernelRfl
import Derived.Shelf.Small.Bits
import Derived.Shelf.Strconv.Itoa0
import Derived.Shelf.Sort.Plain
import Derived.Ground.Names2Prog
import Derived.Shelf.Slices.Clone
import Derived.Shelf.Slices.CompactI
import Derived.Shelf.Slices.SearchI
import Derived.Shelf.Slices.In.SortNone
import Derived.Shelf.Slices.Empties
import Derived.Ground.SlgnProg
import Derived.Shelf.SlicesE.Compact
import Derived.Ground.SlgfProg
import Derived.Shelf.SlicesE.IndexFunc
import Derived.Shelf.SlicesE.DeleteFunc
import Derived.Test.YtdojkofgkcmagaaGreatDoorProg
import Derived.Lib.SliceRun
import Derived.Shelf.Spec.SlicesGrow
import Derived.JoinedOf
import Derived.SevenTiedAt
set_option linter.all false
namespace Go.Abs
open Go.Proofs
set_option maxRecDepth 1000000
set_option maxHeartbeats 4000000
def mix:Tryz.prog.follows .mixedOrders:=by kernel_rfl
@[go_sem]theorem fa:mV 0 22=some (Mq.map Value.string):=by rfl
structure Dy where
 dq:ABn
 d6:Int
 Ca:Int
 Hh:Bool
 de:Int
 deriving DecidableEq
abbrev nj:=List Dy
structure KH where
 dq:ABn
 RW:Bool
 deriving DecidableEq
structure Rf where
 dq:ABn
 dn:Int
 deriving DecidableEq
structure EF where
 cT:Int
 ew:Int
 Fq:Int
 deriving DecidableEq
abbrev ns:=List EF
structure AG where
 dg:List Dy
 AK:List KH
 Aj:List Rf
 AM:List ABn
 AB:List ABn
 Bu:List EF
 deriving DecidableEq
abbrev kv:=AG->Int->ABm AG
structure AQ where
 Bw:Int
 Ae:List Int
 deriving DecidableEq
structure AL where
 dh:Int
 DS:Int
 dy:Bool
 deriving DecidableEq
abbrev kr:=List AL
abbrev mh:=Int->Int->ABm (Int×(List AL))
abbrev mn:=(List AL)->Int->Int->ABm (Int×(List AL))
structure AP where
 AK:List AQ
 Tx:Int
 Bs:List Bool
 AB:List AL
 deriving DecidableEq
abbrev lu:=AP×Int×Bool
abbrev ml:=AP->Int->ABm AP
structure AD where
 dc:AP
 dg:List Int
 AM:List Int
 df:List Int
 deriving DecidableEq
abbrev ki:=AD->(List (List Bool))->Int->ABm Bool
abbrev lm:=AD->(List (List Bool))->Int->ABm (Int×Int)
abbrev mc:=AD×Bool
structure AZ where
 L:List Int
 At:Int
 deriving DecidableEq
abbrev j7:=Int×AZ
abbrev j9:=AZ->AD->Int->ABm (AD×AZ)
abbrev lq:=AZ->(List Int)->Int->ABm ((List Int)×AZ)
structure AH where
 cT:Int
 da:Int
 di:Int
 dm:Int
 d8:Int
 D4:List Int
 DL:List Int
 deriving DecidableEq
abbrev jo:=List AH
abbrev kf:=AZ->AD->(List AH)->(List (List Int))->ABm ((List AH)×AZ)
abbrev lc:=AZ->(List (List Int))->Int->ABm ((List AH)×AZ)
structure AF where
 db:AG
 eu:Int
 de:AD
 AA:List AH
 deriving DecidableEq
structure E1 where
 da:Int
 Fq:Int
 dq:ABn
 Ca:Int
 de:Int
 On:ABn
 deriving DecidableEq
abbrev m9:=List E1
structure BU where
 Op:Int
 N:Int
 dq:ABn
 L:List BU
abbrev nf:=BU->ABm (Int×Int)
abbrev nq:=BU->ABm Bool
structure AO where
 t:AZ
 CA:Int
 left:Int
 Ik:Bool
 tx:Bool
 d9:Bool
 ej:Bool
 eb:List ABn
 deriving DecidableEq
abbrev m0:=AO->Int->ABm (BU×AO)
structure AX where
 Op:Int
 Fq:Int
 dq:ABn
 e6:ABn
 d6:List BU
 du:BU
 dz:List AX
 ea:List AX
abbrev jv:=AO->Int->Int->ABm ((List AX)×AO)
abbrev kg:=AO->ABn->Int->ABm ((List AX)×AO)
abbrev kh:=List AX
abbrev km:=(List EF)->Int->Int->(List AX)->ABm ((List EF)×Int)
abbrev ko:=(List AX)->ABm Bool
abbrev lx:=AO->Int->ABm (AX×AO)
abbrev mu:=AO->(List AX)->Int->ABm ((List AX)×AO)
abbrev ng:=(List AX)->ABm Int
structure DB where
 dq:ABn
 Fq:Int
 Hp:List ABn
 dz:List AX
structure Aa where
 ek:List E1
 AB:List DB
abbrev lp:=AO->Aa->Int->ABm Aa
abbrev lw:=Aa->Int->BU->ABm Int
structure Bi where
 p:Aa
 CA:Int
 HQ:List AX
 NN:List ABn
 bP:List ABn
abbrev kz:=Bi->(List AX)->ABm (Int×Int×Bi)
abbrev mg:=Bool×Bi
abbrev mt:=Bi->Int->ABm (Int×Int×Bi)
structure An where
 Op:Int
 A:Int
 B:Int
 C:Int
 N:Int
 d8:Int
 deriving DecidableEq
abbrev l0:=List An
structure BX where
 w:AG
 dr:List ABn
 dt:List An
 dx:Int
 next:Int
 deriving DecidableEq
abbrev lv:=BX->AX->Int->Int->Int->ABm BX
abbrev mb:=BX->AX->ABm BX
abbrev mo:=BX->(List AX)->ABm BX
abbrev ni:=BX->List AX->ABm BX
structure BI where
 Dk:Int
 Cq:List An
 deriving DecidableEq
structure B5 where
 db:AG
 AB:List BI
 deriving DecidableEq
abbrev la:=B5->Int->Int->ABm (B5×Int×Int)
abbrev lj:=BI->Int->ABm (B5×Int×Int)
structure DK where
 cT:Int
 gE:Int
 deriving DecidableEq
abbrev nd:=List DK
structure AN where
 PC:Int
 Dk:List Int
 Dq:List (List Int)
 AA:Int
 deriving DecidableEq
structure A3 where
 dc:AP
 dg:List Int
 AM:List Int
 AB:List AN
 deriving DecidableEq
abbrev ls:=(List AH)->A3->Int->ABm ((List AH)×A3)
abbrev nY:=A3->Int->ABm A3
structure Cu where
 db:AG
 AA:List AH
 deriving DecidableEq
structure O1 where
 ez:List Int
 HU:List Int
 rC:List Int
 Ca:Int
 qH:Int
 deriving DecidableEq
structure UL where
 Re:List Int
 rH:List Int
 deriving DecidableEq
structure KW where
 ed:Int
 Bw:Int
 AK:List Int
 deriving DecidableEq
abbrev nr:=List KW×List Int
structure LQ where
 dm:Int
 UK:Bool
 deriving DecidableEq
structure Jt where
 dc:AP
 dg:List LQ
 AM:List LQ
 dv:List Int
 JU:List Bool
 e8:List Int
 deriving DecidableEq
structure AY where
 cT:Int
 YM:Int
 e7:Int
 ei:Bool
 deriving DecidableEq
abbrev jl:=(List AY)->Int->ABm (List AY)
abbrev kw:=List AY
structure AE where
 w:AF
 ef:List (List Int)
 ep:List Int
 d7:List (List Bool)
 deriving DecidableEq
abbrev jp:=AE->Int->ABm AE
abbrev lh:=(List Int)->Int->ABm AE
abbrev li:=AE->(List Int)->Int->ABm AE
abbrev lz:=(List Int)->Int->ABm ((List Int)×AE)
@[go_sem]def G5(x:Dy):List AV:=[B0 x.dq,si x.d6,si x.Ca,sb x.Hh,si x.de]
@[go_sem]theorem fb(l:nj)(y0:ABn)(y1 y2:Int)(y3:Bool)(y4:Int):l.map G5++[[B0 y0,si y1,si y2,sb y3,si y4]]=(l++[(Dy.mk y0 y1 y2 y3 y4)]).map G5:=by simp[G5]
@[go_sem]def IE(x:KH):List AV:=[B0 x.dq,sb x.RW]
@[go_sem]theorem fc(l:List KH)(y0:ABn)(y1:Bool):l.map IE++[[B0 y0,sb y1]]=(l++[(KH.mk y0 y1)]).map IE:=by simp[IE]
@[go_sem]def ID(x:Rf):List AV:=[B0 x.dq,si x.dn]
@[go_sem]theorem fe(l:List Rf)(y0:ABn)(y1:Int):l.map ID++[[B0 y0,si y1]]=(l++[(Rf.mk y0 y1)]).map ID:=by simp[ID]
@[go_sem]def eS(x:ABn):List AV:=[B0 x]
@[go_sem]theorem ff(l:jq)(y0:ABn):l.map eS++[[B0 y0]]=(l++[y0]).map eS:=by simp[eS]
@[go_sem]def GP(x:EF):List AV:=[si x.cT,si x.ew,si x.Fq]
@[go_sem]theorem fg(l:ns)(y0 y1 y2:Int):l.map GP++[[si y0,si y1,si y2]]=(l++[(EF.mk y0 y1 y2)]).map GP:=by simp[GP]
@[go_sem]def A0(x:AG):List AV:=[vS 5 G5 x.dg,vS 2 IE x.AK,vS 2 ID x.Aj,vS 1 eS x.AM,vS 1 eS x.AB,vS 3 GP x.Bu]
@[go_sem]def MR(x:AG):List AV:=[vO 5 G5 x.dg,vO 2 IE x.AK,vO 2 ID x.Aj,vO 1 eS x.AM,vO 1 eS x.AB,vO 3 GP x.Bu]
@[go_sem]def eI(x:Int):List AV:=[si x]
@[go_sem]theorem fh(l:iT)(y0:Int):l.map eI++[[si y0]]=(l++[y0]).map eI:=by simp[eI]
@[go_sem]theorem fi(l:iT)(i:Nat)(y0:Int):(l.map eI).set i [si y0]=(l.set i y0).map eI:=by simp[eI,ABD]
@[go_sem]theorem fj(n:Nat)(y0:Int):List.replicate n [si y0]=(List.replicate n y0).map eI:=by simp[eI]
@[go_sem]def C5(x:AQ):List AV:=[si x.Bw,vS 1 eI x.Ae]
@[go_sem]def eB(x:Bool):List AV:=[sb x]
@[go_sem]theorem fk(l:kj)(y0:Bool):l.map eB++[[sb y0]]=(l++[y0]).map eB:=by simp[eB]
@[go_sem]theorem fm(l:kj)(i:Nat)(y0:Bool):(l.map eB).set i [sb y0]=(l.set i y0).map eB:=by simp[eB,ABD]
@[go_sem]theorem fo(n:Nat)(y0:Bool):List.replicate n [sb y0]=(List.replicate n y0).map eB:=by simp[eB]
@[go_sem]def Ax(x:AL):List AV:=[si x.dh,si x.DS,sb x.dy]
@[go_sem]theorem fq(l:kr)(y0 y1:Int)(y2:Bool):l.map Ax++[[si y0,si y1,sb y2]]=(l++[(AL.mk y0 y1 y2)]).map Ax:=by simp[Ax]
@[go_sem]theorem ft(l:kr)(i:Nat)(y0 y1:Int)(y2:Bool):(l.map Ax).set i [si y0,si y1,sb y2]=(l.set i (AL.mk y0 y1 y2)).map Ax:=by simp[Ax,ABD]
@[go_sem]def HI(x:AP):List AV:=[vS 2 C5 x.AK,si x.Tx,vS 1 eB x.Bs,vS 3 Ax x.AB]
@[go_sem]def B3(x:AQ):List AV:=[si x.Bw,vO 1 eI x.Ae]
@[go_sem]theorem fv(l:List AQ)(y0:Int)(y1:iT):l.map B3++[[si y0,vO 1 eI y1]]=(l++[(AQ.mk y0 y1)]).map B3:=by simp[B3]
@[go_sem]theorem fw(l:List AQ)(i:Nat)(y0:Int)(y1:iT):(l.map B3).set i [si y0,vO 1 eI y1]=(l.set i (AQ.mk y0 y1)).map B3:=by simp[B3,ABD]
@[go_sem]theorem wX(l:List AQ)(i:Nat)(y0 y1:Int):(l.map B3).set i [si y0,.own false 1 [[si y1]]]=(l.set i (AQ.mk y0 [y1])).map B3:=by simp[B3,eI,ABD,vS,vO]
@[go_sem]theorem fy(l:List AQ)(y0:Int):l.map B3++[[si y0,.own false 1 []]]=(l++[(AQ.mk y0 [])]).map B3:=by simp[B3,vS,vO]
@[go_sem]theorem ga(n:Nat)(y0:Int):List.replicate n [si y0,.own false 1 []]=(List.replicate n (AQ.mk y0 [])).map B3:=by simp[B3,vS,vO]
@[go_sem]theorem gb(l:List AQ):Lw (l.map B3)=l.map C5:=by induction l with|nil=>rfl|cons x l ih=>simp only[AAf,Lw,ih,go_sem,B3,C5]
@[go_sem]def I9(x:AP):List AV:=[vO 2 B3 x.AK,si x.Tx,vO 1 eB x.Bs,vO 3 Ax x.AB]
@[go_sem]def Bc(x:AD):List AV:=[vS 2 C5 x.dc.AK,si x.dc.Tx,vS 1 eB x.dc.Bs,vS 3 Ax x.dc.AB,vS 1 eI x.dg,vS 1 eI x.AM,vS 1 eI x.df]
@[go_sem]def Ia(x:AD):List AV:=[vO 2 B3 x.dc.AK,si x.dc.Tx,vO 1 eB x.dc.Bs,vO 3 Ax x.dc.AB,vO 1 eI x.dg,vO 1 eI x.AM,vO 1 eI x.df]
@[go_sem]def lG(x:Int):List AV:=[.sc (.int .u8 x)]
@[go_sem]def Ft(x:AZ):List AV:=[vS 1 lG x.L,si x.At]
@[go_sem]def bR(x:iT):List AV:=[vS 1 eI x]
@[go_sem]theorem gc(l:je)(i:Nat)(y0:iT):(l.map bR).set i [vS 1 eI y0]=(l.set i y0).map bR:=by simp[bR,ABD]
@[go_sem]theorem gd(l:je)(i:Nat)(y0:Int):(l.map bR).set i [.sl false 1 [[si y0]]]=(l.set i [y0]).map bR:=by simp[bR,eI,ABD,vS,vO]
@[go_sem]theorem gf(l:je)(i:Nat):(l.map bR).set i [.sl false 1 []]=(l.set i []).map bR:=by simp[bR,ABD,vS,vO]
@[go_sem]theorem gh(n:Nat):List.replicate n [.sl false 1 []]=(List.replicate n []).map bR:=by simp[bR,vS,vO]
@[go_sem]def KS(x:iT):List AV:=[vO 1 eI x]
@[go_sem]theorem gi(l:je)(y0:iT):l.map KS++[[vO 1 eI y0]]=(l++[y0]).map KS:=by simp[KS]
@[go_sem]theorem gj(l:je)(i:Nat)(y0:iT):(l.map KS).set i [vO 1 eI y0]=(l.set i y0).map KS:=by simp[KS,ABD]
@[go_sem]theorem gk(n:Nat):List.replicate n [.own false 1 []]=(List.replicate n []).map KS:=by simp[KS,vS,vO]
@[go_sem]theorem gm(l:je):Lw (l.map KS)=l.map bR:=by induction l with|nil=>rfl|cons x l ih=>simp only[AAf,Lw,ih,go_sem,KS,bR]
@[go_sem]def Am(x:AH):List AV:=[si x.cT,si x.da,si x.di,si x.dm,si x.d8,vS 1 eI x.D4,vS 1 eI x.DL]
@[go_sem]theorem gn(l:jo)(y0 y1 y2 y3 y4:Int)(y5 y6:iT):l.map Am++[[si y0,si y1,si y2,si y3,si y4,vS 1 eI y5,vS 1 eI y6]]=(l++[(AH.mk y0 y1 y2 y3 y4 y5 y6)]).map Am:=by simp[Am]
@[go_sem]def Ix(x:AH):List AV:=[si x.cT,si x.da,si x.di,si x.dm,si x.d8,vO 1 eI x.D4,vO 1 eI x.DL]
@[go_sem]theorem go(l:jo)(y0 y1 y2 y3 y4:Int):l.map Ix++[[si y0,si y1,si y2,si y3,si y4,.own false 1 [],.own false 1 []]]=(l++[(AH.mk y0 y1 y2 y3 y4 [] [])]).map Ix:=by simp[Ix,vS,vO]
@[go_sem]theorem gp(l:jo):Lw (l.map Ix)=l.map Am:=by induction l with|nil=>rfl|cons x l ih=>simp only[AAf,Lw,ih,go_sem,Ix,Am]
@[go_sem]def A5(x:AF):List AV:=[vS 5 G5 x.db.dg,vS 2 IE x.db.AK,vS 2 ID x.db.Aj,vS 1 eS x.db.AM,vS 1 eS x.db.AB,vS 3 GP x.db.Bu,si x.eu,vS 2 C5 x.de.dc.AK,si x.de.dc.Tx,vS 1 eB x.de.dc.Bs,vS 3 Ax x.de.dc.AB,vS 1 eI x.de.dg,vS 1 eI x.de.AM,vS 1 eI x.de.df,vS 7 Am x.AA]
@[go_sem]def Kb(x:E1):List AV:=[si x.da,si x.Fq,B0 x.dq,si x.Ca,si x.de,B0 x.On]
mutual
def BT:BU->List AV|⟨y0,y1,y2,y3⟩=>[si y0,si y1,B0 y2,.sl false 4 (gY y3)]
def gY:List BU->List (List AV)|[]=>[]|x::l=>BT x::gY l
end
def eExpr_m(l:List BU):gY l=l.map BT:=by induction l<;>simp[gY, *]
@[go_sem]theorem gq(x:BU):BT x=[si x.Op,si x.N,B0 x.dq,vS 4 BT x.L]:=by cases x;simp[BT,eExpr_m]
@[go_sem]theorem gr(x:BU):BU.mk x.Op x.N x.dq x.L=x:=by cases x;rfl
@[go_sem]def Ch(x:AO):List AV:=[bA 2 [vS 1 lG x.t.L,si x.t.At],si x.CA,si x.left,sb x.Ik,sb x.tx,sb x.d9,sb x.ej,vO 1 eS x.eb]
mutual
def BM:AX->List AV|⟨y0,y1,y2,y3,y4,y5,y6,y7⟩=>[si y0,si y1,B0 y2,B0 y3,vS 4 BT y4,si y5.Op,si y5.N,B0 y5.dq,vS 4 BT y5.L,.sl false 11 (Y6 y6),.sl false 11 (Y6 y7)]
def Y6:List AX->List (List AV)|[]=>[]|x::l=>BM x::Y6 l
end
def eStmt_m(l:kh):Y6 l=l.map BM:=by induction l<;>simp[Y6, *]
@[go_sem]theorem gZ(x:AX):BM x=[si x.Op,si x.Fq,B0 x.dq,B0 x.e6,vS 4 BT x.d6,si x.du.Op,si x.du.N,B0 x.du.dq,vS 4 BT x.du.L,vS 11 BM x.dz,vS 11 BM x.ea]:=by cases x;simp[BM,eStmt_m]
@[go_sem]theorem gu(x:AX):AX.mk x.Op x.Fq x.dq x.e6 x.d6 x.du x.dz x.ea=x:=by cases x;rfl
@[go_sem]theorem gv(l:kh)(y0 y1:Int)(y2 y3:ByteArray)(y4:List BU)(y5 y6:Int)(y7:ByteArray)(y8:List BU)(y9 y10:kh):l.map BM++[[si y0,si y1,B0 y2,B0 y3,vS 4 BT y4,si y5,si y6,B0 y7,vS 4 BT y8,vS 11 BM y9,vS 11 BM y10]]=(l++[(AX.mk y0 y1 y2 y3 y4 (BU.mk y5 y6 y7 y8) y9 y10)]).map BM:=by simp[gZ]
@[go_sem]theorem gx(l:kh)(i:Nat)(y0 y1:Int)(y2 y3:ByteArray)(y4:List BU)(y5 y6:Int)(y7:ByteArray)(y8:List BU)(y9 y10:kh):(l.map BM).set i [si y0,si y1,B0 y2,B0 y3,vS 4 BT y4,si y5,si y6,B0 y7,vS 4 BT y8,vS 11 BM y9,vS 11 BM y10]=(l.set i (AX.mk y0 y1 y2 y3 y4 (BU.mk y5 y6 y7 y8) y9 y10)).map BM:=by simp[gZ,List.map_set]
@[go_sem]theorem gy(l:kh)(y0 y1:Int)(y2 y3:ByteArray)(y5 y6:Int)(y7:ByteArray):l.map BM++[[si y0,si y1,B0 y2,B0 y3,.sl false 4 [],si y5,si y6,B0 y7,.sl false 4 [],.sl false 11 [],.sl false 11 []]]=(l++[(AX.mk y0 y1 y2 y3 [] (BU.mk y5 y6 y7 []) [] [])]).map BM:=by simp[gZ,vS,vO]
@[go_sem]def JO(x:DB):List AV:=[B0 x.dq,si x.Fq,vS 1 eS x.Hp,vS 11 BM x.dz]
@[go_sem]theorem gJ(l:List DB)(y0:ByteArray)(y1:Int)(y2:List ByteArray)(y3:kh):l.map JO++[[B0 y0,si y1,vS 1 eS y2,vS 11 BM y3]]=(l++[(DB.mk y0 y1 y2 y3)]).map JO:=by simp[JO]
@[go_sem]def Cf(x:Aa):List AV:=[vS 6 Kb x.ek,vS 4 JO x.AB]
@[go_sem]def Hr(x:Bi):List AV:=[vS 6 Kb x.p.ek,vS 4 JO x.p.AB,si x.CA,vO 11 BM x.HQ,vO 1 eS x.NN,vO 1 eS x.bP]
@[go_sem]def mR(x:DB):List AV:=[B0 x.dq,si x.Fq,vO 1 eS x.Hp,vO 11 BM x.dz]
@[go_sem]def EX(x:An):List AV:=[si x.Op,si x.A,si x.B,si x.C,si x.N,si x.d8]
@[go_sem]theorem gT(l:l0)(y0 y1 y2 y3 y4 y5:Int):l.map EX++[[si y0,si y1,si y2,si y3,si y4,si y5]]=(l++[(An.mk y0 y1 y2 y3 y4 y5)]).map EX:=by simp[EX]
@[go_sem]theorem ia(l:l0)(i:Nat)(y0 y1 y2 y3 y4 y5:Int):(l.map EX).set i [si y0,si y1,si y2,si y3,si y4,si y5]=(l.set i (An.mk y0 y1 y2 y3 y4 y5)).map EX:=by simp[EX,List.map_set]
@[go_sem]def egen(x:BX):List AV:=[vS 5 G5 x.w.dg,vS 2 IE x.w.AK,vS 2 ID x.w.Aj,vS 1 eS x.w.AM,vS 1 eS x.w.AB,vS 3 GP x.w.Bu,vS 1 eS x.dr,vS 6 EX x.dt,si x.dx,si x.next]
@[go_sem]def Ee(x:BX):List AV:=[vS 5 G5 x.w.dg,vS 2 IE x.w.AK,vS 2 ID x.w.Aj,vS 1 eS x.w.AM,vS 1 eS x.w.AB,vS 3 GP x.w.Bu,vS 1 eS x.dr,vO 6 EX x.dt,si x.dx,si x.next]
@[go_sem]def Cr(x:BI):List AV:=[si x.Dk,vS 6 EX x.Cq]
@[go_sem]theorem ib(l:List BI)(y0:Int)(y1:l0):l.map Cr++[[si y0,vS 6 EX y1]]=(l++[(BI.mk y0 y1)]).map Cr:=by simp[Cr]
@[go_sem]def KI(x:B5):List AV:=[vS 5 G5 x.db.dg,vS 2 IE x.db.AK,vS 2 ID x.db.Aj,vS 1 eS x.db.AM,vS 1 eS x.db.AB,vS 3 GP x.db.Bu,vS 2 Cr x.AB]
@[go_sem]def Ju(x:DK):List AV:=[si x.cT,si x.gE]
@[go_sem]theorem ie(l:nd)(y0 y1:Int):l.map Ju++[[si y0,si y1]]=(l++[(DK.mk y0 y1)]).map Ju:=by simp[Ju]
@[go_sem]def FN(x:AN):List AV:=[si x.PC,vS 1 eI x.Dk,vS 1 bR x.Dq,si x.AA]
@[go_sem]def K6(x:A3):List AV:=[vS 2 C5 x.dc.AK,si x.dc.Tx,vS 1 eB x.dc.Bs,vS 3 Ax x.dc.AB,vS 1 eI x.dg,vS 1 eI x.AM,vS 4 FN x.AB]
@[go_sem]def CP(x:AN):List AV:=[si x.PC,vO 1 eI x.Dk,vO 1 bR x.Dq,si x.AA]
@[go_sem]theorem ig(l:List AN)(y0:Int)(y1:iT)(y2:je)(y3:Int):l.map CP++[[si y0,vO 1 eI y1,vO 1 bR y2,si y3]]=(l++[(AN.mk y0 y1 y2 y3)]).map CP:=by simp[CP]
@[go_sem]theorem ii(l:List AN)(i:Nat)(y0:Int)(y1:iT)(y2:je)(y3:Int):(l.map CP).set i [si y0,vO 1 eI y1,vO 1 bR y2,si y3]=(l.set i (AN.mk y0 y1 y2 y3)).map CP:=by simp[CP,List.map_set]
@[go_sem]theorem ij(l:List AN):Lw (l.map CP)=l.map FN:=by induction l with|nil=>rfl|cons x l ih=>simp only[List.map_cons,Lw,ih,go_sem,CP,FN]
@[go_sem]def NX(x:A3):List AV:=[vO 2 B3 x.dc.AK,si x.dc.Tx,vO 1 eB x.dc.Bs,vO 3 Ax x.dc.AB,vO 1 eI x.dg,vO 1 eI x.AM,vO 4 CP x.AB]
@[go_sem]def TO(x:Cu):List AV:=[vS 5 G5 x.db.dg,vS 2 IE x.db.AK,vS 2 ID x.db.Aj,vS 1 eS x.db.AM,vS 1 eS x.db.AB,vS 3 GP x.db.Bu,vS 7 Am x.AA]
@[go_sem]def hZ(x:Cu):List AV:=[vS 5 G5 x.db.dg,vS 2 IE x.db.AK,vS 2 ID x.db.Aj,vS 1 eS x.db.AM,vS 1 eS x.db.AB,vS 3 GP x.db.Bu,vO 7 Am x.AA]
@[go_sem]def LW(x:AF):List AV:=[vS 5 G5 x.db.dg,vS 2 IE x.db.AK,vS 2 ID x.db.Aj,vS 1 eS x.db.AM,vS 1 eS x.db.AB,vS 3 GP x.db.Bu,si x.eu,vO 2 B3 x.de.dc.AK,si x.de.dc.Tx,vO 1 eB x.de.dc.Bs,vO 3 Ax x.de.dc.AB,vO 1 eI x.de.dg,vO 1 eI x.de.AM,vO 1 eI x.de.df,vS 7 Am x.AA]
@[go_sem]theorem ik(l:List AF)(y0:nj)(y1:List KH)(y2:List Rf)(y3 y4:List ByteArray)(y5:ns)(y6:Int)(y7:List AQ)(y8:Int)(y9:kj)(y10:kr)(y11 y12 y13:iT)(y14:jo):l.map LW++[[vS 5 G5 y0,vS 2 IE y1,vS 2 ID y2,vS 1 eS y3,vS 1 eS y4,vS 3 GP y5,si y6,vO 2 B3 y7,si y8,vO 1 eB y9,vO 3 Ax y10,vO 1 eI y11,vO 1 eI y12,vO 1 eI y13,vS 7 Am y14]]=(l++[(AF.mk (AG.mk y0 y1 y2 y3 y4 y5) y6 (AD.mk (AP.mk y7 y8 y9 y10) y11 y12 y13) y14)]).map LW:=by simp[LW]
@[go_sem]theorem il(l:List AF):Lw (l.map LW)=l.map A5:=by induction l with|nil=>rfl|cons x l ih=>simp only[List.map_cons,Lw,ih,go_sem,LW,A5]
@[go_sem]def lF(x:O1):List AV:=[vS 1 lG x.ez,vS 1 lG x.HU,vS 1 lG x.rC,.sc (.int .u8 x.Ca),.sc (.int .u8 x.qH)]
@[go_sem]def eLB(x:kj):List AV:=[vS 1 eB x]
@[go_sem]def KR(x:kj):List AV:=[vO 1 eB x]
@[go_sem]theorem im(l:jb)(y0:kj):l.map KR++[[vO 1 eB y0]]=(l++[y0]).map KR:=by simp[KR]
@[go_sem]theorem ip(l:jb)(i:Nat)(y0:kj):(l.map KR).set i [vO 1 eB y0]=(l.set i y0).map KR:=by simp[KR,List.map_set]
@[go_sem]theorem iq(l:jb):Lw (l.map KR)=l.map eLB:=by induction l with|nil=>rfl|cons x l ih=>simp only[List.map_cons,Lw,ih,go_sem,KR,eLB]
@[go_sem]def FM(x:AY):List AV:=[si x.cT,si x.YM,si x.e7,sb x.ei]
@[go_sem]theorem ir(l:kw)(y0 y1 y2:Int)(y3:Bool):l.map FM++[[si y0,si y1,si y2,sb y3]]=(l++[(AY.mk y0 y1 y2 y3)]).map FM:=by simp[FM]
@[go_sem]theorem iu(l:kw)(i:Nat)(y0 y1 y2:Int)(y3:Bool):(l.map FM).set i [si y0,si y1,si y2,sb y3]=(l.set i (AY.mk y0 y1 y2 y3)).map FM:=by simp[FM,List.map_set]
@[go_sem]def Bf(x:AE):List AV:=[vS 5 G5 x.w.db.dg,vS 2 IE x.w.db.AK,vS 2 ID x.w.db.Aj,vS 1 eS x.w.db.AM,vS 1 eS x.w.db.AB,vS 3 GP x.w.db.Bu,si x.w.eu,vS 2 C5 x.w.de.dc.AK,si x.w.de.dc.Tx,vS 1 eB x.w.de.dc.Bs,vS 3 Ax x.w.de.dc.AB,vS 1 eI x.w.de.dg,vS 1 eI x.w.de.AM,vS 1 eI x.w.de.df,vS 7 Am x.w.AA,vO 1 KS x.ef,vO 1 eI x.ep,vO 1 KR x.d7]
@[go_sem]theorem iv(n:Nat):(List.replicate n ([]:List Bool)).map KR=(List.replicate n ([]:List Int)).map KS:=by simp[KR,KS]
abbrev z0:List AV:=[.own false 2 [],si 0,.own false 1 [],.own false 3 [],.own false 1 [],.own false 1 [],.own false 1 []]
abbrev z1:List AV:=[si 0,si 0,B0 ⟨#[]⟩,B0 ⟨#[]⟩,.own false 4 [],si 0,si 0,B0 ⟨#[]⟩,.own false 4 [],.own false 11 [],.own false 11 []]
abbrev z2:List AV:=[.own false 5 [],.own false 2 [],.own false 2 [],.own false 1 [],.own false 1 [],.own false 3 [],si 0,.own false 2 [],si 0,.own false 1 [],.own false 3 [],.own false 1 [],.own false 1 [],.own false 1 [],.own false 7 []]
abbrev z3:List AV:=[si 0,si 0,si 0,si 0,si 0,.own false 1 [],.own false 1 []]
abbrev z4:List AV:=[.own false 2 [],si 0,.own false 1 [],.own false 3 [],.own false 1 [],.own false 1 [],.own false 4 []]
abbrev z5:List AV:=[si 0,si 0,B0 ⟨#[]⟩,B0 ⟨#[]⟩,.sl false 4 [],si 0,si 0,B0 ⟨#[]⟩,.sl false 4 [],.sl false 11 [],.sl false 11 []]
abbrev z6:List AV:=[.own false 2 [],si 0,.own false 1 [],.own false 3 []]
abbrev z7:List AV:=[.own false 2 [],si 0,.own false 1 [],.own false 3 [],.own false 2 [],.own false 2 [],.own false 1 [],.own false 1 [],.own false 1 []]
abbrev z8:List AV:=[.own false 5 [],.own false 2 [],.own false 2 [],.own false 1 [],.own false 1 [],.own false 3 []]
abbrev z9:List AV:=[si 0,.own false 1 [],.own false 1 [],si 0]
abbrev z10:List AV:=[.own false 5 [],.own false 2 [],.own false 2 [],.own false 1 [],.own false 1 [],.own false 3 [],.own false 2 []]
abbrev z11:List AV:=[B0 ⟨#[]⟩,si 0,.own false 1 [],.own false 11 []]
abbrev z12:List AV:=[.sl false 5 [],.sl false 2 [],.sl false 2 [],.sl false 1 [],.sl false 1 [],.sl false 3 [],.own false 7 []]
abbrev z13:List AV:=[.sl false 2 [],si 0,.sl false 1 [],.sl false 3 [],.sl false 1 [],.sl false 1 [],.sl false 4 []]
abbrev z14:List AV:=[.own false 6 [],.own false 4 []]
abbrev z15:List AV:=[.own false 1 []]
abbrev z16:List (List AV):=[[B0 ⟨#[109,97,105,110]⟩],[B0 ⟨#[116,49]⟩],[B0 ⟨#[116,50]⟩],[B0 ⟨#[116,51]⟩]]
abbrev z17:List AV:=[si 0,si 0,si 0,si 0,si 0,si 0]
abbrev z18:List AV:=[.own false 1 [],.own false 1 []]
abbrev z19:List AV:=[.sc (.pointer none),si 0,si 0,sb false,sb false,sb false,sb false,.own false 1 []]
abbrev z20:List AV:=[si 0,si 0,B0 ⟨#[]⟩,.own false 4 []]
abbrev z21:List AV:=[.own false 2 []]
abbrev z22:List AV:=[si 0,si 0,si 0,sb false]
attribute [go_sem] z0 z1 z2 z3 z4 z5 z6 z7 z8 z9 z10 z11 z12 z13 z14 z15 z16 z17 z18 z19 z20 z21 z22
def y0:Y:=⟨[si 0],.i .i64⟩
def y1:Y:=⟨z15,.l 1 8 [si 0]⟩
def y2:Y:=⟨z3,.s [0,0,0,0,0,0,0] []⟩
def y3:Y:=⟨z2,.s [6,0,7,0] []⟩
def y4:Y:=⟨z8,.s [0,0,0,0,0,0] []⟩
def y5:Y:=⟨z6,.s [0,0,0,0] []⟩
def y6:Y:=⟨z0,.s [4,0,0,0] []⟩
def y7:Y:=⟨[.own false 7 []],.l 7 88 z3⟩
def y8:Y:=⟨z15,.l 1 16 [B0 ⟨#[]⟩]⟩
def y9:Y:=⟨[B0 ⟨#[]⟩],.t⟩
def y10:Y:=⟨z1,.s [0,0,0,0,0,4,0,0] []⟩
def y11:Y:=⟨z17,.s [0,0,0,0,0,0] [1,1,1,1,1,1]⟩
def y12:Y:=⟨z21,.l 2 32 [si 0,.own false 1 []]⟩
def y13:Y:=⟨[.own false 3 []],.l 3 24 [si 0,si 0,sb false]⟩
def y14:Y:=⟨z20,.s [0,0,0,0] []⟩
def y15:Y:=⟨[si 0,si 0,sb false],.s [0,0,0] [1,1,0]⟩
def y16:Y:=⟨z14,.s [0,0] []⟩
def y17:Y:=⟨[sb false],.b⟩
def y18:Y:=⟨z7,.s [4,0,0,0,0,0] []⟩
def y19:Y:=⟨z9,.s [0,0,0,0] []⟩
def y20:Y:=⟨z15,.l 1 1 [sb false]⟩
def y21:Y:=⟨z21,.l 2 24 [B0 ⟨#[]⟩,sb false]⟩
def y22:Y:=⟨[si 0,.own false 1 []],.s [0,0] []⟩
def y23:Y:=⟨[.own false 5 []],.l 5 48 [B0 ⟨#[]⟩,si 0,si 0,sb false,si 0]⟩
def y24:Y:=⟨z21,.l 2 24 [B0 ⟨#[]⟩,si 0]⟩
def y25:Y:=⟨z15,.l 1 24 z15⟩
def y26:Y:=⟨[B0 ⟨#[]⟩,si 0,si 0,sb false,si 0],.s [0,0,0,0,0] [2,1,1,0,1]⟩
def y27:Y:=⟨[si 0,si 0,B0 ⟨#[]⟩,si 0,si 0,B0 ⟨#[]⟩],.s [0,0,0,0,0,0] [1,1,2,1,1,2]⟩
def y28:Y:=⟨[.own false 11 []],.l 11 176 z1⟩
def y29:Y:=⟨z4,.s [4,0,0,0] []⟩
def y30:Y:=⟨z10,.s [6,0] []⟩
def y31:Y:=⟨[.own false 6 []],.l 6 48 z17⟩
def y32:Y:=⟨[.own false 4 []],.l 4 72 z11⟩
def y33:Y:=⟨[.own false 5 [],.own false 2 [],.own false 2 [],.own false 1 [],.own false 1 [],.own false 3 [],.own false 1 [],.own false 6 [],si 0,si 0],.s [6,0,0,0,0] []⟩
def y34:Y:=⟨[.sc (.pointer none)],.o⟩
def y35:Y:=⟨[.own false 5 [],.own false 2 [],.own false 2 [],.own false 1 [],.own false 1 [],.own false 3 [],.own false 7 []],.s [6,0] []⟩
def y36:Y:=⟨[.own false 4 []],.l 4 56 z20⟩
def y37:Y:=⟨[.own false 3 []],.l 3 24 [si 0,si 0,si 0]⟩
def y38:Y:=⟨[.own false 1 [],.own false 1 [],.own false 1 [],.sc (.int .u8 0),.sc (.int .u8 0)],.s [0,0,0,0,0] []⟩
def y39:Y:=⟨[.own false 5 [],.own false 2 [],.own false 2 [],.own false 1 [],.own false 1 [],.own false 3 [],si 0,.own false 2 [],si 0,.own false 1 [],.own false 3 [],.own false 1 [],.own false 1 [],.own false 1 [],.own false 7 [],.own false 1 [],.own false 1 [],.own false 1 []],.s [15,0,0,0] []⟩
def y40:Y:=⟨[si 0,si 0,.own false 1 []],.s [0,0,0] []⟩
def y41:Y:=⟨[.own false 6 []],.l 6 64 [si 0,si 0,B0 ⟨#[]⟩,si 0,si 0,B0 ⟨#[]⟩]⟩
def y42:Y:=⟨z19,.s [0,0,0,0,0,0,0,0] []⟩
def y43:Y:=⟨z21,.l 2 32 [si 0,.own false 6 []]⟩
def y44:Y:=⟨z21,.l 2 16 [si 0,sb false]⟩
def y45:Y:=⟨z11,.s [0,0,0,0] []⟩
def y46:Y:=⟨z18,.s [0,0] []⟩
def y47:Y:=⟨[si 0,.own false 6 []],.s [0,0] []⟩
def y48:Y:=⟨z15,.l 1 1 [.sc (.int .u8 0)]⟩
def y49:Y:=⟨[B0 ⟨#[]⟩,si 0],.s [0,0] [2,1]⟩
def y50:Y:=⟨[si 0,si 0,si 0],.s [0,0,0] [1,1,1]⟩
def y51:Y:=⟨[.own false 4 []],.l 4 64 z9⟩
def y52:Y:=⟨z21,.l 2 48 z18⟩
def y53:Y:=⟨[.sc (.int .u8 0)],.i .u8⟩
def y54:Y:=⟨z21,.l 2 16 [si 0,si 0]⟩
def y55:Y:=⟨[.own false 4 []],.l 4 32 z22⟩
def y56:Y:=⟨[B0 ⟨#[]⟩,sb false],.s [0,0] [2,0]⟩
def y57:Y:=⟨[si 0,sb false],.s [0,0] [1,0]⟩
def y58:Y:=⟨[.own false 15 []],.l 15 328 z2⟩
def y59:Y:=⟨[si 0,si 0],.s [0,0] [1,1]⟩
def y60:Y:=⟨[.own false 6 [],.own false 4 [],si 0,.own false 11 [],.own false 1 [],.own false 1 []],.s [2,0,0,0,0] []⟩
def y61:Y:=⟨[.own false 1 [],si 0],.s [0,0] []⟩
def y62:Y:=⟨z22,.s [0,0,0,0] [1,1,1,0]⟩
def y63:Y:=⟨[.own false 4 []],.l 4 80 z6⟩
def y64:Y:=⟨z18,.a 2 1 false⟩
def y65:Y:=⟨[sb false,sb false],.a 2 1 false⟩
def y66:Y:=⟨[B0 ⟨#[]⟩,B0 ⟨#[]⟩,B0 ⟨#[]⟩,B0 ⟨#[]⟩,B0 ⟨#[]⟩,B0 ⟨#[]⟩,B0 ⟨#[]⟩,B0 ⟨#[]⟩,B0 ⟨#[]⟩,B0 ⟨#[]⟩,B0 ⟨#[]⟩,B0 ⟨#[]⟩,B0 ⟨#[]⟩,B0 ⟨#[]⟩,B0 ⟨#[]⟩,B0 ⟨#[]⟩,B0 ⟨#[]⟩,B0 ⟨#[]⟩,B0 ⟨#[]⟩,B0 ⟨#[]⟩,B0 ⟨#[]⟩,B0 ⟨#[]⟩],.a 22 1 false⟩
def tt:List (Nat×Y):=[(3,y0),(38,y1),(68,y2),(43,y3),(31,y4),(36,y5),(40,y6),(41,y7),(28,y8),(9,y9),(2,y0),(258,y10),(248,y11),(37,y1),(32,y12),(34,y13),(256,y14),(153,y15),(203,y16),(4,y17),(55,y18),(235,y19),(33,y20),(26,y21),(155,y22),(25,y23),(27,y24),(76,y25),(168,y26),(287,y27),(240,y28),(134,y29),(139,y30),(229,y31),(201,y32),(244,y33),(125,y34),(239,y34),(81,y35),(254,y36),(29,y37),(24,y38),(120,y39),(99,y40),(64,y25),(200,y41),(252,y42),(84,y0),(137,y43),(53,y44),(242,y45),(62,y46),(231,y47),(22,y48),(149,y49),(164,y50),(250,y34),(132,y51),(49,y52),(5,y53),(52,y54),(115,y55),(158,y56),(181,y57),(83,y58),(105,y59),(284,y60),(121,y34),(127,y61),(118,y62),(282,y34),(94,y63),(159,y64),(262,y65),(293,y66)]
def cc:List (Nat×Nat):=[(15,1),(20,1),(21,1),(23,1),(27,2),(31,2),(32,2),(37,2),(38,2),(40,1),(41,1),(42,1),(55,1),(57,1),(58,1),(59,1),(60,1),(61,1),(62,1),(63,2),(64,1),(75,3),(76,1),(77,2),(81,1),(84,2),(85,3),(86,1),(87,1),(89,2),(90,2),(96,2),(97,1),(106,2),(109,2),(110,1),(111,2),(112,1),(113,1),(115,1),(116,2),(117,1),(118,2),(119,2),(120,2),(122,2),(130,2),(135,2),(139,1),(140,1),(150,2),(151,2),(152,2),(156,1),(159,2),(160,2),(161,2),(162,2),(163,2),(164,2),(165,2),(166,2),(170,3),(175,2),(180,1),(182,1),(185,2),(188,1),(189,1),(193,2),(198,2),(200,3),(208,2),(221,3),(242,3),(243,3),(255,1),(256,1)]
def ll:List (Nat×Nat×Option Nat):=[(79,0,none),(82,0,none),(83,0,none),(125,0,none),(126,0,none),(127,0,none),(128,0,none),(129,0,none),(132,0,none),(133,0,none),(169,0,none),(173,0,none),(174,0,none),(176,0,none),(177,0,none),(183,0,none),(184,0,none),(187,0,none),(196,0,some 3),(197,0,some 3),(219,0,none),(222,0,none),(223,0,none),(249,0,none),(250,0,none),(251,0,none),(252,0,none),(253,0,none),(254,0,none),(257,0,none),(258,0,none),(269,0,none)]
def hn(K:List (Nat×List Nat):=[])(Q:List (Nat×Nat):=[])(C:List (Nat×Nat):=[])(Z:List (Nat×Bool×Nat×List Step):=[])(F:List Nat:=[])(E:List (Nat×IC):=[]):Hn:=⟨tt,C++cc,ll,K,Q,Z,F,E⟩
end Go.Abs
namespace Go.Proofs
open Go.Shelf Tryz
def iw{a:Type _}{x y:a}(h:x=y:=by kernel_rfl):some x=some y:=congrArg some h
def Tryz.nV:Go.Shelf.Ren:=⟨λ|189=>169|125=>203|257=>202|128=>234|129=>235|294=>226|295=>227|296=>228|297=>229|298=>230|299=>231|216=>204|300=>232|301=>233|328=>259|329=>260|330=>261|331=>262|332=>263|215=>236|343=>275|n=>n,λ|28=>38|3=>3|46=>269|0=>0|51=>304|53=>306|4=>4|183=>298|182=>297|131=>112|5=>5|9=>9|218=>323|222=>327|228=>341|229=>342|n=>n,λ|n=>n⟩
def Tryz.xO:Go.Proofs.Lays.n189 prog Tryz.nV:={
 mixed:=by kernel_rfl
 f125:=func203.trans iw
 f128:=func234.trans iw
 f129:=func235.trans iw
 f189:=func169.trans iw
 f215:=func236.trans iw
 f216:=func204.trans iw
 f257:=func202.trans iw
 f294:=func226.trans iw
 f295:=func227.trans iw
 f296:=func228.trans iw
 f297:=func229.trans iw
 f298:=func230.trans iw
 f299:=func231.trans iw
 f300:=func232.trans iw
 f301:=func233.trans iw
 f328:=func259.trans iw
 f329:=func260.trans iw
 f330:=func261.trans iw
 f331:=func262.trans iw
 f332:=func263.trans iw
 f343:=func275.trans iw
 t0:=underlying0
 a0:=isAgg0
 z0:=sizeOf0
 v0:=zeroValue0
 t3:=underlying3
 a3:=isAgg3
 z3:=sizeOf3
 v3:=zeroValue3
 t4:=underlying4
 a4:=isAgg4
 z4:=sizeOf4
 v4:=zeroValue4
 t5:=underlying5
 a5:=isAgg5
 z5:=sizeOf5
 v5:=zeroValue5
 t9:=underlying9
 a9:=isAgg9
 z9:=sizeOf9
 v9:=zeroValue9
 t28:=underlying38
 a28:=isAgg38
 z28:=sizeOf38
 v28:=zeroValue38
 t46:=underlying269
 a46:=isAgg269
 z46:=sizeOf269
 v46:=zeroValue269
 t51:=underlying304
 a51:=isAgg304
 z51:=sizeOf304
 v51:=zeroValue304
 t53:=underlying306
 a53:=isAgg306
 z53:=sizeOf306
 v53:=zeroValue306
 t131:=underlying112
 a131:=isAgg112
 z131:=sizeOf112
 v131:=zeroValue112
 t182:=underlying297
 a182:=isAgg297
 z182:=sizeOf297
 v182:=zeroValue297
 t183:=underlying298
 a183:=isAgg298
 z183:=sizeOf298
 v183:=zeroValue298
 t218:=underlying323
 a218:=isAgg323
 z218:=sizeOf323
 v218:=zeroValue323
 t222:=underlying327
 a222:=isAgg327
 z222:=sizeOf327
 v222:=zeroValue327
 t228:=underlying341
 a228:=isAgg341
 z228:=sizeOf341
 v228:=zeroValue341
 t229:=underlying342
 a229:=isAgg342
 z229:=sizeOf342
 v229:=zeroValue342}
def Tryz.slices_Sort_int:=Any.slices_Sort_int Tryz.xO
def Tryz.cY:Go.Shelf.Ren:=⟨λ|15=>152|n=>n,λ|22=>38|3=>3|4=>4|n=>n,λ|n=>n⟩
def Tryz.laysNm215:Go.Proofs.Lays2.n15 prog Tryz.cY:={
 mixed:=by kernel_rfl
 f15:=func152.trans iw
 t3:=underlying3
 a3:=isAgg3
 z3:=sizeOf3
 v3:=zeroValue3
 t4:=underlying4
 a4:=isAgg4
 z4:=sizeOf4
 v4:=zeroValue4
 t22:=underlying38
 a22:=isAgg38
 z22:=sizeOf38
 v22:=zeroValue38
 i3:=by kernel_rfl}
def Tryz.slices_Clone_int:=Any.slices_Clone_int Tryz.laysNm215
def Tryz.cZ:Go.Shelf.Ren:=⟨λ|20=>170|n=>n,λ|22=>38|3=>3|4=>4|0=>0|n=>n,λ|n=>n⟩
def Tryz.fM:Go.Proofs.Lays2.n20 prog Tryz.cZ:={
 mixed:=by kernel_rfl
 f20:=func170.trans iw
 t0:=underlying0
 a0:=isAgg0
 z0:=sizeOf0
 v0:=zeroValue0
 t3:=underlying3
 a3:=isAgg3
 z3:=sizeOf3
 v3:=zeroValue3
 t4:=underlying4
 a4:=isAgg4
 z4:=sizeOf4
 v4:=zeroValue4
 t22:=underlying38
 a22:=isAgg38
 z22:=sizeOf38
 v22:=zeroValue38
 i3:=by kernel_rfl}
def Tryz.slices_Compact_int:=Any.slices_Compact_int Tryz.fM
def Tryz.slices_Compact_int_empty:=Any.slices_Compact_int_empty Tryz.fM
def Tryz.slices_Sort_int_none:=Any.slices_Sort_int_none Tryz.xO
def Tryz.Te:Go.Shelf.Ren:=⟨λ|43=>170|n=>n,λ|22=>38|23=>3|3=>3|4=>4|0=>0|n=>n,λ|n=>n⟩
def Tryz.Zb:Go.Proofs.SlLaysE.n43 prog Tryz.Te:={
 mixed:=by kernel_rfl
 f43:=⟨Tryz.f170.name,by decide,func170.trans (congrArg some (by kernel_rfl))⟩
 t0:=underlying0
 a0:=isAgg0
 z0:=sizeOf0
 v0:=zeroValue0
 t3:=underlying3
 a3:=isAgg3
 z3:=sizeOf3
 v3:=zeroValue3
 t4:=underlying4
 a4:=isAgg4
 z4:=sizeOf4
 v4:=zeroValue4
 t22:=underlying38
 a22:=isAgg38
 z22:=sizeOf38
 v22:=zeroValue38
 a23:=isAgg3
 z23:=sizeOf3}
open Go.RowKit Go.Lib Go.Sort in
def Tryz.slices_Compact{a:Type}[Inhabited a][DecidableEq a](enc:a->Value)(hO:OneCell enc)(heq:EqlAt prog 3 enc (λx y=>decide (x=y)))(Km:NeqAt prog 3 enc (λx y=>decide (x=y)))(zr:a)(v23:∀w,(zeroValue 3).run prog w=.ok (enc zr) w)(NT off cap:Nat)(d:Array a)(w:World)(hH:Holds enc w NT off d)(Ow:d.size<=9223372036854775807)(Ei:d.size<=cap):Calls prog 170 #[.slice (some ⟨NT,off,none⟩) d.size cap] w λe w'=>e=.returned (.slice (some ⟨NT,off,none⟩) (compactUpTo d d.size).length cap)/\∃q,w'=putRow enc (Sort.ahead w q) NT off (compactUpTo d d.size++List.replicate (d.size-(compactUpTo d d.size).length) zr).toArray:=AnyE.slices_Compact Tryz.Zb enc hO heq Km zr v23 NT off cap d w hH Ow Ei
def Tryz.Tf:Go.Shelf.Ren:=⟨λ|10=>194|6=>224|n=>n,λ|22=>38|23=>3|25=>156|3=>3|4=>4|0=>0|n=>n,λ|n=>n⟩
def Tryz.Zc:Go.Proofs.SlLaysH.n10 prog Tryz.Tf:={
 mixed:=by kernel_rfl
 f6:=⟨Tryz.f224.name,by decide,func224.trans (congrArg some (by kernel_rfl))⟩
 f10:=⟨Tryz.f194.name,by decide,func194.trans (congrArg some (by kernel_rfl))⟩
 t0:=underlying0
 a0:=isAgg0
 z0:=sizeOf0
 v0:=zeroValue0
 t3:=underlying3
 a3:=isAgg3
 z3:=sizeOf3
 v3:=zeroValue3
 t4:=underlying4
 a4:=isAgg4
 z4:=sizeOf4
 v4:=zeroValue4
 t22:=underlying38
 a22:=isAgg38
 z22:=sizeOf38
 v22:=zeroValue38
 a23:=isAgg3
 z23:=sizeOf3
 t25:=underlying156
 a25:=isAgg156
 z25:=sizeOf156
 v25:=zeroValue156}
open Go.RowKit Go.Lib Go.Sort in
def Tryz.slices_DeleteFunc{a:Type}[Inhabited a](enc:a->Value)(hO:OneCell enc)(p:a->Bool)(g:Nat)(lb:Array Value)(eg:∀args w,(callFunc g args).run prog w=.ok (.enter g args) w)(zr:a)(v23:∀w,(zeroValue 3).run prog w=.ok (enc zr) w)(NT off cap:Nat)(d:Array a)(w:World)(hp:PredAt prog g lb enc p w)(hpo:PredOver prog g lb enc p NT off d.size w)(hH:Holds enc w NT off d)(Ow:d.size<=9223372036854775807)(Ei:d.size<=cap):Calls prog 194 #[.slice (some ⟨NT,off,none⟩) d.size cap,.func (.func g) #[] lb] w λe w'=>e=.returned (.slice (some ⟨NT,off,none⟩) (d.toList.filter λx=>!p x).length cap)/\∃q,w'=putRow enc (Sort.ahead w q) NT off ((d.toList.filter λx=>!p x)++List.replicate (d.size-(d.toList.filter λx=>!p x).length) zr).toArray:=AnyE.slices_DeleteFunc Tryz.Zc enc hO p g lb eg zr v23 NT off cap d w hp hpo hH Ow Ei
end Go.Proofs
namespace Go.Abs
open Go.Proofs Go.Sort Go.RowKit
def Y1(l:iT):(Lib.compact l).length<=l.length:=by unfold Lib.compact Lib.compactUpTo;rw[AAt];exact ABF (List.length_filter_le _ _) ak
def Nj(l:iT):ABm (List Int):=if l.length<4611686018427387904 then some (l.mergeSort λx y=>decide (x<=y))else none
def aV{l r:iT}(h:Nj l=some r):BF Tryz.prog 169 [vO 1 eI l] (.Bp []) [vO 1 eI r]:=by obtain⟨g,h⟩:=LU h;obtain rfl:=AAO h;exact vI Tryz.slices_Sort_int Tryz.slices_Sort_int_none l g
def slices_Compact(l:iT):ABm (List Int):=if l.length<4611686018427387904 then some (Lib.compact l)else none
def Vm{l r:iT}(h:slices_Compact l=some r):Says Tryz.prog 170 [vO 1 eI l] (.own false 1 (r.map eI)):=by obtain⟨g,h⟩:=LU h;obtain rfl:=AAO h;exact cL Tryz.slices_Compact_int Tryz.slices_Compact_int_empty l g (Y1 l) rfl
def givesEq(b off:Nat)(n x:Int)(W:jj)(hc:W.cell? ⟨b,off,none⟩=some (.int .i64 n)):FnGives Tryz.prog 195 #[.pointer (some ⟨b,off,none⟩)] #[.int .i64 x] (.bool (x==n)) W:=by
 show Calls Tryz.prog 195 #[.int .i64 x,.pointer (some ⟨b,off,none⟩)] W _
 go_enter Tryz.func195,Tryz.ntmps195
 go_wp2
 all_goals (go_ret;exact⟨am,0,rfl⟩)
def JH(l:iT)(n:Int):ABm (List Int):=if l≠[]/\l.length<4611686018427387904 then some (l.filter λx=>!(x==n))else none
def Om{l r:iT}{n:Int}(h:JH l n=some r):Says Tryz.prog 194 [vO 1 eI l,.YP 195 [[si n]]] (.own false 1 (r.map eI)):=by obtain⟨⟨g1,g2⟩,h⟩:=LU h;obtain rfl:=AAO h;refine gX (q:=λn x=>x==n) ?_ givesEq l n g1 g2;intro lb p NT off cap d w hp hpo hH Ow Ei;exact Tryz.slices_DeleteFunc (Value.int .i64) (λ_=>rfl) p 195 lb (enters_of Tryz.func195 (by kernel_rfl) rfl) 0 (Tryz.zeroValue3) NT off cap d w hp hpo hH Ow Ei
def pP(n:Int):ABm (List Int):=if 0<=n/\n<4611686018427 then some []else none
end Go.Abs
namespace Go.Abs
open Go.Proofs
def rb0:laidOutB Tryz.prog:=by kernel_rfl
def rb1:mapsRowed Tryz.prog:=by kernel_rfl
def rb2:Tryz.prog.stopsHeard:=by kernel_rfl
def rb3:Tryz.prog.mayEnter:=by kernel_rfl
def rb4:Tryz.prog.liftsFinal=false:=by kernel_rfl
def rb5:Tryz.prog.plainKeys:=by kernel_rfl
def rb6:Tryz.prog.mainIs=some (true,"8a42790257e1b6008a5a8b49b99a48ba9345b5ac028b326e59bb36f246f00561".toList):=by kernel_rfl
def rb7:false=Tryz.prog.looks []:=by kernel_rfl
end Go.Abs
