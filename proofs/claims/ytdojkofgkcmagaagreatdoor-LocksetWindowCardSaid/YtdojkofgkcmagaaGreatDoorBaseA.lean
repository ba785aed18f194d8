/- The types of the program, how their values are read, and the library's functions. -/
import Derived.Test.YtdojkofgkcmagaaGreatDoorCoreD
import Derived.Test.YtdojkofgkcmagaaGreatDoorChecked
import Derived.KernelRfl
import Derived.Shelf.Small.Bits
import Derived.Shelf.Strconv.Itoa0
import Derived.Shelf.Sort.Plain
import Derived.Ground.Names2Prog
import Derived.Shelf.Slices.Clone
import Derived.Shelf.Slices.CompactI
import Derived.Shelf.Slices.SearchI
import Derived.Shelf.Slices.Cells
import Derived.Shelf.Slices.In.SortNone
import Derived.Shelf.Slices.Empties
import Derived.Ground.SlgnProg
import Derived.Shelf.SlicesE.Compact
import Derived.Shelf.SlicesE.Clone
import Derived.Ground.SlgfProg
import Derived.Shelf.SlicesE.IndexFunc
import Derived.Shelf.SlicesE.DeleteFunc
import Derived.Test.YtdojkofgkcmagaaGreatDoorProg
import Derived.Lib.SliceRun
import Derived.Shelf.Spec.SlicesGrow
import Derived.JoinedOf
import Derived.SevenTiedAt
set_option linter.defProp false
set_option linter.unusedSimpArgs false
set_option linter.unusedVariables false
namespace Go.Abs
open Go.Proofs
set_option maxRecDepth 1000000
set_option maxHeartbeats 4000000
def mix:Tryz.prog.follows .mixedOrders=true:=by kernel_rfl
@[go_sem]theorem gamAt0:iX 0 22=some (Ld.map Value.string):=by rfl
structure DR where
 Name:ABe
 Index:Int
 Bq:Int
 Gz:Bool
 Init:Int
 deriving DecidableEq
abbrev gw:=List DR
structure I7 where
 Name:ABe
 RW:Bool
 deriving DecidableEq
structure O3 where
 Name:ABe
 Mutex:Int
 deriving DecidableEq
structure Dk where
 Thread:Int
 Stmt:Int
 FK:Int
 deriving DecidableEq
abbrev gx:=List Dk
structure AD where
 Cells:List DR
 AF:List I7
 Ai:List O3
 AK:List ABe
 AA:List ABe
 BU:List Dk
 deriving DecidableEq
abbrev ez:=AD->Int->ABd AD
structure AW where
 CG:Int
 Ak:List Int
 deriving DecidableEq
abbrev gy:=List AW
structure AH where
 Status:Int
 Dg:Int
 Atomic:Bool
 deriving DecidableEq
abbrev ep:=List AH
abbrev gd:=Int->Int->ABd (Int×(List AH))
abbrev gh:=(List AH)->Int->Int->ABd (Int×(List AH))
structure AP where
 AF:List AW
 Tx:Int
 Bn:List Bool
 AA:List AH
 deriving DecidableEq
abbrev ft:=AP×Int×Bool
abbrev gf:=AP->Int->ABd AP
abbrev i5:=List AP
structure AB where
 Sync:AP
 Cells:List Int
 AK:List Int
 Count:List Int
 deriving DecidableEq
abbrev ed:=AB->(List (List Bool))->Int->ABd Bool
abbrev fh:=AB->(List (List Bool))->Int->ABd (Int×Int)
abbrev fD:=AB×Bool
structure AU where
 L:List Int
 At:Int
 deriving DecidableEq
abbrev d4:=Int×AU
abbrev d6:=AU->AB->Int->ABd (AB×AU)
abbrev fk:=AU->(List Int)->Int->ABd ((List Int)×AU)
structure AG where
 Thread:Int
 Kind:Int
 Obj:Int
 Value:Int
 Site:Int
 Dw:List Int
 DM:List Int
 deriving DecidableEq
abbrev dx:=List AG
abbrev d9:=AU->AB->(List AG)->(List (List Int))->ABd ((List AG)×AU)
abbrev fa:=AU->(List (List Int))->Int->ABd ((List AG)×AU)
structure AL where
 World:AD
 Start:Int
 Init:AB
 AE:List AG
 deriving DecidableEq
structure EX where
 Kind:Int
 FK:Int
 Name:ABe
 Bq:Int
 Init:Int
 On:ABe
 deriving DecidableEq
abbrev gq:=List EX
structure BE where
 Op:Int
 N:Int
 Name:ABe
 L:List BE
abbrev ia:=BE->ABd (Int×Int)
abbrev ij:=BE->ABd Bool
structure AO where
 t:AU
 Bb:Int
 left:Int
 HR:Bool
 tx:Bool
 atomic:Bool
 loop:Bool
 held:List ABe
 deriving DecidableEq
abbrev gi:=AO->Int->ABd (BE×AO)
structure AQ where
 Op:Int
 FK:Int
 Name:ABe
 Arg:ABe
 Index:List BE
 Expr:BE
 Body:List AQ
 Else:List AQ
abbrev dC:=AO->Int->Int->ABd ((List AQ)×AO)
abbrev d5:=List AQ
abbrev ea:=AO->ABe->Int->ABd ((List AQ)×AO)
abbrev ef:=(List Dk)->Int->Int->(List AQ)->ABd ((List Dk)×Int)
abbrev ej:=(List AQ)->ABd Bool
abbrev fm:=AO->Int->ABd (AQ×AO)
abbrev go:=AO->(List AQ)->Int->ABd ((List AQ)×AO)
abbrev gT:=(List AQ)->ABd Int
structure Cq where
 Name:ABe
 FK:Int
 GA:List ABe
 Body:List AQ
structure AR where
 Decls:List EX
 AA:List Cq
abbrev fj:=AO->AR->Int->ABd AR
abbrev fv:=AR->Int->BE->ABd Int
structure BN where
 p:AR
 Bb:Int
 GD:List AQ
 Lo:List ABe
 Yh:List ABe
abbrev e6:=BN->(List AQ)->ABd (Int×Int×BN)
abbrev fM:=Bool×BN
abbrev gn:=BN->Int->ABd (Int×Int×BN)
abbrev ir:=Int->ABd (Bool×BN)
structure Ad where
 Op:Int
 A:Int
 B:Int
 C:Int
 N:Int
 Site:Int
 deriving DecidableEq
abbrev fq:=List Ad
structure BB where
 w:AD
 locals:List ABe
 out:List Ad
 site:Int
 next:Int
 deriving DecidableEq
abbrev fw:=BB->AQ->Int->Int->Int->ABd BB
abbrev fy:=BB->AQ->ABd BB
abbrev gc:=BB->List AQ->ABd BB
abbrev gj:=BB->(List AQ)->ABd BB
structure Az where
 Ck:Int
 Br:List Ad
 deriving DecidableEq
structure BT where
 World:AD
 AA:List Az
 deriving DecidableEq
abbrev e7:=BT->Int->Int->ABd (BT×Int×Int)
abbrev fg:=Az->Int->ABd (BT×Int×Int)
structure C5 where
 Thread:Int
 UB:Int
 deriving DecidableEq
structure AM where
 PC:Int
 Ck:List Int
 Cd:List (List Int)
 AE:Int
 deriving DecidableEq
structure Al where
 Sync:AP
 Cells:List Int
 AK:List Int
 AA:List AM
 deriving DecidableEq
abbrev fo:=(List AG)->Al->Int->ABd ((List AG)×Al)
abbrev iq:=Al->Int->ABd Al
structure CC where
 World:AD
 AE:List AG
 deriving DecidableEq
structure M8 where
 Program:List Int
 FM:List Int
 fY:List Int
 Bq:Int
 Zp:Int
 deriving DecidableEq
structure FL where
 Hb:List Int
 M9:List Int
 deriving DecidableEq
abbrev gb:=List FL
structure FC where
 State:Int
 CG:Int
 AF:List Int
 deriving DecidableEq
abbrev ik:=List FC×List Int
structure Kj where
 Value:Int
 SJ:Bool
 deriving DecidableEq
structure JB where
 Sync:AP
 Cells:List Kj
 AK:List Kj
 Order:List Int
 Iq:List Bool
 Woke:List Int
 deriving DecidableEq
structure KM where
 w:AL
 lines:List (List Int)
 number:List Int
 ahead:List (List Bool)
 deriving DecidableEq
def Gy(x:DR):List AV:=[BZ x.Name,si x.Index,si x.Bq,sb x.Gz,si x.Init]
@[go_sem]theorem eCell_sn(l:gw)(y0:ABe)(y1:Int)(y2:Int)(y3:Bool)(y4:Int):l.map Gy++[[BZ y0,si y1,si y2,sb y3,si y4]]=(l++[(DR.mk y0 y1 y2 y3 y4)]).map Gy:=by simp[Gy]
attribute [go_sem] Gy
def Hy(x:I7):List AV:=[BZ x.Name,sb x.RW]
@[go_sem]theorem eLock_sn(l:List I7)(y0:ABe)(y1:Bool):l.map Hy++[[BZ y0,sb y1]]=(l++[(I7.mk y0 y1)]).map Hy:=by simp[Hy]
attribute [go_sem] Hy
def Hx(x:O3):List AV:=[BZ x.Name,si x.Mutex]
@[go_sem]theorem eCond_sn(l:List O3)(y0:ABe)(y1:Int):l.map Hx++[[BZ y0,si y1]]=(l++[(O3.mk y0 y1)]).map Hx:=by simp[Hx]
attribute [go_sem] Hx
def eS(x:ABe):List AV:=[BZ x]
@[go_sem]theorem eS_sn(l:dv)(y0:ABe):l.map eS++[[BZ y0]]=(l++[y0]).map eS:=by simp[eS]
attribute [go_sem] eS
def Gb(x:Dk):List AV:=[si x.Thread,si x.Stmt,si x.FK]
@[go_sem]theorem eSite_sn(l:gx)(y0:Int)(y1:Int)(y2:Int):l.map Gb++[[si y0,si y1,si y2]]=(l++[(Dk.mk y0 y1 y2)]).map Gb:=by simp[Gb]
attribute [go_sem] Gb
def Aq(x:AD):List AV:=[.sl false 5 (x.Cells.map Gy),.sl false 2 (x.AF.map Hy),.sl false 2 (x.Ai.map Hx),.sl false 1 (x.AK.map eS),.sl false 1 (x.AA.map eS),.sl false 3 (x.BU.map Gb)]
attribute [go_sem] Aq
def K5(x:AD):List AV:=[.own false 5 (x.Cells.map Gy),.own false 2 (x.AF.map Hy),.own false 2 (x.Ai.map Hx),.own false 1 (x.AK.map eS),.own false 1 (x.AA.map eS),.own false 3 (x.BU.map Gb)]
attribute [go_sem] K5
def eI(x:Int):List AV:=[si x]
@[go_sem]theorem eI_sn(l:dc)(y0:Int):l.map eI++[[si y0]]=(l++[y0]).map eI:=by simp[eI]
@[go_sem]theorem eI_se(l:dc)(i:Nat)(y0:Int):(l.map eI).set i [si y0]=(l.set i y0).map eI:=by simp[eI,AA1]
@[go_sem]theorem eI_re(n:Nat)(y0:Int):List.replicate n [si y0]=(List.replicate n y0).map eI:=by simp[eI]
attribute [go_sem] eI
def DS(x:AW):List AV:=[si x.CG,.sl false 1 (x.Ak.map eI)]
attribute [go_sem] DS
def eB(x:Bool):List AV:=[sb x]
@[go_sem]theorem eB_sn(l:eb)(y0:Bool):l.map eB++[[sb y0]]=(l++[y0]).map eB:=by simp[eB]
@[go_sem]theorem eB_se(l:eb)(i:Nat)(y0:Bool):(l.map eB).set i [sb y0]=(l.set i y0).map eB:=by simp[eB,AA1]
@[go_sem]theorem eB_re(n:Nat)(y0:Bool):List.replicate n [sb y0]=(List.replicate n y0).map eB:=by simp[eB]
attribute [go_sem] eB
def An(x:AH):List AV:=[si x.Status,si x.Dg,sb x.Atomic]
@[go_sem]theorem eThreadSync_sn(l:ep)(y0:Int)(y1:Int)(y2:Bool):l.map An++[[si y0,si y1,sb y2]]=(l++[(AH.mk y0 y1 y2)]).map An:=by simp[An]
@[go_sem]theorem eThreadSync_se(l:ep)(i:Nat)(y0:Int)(y1:Int)(y2:Bool):(l.map An).set i [si y0,si y1,sb y2]=(l.set i (AH.mk y0 y1 y2)).map An:=by simp[An,AA1]
@[go_sem]theorem eThreadSync_re(n:Nat)(y0:Int)(y1:Int)(y2:Bool):List.replicate n [si y0,si y1,sb y2]=(List.replicate n (AH.mk y0 y1 y2)).map An:=by simp[An]
attribute [go_sem] An
def F8(x:AP):List AV:=[.sl false 2 (x.AF.map DS),si x.Tx,.sl false 1 (x.Bn.map eB),.sl false 3 (x.AA.map An)]
@[go_sem]theorem eSync_sn(l:i5)(y0:gy)(y1:Int)(y2:eb)(y3:ep):l.map F8++[[.sl false 2 (y0.map DS),si y1,.sl false 1 (y2.map eB),.sl false 3 (y3.map An)]]=(l++[(AP.mk y0 y1 y2 y3)]).map F8:=by simp[F8]
attribute [go_sem] F8
def Bo(x:AW):List AV:=[si x.CG,.own false 1 (x.Ak.map eI)]
@[go_sem]theorem eLockStateo_sn(l:gy)(y0:Int)(y1:dc):l.map Bo++[[si y0,.own false 1 (y1.map eI)]]=(l++[(AW.mk y0 y1)]).map Bo:=by simp[Bo]
@[go_sem]theorem eLockStateo_se(l:gy)(i:Nat)(y0:Int)(y1:dc):(l.map Bo).set i [si y0,.own false 1 (y1.map eI)]=(l.set i (AW.mk y0 y1)).map Bo:=by simp[Bo,AA1]
@[go_sem]theorem rZ(l:gy)(i:Nat)(y0:Int)(y1:Int):(l.map Bo).set i [si y0,.own false 1 [[si y1]]]=(l.set i (AW.mk y0 [y1])).map Bo:=by simp[Bo,eI,AA1]
@[go_sem]theorem zX(l:gy)(y0:Int):l.map Bo++[[si y0,.own false 1 []]]=(l++[(AW.mk y0 [])]).map Bo:=by simp[Bo]
@[go_sem]theorem zW(n:Nat)(y0:Int):List.replicate n [si y0,.own false 1 []]=(List.replicate n (AW.mk y0 [])).map Bo:=by simp[Bo]
@[go_sem]theorem eLockStateo_fz(l:gy):NG (l.map Bo)=l.map DS:=by induction l with|nil=>rfl|cons x l ih=>simp only[AAU,NG,ih,go_sem,Bo,DS]
attribute [go_sem] Bo
def Ht(x:AP):List AV:=[.own false 2 (x.AF.map Bo),si x.Tx,.own false 1 (x.Bn.map eB),.own false 3 (x.AA.map An)]
attribute [go_sem] Ht
def BI(x:AB):List AV:=[.sl false 2 (x.Sync.AF.map DS),si x.Sync.Tx,.sl false 1 (x.Sync.Bn.map eB),.sl false 3 (x.Sync.AA.map An),.sl false 1 (x.Cells.map eI),.sl false 1 (x.AK.map eI),.sl false 1 (x.Count.map eI)]
attribute [go_sem] BI
def GG(x:AB):List AV:=[.own false 2 (x.Sync.AF.map Bo),si x.Sync.Tx,.own false 1 (x.Sync.Bn.map eB),.own false 3 (x.Sync.AA.map An),.own false 1 (x.Cells.map eI),.own false 1 (x.AK.map eI),.own false 1 (x.Count.map eI)]
attribute [go_sem] GG
def cZ(x:Int):List AV:=[.sc (.int .u8 x)]
attribute [go_sem] cZ
def FO(x:AU):List AV:=[.sl false 1 (x.L.map cZ),si x.At]
attribute [go_sem] FO
def Z4(x:dc):List AV:=[.sl false 1 (x.map eI)]
@[go_sem]theorem eLI_se(l:du)(i:Nat)(y0:dc):(l.map Z4).set i [.sl false 1 (y0.map eI)]=(l.set i y0).map Z4:=by simp[Z4,AA1]
@[go_sem]theorem eLI_se_y0(l:du)(i:Nat)(y0:Int):(l.map Z4).set i [.sl false 1 [[si y0]]]=(l.set i [y0]).map Z4:=by simp[Z4,eI,AA1]
@[go_sem]theorem eLI_se1(l:du)(i:Nat):(l.map Z4).set i [.sl false 1 []]=(l.set i []).map Z4:=by simp[Z4,AA1]
@[go_sem]theorem eLI_re1(n:Nat):List.replicate n [.sl false 1 []]=(List.replicate n []).map Z4:=by simp[Z4]
attribute [go_sem] Z4
def NC(x:dc):List AV:=[.own false 1 (x.map eI)]
@[go_sem]theorem eLIo_sn(l:du)(y0:dc):l.map NC++[[.own false 1 (y0.map eI)]]=(l++[y0]).map NC:=by simp[NC]
@[go_sem]theorem eLIo_se(l:du)(i:Nat)(y0:dc):(l.map NC).set i [.own false 1 (y0.map eI)]=(l.set i y0).map NC:=by simp[NC,AA1]
@[go_sem]theorem eLIo_re1(n:Nat):List.replicate n [.own false 1 []]=(List.replicate n []).map NC:=by simp[NC]
@[go_sem]theorem eLIo_fz(l:du):NG (l.map NC)=l.map Z4:=by induction l with|nil=>rfl|cons x l ih=>simp only[AAU,NG,ih,go_sem,NC,Z4]
attribute [go_sem] NC
def B1(x:AG):List AV:=[si x.Thread,si x.Kind,si x.Obj,si x.Value,si x.Site,.sl false 1 (x.Dw.map eI),.sl false 1 (x.DM.map eI)]
@[go_sem]theorem eEvent_sn(l:dx)(y0:Int)(y1:Int)(y2:Int)(y3:Int)(y4:Int)(y5:dc)(y6:dc):l.map B1++[[si y0,si y1,si y2,si y3,si y4,.sl false 1 (y5.map eI),.sl false 1 (y6.map eI)]]=(l++[(AG.mk y0 y1 y2 y3 y4 y5 y6)]).map B1:=by simp[B1]
attribute [go_sem] B1
def Ic(x:AG):List AV:=[si x.Thread,si x.Kind,si x.Obj,si x.Value,si x.Site,.own false 1 (x.Dw.map eI),.own false 1 (x.DM.map eI)]
@[go_sem]theorem eEvento_sn(l:dx)(y0:Int)(y1:Int)(y2:Int)(y3:Int)(y4:Int)(y5:dc)(y6:dc):l.map Ic++[[si y0,si y1,si y2,si y3,si y4,.own false 1 (y5.map eI),.own false 1 (y6.map eI)]]=(l++[(AG.mk y0 y1 y2 y3 y4 y5 y6)]).map Ic:=by simp[Ic]
@[go_sem]theorem eEvento_fz(l:dx):NG (l.map Ic)=l.map B1:=by induction l with|nil=>rfl|cons x l ih=>simp only[AAU,NG,ih,go_sem,Ic,B1]
attribute [go_sem] Ic
def B0(x:AL):List AV:=[.sl false 5 (x.World.Cells.map Gy),.sl false 2 (x.World.AF.map Hy),.sl false 2 (x.World.Ai.map Hx),.sl false 1 (x.World.AK.map eS),.sl false 1 (x.World.AA.map eS),.sl false 3 (x.World.BU.map Gb),si x.Start,.sl false 2 (x.Init.Sync.AF.map DS),si x.Init.Sync.Tx,.sl false 1 (x.Init.Sync.Bn.map eB),.sl false 3 (x.Init.Sync.AA.map An),.sl false 1 (x.Init.Cells.map eI),.sl false 1 (x.Init.AK.map eI),.sl false 1 (x.Init.Count.map eI),.sl false 7 (x.AE.map B1)]
attribute [go_sem] B0
def Jj(x:EX):List AV:=[si x.Kind,si x.FK,BZ x.Name,si x.Bq,si x.Init,BZ x.On]
attribute [go_sem] Jj
mutual
def BH:BE->List AV
 |⟨y0,y1,y2,y3⟩=>[si y0,si y1,BZ y2,.sl false 4 (cR y3)]
def cR:List BE->List (List AV)
 |[]=>[]
 |x::l=>BH x::cR l
end
def eExpr_m(l:List BE):cR l=l.map BH:=by induction l<;>simp[cR, *]
@[go_sem]theorem eExpr_d(x:BE):BH x=[si x.Op,si x.N,BZ x.Name,.sl false 4 (x.L.map BH)]:=by cases x;simp[BH,eExpr_m]
@[go_sem]theorem eExpr_eta(x:BE):BE.mk x.Op x.N x.Name x.L=x:=by cases x;rfl
def CX(x:AO):List AV:=[bA 2 [.sl false 1 (x.t.L.map cZ),si x.t.At],si x.Bb,si x.left,sb x.HR,sb x.tx,sb x.atomic,sb x.loop,.own false 1 (x.held.map eS)]
attribute [go_sem] CX
mutual
def A7:AQ->List AV
 |⟨y0,y1,y2,y3,y4,y5,y6,y7⟩=>[si y0,si y1,BZ y2,BZ y3,.sl false 4 (y4.map BH),si y5.Op,si y5.N,BZ y5.Name,.sl false 4 (y5.L.map BH),.sl false 11 (XC y6),.sl false 11 (XC y7)]
def XC:List AQ->List (List AV)
 |[]=>[]
 |x::l=>A7 x::XC l
end
def eStmt_m(l:d5):XC l=l.map A7:=by induction l<;>simp[XC, *]
@[go_sem]theorem cU(x:AQ):A7 x=[si x.Op,si x.FK,BZ x.Name,BZ x.Arg,.sl false 4 (x.Index.map BH),si x.Expr.Op,si x.Expr.N,BZ x.Expr.Name,.sl false 4 (x.Expr.L.map BH),.sl false 11 (x.Body.map A7),.sl false 11 (x.Else.map A7)]:=by cases x;simp[A7,eStmt_m]
@[go_sem]theorem eStmt_eta(x:AQ):AQ.mk x.Op x.FK x.Name x.Arg x.Index x.Expr x.Body x.Else=x:=by cases x;rfl
@[go_sem]theorem eStmt_sn(l:d5)(y0:Int)(y1:Int)(y2:ByteArray)(y3:ByteArray)(y4:List BE)(y5:Int)(y6:Int)(y7:ByteArray)(y8:List BE)(y9:d5)(y10:d5):l.map A7++[[si y0,si y1,BZ y2,BZ y3,.sl false 4 (y4.map BH),si y5,si y6,BZ y7,.sl false 4 (y8.map BH),.sl false 11 (y9.map A7),.sl false 11 (y10.map A7)]]=(l++[(AQ.mk y0 y1 y2 y3 y4 (BE.mk y5 y6 y7 y8) y9 y10)]).map A7:=by simp[cU]
@[go_sem]theorem eStmt_se(l:d5)(i:Nat)(y0:Int)(y1:Int)(y2:ByteArray)(y3:ByteArray)(y4:List BE)(y5:Int)(y6:Int)(y7:ByteArray)(y8:List BE)(y9:d5)(y10:d5):(l.map A7).set i [si y0,si y1,BZ y2,BZ y3,.sl false 4 (y4.map BH),si y5,si y6,BZ y7,.sl false 4 (y8.map BH),.sl false 11 (y9.map A7),.sl false 11 (y10.map A7)]=(l.set i (AQ.mk y0 y1 y2 y3 y4 (BE.mk y5 y6 y7 y8) y9 y10)).map A7:=by simp[cU,List.map_set]
@[go_sem]theorem eStmt_sn1(l:d5)(y0:Int)(y1:Int)(y2:ByteArray)(y3:ByteArray)(y5:Int)(y6:Int)(y7:ByteArray):l.map A7++[[si y0,si y1,BZ y2,BZ y3,.sl false 4 [],si y5,si y6,BZ y7,.sl false 4 [],.sl false 11 [],.sl false 11 []]]=(l++[(AQ.mk y0 y1 y2 y3 [] (BE.mk y5 y6 y7 []) [] [])]).map A7:=by simp[cU]
def Ie(x:Cq):List AV:=[BZ x.Name,si x.FK,.sl false 1 (x.GA.map eS),.sl false 11 (x.Body.map A7)]
@[go_sem]theorem eThread_sn(l:List Cq)(y0:ByteArray)(y1:Int)(y2:List ByteArray)(y3:d5):l.map Ie++[[BZ y0,si y1,.sl false 1 (y2.map eS),.sl false 11 (y3.map A7)]]=(l++[(Cq.mk y0 y1 y2 y3)]).map Ie:=by simp[Ie]
attribute [go_sem] Ie
def CS(x:AR):List AV:=[.sl false 6 (x.Decls.map Jj),.sl false 4 (x.AA.map Ie)]
attribute [go_sem] CS
def HA(x:BN):List AV:=[.sl false 6 (x.p.Decls.map Jj),.sl false 4 (x.p.AA.map Ie),si x.Bb,.own false 11 (x.GD.map A7),.own false 1 (x.Lo.map eS),.own false 1 (x.Yh.map eS)]
attribute [go_sem] HA
def iT(x:Cq):List AV:=[BZ x.Name,si x.FK,.own false 1 (x.GA.map eS),.own false 11 (x.Body.map A7)]
attribute [go_sem] iT
def EF(x:Ad):List AV:=[si x.Op,si x.A,si x.B,si x.C,si x.N,si x.Site]
@[go_sem]theorem eInstr_sn(l:fq)(y0:Int)(y1:Int)(y2:Int)(y3:Int)(y4:Int)(y5:Int):l.map EF++[[si y0,si y1,si y2,si y3,si y4,si y5]]=(l++[(Ad.mk y0 y1 y2 y3 y4 y5)]).map EF:=by simp[EF]
@[go_sem]theorem eInstr_se(l:fq)(i:Nat)(y0:Int)(y1:Int)(y2:Int)(y3:Int)(y4:Int)(y5:Int):(l.map EF).set i [si y0,si y1,si y2,si y3,si y4,si y5]=(l.set i (Ad.mk y0 y1 y2 y3 y4 y5)).map EF:=by simp[EF,List.map_set]
attribute [go_sem] EF
def egen(x:BB):List AV:=[.sl false 5 (x.w.Cells.map Gy),.sl false 2 (x.w.AF.map Hy),.sl false 2 (x.w.Ai.map Hx),.sl false 1 (x.w.AK.map eS),.sl false 1 (x.w.AA.map eS),.sl false 3 (x.w.BU.map Gb),.sl false 1 (x.locals.map eS),.sl false 6 (x.out.map EF),si x.site,si x.next]
attribute [go_sem] egen
def EN(x:BB):List AV:=[.sl false 5 (x.w.Cells.map Gy),.sl false 2 (x.w.AF.map Hy),.sl false 2 (x.w.Ai.map Hx),.sl false 1 (x.w.AK.map eS),.sl false 1 (x.w.AA.map eS),.sl false 3 (x.w.BU.map Gb),.sl false 1 (x.locals.map eS),.own false 6 (x.out.map EF),si x.site,si x.next]
attribute [go_sem] EN
def Cf(x:Az):List AV:=[si x.Ck,.sl false 6 (x.Br.map EF)]
@[go_sem]theorem eThreadCode_sn(l:List Az)(y0:Int)(y1:fq):l.map Cf++[[si y0,.sl false 6 (y1.map EF)]]=(l++[(Az.mk y0 y1)]).map Cf:=by simp[Cf]
attribute [go_sem] Cf
def JS(x:BT):List AV:=[.sl false 5 (x.World.Cells.map Gy),.sl false 2 (x.World.AF.map Hy),.sl false 2 (x.World.Ai.map Hx),.sl false 1 (x.World.AK.map eS),.sl false 1 (x.World.AA.map eS),.sl false 3 (x.World.BU.map Gb),.sl false 2 (x.AA.map Cf)]
attribute [go_sem] JS
def JC(x:C5):List AV:=[si x.Thread,si x.UB]
@[go_sem]theorem eChoice_sn(l:List C5)(y0:Int)(y1:Int):l.map JC++[[si y0,si y1]]=(l++[(C5.mk y0 y1)]).map JC:=by simp[JC]
attribute [go_sem] JC
def E0(x:AM):List AV:=[si x.PC,.sl false 1 (x.Ck.map eI),.sl false 1 (x.Cd.map Z4),si x.AE]
attribute [go_sem] E0
def KQ(x:Al):List AV:=[.sl false 2 (x.Sync.AF.map DS),si x.Sync.Tx,.sl false 1 (x.Sync.Bn.map eB),.sl false 3 (x.Sync.AA.map An),.sl false 1 (x.Cells.map eI),.sl false 1 (x.AK.map eI),.sl false 4 (x.AA.map E0)]
attribute [go_sem] KQ
def B2(x:AM):List AV:=[si x.PC,.own false 1 (x.Ck.map eI),.own false 1 (x.Cd.map Z4),si x.AE]
@[go_sem]theorem wB(l:List AM)(y0:Int)(y1:dc)(y2:du)(y3:Int):l.map B2++[[si y0,.own false 1 (y1.map eI),.own false 1 (y2.map Z4),si y3]]=(l++[(AM.mk y0 y1 y2 y3)]).map B2:=by simp[B2]
@[go_sem]theorem wA(l:List AM)(i:Nat)(y0:Int)(y1:dc)(y2:du)(y3:Int):(l.map B2).set i [si y0,.own false 1 (y1.map eI),.own false 1 (y2.map Z4),si y3]=(l.set i (AM.mk y0 y1 y2 y3)).map B2:=by simp[B2,List.map_set]
@[go_sem]theorem v8(l:List AM):NG (l.map B2)=l.map E0:=by induction l with|nil=>rfl|cons x l ih=>simp only[List.map_cons,NG,ih,go_sem,B2,E0]
attribute [go_sem] B2
def MI(x:Al):List AV:=[.own false 2 (x.Sync.AF.map Bo),si x.Sync.Tx,.own false 1 (x.Sync.Bn.map eB),.own false 3 (x.Sync.AA.map An),.own false 1 (x.Cells.map eI),.own false 1 (x.AK.map eI),.own false 4 (x.AA.map B2)]
attribute [go_sem] MI
def ND(x:CC):List AV:=[.sl false 5 (x.World.Cells.map Gy),.sl false 2 (x.World.AF.map Hy),.sl false 2 (x.World.Ai.map Hx),.sl false 1 (x.World.AK.map eS),.sl false 1 (x.World.AA.map eS),.sl false 3 (x.World.BU.map Gb),.sl false 7 (x.AE.map B1)]
attribute [go_sem] ND
def cV(x:CC):List AV:=[.sl false 5 (x.World.Cells.map Gy),.sl false 2 (x.World.AF.map Hy),.sl false 2 (x.World.Ai.map Hx),.sl false 1 (x.World.AK.map eS),.sl false 1 (x.World.AA.map eS),.sl false 3 (x.World.BU.map Gb),.own false 7 (x.AE.map B1)]
attribute [go_sem] cV
def Jk(x:AL):List AV:=[.sl false 5 (x.World.Cells.map Gy),.sl false 2 (x.World.AF.map Hy),.sl false 2 (x.World.Ai.map Hx),.sl false 1 (x.World.AK.map eS),.sl false 1 (x.World.AA.map eS),.sl false 3 (x.World.BU.map Gb),si x.Start,.own false 2 (x.Init.Sync.AF.map Bo),si x.Init.Sync.Tx,.own false 1 (x.Init.Sync.Bn.map eB),.own false 3 (x.Init.Sync.AA.map An),.own false 1 (x.Init.Cells.map eI),.own false 1 (x.Init.AK.map eI),.own false 1 (x.Init.Count.map eI),.sl false 7 (x.AE.map B1)]
@[go_sem]theorem eWindowo_sn(l:List AL)(y0:gw)(y1:List I7)(y2:List O3)(y3:List ByteArray)(y4:List ByteArray)(y5:gx)(y6:Int)(y7:gy)(y8:Int)(y9:eb)(y10:ep)(y11:dc)(y12:dc)(y13:dc)(y14:dx):l.map Jk++[[.sl false 5 (y0.map Gy),.sl false 2 (y1.map Hy),.sl false 2 (y2.map Hx),.sl false 1 (y3.map eS),.sl false 1 (y4.map eS),.sl false 3 (y5.map Gb),si y6,.own false 2 (y7.map Bo),si y8,.own false 1 (y9.map eB),.own false 3 (y10.map An),.own false 1 (y11.map eI),.own false 1 (y12.map eI),.own false 1 (y13.map eI),.sl false 7 (y14.map B1)]]=(l++[(AL.mk (AD.mk y0 y1 y2 y3 y4 y5) y6 (AB.mk (AP.mk y7 y8 y9 y10) y11 y12 y13) y14)]).map Jk:=by simp[Jk]
@[go_sem]theorem eWindowo_fz(l:List AL):NG (l.map Jk)=l.map B0:=by induction l with|nil=>rfl|cons x l ih=>simp only[List.map_cons,NG,ih,go_sem,Jk,B0]
attribute [go_sem] Jk
def iV(x:M8):List AV:=[.sl false 1 (x.Program.map cZ),.sl false 1 (x.FM.map cZ),.sl false 1 (x.fY.map cZ),.sc (.int .u8 x.Bq),.sc (.int .u8 x.Zp)]
attribute [go_sem] iV
def Yw(x:eb):List AV:=[.own false 1 (x.map eB)]
@[go_sem]theorem eLBo_se(l:d3)(i:Nat)(y0:eb):(l.map Yw).set i [.own false 1 (y0.map eB)]=(l.set i y0).map Yw:=by simp[Yw,List.map_set]
attribute [go_sem] Yw
def MH(x:FL):List AV:=[.sl false 1 (x.Hb.map eI),.sl false 1 (x.M9.map eI)]
@[go_sem]theorem eHeld_sn(l:gb)(y0:dc)(y1:dc):l.map MH++[[.sl false 1 (y0.map eI),.sl false 1 (y1.map eI)]]=(l++[(FL.mk y0 y1)]).map MH:=by simp[MH]
@[go_sem]theorem eHeld_se(l:gb)(i:Nat)(y0:dc)(y1:dc):(l.map MH).set i [.sl false 1 (y0.map eI),.sl false 1 (y1.map eI)]=(l.set i (FL.mk y0 y1)).map MH:=by simp[MH,List.map_set]
@[go_sem]theorem eHeld_re3(n:Nat):List.replicate n [.sl false 1 [],.sl false 1 []]=(List.replicate n (FL.mk [] [])).map MH:=by simp[MH]
attribute [go_sem] MH
def mB(x:FC):List AV:=[si x.State,si x.CG,.sl false 1 (x.AF.map eI)]
attribute [go_sem] mB
@[go_sem]theorem eLBo_em(n:Nat):(List.replicate n ([]:List Bool)).map Yw=(List.replicate n ([]:List Int)).map NC:=by simp[Yw,NC]
abbrev z0:List AV:=[.own false 2 [],si 0,.own false 1 [],.own false 3 [],.own false 1 [],.own false 1 [],.own false 1 []]
abbrev z1:List AV:=[si 0,si 0,BZ ⟨#[]⟩,BZ ⟨#[]⟩,.own false 4 [],si 0,si 0,BZ ⟨#[]⟩,.own false 4 [],.own false 11 [],.own false 11 []]
abbrev z2:List AV:=[.own false 5 [],.own false 2 [],.own false 2 [],.own false 1 [],.own false 1 [],.own false 3 [],si 0,.own false 2 [],si 0,.own false 1 [],.own false 3 [],.own false 1 [],.own false 1 [],.own false 1 [],.own false 7 []]
abbrev z3:List AV:=[si 0,si 0,si 0,si 0,si 0,.own false 1 [],.own false 1 []]
abbrev z4:List AV:=[.own false 2 [],si 0,.own false 1 [],.own false 3 [],.own false 1 [],.own false 1 [],.own false 4 []]
abbrev z5:List AV:=[.own false 2 [],si 0,.own false 1 [],.own false 3 []]
abbrev z6:List AV:=[si 0,si 0,BZ ⟨#[]⟩,BZ ⟨#[]⟩,.sl false 4 [],si 0,si 0,BZ ⟨#[]⟩,.sl false 4 [],.sl false 11 [],.sl false 11 []]
abbrev z7:List AV:=[.own false 2 [],si 0,.own false 1 [],.own false 3 [],.own false 2 [],.own false 2 [],.own false 1 [],.own false 1 [],.own false 1 []]
abbrev z8:List AV:=[.own false 5 [],.own false 2 [],.own false 2 [],.own false 1 [],.own false 1 [],.own false 3 []]
abbrev z9:List AV:=[si 0,.own false 1 [],.own false 1 [],si 0]
abbrev z10:List AV:=[.own false 5 [],.own false 2 [],.own false 2 [],.own false 1 [],.own false 1 [],.own false 3 [],.own false 2 []]
abbrev z11:List AV:=[BZ ⟨#[]⟩,si 0,.own false 1 [],.own false 11 []]
abbrev z12:List AV:=[.sl false 5 [],.sl false 2 [],.sl false 2 [],.sl false 1 [],.sl false 1 [],.sl false 3 [],.own false 7 []]
abbrev z13:List AV:=[.sl false 2 [],si 0,.sl false 1 [],.sl false 3 [],.sl false 1 [],.sl false 1 [],.sl false 4 []]
abbrev z14:List AV:=[.own false 6 [],.own false 4 []]
abbrev z15:List AV:=[.own false 1 []]
abbrev z16:List (List AV):=[[BZ ⟨#[109,97,105,110]⟩],[BZ ⟨#[116,49]⟩],[BZ ⟨#[116,50]⟩],[BZ ⟨#[116,51]⟩]]
abbrev z17:List AV:=[si 0,si 0,si 0,si 0,si 0,si 0]
abbrev z18:List AV:=[.own false 1 [],.own false 1 []]
abbrev z19:List AV:=[.sc (.pointer none),si 0,si 0,sb false,sb false,sb false,sb false,.own false 1 []]
abbrev z20:List AV:=[si 0,si 0,BZ ⟨#[]⟩,.own false 4 []]
abbrev z21:List AV:=[.own false 2 []]
abbrev z22:List AV:=[si 0,si 0,si 0,sb false]
attribute [go_sem] z0 z1 z2 z3 z4 z5 z6 z7 z8 z9 z10 z11 z12 z13 z14 z15 z16 z17 z18 z19 z20 z21 z22
def y0:Y:=⟨[si 0],.i .i64⟩
def y1:Y:=⟨z15,.l 1 8 [si 0]⟩
def y2:Y:=⟨z3,.s [0,0,0,0,0,0,0] []⟩
def y3:Y:=⟨z2,.s [6,0,7,0] []⟩
def y4:Y:=⟨z8,.s [0,0,0,0,0,0] []⟩
def y5:Y:=⟨z0,.s [4,0,0,0] []⟩
def y6:Y:=⟨z5,.s [0,0,0,0] []⟩
def y7:Y:=⟨[.own false 7 []],.l 7 88 z3⟩
def y8:Y:=⟨z15,.l 1 16 [BZ ⟨#[]⟩]⟩
def y9:Y:=⟨[BZ ⟨#[]⟩],.t⟩
def y10:Y:=⟨z1,.s [0,0,0,0,0,4,0,0] []⟩
def y11:Y:=⟨z17,.s [0,0,0,0,0,0] [1,1,1,1,1,1]⟩
def y12:Y:=⟨z20,.s [0,0,0,0] []⟩
def y13:Y:=⟨z21,.l 2 32 [si 0,.own false 1 []]⟩
def y14:Y:=⟨[.own false 3 []],.l 3 24 [si 0,si 0,sb false]⟩
def y15:Y:=⟨[si 0,si 0,sb false],.s [0,0,0] [1,1,0]⟩
def y16:Y:=⟨z14,.s [0,0] []⟩
def y17:Y:=⟨z7,.s [4,0,0,0,0,0] []⟩
def y18:Y:=⟨[sb false],.b⟩
def y19:Y:=⟨z9,.s [0,0,0,0] []⟩
def y20:Y:=⟨z21,.l 2 24 [BZ ⟨#[]⟩,sb false]⟩
def y21:Y:=⟨z15,.l 1 1 [sb false]⟩
def y22:Y:=⟨[.own false 5 []],.l 5 48 [BZ ⟨#[]⟩,si 0,si 0,sb false,si 0]⟩
def y23:Y:=⟨[si 0,.own false 1 []],.s [0,0] []⟩
def y24:Y:=⟨z15,.l 1 24 z15⟩
def y25:Y:=⟨z21,.l 2 24 [BZ ⟨#[]⟩,si 0]⟩
def y26:Y:=⟨[BZ ⟨#[]⟩,si 0,si 0,sb false,si 0],.s [0,0,0,0,0] [2,1,1,0,1]⟩
def y27:Y:=⟨[si 0,si 0,BZ ⟨#[]⟩,si 0,si 0,BZ ⟨#[]⟩],.s [0,0,0,0,0,0] [1,1,2,1,1,2]⟩
def y28:Y:=⟨[.own false 11 []],.l 11 176 z1⟩
def y29:Y:=⟨z4,.s [4,0,0,0] []⟩
def y30:Y:=⟨z10,.s [6,0] []⟩
def y31:Y:=⟨[.own false 6 []],.l 6 48 z17⟩
def y32:Y:=⟨[.own false 4 []],.l 4 72 z11⟩
def y33:Y:=⟨[.own false 5 [],.own false 2 [],.own false 2 [],.own false 1 [],.own false 1 [],.own false 3 [],.own false 1 [],.own false 6 [],si 0,si 0],.s [6,0,0,0,0] []⟩
def y34:Y:=⟨[.sc (.pointer none)],.o⟩
def y35:Y:=⟨[.own false 5 [],.own false 2 [],.own false 2 [],.own false 1 [],.own false 1 [],.own false 3 [],.own false 7 []],.s [6,0] []⟩
def y36:Y:=⟨[.own false 4 []],.l 4 56 z20⟩
def y37:Y:=⟨[.own false 3 []],.l 3 24 [si 0,si 0,si 0]⟩
def y38:Y:=⟨[.own false 1 [],.own false 1 [],.own false 1 [],.sc (.int .u8 0),.sc (.int .u8 0)],.s [0,0,0,0,0] []⟩
def y39:Y:=⟨[.own false 5 [],.own false 2 [],.own false 2 [],.own false 1 [],.own false 1 [],.own false 3 [],si 0,.own false 2 [],si 0,.own false 1 [],.own false 3 [],.own false 1 [],.own false 1 [],.own false 1 [],.own false 7 [],.own false 1 [],.own false 1 [],.own false 1 []],.s [15,0,0,0] []⟩
def y40:Y:=⟨[si 0,si 0,.own false 1 []],.s [0,0,0] []⟩
def y41:Y:=⟨[.own false 6 []],.l 6 64 [si 0,si 0,BZ ⟨#[]⟩,si 0,si 0,BZ ⟨#[]⟩]⟩
def y42:Y:=⟨z19,.s [0,0,0,0,0,0,0,0] []⟩
def y43:Y:=⟨z21,.l 2 32 [si 0,.own false 6 []]⟩
def y44:Y:=⟨z21,.l 2 16 [si 0,sb false]⟩
def y45:Y:=⟨z11,.s [0,0,0,0] []⟩
def y46:Y:=⟨z18,.s [0,0] []⟩
def y47:Y:=⟨[si 0,.own false 6 []],.s [0,0] []⟩
def y48:Y:=⟨z15,.l 1 1 [.sc (.int .u8 0)]⟩
def y49:Y:=⟨[si 0,si 0,si 0],.s [0,0,0] [1,1,1]⟩
def y50:Y:=⟨[BZ ⟨#[]⟩,si 0],.s [0,0] [2,1]⟩
def y51:Y:=⟨[.own false 4 []],.l 4 64 z9⟩
def y52:Y:=⟨z21,.l 2 48 z18⟩
def y53:Y:=⟨[.sc (.int .u8 0)],.i .u8⟩
def y54:Y:=⟨z21,.l 2 16 [si 0,si 0]⟩
def y55:Y:=⟨[.own false 4 []],.l 4 32 z22⟩
def y56:Y:=⟨[BZ ⟨#[]⟩,sb false],.s [0,0] [2,0]⟩
def y57:Y:=⟨[si 0,sb false],.s [0,0] [1,0]⟩
def y58:Y:=⟨[.own false 15 []],.l 15 328 z2⟩
def y59:Y:=⟨[si 0,si 0],.s [0,0] [1,1]⟩
def y60:Y:=⟨[.own false 6 [],.own false 4 [],si 0,.own false 11 [],.own false 1 [],.own false 1 []],.s [2,0,0,0,0] []⟩
def y61:Y:=⟨[.own false 1 [],si 0],.s [0,0] []⟩
def y62:Y:=⟨z22,.s [0,0,0,0] [1,1,1,0]⟩
def y63:Y:=⟨[.own false 4 []],.l 4 80 z5⟩
def y64:Y:=⟨z18,.a 2 1 false⟩
def y65:Y:=⟨[sb false,sb false],.a 2 1 false⟩
def y66:Y:=⟨[BZ ⟨#[]⟩,BZ ⟨#[]⟩,BZ ⟨#[]⟩,BZ ⟨#[]⟩,BZ ⟨#[]⟩,BZ ⟨#[]⟩,BZ ⟨#[]⟩,BZ ⟨#[]⟩,BZ ⟨#[]⟩,BZ ⟨#[]⟩,BZ ⟨#[]⟩,BZ ⟨#[]⟩,BZ ⟨#[]⟩,BZ ⟨#[]⟩,BZ ⟨#[]⟩,BZ ⟨#[]⟩,BZ ⟨#[]⟩,BZ ⟨#[]⟩,BZ ⟨#[]⟩,BZ ⟨#[]⟩,BZ ⟨#[]⟩,BZ ⟨#[]⟩],.a 22 1 false⟩
def tt:List (Nat×Y):=[(3,y0),(38,y1),(68,y2),(43,y3),(31,y4),(40,y5),(36,y6),(41,y7),(28,y8),(9,y9),(2,y0),(258,y10),(248,y11),(37,y1),(256,y12),(32,y13),(34,y14),(153,y15),(203,y16),(55,y17),(4,y18),(235,y19),(26,y20),(33,y21),(25,y22),(155,y23),(76,y24),(27,y25),(168,y26),(287,y27),(240,y28),(134,y29),(139,y30),(229,y31),(201,y32),(244,y33),(125,y34),(239,y34),(81,y35),(254,y36),(29,y37),(24,y38),(120,y39),(99,y40),(64,y24),(200,y41),(252,y42),(84,y0),(137,y43),(53,y44),(242,y45),(62,y46),(231,y47),(22,y48),(164,y49),(149,y50),(250,y34),(132,y51),(49,y52),(5,y53),(52,y54),(115,y55),(158,y56),(181,y57),(83,y58),(105,y59),(284,y60),(121,y34),(127,y61),(118,y62),(282,y34),(94,y63),(159,y64),(262,y65),(293,y66)]
def cc:List (Nat×Nat):=[(15,1),(20,1),(21,1),(23,1),(27,2),(31,2),(32,2),(37,2),(38,2),(40,1),(41,1),(42,1),(55,1),(57,1),(58,1),(59,1),(60,1),(61,1),(62,1),(63,2),(64,1),(75,3),(76,1),(77,2),(81,1),(84,2),(85,3),(86,1),(87,1),(89,2),(90,2),(96,2),(97,1),(106,2),(109,2),(110,1),(111,2),(112,1),(113,1),(115,1),(116,2),(117,1),(118,2),(119,2),(120,2),(122,2),(130,2),(135,2),(139,1),(140,1),(150,2),(151,2),(152,2),(156,1),(159,2),(160,2),(161,2),(162,2),(163,2),(164,2),(165,2),(166,2),(170,3),(175,2),(180,1),(182,1),(185,2),(188,1),(189,1),(198,2),(200,3),(208,2),(221,3),(242,3),(243,3),(255,1),(256,1)]
def ll:List (Nat×Nat×Option Nat):=[(79,0,none),(82,0,none),(83,0,none),(125,0,none),(126,0,none),(127,0,none),(128,0,none),(129,0,none),(132,0,none),(133,0,none),(169,0,none),(173,0,none),(174,0,none),(176,0,none),(177,0,none),(183,0,none),(184,0,none),(187,0,none),(219,0,none),(222,0,none),(223,0,none),(249,0,none),(250,0,none),(251,0,none),(252,0,none),(253,0,none),(254,0,none),(257,0,none),(258,0,none),(269,0,none)]
def hn(K:List (Nat×List Nat):=[])(Q:List (Nat×Nat):=[])(C:List (Nat×Nat):=[])(Z:List (Nat×Bool×Nat×List Step):=[])(F:List Nat:=[])(E:List (Nat×IC):=[]):Hn:=⟨tt,C++cc,ll,K,Q,Z,F,E⟩
end Go.Abs
namespace Go.Proofs
open Go.Shelf
def Tryz.kB:Go.Shelf.Ren:=⟨λ|189=>169|125=>203|257=>202|128=>234|129=>235|294=>226|295=>227|296=>228|297=>229|298=>230|299=>231|216=>204|300=>232|301=>233|328=>259|329=>260|330=>261|331=>262|332=>263|215=>236|343=>275|n=>n,λ|28=>38|3=>3|46=>269|0=>0|51=>304|53=>306|4=>4|183=>298|182=>297|131=>112|5=>5|9=>9|218=>323|222=>327|228=>341|229=>342|n=>n,λ|n=>n⟩
def Tryz.sW:Go.Proofs.Lays.n189 Tryz.prog Tryz.kB:={
 mixed:=by kernel_rfl
 f125:=Tryz.func203.trans (congrArg some (by kernel_rfl))
 f128:=Tryz.func234.trans (congrArg some (by kernel_rfl))
 f129:=Tryz.func235.trans (congrArg some (by kernel_rfl))
 f189:=Tryz.func169.trans (congrArg some (by kernel_rfl))
 f215:=Tryz.func236.trans (congrArg some (by kernel_rfl))
 f216:=Tryz.func204.trans (congrArg some (by kernel_rfl))
 f257:=Tryz.func202.trans (congrArg some (by kernel_rfl))
 f294:=Tryz.func226.trans (congrArg some (by kernel_rfl))
 f295:=Tryz.func227.trans (congrArg some (by kernel_rfl))
 f296:=Tryz.func228.trans (congrArg some (by kernel_rfl))
 f297:=Tryz.func229.trans (congrArg some (by kernel_rfl))
 f298:=Tryz.func230.trans (congrArg some (by kernel_rfl))
 f299:=Tryz.func231.trans (congrArg some (by kernel_rfl))
 f300:=Tryz.func232.trans (congrArg some (by kernel_rfl))
 f301:=Tryz.func233.trans (congrArg some (by kernel_rfl))
 f328:=Tryz.func259.trans (congrArg some (by kernel_rfl))
 f329:=Tryz.func260.trans (congrArg some (by kernel_rfl))
 f330:=Tryz.func261.trans (congrArg some (by kernel_rfl))
 f331:=Tryz.func262.trans (congrArg some (by kernel_rfl))
 f332:=Tryz.func263.trans (congrArg some (by kernel_rfl))
 f343:=Tryz.func275.trans (congrArg some (by kernel_rfl))
 t0:=Tryz.underlying0
 a0:=Tryz.isAgg0
 z0:=Tryz.sizeOf0
 v0:=Tryz.zeroValue0
 t3:=Tryz.underlying3
 a3:=Tryz.isAgg3
 z3:=Tryz.sizeOf3
 v3:=Tryz.zeroValue3
 t4:=Tryz.underlying4
 a4:=Tryz.isAgg4
 z4:=Tryz.sizeOf4
 v4:=Tryz.zeroValue4
 t5:=Tryz.underlying5
 a5:=Tryz.isAgg5
 z5:=Tryz.sizeOf5
 v5:=Tryz.zeroValue5
 t9:=Tryz.underlying9
 a9:=Tryz.isAgg9
 z9:=Tryz.sizeOf9
 v9:=Tryz.zeroValue9
 t28:=Tryz.underlying38
 a28:=Tryz.isAgg38
 z28:=Tryz.sizeOf38
 v28:=Tryz.zeroValue38
 t46:=Tryz.underlying269
 a46:=Tryz.isAgg269
 z46:=Tryz.sizeOf269
 v46:=Tryz.zeroValue269
 t51:=Tryz.underlying304
 a51:=Tryz.isAgg304
 z51:=Tryz.sizeOf304
 v51:=Tryz.zeroValue304
 t53:=Tryz.underlying306
 a53:=Tryz.isAgg306
 z53:=Tryz.sizeOf306
 v53:=Tryz.zeroValue306
 t131:=Tryz.underlying112
 a131:=Tryz.isAgg112
 z131:=Tryz.sizeOf112
 v131:=Tryz.zeroValue112
 t182:=Tryz.underlying297
 a182:=Tryz.isAgg297
 z182:=Tryz.sizeOf297
 v182:=Tryz.zeroValue297
 t183:=Tryz.underlying298
 a183:=Tryz.isAgg298
 z183:=Tryz.sizeOf298
 v183:=Tryz.zeroValue298
 t218:=Tryz.underlying323
 a218:=Tryz.isAgg323
 z218:=Tryz.sizeOf323
 v218:=Tryz.zeroValue323
 t222:=Tryz.underlying327
 a222:=Tryz.isAgg327
 z222:=Tryz.sizeOf327
 v222:=Tryz.zeroValue327
 t228:=Tryz.underlying341
 a228:=Tryz.isAgg341
 z228:=Tryz.sizeOf341
 v228:=Tryz.zeroValue341
 t229:=Tryz.underlying342
 a229:=Tryz.isAgg342
 z229:=Tryz.sizeOf342
 v229:=Tryz.zeroValue342}
open Go.Sort Go.RowKit in
def Tryz.slices_Sort_int(MD off cap:Nat)(zs:List Int)(w:World)(hH:Holds (Value.int .i64) w MD off zs.toArray)(Sf:MD<w.heap.size)(PQ:zs.length<4611686018427387904):
 Calls Tryz.prog 169 #[.slice (some ⟨MD,off,none⟩) zs.length cap] w λe w'=>
  e= .returned (.tuple #[])/\∃n os,w'=grow (putRow (Value.int .i64) (Sort.ahead w n) MD off (zs.mergeSort λx y=>decide (x<=y)).toArray) os:=Any.slices_Sort_int Tryz.sW MD off cap zs w hH Sf PQ
def Tryz.ZM:Go.Shelf.Ren:=⟨λ|15=>152|n=>n,λ|22=>38|3=>3|4=>4|n=>n,λ|n=>n⟩
def Tryz.xX:Go.Proofs.Lays2.n15 Tryz.prog Tryz.ZM:={
 mixed:=by kernel_rfl
 f15:=Tryz.func152.trans (congrArg some (by kernel_rfl))
 t3:=Tryz.underlying3
 a3:=Tryz.isAgg3
 z3:=Tryz.sizeOf3
 v3:=Tryz.zeroValue3
 t4:=Tryz.underlying4
 a4:=Tryz.isAgg4
 z4:=Tryz.sizeOf4
 v4:=Tryz.zeroValue4
 t22:=Tryz.underlying38
 a22:=Tryz.isAgg38
 z22:=Tryz.sizeOf38
 v22:=Tryz.zeroValue38
 i3:=by kernel_rfl}
open Go.RowKit Go.Lib in
def Tryz.slices_Clone_int(b off n c:Nat)(zs:List Int)(w:World)(hz:n<=zs.length)(ZD:n*8<=140737488355328)(hc:∀j,j<zs.length->w.cell? ⟨b,off+j,none⟩=some (.int .i64 (zs.getD j 0))):
 Calls Tryz.prog 152 #[.slice (some ⟨b,off,none⟩) n c] w λe w'=>∃v',e= .returned v'/\w'.ownsRow w.heap.size 3 1 v' n ((zs.take n).map (Value.int .i64))/\v'≠ .slice none 0 0/\Below w.heap.size w w':=Any.slices_Clone_int Tryz.xX b off n c zs w hz ZD hc
def Tryz.ZN:Go.Shelf.Ren:=⟨λ|20=>170|n=>n,λ|22=>38|3=>3|4=>4|0=>0|n=>n,λ|n=>n⟩
def Tryz.aU:Go.Proofs.Lays2.n20 Tryz.prog Tryz.ZN:={
 mixed:=by kernel_rfl
 f20:=Tryz.func170.trans (congrArg some (by kernel_rfl))
 t0:=Tryz.underlying0
 a0:=Tryz.isAgg0
 z0:=Tryz.sizeOf0
 v0:=Tryz.zeroValue0
 t3:=Tryz.underlying3
 a3:=Tryz.isAgg3
 z3:=Tryz.sizeOf3
 v3:=Tryz.zeroValue3
 t4:=Tryz.underlying4
 a4:=Tryz.isAgg4
 z4:=Tryz.sizeOf4
 v4:=Tryz.zeroValue4
 t22:=Tryz.underlying38
 a22:=Tryz.isAgg38
 z22:=Tryz.sizeOf38
 v22:=Tryz.zeroValue38
 i3:=by kernel_rfl}
open Go.RowKit Go.Lib Go.Sort in
def Tryz.slices_Compact_int(MD off cap:Nat)(zs:List Int)(w:World)(hH:Holds (Value.int .i64) w MD off zs.toArray)(PQ:zs.length<=9223372036854775807)(D3:zs.length<=cap):
 Calls Tryz.prog 170 #[.slice (some ⟨MD,off,none⟩) zs.length cap] w λe w'=>e= .returned (.slice (some ⟨MD,off,none⟩) (Lib.compact zs).length cap)/\∃q,w'=putRow (Value.int .i64) (Sort.ahead w q) MD off (Lib.compact zs++List.replicate (zs.length-(Lib.compact zs).length) 0).toArray:=Any.slices_Compact_int Tryz.aU MD off cap zs w hH PQ D3
open Go.RowKit Go.Lib Go.Sort in
def Tryz.slices_Compact_int_empty(a:Option Addr)(cap:Nat)(w:World):
 Calls Tryz.prog 170 #[.slice a 0 cap] w λe w'=>e= .returned (.slice a 0 cap)/\w'=w:=Any.slices_Compact_int_empty Tryz.aU a cap w
def Tryz.ZO:Go.Shelf.Ren:=⟨λ|25=>171|31=>204|32=>205|37=>236|n=>n,λ|22=>38|3=>3|4=>4|40=>269|0=>0|n=>n,λ|n=>n⟩
def Tryz.aV:Go.Proofs.Lays2.n25 Tryz.prog Tryz.ZO:={
 mixed:=by kernel_rfl
 f25:=Tryz.func171.trans (congrArg some (by kernel_rfl))
 f31:=Tryz.func204.trans (congrArg some (by kernel_rfl))
 f32:=Tryz.func205.trans (congrArg some (by kernel_rfl))
 f37:=Tryz.func236.trans (congrArg some (by kernel_rfl))
 t0:=Tryz.underlying0
 a0:=Tryz.isAgg0
 z0:=Tryz.sizeOf0
 v0:=Tryz.zeroValue0
 t3:=Tryz.underlying3
 a3:=Tryz.isAgg3
 z3:=Tryz.sizeOf3
 v3:=Tryz.zeroValue3
 t4:=Tryz.underlying4
 a4:=Tryz.isAgg4
 z4:=Tryz.sizeOf4
 v4:=Tryz.zeroValue4
 t22:=Tryz.underlying38
 a22:=Tryz.isAgg38
 z22:=Tryz.sizeOf38
 v22:=Tryz.zeroValue38
 t40:=Tryz.underlying269
 a40:=Tryz.isAgg269
 z40:=Tryz.sizeOf269
 v40:=Tryz.zeroValue269}
open Go.RowKit Go.Lib in
def Tryz.slices_BinarySearch_int(b off n c:Nat)(zs:List Int)(x:Int)(w:World)(hz:n<=zs.length)(ZD:n<4611686018427387904)(hc:∀j,j<zs.length->w.cell? ⟨b,off+j,none⟩=some (.int .i64 (zs.getD j 0)))(hs:(zs.take n).Pairwise (· <= ·)):
 Calls Tryz.prog 171 #[.slice (some ⟨b,off,none⟩) n c,.int .i64 x] w λe w'=>e= .returned (.tuple #[.int .i64 ((zs.take n).countP (· <x):Nat),.bool ((zs.take n).contains x)])/\∃q,w'=w.drewN q:=Any.slices_BinarySearch_int Tryz.aV b off n c zs x w hz ZD hc hs
open Go.RowKit Go.Sort in
def Tryz.slices_Sort_int_none(p:Option Addr)(cap:Nat)(w:World):
 Calls Tryz.prog 169 #[.slice p 0 cap] w λe w'=>e= .returned (.tuple #[])/\w'=w:=Any.slices_Sort_int_none Tryz.sW p cap w
open Go.RowKit Go.Lib in
def Tryz.slices_BinarySearch_int_empty(a:Option Addr)(c:Nat)(x:Int)(w:World):
 Calls Tryz.prog 171 #[.slice a 0 c,.int .i64 x] w λe w'=>e= .returned (.tuple #[.int .i64 0,.bool false])/\w'=w:=Any.slices_BinarySearch_int_empty Tryz.aV a c x w
def Tryz.RY:Go.Shelf.Ren:=⟨λ|43=>170|n=>n,λ|22=>38|23=>3|3=>3|4=>4|0=>0|n=>n,λ|n=>n⟩
def Tryz.Xl:Go.Proofs.SlLaysE.n43 Tryz.prog Tryz.RY:={
 mixed:=by kernel_rfl
 f43:=⟨Tryz.f170.name,by decide,Tryz.func170.trans (congrArg some (by kernel_rfl))⟩
 t0:=Tryz.underlying0
 a0:=Tryz.isAgg0
 z0:=Tryz.sizeOf0
 v0:=Tryz.zeroValue0
 t3:=Tryz.underlying3
 a3:=Tryz.isAgg3
 z3:=Tryz.sizeOf3
 v3:=Tryz.zeroValue3
 t4:=Tryz.underlying4
 a4:=Tryz.isAgg4
 z4:=Tryz.sizeOf4
 v4:=Tryz.zeroValue4
 t22:=Tryz.underlying38
 a22:=Tryz.isAgg38
 z22:=Tryz.sizeOf38
 v22:=Tryz.zeroValue38
 a23:=Tryz.isAgg3
 z23:=Tryz.sizeOf3}
open Go.RowKit Go.Lib Go.Sort in
def Tryz.slices_Compact{a:Type}[Inhabited a][DecidableEq a](enc:a->Value)(hO:OneCell enc)(heq:EqlAt Tryz.prog 3 enc (λx y=>decide (x=y)))(O1:NeqAt Tryz.prog 3 enc (λx y=>decide (x=y)))(zr:a)(v23:∀w,(zeroValue 3).run Tryz.prog w= .ok (enc zr) w)(MD off cap:Nat)(d:Array a)(w:World)(hH:Holds enc w MD off d)(PQ:d.size<=9223372036854775807)(D3:d.size<=cap):
 Calls Tryz.prog 170 #[.slice (some ⟨MD,off,none⟩) d.size cap] w λe w'=>e= .returned (.slice (some ⟨MD,off,none⟩) (compactUpTo d d.size).length cap)/\∃q,w'=putRow enc (Sort.ahead w q) MD off (compactUpTo d d.size++List.replicate (d.size-(compactUpTo d d.size).length) zr).toArray:=AnyE.slices_Compact Tryz.Xl enc hO heq O1 zr v23 MD off cap d w hH PQ D3
def Tryz.RZ:Go.Shelf.Ren:=⟨λ|10=>194|6=>224|n=>n,λ|22=>38|23=>3|25=>156|3=>3|4=>4|0=>0|n=>n,λ|n=>n⟩
def Tryz.Xm:Go.Proofs.SlLaysH.n10 Tryz.prog Tryz.RZ:={
 mixed:=by kernel_rfl
 f6:=⟨Tryz.f224.name,by decide,Tryz.func224.trans (congrArg some (by kernel_rfl))⟩
 f10:=⟨Tryz.f194.name,by decide,Tryz.func194.trans (congrArg some (by kernel_rfl))⟩
 t0:=Tryz.underlying0
 a0:=Tryz.isAgg0
 z0:=Tryz.sizeOf0
 v0:=Tryz.zeroValue0
 t3:=Tryz.underlying3
 a3:=Tryz.isAgg3
 z3:=Tryz.sizeOf3
 v3:=Tryz.zeroValue3
 t4:=Tryz.underlying4
 a4:=Tryz.isAgg4
 z4:=Tryz.sizeOf4
 v4:=Tryz.zeroValue4
 t22:=Tryz.underlying38
 a22:=Tryz.isAgg38
 z22:=Tryz.sizeOf38
 v22:=Tryz.zeroValue38
 a23:=Tryz.isAgg3
 z23:=Tryz.sizeOf3
 t25:=Tryz.underlying156
 a25:=Tryz.isAgg156
 z25:=Tryz.sizeOf156
 v25:=Tryz.zeroValue156}
open Go.RowKit Go.Lib Go.Sort in
def Tryz.slices_DeleteFunc{a:Type}[Inhabited a](enc:a->Value)(hO:OneCell enc)(p:a->Bool)(g:Nat)(lb:Array Value)(eg:∀args w,(callFunc g args).run Tryz.prog w= .ok (.enter g args) w)(zr:a)(v23:∀w,(zeroValue 3).run Tryz.prog w= .ok (enc zr) w)(MD off cap:Nat)(d:Array a)(w:World)(hp:PredAt Tryz.prog g lb enc p w)(hpo:PredOver Tryz.prog g lb enc p MD off d.size w)(hH:Holds enc w MD off d)(PQ:d.size<=9223372036854775807)(D3:d.size<=cap):
 Calls Tryz.prog 194 #[.slice (some ⟨MD,off,none⟩) d.size cap,.func (.func g) #[] lb] w λe w'=>e= .returned (.slice (some ⟨MD,off,none⟩) (d.toList.filter λx=> !p x).length cap)/\∃q,w'=putRow enc (Sort.ahead w q) MD off ((d.toList.filter λx=> !p x)++List.replicate (d.size-(d.toList.filter λx=> !p x).length) zr).toArray:=AnyE.slices_DeleteFunc Tryz.Xm enc hO p g lb eg zr v23 MD off cap d w hp hpo hH PQ D3
end Go.Proofs
namespace Go.Abs
open Go.Proofs Go.Sort Go.RowKit
def W7(l:dc):(Lib.compact l).length<=l.length:=by unfold Lib.compact Lib.compactUpTo;rw[AAo];exact AA5 (List.length_filter_le _ _) ak
def LP(l:dc):ABd (List Int):=if l.length<4611686018427387904 then some (l.mergeSort λx y=>decide (x<=y))else none
def Tr{l r:dc}(h:LP l=some r):BD Tryz.prog 169 [.own false 1 (l.map eI)] (.BQ []) [.own false 1 (r.map eI)]:=by obtain⟨g,h⟩:=HU h;obtain rfl:=AAG h;exact qW Tryz.slices_Sort_int Tryz.slices_Sort_int_none l g
def slices_Compact(l:dc):ABd (List Int):=if l.length<4611686018427387904 then some (Lib.compact l)else none
def Oy{l r:dc}(h:slices_Compact l=some r):Says Tryz.prog 170 [.own false 1 (l.map eI)] (.own false 1 (r.map eI)):=by obtain⟨g,h⟩:=HU h;obtain rfl:=AAG h;exact Y9 Tryz.slices_Compact_int Tryz.slices_Compact_int_empty l g (W7 l) rfl
def givesEq(b off:Nat)(n x:Int)(W:World)(hc:W.cell? ⟨b,off,none⟩=some (.int .i64 n)):
 FnGives Tryz.prog 195 #[.pointer (some ⟨b,off,none⟩)] #[.int .i64 x] (.bool (x==n)) W:=by
 show Calls Tryz.prog 195 #[.int .i64 x,.pointer (some ⟨b,off,none⟩)] W _
 go_enter Tryz.func195,Tryz.ntmps195
 go_wp2
 all_goals (go_ret;exact⟨am,0,rfl⟩)
def IU(l:dc)(n:Int):ABd (List Int):=if l≠[]/\l.length<4611686018427387904 then some (l.filter λx=> !(x==n))else none
def NZ{l r:dc}{n:Int}(h:IU l n=some r):Says Tryz.prog 194 [.own false 1 (l.map eI),.oT 195 [[si n]]] (.own false 1 (r.map eI)):=by obtain⟨⟨g1,g2⟩,h⟩:=HU h;obtain rfl:=AAG h;refine cQ (q:=λn x=>x==n) ?_ givesEq l n g1 g2;intro lb p MD off cap d w hp hpo hH PQ D3;exact Tryz.slices_DeleteFunc (Value.int .i64) (λ_=>rfl) p 195 lb (enters_of Tryz.func195 (by kernel_rfl) rfl) 0 (Tryz.zeroValue3) MD off cap d w hp hpo hH PQ D3
def M7(l:dc)(x:Int):ABd (Int×Bool):=if l.length<4611686018427387904/\l.Pairwise (· <= ·)then some (((l.countP (· <x):Nat):Int),l.contains x)else none
def Tq{l:dc}{x:Int}{r:Int×Bool}(h:M7 l x=some r):Says Tryz.prog 171 [.sl false 1 (l.map eI),si x] (.BQ [si r.1,sb r.2]):=by obtain⟨⟨g1,g2⟩,h⟩:=HU h;obtain rfl:=AAG h;exact cL Tryz.slices_BinarySearch_int Tryz.slices_BinarySearch_int_empty l x g1 g2
def Y0(n:Int):ABd (List Int):=if 0<=n/\n<4611686018427 then some []else none
def growR:Go.Shelf.Ren:=⟨λ|4=>168|n=>n,λ|22=>38|25=>3|n=>n,λ|n=>n⟩
def growL:Go.Proofs.Lays8.n4 Tryz.prog growR:={
 mixed:=by kernel_rfl
 f4:=⟨Tryz.f168.name,aS,Tryz.func168.trans (ABZ some (by kernel_rfl))⟩
 t0:=Tryz.underlying0
 a0:=Tryz.isAgg0
 z0:=Tryz.sizeOf0
 v0:=Tryz.zeroValue0
 t3:=Tryz.underlying3
 a3:=Tryz.isAgg3
 z3:=Tryz.sizeOf3
 v3:=Tryz.zeroValue3
 t4:=Tryz.underlying4
 a4:=Tryz.isAgg4
 z4:=Tryz.sizeOf4
 v4:=Tryz.zeroValue4
 t9:=Tryz.underlying9
 a9:=Tryz.isAgg9
 z9:=Tryz.sizeOf9
 v9:=Tryz.zeroValue9
 t20:=Tryz.underlying20
 a20:=Tryz.isAgg20
 z20:=Tryz.sizeOf20
 v20:=Tryz.zeroValue20
 t22:=Tryz.underlying38
 a22:=Tryz.isAgg38
 z22:=Tryz.sizeOf38
 v22:=Tryz.zeroValue38
}
def growS(n:Nat)(hn:n<4611686018427):Says Tryz.prog 168 [.sc (.slice none 0 0),si n] (.own false 1 []):=by
 refine wU (E:=3) ?_ ?_ n ah
 . intro n w h0 hn;have hi:Tryz.prog.info? 3=some ((Tryz.prog.info? 3).getD default):=(by kernel_rfl);have hs:((Tryz.prog.info? 3).getD default).size=1:=(by kernel_rfl);have hb:((Tryz.prog.info? 3).getD default).bytes=8:=(by kernel_rfl);have h:=Any8.slices_Grow_grow growL ((Tryz.prog.info? 3).getD default) (.int .i64 0) hi (by kernel_rfl) (by rw[hs];omega) none 0 0 n [] w (AAe _) ah
    (by rw[hb];omega) ah ak ak ak
   refine h.mono ?_;rintro e w' ⟨rfl,rfl⟩;refine⟨_,_,?_,rfl,rfl⟩
   have:=grownCap_ge w (0+n) 0 (growR.t 25);rw[ABM]at this;simp only[Array.size_append,size_zeroCells,Value.cells];simp;omega
 . intro w;have h:=Any8.slices_Grow_room growL none 0 0 0 w ah ah ah ah;exact h
def lU{n:Int}{r:dc}(h:Y0 n=some r):Says Tryz.prog 168 [.sc (.slice none 0 0),si n] (.own false 1 (r.map eI)):=by obtain⟨⟨g1,g2⟩,h⟩:=HU h;obtain rfl:=AAG h;obtain⟨m,rfl⟩:=Int.eq_ofNat_of_zero_le g1;exact growS m ah
end Go.Abs
namespace Go.Abs
open Go.Proofs
def rb0:laidOutB Tryz.prog=true:=by kernel_rfl
def rb1:mapsRowed Tryz.prog=true:=by kernel_rfl
def rb2:Tryz.prog.stopsHeard=true:=by kernel_rfl
def rb3:Tryz.prog.mayEnter=true:=by kernel_rfl
def rb4:Tryz.prog.liftsFinal=false:=by kernel_rfl
def rb5:Tryz.prog.plainKeys=true:=by kernel_rfl
def rb6:Tryz.prog.mainIs=some (true,"8a42790257e1b6008a5a8b49b99a48ba9345b5ac028b326e59bb36f246f00561".toList):=by kernel_rfl
def rb7:false=Tryz.prog.looks []:=by kernel_rfl
end Go.Abs
