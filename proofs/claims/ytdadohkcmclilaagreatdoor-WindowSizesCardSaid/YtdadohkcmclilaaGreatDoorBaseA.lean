/- The types of the program, how their values are read, and the library's functions. -/
import Derived.Test.YtdadohkcmclilaaGreatDoorCoreD
import Derived.Test.YtdadohkcmclilaaGreatDoorChecked
import Derived.KernelRfl
import Derived.Shelf.Small.Bits
import Derived.Shelf.Strconv.Itoa0
import Derived.Shelf.Sort.Plain
import Derived.Ground.Names2Prog
import Derived.Shelf.Slices.Clone
import Derived.Shelf.Slices.CompactI
import Derived.Shelf.Slices.SearchI
import Derived.Shelf.Slices.In.SortNone
import Derived.Ground.SlgnProg
import Derived.Shelf.SlicesE.Compact
import Derived.Ground.SlgfProg
import Derived.Shelf.SlicesE.IndexFunc
import Derived.Shelf.SlicesE.DeleteFunc
import Derived.Test.YtdadohkcmclilaaGreatDoorProg
import Derived.Lib.SliceRun
set_option linter.unusedSimpArgs false
set_option linter.unusedVariables false
namespace Go.Abs
open Go.Proofs
set_option maxRecDepth 1000000
set_option maxHeartbeats 4000000
theorem mix:Tryz.prog.follows .mixedOrders=true:=by kernel_rfl
@[go_sem]theorem gamAt0:aW 0 22=some (Kg.map Value.string):=by rfl
structure EM where
 Kind:Int
 Ep:Int
 Name:ABq
 B0:Int
 Init:Int
 On:ABq
 deriving DecidableEq
structure EH where
 L:List Int
 At:Int
 deriving DecidableEq
structure A4 where
 Op:Int
 N:Int
 Name:ABq
 L:List A4
structure AM where
 t:EH
 BV:Int
 left:Int
 HY:Bool
 tx:Bool
 atomic:Bool
 loop:Bool
 held:List ABq
 deriving DecidableEq
structure AP where
 Op:Int
 Ep:Int
 Name:ABq
 Arg:ABq
 Index:List A4
 Expr:A4
 Body:List AP
 Else:List AP
structure CZ where
 Name:ABq
 Ep:Int
 HB:List ABq
 Body:List AP
structure AQ where
 Decls:List EM
 AA:List CZ
structure BA where
 p:AQ
 BV:Int
 GH:List AP
 LM:List ABq
 XM:List ABq
structure Ic where
 Name:ABq
 RW:Bool
 deriving DecidableEq
structure DL where
 Thread:Int
 Stmt:Int
 Ep:Int
 deriving DecidableEq
structure DB where
 Name:ABq
 Index:Int
 B0:Int
 Fv:Bool
 Init:Int
 deriving DecidableEq
structure LL where
 Name:ABq
 Mutex:Int
 deriving DecidableEq
structure AD where
 Cells:List DB
 AG:List Ic
 Af:List LL
 AK:List ABq
 AA:List ABq
 A7:List DL
 deriving DecidableEq
structure Ab where
 Op:Int
 A:Int
 B:Int
 C:Int
 N:Int
 Site:Int
 deriving DecidableEq
structure A5 where
 w:AD
 locals:List ABq
 out:List Ab
 site:Int
 next:Int
 deriving DecidableEq
structure An where
 Br:Int
 A1:List Ab
 deriving DecidableEq
structure BF where
 World:AD
 AA:List An
 deriving DecidableEq
structure BK where
 Thread:Int
 S8:Int
 deriving DecidableEq
structure AW where
 CW:Int
 As:List Int
 deriving DecidableEq
structure AE where
 Status:Int
 D8:Int
 Atomic:Bool
 deriving DecidableEq
structure AN where
 AG:List AW
 Tx:Int
 Bq:List Bool
 AA:List AE
 deriving DecidableEq
structure AL where
 PC:Int
 Br:List Int
 Bn:List (List Int)
 AF:Int
 deriving DecidableEq
structure Ad where
 Sync:AN
 Cells:List Int
 AK:List Int
 AA:List AL
 deriving DecidableEq
structure AH where
 Thread:Int
 Kind:Int
 Obj:Int
 Value:Int
 Site:Int
 D9:List Int
 Db:List Int
 deriving DecidableEq
structure Az where
 World:AD
 AF:List AH
 deriving DecidableEq
structure AB where
 Sync:AN
 Cells:List Int
 AK:List Int
 Count:List Int
 deriving DecidableEq
structure AO where
 World:AD
 Start:Int
 Init:AB
 AF:List AH
 deriving DecidableEq
def JQ (x:EM):List AV:=[si x.Kind,si x.Ep,BM x.Name,si x.B0,si x.Init,BM x.On]
attribute [go_sem] JQ
def YL (x:Int):List AV:=[.sc (.int .u8 x)]
attribute [go_sem] YL
def Tt (x:EH):List AV:=[.sl false 1 (x.L.map YL),si x.At]
attribute [go_sem] Tt
mutual
def A0:A4->List AV
 |⟨y0,y1,y2,y3⟩=>[si y0,si y1,BM y2,.sl false 4 (Y6 y3)]
def Y6:List A4->List (List AV)
 |[]=>[]
 |x::l=>A0 x::Y6 l
end
theorem eExpr_m (l:List A4):Y6 l=l.map A0:=by induction l<;>simp[Y6, *]
@[go_sem]theorem eExpr_d (x:A4):A0 x=[si x.Op,si x.N,BM x.Name,.sl false 4 (x.L.map A0)]:=by cases x;simp[A0,eExpr_m]
@[go_sem]theorem eExpr_eta (x:A4):A4.mk x.Op x.N x.Name x.L=x:=by cases x;rfl
def eS (x:ByteArray):List AV:=[BM x]
@[go_sem]theorem eS_sn (l:List ByteArray) (y0:ByteArray):l.map eS++[[BM y0]]=(l++[y0]).map eS:=by simp[eS]
attribute [go_sem] eS
def Bw (x:AM):List AV:=[bA 2 [.sl false 1 (x.t.L.map YL),si x.t.At],si x.BV,si x.left,sb x.HY,sb x.tx,sb x.atomic,sb x.loop,.own false 1 (x.held.map eS)]
attribute [go_sem] Bw
mutual
def Av:AP->List AV
 |⟨y0,y1,y2,y3,y4,y5,y6,y7⟩=>[si y0,si y1,BM y2,BM y3,.sl false 4 (y4.map A0),si y5.Op,si y5.N,BM y5.Name,.sl false 4 (y5.L.map A0),.sl false 11 (Vn y6),.sl false 11 (Vn y7)]
def Vn:List AP->List (List AV)
 |[]=>[]
 |x::l=>Av x::Vn l
end
theorem eStmt_m (l:List AP):Vn l=l.map Av:=by induction l<;>simp[Vn, *]
@[go_sem]theorem Y7 (x:AP):Av x=[si x.Op,si x.Ep,BM x.Name,BM x.Arg,.sl false 4 (x.Index.map A0),si x.Expr.Op,si x.Expr.N,BM x.Expr.Name,.sl false 4 (x.Expr.L.map A0),.sl false 11 (x.Body.map Av),.sl false 11 (x.Else.map Av)]:=by cases x;simp[Av,eStmt_m]
@[go_sem]theorem eStmt_eta (x:AP):AP.mk x.Op x.Ep x.Name x.Arg x.Index x.Expr x.Body x.Else=x:=by cases x;rfl
@[go_sem]theorem eStmt_sn (l:List AP) (y0:Int) (y1:Int) (y2:ByteArray) (y3:ByteArray) (y4:List A4) (y5:Int) (y6:Int) (y7:ByteArray) (y8:List A4) (y9:List AP) (y10:List AP):l.map Av++[[si y0,si y1,BM y2,BM y3,.sl false 4 (y4.map A0),si y5,si y6,BM y7,.sl false 4 (y8.map A0),.sl false 11 (y9.map Av),.sl false 11 (y10.map Av)]]=(l++[(AP.mk y0 y1 y2 y3 y4 (A4.mk y5 y6 y7 y8) y9 y10)]).map Av:=by simp[Y7]
@[go_sem]theorem eStmt_se (l:List AP) (i:Nat) (y0:Int) (y1:Int) (y2:ByteArray) (y3:ByteArray) (y4:List A4) (y5:Int) (y6:Int) (y7:ByteArray) (y8:List A4) (y9:List AP) (y10:List AP):(l.map Av).set i [si y0,si y1,BM y2,BM y3,.sl false 4 (y4.map A0),si y5,si y6,BM y7,.sl false 4 (y8.map A0),.sl false 11 (y9.map Av),.sl false 11 (y10.map Av)]=(l.set i (AP.mk y0 y1 y2 y3 y4 (A4.mk y5 y6 y7 y8) y9 y10)).map Av:=by simp[Y7,List.map_set]
@[go_sem]theorem eStmt_sn1 (l:List AP) (y0:Int) (y1:Int) (y2:ByteArray) (y3:ByteArray) (y5:Int) (y6:Int) (y7:ByteArray):l.map Av++[[si y0,si y1,BM y2,BM y3,.sl false 4 [],si y5,si y6,BM y7,.sl false 4 [],.sl false 11 [],.sl false 11 []]]=(l++[(AP.mk y0 y1 y2 y3 [] (A4.mk y5 y6 y7 []) [] [])]).map Av:=by simp[Y7]
def Hz (x:CZ):List AV:=[BM x.Name,si x.Ep,.sl false 1 (x.HB.map eS),.sl false 11 (x.Body.map Av)]
@[go_sem]theorem eThread_sn (l:List CZ) (y0:ByteArray) (y1:Int) (y2:List ByteArray) (y3:List AP):l.map Hz++[[BM y0,si y1,.sl false 1 (y2.map eS),.sl false 11 (y3.map Av)]]=(l++[(CZ.mk y0 y1 y2 y3)]).map Hz:=by simp[Hz]
attribute [go_sem] Hz
def Bu (x:AQ):List AV:=[.sl false 6 (x.Decls.map JQ),.sl false 4 (x.AA.map Hz)]
attribute [go_sem] Bu
def Gj (x:BA):List AV:=[.sl false 6 (x.p.Decls.map JQ),.sl false 4 (x.p.AA.map Hz),si x.BV,.own false 11 (x.GH.map Av),.own false 1 (x.LM.map eS),.own false 1 (x.XM.map eS)]
attribute [go_sem] Gj
def aU (x:CZ):List AV:=[BM x.Name,si x.Ep,.own false 1 (x.HB.map eS),.own false 11 (x.Body.map Av)]
attribute [go_sem] aU
def HG (x:Ic):List AV:=[BM x.Name,sb x.RW]
@[go_sem]theorem eLock_sn (l:List Ic) (y0:ByteArray) (y1:Bool):l.map HG++[[BM y0,sb y1]]=(l++[(Ic.mk y0 y1)]).map HG:=by simp[HG]
attribute [go_sem] HG
def FO (x:DL):List AV:=[si x.Thread,si x.Stmt,si x.Ep]
@[go_sem]theorem eSite_sn (l:List DL) (y0:Int) (y1:Int) (y2:Int):l.map FO++[[si y0,si y1,si y2]]=(l++[(DL.mk y0 y1 y2)]).map FO:=by simp[FO]
attribute [go_sem] FO
def Fw (x:DB):List AV:=[BM x.Name,si x.Index,si x.B0,sb x.Fv,si x.Init]
@[go_sem]theorem eCell_sn (l:List DB) (y0:ByteArray) (y1:Int) (y2:Int) (y3:Bool) (y4:Int):l.map Fw++[[BM y0,si y1,si y2,sb y3,si y4]]=(l++[(DB.mk y0 y1 y2 y3 y4)]).map Fw:=by simp[Fw]
attribute [go_sem] Fw
def HF (x:LL):List AV:=[BM x.Name,si x.Mutex]
@[go_sem]theorem eCond_sn (l:List LL) (y0:ByteArray) (y1:Int):l.map HF++[[BM y0,si y1]]=(l++[(LL.mk y0 y1)]).map HF:=by simp[HF]
attribute [go_sem] HF
def Ai (x:AD):List AV:=[.sl false 5 (x.Cells.map Fw),.sl false 2 (x.AG.map HG),.sl false 2 (x.Af.map HF),.sl false 1 (x.AK.map eS),.sl false 1 (x.AA.map eS),.sl false 3 (x.A7.map FO)]
attribute [go_sem] Ai
def Mx (x:AD):List AV:=[.own false 5 (x.Cells.map Fw),.own false 2 (x.AG.map HG),.own false 2 (x.Af.map HF),.own false 1 (x.AK.map eS),.own false 1 (x.AA.map eS),.own false 3 (x.A7.map FO)]
attribute [go_sem] Mx
def Du (x:Ab):List AV:=[si x.Op,si x.A,si x.B,si x.C,si x.N,si x.Site]
@[go_sem]theorem eInstr_sn (l:List Ab) (y0:Int) (y1:Int) (y2:Int) (y3:Int) (y4:Int) (y5:Int):l.map Du++[[si y0,si y1,si y2,si y3,si y4,si y5]]=(l++[(Ab.mk y0 y1 y2 y3 y4 y5)]).map Du:=by simp[Du]
@[go_sem]theorem eInstr_se (l:List Ab) (i:Nat) (y0:Int) (y1:Int) (y2:Int) (y3:Int) (y4:Int) (y5:Int):(l.map Du).set i [si y0,si y1,si y2,si y3,si y4,si y5]=(l.set i (Ab.mk y0 y1 y2 y3 y4 y5)).map Du:=by simp[Du,List.map_set]
attribute [go_sem] Du
def egen (x:A5):List AV:=[.sl false 5 (x.w.Cells.map Fw),.sl false 2 (x.w.AG.map HG),.sl false 2 (x.w.Af.map HF),.sl false 1 (x.w.AK.map eS),.sl false 1 (x.w.AA.map eS),.sl false 3 (x.w.A7.map FO),.sl false 1 (x.locals.map eS),.sl false 6 (x.out.map Du),si x.site,si x.next]
attribute [go_sem] egen
def EA (x:A5):List AV:=[.sl false 5 (x.w.Cells.map Fw),.sl false 2 (x.w.AG.map HG),.sl false 2 (x.w.Af.map HF),.sl false 1 (x.w.AK.map eS),.sl false 1 (x.w.AA.map eS),.sl false 3 (x.w.A7.map FO),.sl false 1 (x.locals.map eS),.own false 6 (x.out.map Du),si x.site,si x.next]
attribute [go_sem] EA
def eI (x:Int):List AV:=[si x]
@[go_sem]theorem eI_sn (l:List Int) (y0:Int):l.map eI++[[si y0]]=(l++[y0]).map eI:=by simp[eI]
@[go_sem]theorem eI_se (l:List Int) (i:Nat) (y0:Int):(l.map eI).set i [si y0]=(l.set i y0).map eI:=by simp[eI,List.map_set]
@[go_sem]theorem eI_re (n:Nat) (y0:Int):List.replicate n [si y0]=(List.replicate n y0).map eI:=by simp[eI]
attribute [go_sem] eI
def CA (x:An):List AV:=[si x.Br,.sl false 6 (x.A1.map Du)]
@[go_sem]theorem vD (l:List An) (y0:Int) (y1:List Ab):l.map CA++[[si y0,.sl false 6 (y1.map Du)]]=(l++[(An.mk y0 y1)]).map CA:=by simp[CA]
attribute [go_sem] CA
def I6 (x:BF):List AV:=[.sl false 5 (x.World.Cells.map Fw),.sl false 2 (x.World.AG.map HG),.sl false 2 (x.World.Af.map HF),.sl false 1 (x.World.AK.map eS),.sl false 1 (x.World.AA.map eS),.sl false 3 (x.World.A7.map FO),.sl false 2 (x.AA.map CA)]
attribute [go_sem] I6
def Iu (x:BK):List AV:=[si x.Thread,si x.S8]
@[go_sem]theorem eChoice_sn (l:List BK) (y0:Int) (y1:Int):l.map Iu++[[si y0,si y1]]=(l++[(BK.mk y0 y1)]).map Iu:=by simp[Iu]
attribute [go_sem] Iu
def C4 (x:AW):List AV:=[si x.CW,.sl false 1 (x.As.map eI)]
attribute [go_sem] C4
def eB (x:Bool):List AV:=[sb x]
@[go_sem]theorem eB_sn (l:List Bool) (y0:Bool):l.map eB++[[sb y0]]=(l++[y0]).map eB:=by simp[eB]
@[go_sem]theorem eB_se (l:List Bool) (i:Nat) (y0:Bool):(l.map eB).set i [sb y0]=(l.set i y0).map eB:=by simp[eB,List.map_set]
@[go_sem]theorem eB_re (n:Nat) (y0:Bool):List.replicate n [sb y0]=(List.replicate n y0).map eB:=by simp[eB]
attribute [go_sem] eB
def Ae (x:AE):List AV:=[si x.Status,si x.D8,sb x.Atomic]
@[go_sem]theorem vH (l:List AE) (y0:Int) (y1:Int) (y2:Bool):l.map Ae++[[si y0,si y1,sb y2]]=(l++[(AE.mk y0 y1 y2)]).map Ae:=by simp[Ae]
@[go_sem]theorem vG (l:List AE) (i:Nat) (y0:Int) (y1:Int) (y2:Bool):(l.map Ae).set i [si y0,si y1,sb y2]=(l.set i (AE.mk y0 y1 y2)).map Ae:=by simp[Ae,List.map_set]
@[go_sem]theorem vE (n:Nat) (y0:Int) (y1:Int) (y2:Bool):List.replicate n [si y0,si y1,sb y2]=(List.replicate n (AE.mk y0 y1 y2)).map Ae:=by simp[Ae]
attribute [go_sem] Ae
def E1 (x:AN):List AV:=[.sl false 2 (x.AG.map C4),si x.Tx,.sl false 1 (x.Bq.map eB),.sl false 3 (x.AA.map Ae)]
attribute [go_sem] E1
def B5 (x:AW):List AV:=[si x.CW,.own false 1 (x.As.map eI)]
@[go_sem]theorem vB (l:List AW) (y0:Int) (y1:List Int):l.map B5++[[si y0,.own false 1 (y1.map eI)]]=(l++[(AW.mk y0 y1)]).map B5:=by simp[B5]
@[go_sem]theorem vA (l:List AW) (i:Nat) (y0:Int) (y1:List Int):(l.map B5).set i [si y0,.own false 1 (y1.map eI)]=(l.set i (AW.mk y0 y1)).map B5:=by simp[B5,List.map_set]
@[go_sem]theorem rW (l:List AW) (y0:Int):l.map B5++[[si y0,.own false 1 []]]=(l++[(AW.mk y0 [])]).map B5:=by simp[B5]
@[go_sem]theorem rV (n:Nat) (y0:Int):List.replicate n [si y0,.own false 1 []]=(List.replicate n (AW.mk y0 [])).map B5:=by simp[B5]
@[go_sem]theorem u9 (l:List AW):MU (l.map B5)=l.map C4:=by induction l with|nil=>rfl|cons x l ih=>simp only[List.map_cons,MU,ih,go_sem,B5,C4]
attribute [go_sem] B5
def HM (x:AN):List AV:=[.own false 2 (x.AG.map B5),si x.Tx,.own false 1 (x.Bq.map eB),.own false 3 (x.AA.map Ae)]
attribute [go_sem] HM
def Zp (x:List Int):List AV:=[.sl false 1 (x.map eI)]
@[go_sem]theorem eLI_se (l:List (List Int)) (i:Nat) (y0:List Int):(l.map Zp).set i [.sl false 1 (y0.map eI)]=(l.set i y0).map Zp:=by simp[Zp,List.map_set]
@[go_sem]theorem eLI_se_y0 (l:List (List Int)) (i:Nat) (y0:Int):(l.map Zp).set i [.sl false 1 [[si y0]]]=(l.set i [y0]).map Zp:=by simp[Zp,eI,List.map_set]
@[go_sem]theorem eLI_se1 (l:List (List Int)) (i:Nat):(l.map Zp).set i [.sl false 1 []]=(l.set i []).map Zp:=by simp[Zp,List.map_set]
@[go_sem]theorem eLI_re1 (n:Nat):List.replicate n [.sl false 1 []]=(List.replicate n []).map Zp:=by simp[Zp]
attribute [go_sem] Zp
def Ej (x:AL):List AV:=[si x.PC,.sl false 1 (x.Br.map eI),.sl false 1 (x.Bn.map Zp),si x.AF]
attribute [go_sem] Ej
def Jp (x:Ad):List AV:=[.sl false 2 (x.Sync.AG.map C4),si x.Sync.Tx,.sl false 1 (x.Sync.Bq.map eB),.sl false 3 (x.Sync.AA.map Ae),.sl false 1 (x.Cells.map eI),.sl false 1 (x.AK.map eI),.sl false 4 (x.AA.map Ej)]
attribute [go_sem] Jp
def Bc (x:AL):List AV:=[si x.PC,.own false 1 (x.Br.map eI),.own false 1 (x.Bn.map Zp),si x.AF]
@[go_sem]theorem nU (l:List AL) (y0:Int) (y1:List Int) (y2:List (List Int)) (y3:Int):l.map Bc++[[si y0,.own false 1 (y1.map eI),.own false 1 (y2.map Zp),si y3]]=(l++[(AL.mk y0 y1 y2 y3)]).map Bc:=by simp[Bc]
@[go_sem]theorem nT (l:List AL) (i:Nat) (y0:Int) (y1:List Int) (y2:List (List Int)) (y3:Int):(l.map Bc).set i [si y0,.own false 1 (y1.map eI),.own false 1 (y2.map Zp),si y3]=(l.set i (AL.mk y0 y1 y2 y3)).map Bc:=by simp[Bc,List.map_set]
@[go_sem]theorem nS (l:List AL):MU (l.map Bc)=l.map Ej:=by induction l with|nil=>rfl|cons x l ih=>simp only[List.map_cons,MU,ih,go_sem,Bc,Ej]
attribute [go_sem] Bc
def LS (x:Ad):List AV:=[.own false 2 (x.Sync.AG.map B5),si x.Sync.Tx,.own false 1 (x.Sync.Bq.map eB),.own false 3 (x.Sync.AA.map Ae),.own false 1 (x.Cells.map eI),.own false 1 (x.AK.map eI),.own false 4 (x.AA.map Bc)]
attribute [go_sem] LS
def BG (x:AH):List AV:=[si x.Thread,si x.Kind,si x.Obj,si x.Value,si x.Site,.sl false 1 (x.D9.map eI),.sl false 1 (x.Db.map eI)]
@[go_sem]theorem eEvent_sn (l:List AH) (y0:Int) (y1:Int) (y2:Int) (y3:Int) (y4:Int) (y5:List Int) (y6:List Int):l.map BG++[[si y0,si y1,si y2,si y3,si y4,.sl false 1 (y5.map eI),.sl false 1 (y6.map eI)]]=(l++[(AH.mk y0 y1 y2 y3 y4 y5 y6)]).map BG:=by simp[BG]
attribute [go_sem] BG
def Iv (x:AH):List AV:=[si x.Thread,si x.Kind,si x.Obj,si x.Value,si x.Site,.own false 1 (x.D9.map eI),.own false 1 (x.Db.map eI)]
@[go_sem]theorem eEvento_sn (l:List AH) (y0:Int) (y1:Int) (y2:Int) (y3:Int) (y4:Int) (y5:List Int) (y6:List Int):l.map Iv++[[si y0,si y1,si y2,si y3,si y4,.own false 1 (y5.map eI),.own false 1 (y6.map eI)]]=(l++[(AH.mk y0 y1 y2 y3 y4 y5 y6)]).map Iv:=by simp[Iv]
@[go_sem]theorem eEvento_fz (l:List AH):MU (l.map Iv)=l.map BG:=by induction l with|nil=>rfl|cons x l ih=>simp only[List.map_cons,MU,ih,go_sem,Iv,BG]
attribute [go_sem] Iv
def fW (x:List Int):List AV:=[.own false 1 (x.map eI)]
@[go_sem]theorem eLIo_sn (l:List (List Int)) (y0:List Int):l.map fW++[[.own false 1 (y0.map eI)]]=(l++[y0]).map fW:=by simp[fW]
@[go_sem]theorem eLIo_fz (l:List (List Int)):MU (l.map fW)=l.map Zp:=by induction l with|nil=>rfl|cons x l ih=>simp only[List.map_cons,MU,ih,go_sem,fW,Zp]
attribute [go_sem] fW
def Hj (x:Az):List AV:=[.sl false 5 (x.World.Cells.map Fw),.sl false 2 (x.World.AG.map HG),.sl false 2 (x.World.Af.map HF),.sl false 1 (x.World.AK.map eS),.sl false 1 (x.World.AA.map eS),.sl false 3 (x.World.A7.map FO),.sl false 7 (x.AF.map BG)]
attribute [go_sem] Hj
def PU (x:Az):List AV:=[.sl false 5 (x.World.Cells.map Fw),.sl false 2 (x.World.AG.map HG),.sl false 2 (x.World.Af.map HF),.sl false 1 (x.World.AK.map eS),.sl false 1 (x.World.AA.map eS),.sl false 3 (x.World.A7.map FO),.own false 7 (x.AF.map BG)]
attribute [go_sem] PU
def Aw (x:AB):List AV:=[.sl false 2 (x.Sync.AG.map C4),si x.Sync.Tx,.sl false 1 (x.Sync.Bq.map eB),.sl false 3 (x.Sync.AA.map Ae),.sl false 1 (x.Cells.map eI),.sl false 1 (x.AK.map eI),.sl false 1 (x.Count.map eI)]
attribute [go_sem] Aw
def CG (x:AB):List AV:=[.own false 2 (x.Sync.AG.map B5),si x.Sync.Tx,.own false 1 (x.Sync.Bq.map eB),.own false 3 (x.Sync.AA.map Ae),.own false 1 (x.Cells.map eI),.own false 1 (x.AK.map eI),.own false 1 (x.Count.map eI)]
attribute [go_sem] CG
def Pj (x:List Bool):List AV:=[.own false 1 (x.map eB)]
@[go_sem]theorem eLBo_se (l:List (List Bool)) (i:Nat) (y0:List Bool):(l.map Pj).set i [.own false 1 (y0.map eB)]=(l.set i y0).map Pj:=by simp[Pj,List.map_set]
@[go_sem]theorem eLBo_re1 (n:Nat):List.replicate n [.own false 1 []]=(List.replicate n []).map Pj:=by simp[Pj]
attribute [go_sem] Pj
def BB (x:AO):List AV:=[.sl false 5 (x.World.Cells.map Fw),.sl false 2 (x.World.AG.map HG),.sl false 2 (x.World.Af.map HF),.sl false 1 (x.World.AK.map eS),.sl false 1 (x.World.AA.map eS),.sl false 3 (x.World.A7.map FO),si x.Start,.sl false 2 (x.Init.Sync.AG.map C4),si x.Init.Sync.Tx,.sl false 1 (x.Init.Sync.Bq.map eB),.sl false 3 (x.Init.Sync.AA.map Ae),.sl false 1 (x.Init.Cells.map eI),.sl false 1 (x.Init.AK.map eI),.sl false 1 (x.Init.Count.map eI),.sl false 7 (x.AF.map BG)]
attribute [go_sem] BB
def Iq (x:AO):List AV:=[.sl false 5 (x.World.Cells.map Fw),.sl false 2 (x.World.AG.map HG),.sl false 2 (x.World.Af.map HF),.sl false 1 (x.World.AK.map eS),.sl false 1 (x.World.AA.map eS),.sl false 3 (x.World.A7.map FO),si x.Start,.own false 2 (x.Init.Sync.AG.map B5),si x.Init.Sync.Tx,.own false 1 (x.Init.Sync.Bq.map eB),.own false 3 (x.Init.Sync.AA.map Ae),.own false 1 (x.Init.Cells.map eI),.own false 1 (x.Init.AK.map eI),.own false 1 (x.Init.Count.map eI),.sl false 7 (x.AF.map BG)]
@[go_sem]theorem eWindowo_sn (l:List AO) (y0:List DB) (y1:List Ic) (y2:List LL) (y3:List ByteArray) (y4:List ByteArray) (y5:List DL) (y6:Int) (y7:List AW) (y8:Int) (y9:List Bool) (y10:List AE) (y11:List Int) (y12:List Int) (y13:List Int) (y14:List AH):l.map Iq++[[.sl false 5 (y0.map Fw),.sl false 2 (y1.map HG),.sl false 2 (y2.map HF),.sl false 1 (y3.map eS),.sl false 1 (y4.map eS),.sl false 3 (y5.map FO),si y6,.own false 2 (y7.map B5),si y8,.own false 1 (y9.map eB),.own false 3 (y10.map Ae),.own false 1 (y11.map eI),.own false 1 (y12.map eI),.own false 1 (y13.map eI),.sl false 7 (y14.map BG)]]=(l++[(AO.mk (AD.mk y0 y1 y2 y3 y4 y5) y6 (AB.mk (AN.mk y7 y8 y9 y10) y11 y12 y13) y14)]).map Iq:=by simp[Iq]
@[go_sem]theorem eWindowo_fz (l:List AO):MU (l.map Iq)=l.map BB:=by induction l with|nil=>rfl|cons x l ih=>simp only[List.map_cons,MU,ih,go_sem,Iq,BB]
attribute [go_sem] Iq
abbrev z0:List AV:=[.own false 2 [],si 0,.own false 1 [],.own false 3 [],.own false 1 [],.own false 1 [],.own false 1 []]
abbrev z1:List AV:=[si 0,si 0,BM ⟨#[]⟩,BM ⟨#[]⟩,.own false 4 [],si 0,si 0,BM ⟨#[]⟩,.own false 4 [],.own false 11 [],.own false 11 []]
abbrev z2:List AV:=[si 0,si 0,BM ⟨#[]⟩,BM ⟨#[]⟩,.sl false 4 [],si 0,si 0,BM ⟨#[]⟩,.sl false 4 [],.sl false 11 [],.sl false 11 []]
abbrev z3:List AV:=[.own false 2 [],si 0,.own false 1 [],.own false 3 []]
abbrev z4:List AV:=[.own false 2 [],si 0,.own false 1 [],.own false 3 [],.own false 1 [],.own false 1 [],.own false 4 []]
abbrev z5:List AV:=[.own false 5 [],.own false 2 [],.own false 2 [],.own false 1 [],.own false 1 [],.own false 3 [],si 0,.own false 2 [],si 0,.own false 1 [],.own false 3 [],.own false 1 [],.own false 1 [],.own false 1 [],.own false 7 []]
abbrev z6:List AV:=[si 0,si 0,si 0,si 0,si 0,.own false 1 [],.own false 1 []]
abbrev z7:List AV:=[.own false 5 [],.own false 2 [],.own false 2 [],.own false 1 [],.own false 1 [],.own false 3 []]
abbrev z8:List AV:=[.own false 5 [],.own false 2 [],.own false 2 [],.own false 1 [],.own false 1 [],.own false 3 [],.own false 2 []]
abbrev z9:List AV:=[si 0,.own false 1 [],.own false 1 [],si 0]
abbrev z10:List AV:=[BM ⟨#[]⟩,si 0,.own false 1 [],.own false 11 []]
abbrev z11:List AV:=[.sl false 5 [],.sl false 2 [],.sl false 2 [],.sl false 1 [],.sl false 1 [],.sl false 3 [],.own false 7 []]
abbrev z12:List AV:=[.sl false 2 [],si 0,.sl false 1 [],.sl false 3 [],.sl false 1 [],.sl false 1 [],.sl false 4 []]
abbrev z13:List AV:=[.own false 6 [],.own false 4 []]
abbrev z14:List (List AV):=[[BM ⟨#[109,97,105,110]⟩],[BM ⟨#[116,49]⟩],[BM ⟨#[116,50]⟩],[BM ⟨#[116,51]⟩]]
abbrev z15:List AV:=[.own false 1 []]
abbrev z16:List AV:=[.sc (.pointer none),si 0,si 0,sb false,sb false,sb false,sb false,.own false 1 []]
abbrev z17:List AV:=[si 0,si 0,BM ⟨#[]⟩,.own false 4 []]
attribute [go_sem] z0 z1 z2 z3 z4 z5 z6 z7 z8 z9 z10 z11 z12 z13 z14 z15 z16 z17
def y0:Y:=⟨[si 0],.i .i64⟩
def y1:Y:=⟨z7,.s [0,0,0,0,0,0] []⟩
def y2:Y:=⟨z0,.s [4,0,0,0] []⟩
def y3:Y:=⟨z15,.l 1 8 [si 0]⟩
def y4:Y:=⟨z3,.s [0,0,0,0] []⟩
def y5:Y:=⟨z6,.s [0,0,0,0,0,0,0] []⟩
def y6:Y:=⟨z15,.l 1 16 [BM ⟨#[]⟩]⟩
def y7:Y:=⟨[BM ⟨#[]⟩],.t⟩
def y8:Y:=⟨[si 0,si 0,si 0,si 0,si 0,si 0],.s [0,0,0,0,0,0] [1,1,1,1,1,1]⟩
def y9:Y:=⟨z5,.s [6,0,7,0] []⟩
def y10:Y:=⟨z1,.s [0,0,0,0,0,4,0,0] []⟩
def y11:Y:=⟨[.own false 2 []],.l 2 32 [si 0,.own false 1 []]⟩
def y12:Y:=⟨z17,.s [0,0,0,0] []⟩
def y13:Y:=⟨[.own false 7 []],.l 7 88 z6⟩
def y14:Y:=⟨[.own false 3 []],.l 3 24 [si 0,si 0,sb false]⟩
def y15:Y:=⟨z9,.s [0,0,0,0] []⟩
def y16:Y:=⟨z13,.s [0,0] []⟩
def y17:Y:=⟨[si 0,si 0,sb false],.s [0,0,0] [1,1,0]⟩
def y18:Y:=⟨[.own false 5 [],.own false 2 [],.own false 2 [],.own false 1 [],.own false 1 [],.own false 3 [],.own false 7 []],.s [6,0] []⟩
def y19:Y:=⟨z4,.s [4,0,0,0] []⟩
def y20:Y:=⟨[.own false 5 []],.l 5 48 [BM ⟨#[]⟩,si 0,si 0,sb false,si 0]⟩
def y21:Y:=⟨[.own false 2 []],.l 2 24 [BM ⟨#[]⟩,sb false]⟩
def y22:Y:=⟨[sb false],.b⟩
def y23:Y:=⟨[si 0,.own false 1 []],.s [0,0] []⟩
def y24:Y:=⟨z8,.s [6,0] []⟩
def y25:Y:=⟨[.own false 2 []],.l 2 24 [BM ⟨#[]⟩,si 0]⟩
def y26:Y:=⟨[si 0,si 0,BM ⟨#[]⟩,si 0,si 0,BM ⟨#[]⟩],.s [0,0,0,0,0,0] [1,1,2,1,1,2]⟩
def y27:Y:=⟨[.own false 11 []],.l 11 176 z1⟩
def y28:Y:=⟨[.own false 6 []],.l 6 48 [si 0,si 0,si 0,si 0,si 0,si 0]⟩
def y29:Y:=⟨[BM ⟨#[]⟩,si 0,si 0,sb false,si 0],.s [0,0,0,0,0] [2,1,1,0,1]⟩
def y30:Y:=⟨[.own false 4 []],.l 4 72 z10⟩
def y31:Y:=⟨[.own false 5 [],.own false 2 [],.own false 2 [],.own false 1 [],.own false 1 [],.own false 3 [],.own false 1 [],.own false 6 [],si 0,si 0],.s [6,0,0,0,0] []⟩
def y32:Y:=⟨[.sc (.pointer none)],.o⟩
def y33:Y:=⟨[.own false 4 []],.l 4 56 z17⟩
def y34:Y:=⟨z15,.l 1 1 [sb false]⟩
def y35:Y:=⟨[.own false 3 []],.l 3 24 [si 0,si 0,si 0]⟩
def y36:Y:=⟨[.own false 6 []],.l 6 64 [si 0,si 0,BM ⟨#[]⟩,si 0,si 0,BM ⟨#[]⟩]⟩
def y37:Y:=⟨z16,.s [0,0,0,0,0,0,0,0] []⟩
def y38:Y:=⟨[.own false 2 []],.l 2 32 [si 0,.own false 6 []]⟩
def y39:Y:=⟨z15,.l 1 1 [.sc (.int .u8 0)]⟩
def y40:Y:=⟨[.own false 15 []],.l 15 328 z5⟩
def y41:Y:=⟨z15,.l 1 24 z15⟩
def y42:Y:=⟨[si 0,.own false 6 []],.s [0,0] []⟩
def y43:Y:=⟨[.own false 4 []],.l 4 64 z9⟩
def y44:Y:=⟨z10,.s [0,0,0,0] []⟩
def y45:Y:=⟨[.sc (.int .u8 0)],.i .u8⟩
def y46:Y:=⟨[si 0,si 0,si 0],.s [0,0,0] [1,1,1]⟩
def y47:Y:=⟨[BM ⟨#[]⟩,si 0],.s [0,0] [2,1]⟩
def y48:Y:=⟨[si 0,si 0],.s [0,0] [1,1]⟩
def y49:Y:=⟨[BM ⟨#[]⟩,sb false],.s [0,0] [2,0]⟩
def y50:Y:=⟨[.own false 6 [],.own false 4 [],si 0,.own false 11 [],.own false 1 [],.own false 1 []],.s [2,0,0,0,0] []⟩
def y51:Y:=⟨[.own false 2 []],.l 2 16 [si 0,si 0]⟩
def y52:Y:=⟨[.own false 1 [],si 0],.s [0,0] []⟩
def y53:Y:=⟨[BM ⟨#[]⟩,BM ⟨#[]⟩,BM ⟨#[]⟩,BM ⟨#[]⟩,BM ⟨#[]⟩,BM ⟨#[]⟩,BM ⟨#[]⟩,BM ⟨#[]⟩,BM ⟨#[]⟩,BM ⟨#[]⟩,BM ⟨#[]⟩,BM ⟨#[]⟩,BM ⟨#[]⟩,BM ⟨#[]⟩,BM ⟨#[]⟩,BM ⟨#[]⟩,BM ⟨#[]⟩,BM ⟨#[]⟩,BM ⟨#[]⟩,BM ⟨#[]⟩,BM ⟨#[]⟩,BM ⟨#[]⟩],.a 22 1 false⟩
def tt:List (Nat×Y):=[(3,y0),(29,y1),(50,y2),(48,y3),(46,y4),(83,y5),(26,y6),(9,y7),(47,y3),(127,y8),(2,y0),(52,y9),(143,y10),(42,y11),(141,y12),(34,y13),(44,y14),(65,y15),(90,y16),(73,y17),(36,y18),(55,y19),(23,y20),(24,y21),(4,y22),(75,y23),(32,y24),(25,y25),(199,y26),(118,y27),(121,y28),(151,y29),(88,y30),(123,y31),(117,y32),(139,y33),(43,y34),(39,y0),(27,y35),(87,y36),(136,y37),(30,y38),(22,y39),(38,y40),(63,y41),(129,y42),(53,y43),(120,y44),(5,y45),(162,y46),(131,y32),(132,y32),(158,y47),(106,y48),(155,y49),(196,y50),(58,y51),(194,y32),(134,y52),(271,y53)]
def cc:List (Nat×Nat):=[(9,1),(10,1),(11,1),(12,3),(13,2),(20,3),(22,3),(23,2),(24,2),(27,1),(28,1),(29,1),(31,2),(32,1),(33,2),(34,1),(35,2),(52,2),(55,2),(58,1),(61,2),(65,1),(66,1),(68,2),(69,2),(70,2),(71,2),(72,2),(73,2),(74,2),(75,2),(76,2),(77,2),(83,2),(85,1),(86,2),(87,2),(93,1),(103,2),(105,2),(113,3),(129,2),(130,3),(140,2),(141,2),(142,2),(143,2),(155,1),(156,1),(169,3),(170,3),(172,2),(174,3)]
def ll:List (Nat×Nat×Option Nat):=[(59,0,none),(60,0,none),(63,0,none),(64,0,none),(111,0,none),(114,0,none),(115,0,none),(149,0,none),(150,0,none),(151,0,none),(152,0,none),(153,0,none),(154,0,none),(157,0,none),(158,0,none),(176,0,none)]
def hn (K:List (Nat×List Nat):=[]) (Q:List (Nat×Nat):=[]) (C:List (Nat×Nat):=[]) (Z:List (Nat×Bool×Nat×List Step):=[]) (F:List Nat:=[]) (E:List (Nat×IC):=[]):Hn:=⟨tt,C++cc,ll,K,Q,Z,F,E⟩
end Go.Abs
namespace Go.Proofs
open Go.Shelf
def Tryz.bU:Go.Shelf.Ren:=⟨λ|189=>120|125=>161|257=>160|128=>192|129=>193|294=>183|295=>184|296=>185|297=>186|298=>187|299=>188|216=>189|300=>190|301=>191|328=>203|329=>204|330=>205|331=>206|332=>207|215=>208|343=>211|n=>n,λ|28=>48|3=>3|46=>237|0=>0|51=>263|53=>265|4=>4|183=>256|182=>255|131=>260|5=>5|9=>9|218=>276|222=>280|228=>283|229=>274|n=>n,λ|n=>n⟩
theorem Tryz.lI:Go.Proofs.Lays.n189 Tryz.prog Tryz.bU:={
 mixed:=by kernel_rfl
 f125:=Tryz.func161.trans (congrArg some (by kernel_rfl))
 f128:=Tryz.func192.trans (congrArg some (by kernel_rfl))
 f129:=Tryz.func193.trans (congrArg some (by kernel_rfl))
 f189:=Tryz.func120.trans (congrArg some (by kernel_rfl))
 f215:=Tryz.func208.trans (congrArg some (by kernel_rfl))
 f216:=Tryz.func189.trans (congrArg some (by kernel_rfl))
 f257:=Tryz.func160.trans (congrArg some (by kernel_rfl))
 f294:=Tryz.func183.trans (congrArg some (by kernel_rfl))
 f295:=Tryz.func184.trans (congrArg some (by kernel_rfl))
 f296:=Tryz.func185.trans (congrArg some (by kernel_rfl))
 f297:=Tryz.func186.trans (congrArg some (by kernel_rfl))
 f298:=Tryz.func187.trans (congrArg some (by kernel_rfl))
 f299:=Tryz.func188.trans (congrArg some (by kernel_rfl))
 f300:=Tryz.func190.trans (congrArg some (by kernel_rfl))
 f301:=Tryz.func191.trans (congrArg some (by kernel_rfl))
 f328:=Tryz.func203.trans (congrArg some (by kernel_rfl))
 f329:=Tryz.func204.trans (congrArg some (by kernel_rfl))
 f330:=Tryz.func205.trans (congrArg some (by kernel_rfl))
 f331:=Tryz.func206.trans (congrArg some (by kernel_rfl))
 f332:=Tryz.func207.trans (congrArg some (by kernel_rfl))
 f343:=Tryz.func211.trans (congrArg some (by kernel_rfl))
 t0:=Tryz.underlying0
 a0:=Tryz.isAgg0
 z0:=Tryz.sizeOf0
 v0:=Tryz.zeroValue0
 t3:=Tryz.underlying3
 a3:=Tryz.isAgg3
 z3:=Tryz.sizeOf3
 v3:=Tryz.zeroValue3
 t4:=Tryz.underlying4
 a4:=Tryz.isAgg4
 z4:=Tryz.sizeOf4
 v4:=Tryz.zeroValue4
 t5:=Tryz.underlying5
 a5:=Tryz.isAgg5
 z5:=Tryz.sizeOf5
 v5:=Tryz.zeroValue5
 t9:=Tryz.underlying9
 a9:=Tryz.isAgg9
 z9:=Tryz.sizeOf9
 v9:=Tryz.zeroValue9
 t28:=Tryz.underlying48
 a28:=Tryz.isAgg48
 z28:=Tryz.sizeOf48
 v28:=Tryz.zeroValue48
 t46:=Tryz.underlying237
 a46:=Tryz.isAgg237
 z46:=Tryz.sizeOf237
 v46:=Tryz.zeroValue237
 t51:=Tryz.underlying263
 a51:=Tryz.isAgg263
 z51:=Tryz.sizeOf263
 v51:=Tryz.zeroValue263
 t53:=Tryz.underlying265
 a53:=Tryz.isAgg265
 z53:=Tryz.sizeOf265
 v53:=Tryz.zeroValue265
 t131:=Tryz.underlying260
 a131:=Tryz.isAgg260
 z131:=Tryz.sizeOf260
 v131:=Tryz.zeroValue260
 t182:=Tryz.underlying255
 a182:=Tryz.isAgg255
 z182:=Tryz.sizeOf255
 v182:=Tryz.zeroValue255
 t183:=Tryz.underlying256
 a183:=Tryz.isAgg256
 z183:=Tryz.sizeOf256
 v183:=Tryz.zeroValue256
 t218:=Tryz.underlying276
 a218:=Tryz.isAgg276
 z218:=Tryz.sizeOf276
 v218:=Tryz.zeroValue276
 t222:=Tryz.underlying280
 a222:=Tryz.isAgg280
 z222:=Tryz.sizeOf280
 v222:=Tryz.zeroValue280
 t228:=Tryz.underlying283
 a228:=Tryz.isAgg283
 z228:=Tryz.sizeOf283
 v228:=Tryz.zeroValue283
 t229:=Tryz.underlying274
 a229:=Tryz.isAgg274
 z229:=Tryz.sizeOf274
 v229:=Tryz.zeroValue274}
open Go.Sort Go.RowKit in
theorem Tryz.slices_Sort_int (LO off cap:Nat) (zs:List Int) (w:World) (hH:Holds (Value.int .i64) w LO off zs.toArray) (Rg:LO<w.heap.size) (Po:zs.length<4611686018427387904):
 Calls Tryz.prog 120 #[.slice (some ⟨LO,off,none⟩) zs.length cap] w λe w'=>
  e= .returned (.tuple #[])/\∃n os,w'=grow (putRow (Value.int .i64) (Sort.ahead w n) LO off (zs.mergeSort λx y=>decide (x≤y)).toArray) os:=Any.slices_Sort_int Tryz.lI LO off cap zs w hH Rg Po
def Tryz.Xn:Go.Shelf.Ren:=⟨λ|15=>75|n=>n,λ|22=>48|3=>3|4=>4|n=>n,λ|n=>n⟩
theorem Tryz.pQ:Go.Proofs.Lays2.n15 Tryz.prog Tryz.Xn:={
 mixed:=by kernel_rfl
 f15:=Tryz.func75.trans (congrArg some (by kernel_rfl))
 t3:=Tryz.underlying3
 a3:=Tryz.isAgg3
 z3:=Tryz.sizeOf3
 v3:=Tryz.zeroValue3
 t4:=Tryz.underlying4
 a4:=Tryz.isAgg4
 z4:=Tryz.sizeOf4
 v4:=Tryz.zeroValue4
 t22:=Tryz.underlying48
 a22:=Tryz.isAgg48
 z22:=Tryz.sizeOf48
 v22:=Tryz.zeroValue48
 i3:=by kernel_rfl}
open Go.RowKit Go.Lib in
theorem Tryz.slices_Clone_int (b off n c:Nat) (zs:List Int) (w:World) (hz:n≤zs.length) (wG:n*8≤140737488355328) (hc:∀j,j<zs.length->w.cell? ⟨b,off+j,none⟩=some (.int .i64 (zs.getD j 0))):
 Calls Tryz.prog 75 #[.slice (some ⟨b,off,none⟩) n c] w λe w'=>∃v',e= .returned v'/\w'.ownsRow w.heap.size 3 1 v' n ((zs.take n).map (Value.int .i64))/\v'≠ .slice none 0 0/\Below w.heap.size w w':=Any.slices_Clone_int Tryz.pQ b off n c zs w hz wG hc
def Tryz.Xo:Go.Shelf.Ren:=⟨λ|16=>72|n=>n,λ|24=>26|9=>9|4=>4|n=>n,λ|n=>n⟩
theorem Tryz.pU:Go.Proofs.Lays2.n16 Tryz.prog Tryz.Xo:={
 mixed:=by kernel_rfl
 f16:=Tryz.func72.trans (congrArg some (by kernel_rfl))
 t4:=Tryz.underlying4
 a4:=Tryz.isAgg4
 z4:=Tryz.sizeOf4
 v4:=Tryz.zeroValue4
 t9:=Tryz.underlying9
 a9:=Tryz.isAgg9
 z9:=Tryz.sizeOf9
 v9:=Tryz.zeroValue9
 t24:=Tryz.underlying26
 a24:=Tryz.isAgg26
 z24:=Tryz.sizeOf26
 v24:=Tryz.zeroValue26
 i9:=by kernel_rfl}
open Go.RowKit Go.Lib in
theorem Tryz.slices_Clone_string (b off n c:Nat) (zs:List ByteArray) (w:World) (hz:n≤zs.length) (wG:n*16≤140737488355328) (hc:∀j,j<zs.length->w.cell? ⟨b,off+j,none⟩=some (.string (zs.getD j ByteArray.empty))):
 Calls Tryz.prog 72 #[.slice (some ⟨b,off,none⟩) n c] w λe w'=>∃v',e= .returned v'/\w'.ownsRow w.heap.size 9 1 v' n ((zs.take n).map (Value.string))/\v'≠ .slice none 0 0/\Below w.heap.size w w':=Any.slices_Clone_string Tryz.pU b off n c zs w hz wG hc
def Tryz.Xp:Go.Shelf.Ren:=⟨λ|20=>121|n=>n,λ|22=>48|3=>3|4=>4|0=>0|n=>n,λ|n=>n⟩
theorem Tryz.Yf:Go.Proofs.Lays2.n20 Tryz.prog Tryz.Xp:={
 mixed:=by kernel_rfl
 f20:=Tryz.func121.trans (congrArg some (by kernel_rfl))
 t0:=Tryz.underlying0
 a0:=Tryz.isAgg0
 z0:=Tryz.sizeOf0
 v0:=Tryz.zeroValue0
 t3:=Tryz.underlying3
 a3:=Tryz.isAgg3
 z3:=Tryz.sizeOf3
 v3:=Tryz.zeroValue3
 t4:=Tryz.underlying4
 a4:=Tryz.isAgg4
 z4:=Tryz.sizeOf4
 v4:=Tryz.zeroValue4
 t22:=Tryz.underlying48
 a22:=Tryz.isAgg48
 z22:=Tryz.sizeOf48
 v22:=Tryz.zeroValue48
 i3:=by kernel_rfl}
open Go.RowKit Go.Lib Go.Sort in
theorem Tryz.slices_Compact_int (LO off cap:Nat) (zs:List Int) (w:World) (hH:Holds (Value.int .i64) w LO off zs.toArray) (Po:zs.length≤9223372036854775807) (De:zs.length≤cap):
 Calls Tryz.prog 121 #[.slice (some ⟨LO,off,none⟩) zs.length cap] w λe w'=>e= .returned (.slice (some ⟨LO,off,none⟩) (Lib.compact zs).length cap)/\∃q,w'=putRow (Value.int .i64) (Sort.ahead w q) LO off (Lib.compact zs++List.replicate (zs.length-(Lib.compact zs).length) 0).toArray:=Any.slices_Compact_int Tryz.Yf LO off cap zs w hH Po De
open Go.RowKit Go.Lib Go.Sort in
theorem Tryz.slices_Compact_int_empty (a:Option Addr) (cap:Nat) (w:World):
 Calls Tryz.prog 121 #[.slice a 0 cap] w λe w'=>e= .returned (.slice a 0 cap)/\w'=w:=Any.slices_Compact_int_empty Tryz.Yf a cap w
open Go.RowKit Go.Sort in
theorem Tryz.slices_Sort_int_none (p:Option Addr) (cap:Nat) (w:World):
 Calls Tryz.prog 120 #[.slice p 0 cap] w λe w'=>e= .returned (.tuple #[])/\w'=w:=Any.slices_Sort_int_none Tryz.lI p cap w
def Tryz.Qi:Go.Shelf.Ren:=⟨λ|43=>121|n=>n,λ|22=>48|23=>3|3=>3|4=>4|0=>0|n=>n,λ|n=>n⟩
theorem Tryz.WJ:Go.Proofs.SlLaysE.n43 Tryz.prog Tryz.Qi:={
 mixed:=by kernel_rfl
 f43:=⟨Tryz.f121.name,by decide,Tryz.func121.trans (congrArg some (by kernel_rfl))⟩
 t0:=Tryz.underlying0
 a0:=Tryz.isAgg0
 z0:=Tryz.sizeOf0
 v0:=Tryz.zeroValue0
 t3:=Tryz.underlying3
 a3:=Tryz.isAgg3
 z3:=Tryz.sizeOf3
 v3:=Tryz.zeroValue3
 t4:=Tryz.underlying4
 a4:=Tryz.isAgg4
 z4:=Tryz.sizeOf4
 v4:=Tryz.zeroValue4
 t22:=Tryz.underlying48
 a22:=Tryz.isAgg48
 z22:=Tryz.sizeOf48
 v22:=Tryz.zeroValue48
 a23:=Tryz.isAgg3
 z23:=Tryz.sizeOf3}
open Go.RowKit Go.Lib Go.Sort in
theorem Tryz.slices_Compact {α:Type} [Inhabited α] [DecidableEq α] (enc:α->Value) (hO:OneCell enc) (heq:EqlAt Tryz.prog 3 enc (λx y=>decide (x=y))) (Np:NeqAt Tryz.prog 3 enc (λx y=>decide (x=y))) (zr:α) (v23:∀w,(zeroValue 3).run Tryz.prog w= .ok (enc zr) w) (LO off cap:Nat) (d:Array α) (w:World) (hH:Holds enc w LO off d) (Po:d.size≤9223372036854775807) (De:d.size≤cap):
 Calls Tryz.prog 121 #[.slice (some ⟨LO,off,none⟩) d.size cap] w λe w'=>e= .returned (.slice (some ⟨LO,off,none⟩) (compactUpTo d d.size).length cap)/\∃q,w'=putRow enc (Sort.ahead w q) LO off (compactUpTo d d.size++List.replicate (d.size-(compactUpTo d d.size).length) zr).toArray:=AnyE.slices_Compact Tryz.WJ enc hO heq Np zr v23 LO off cap d w hH Po De
def Tryz.Qj:Go.Shelf.Ren:=⟨λ|10=>122|6=>162|n=>n,λ|22=>48|23=>3|25=>181|3=>3|4=>4|0=>0|n=>n,λ|n=>n⟩
theorem Tryz.WL:Go.Proofs.SlLaysH.n10 Tryz.prog Tryz.Qj:={
 mixed:=by kernel_rfl
 f6:=⟨Tryz.f162.name,by decide,Tryz.func162.trans (congrArg some (by kernel_rfl))⟩
 f10:=⟨Tryz.f122.name,by decide,Tryz.func122.trans (congrArg some (by kernel_rfl))⟩
 t0:=Tryz.underlying0
 a0:=Tryz.isAgg0
 z0:=Tryz.sizeOf0
 v0:=Tryz.zeroValue0
 t3:=Tryz.underlying3
 a3:=Tryz.isAgg3
 z3:=Tryz.sizeOf3
 v3:=Tryz.zeroValue3
 t4:=Tryz.underlying4
 a4:=Tryz.isAgg4
 z4:=Tryz.sizeOf4
 v4:=Tryz.zeroValue4
 t22:=Tryz.underlying48
 a22:=Tryz.isAgg48
 z22:=Tryz.sizeOf48
 v22:=Tryz.zeroValue48
 a23:=Tryz.isAgg3
 z23:=Tryz.sizeOf3
 t25:=Tryz.underlying181
 a25:=Tryz.isAgg181
 z25:=Tryz.sizeOf181
 v25:=Tryz.zeroValue181}
open Go.RowKit Go.Lib Go.Sort in
theorem Tryz.slices_DeleteFunc {α:Type} [Inhabited α] (enc:α->Value) (hO:OneCell enc) (p:α->Bool) (g:Nat) (lb:Array Value) (eg:∀args w,(callFunc g args).run Tryz.prog w= .ok (.enter g args) w) (zr:α) (v23:∀w,(zeroValue 3).run Tryz.prog w= .ok (enc zr) w) (LO off cap:Nat) (d:Array α) (w:World) (hp:PredAt Tryz.prog g lb enc p w) (hpo:PredOver Tryz.prog g lb enc p LO off d.size w) (hH:Holds enc w LO off d) (Po:d.size≤9223372036854775807) (De:d.size≤cap):
 Calls Tryz.prog 122 #[.slice (some ⟨LO,off,none⟩) d.size cap,.func (.func g) #[] lb] w λe w'=>e= .returned (.slice (some ⟨LO,off,none⟩) (d.toList.filter λx=> !p x).length cap)/\∃q,w'=putRow enc (Sort.ahead w q) LO off ((d.toList.filter λx=> !p x)++List.replicate (d.size-(d.toList.filter λx=> !p x).length) zr).toArray:=AnyE.slices_DeleteFunc Tryz.WL enc hO p g lb eg zr v23 LO off cap d w hp hpo hH Po De
end Go.Proofs
namespace Go.Abs
open Go.Proofs Go.Sort Go.RowKit
theorem Vj (l:List Int):(Lib.compact l).length≤l.length:=by
 unfold Lib.compact Lib.compactUpTo
 rw[AAo]
 exact ABO (List.length_filter_le _ _) (by simp)
def Lm (l:List Int):ABp (List Int):=if l.length<4611686018427387904 then some (l.mergeSort λx y=>decide (x≤y))else none
theorem W7 {l r:List Int} (h:Lm l=some r):BD Tryz.prog 120 [.own false 1 (l.map eI)] (.BJ []) [.own false 1 (r.map eI)]:=by
 obtain⟨g,h⟩:=Gx h
 obtain rfl:=AAR h
 exact jA Tryz.slices_Sort_int Tryz.slices_Sort_int_none l g
def slices_Compact (l:List Int):ABp (List Int):=if l.length<4611686018427387904 then some (Lib.compact l)else none
theorem Su {l r:List Int} (h:slices_Compact l=some r):Says Tryz.prog 121 [.own false 1 (l.map eI)] (.own false 1 (r.map eI)):=by
 obtain⟨g,h⟩:=Gx h
 obtain rfl:=AAR h
 exact Xe Tryz.slices_Compact_int Tryz.slices_Compact_int_empty l g (Vj l) rfl
theorem givesEq (b off:Nat) (n x:Int) (W:World) (hc:W.cell? ⟨b,off,none⟩=some (.int .i64 n)):
 FnGives Tryz.prog 123 #[.pointer (some ⟨b,off,none⟩)] #[.int .i64 x] (.bool (x==n)) W:=by
 show Calls Tryz.prog 123 #[.int .i64 x,.pointer (some ⟨b,off,none⟩)] W _
 go_enter Tryz.func123,Tryz.ntmps123
 go_wp2
 all_goals (go_ret;exact⟨by simp_all,0,rfl⟩)
def Ht (l:List Int) (n:Int):ABp (List Int):=if l≠[]/\l.length<4611686018427387904 then some (l.filter λx=> !(x==n))else none
theorem Mi {l r:List Int} {n:Int} (h:Ht l n=some r):Says Tryz.prog 122 [.own false 1 (l.map eI),.fZ 123 [[si n]]] (.own false 1 (r.map eI)):=by
 obtain⟨⟨g1,g2⟩,h⟩:=Gx h
 obtain rfl:=AAR h
 refine Y5 (q:=λn x=>x==n) ?_ givesEq l n g1 g2
 intro lb p LO off cap d w hp hpo hH Po De
 exact Tryz.slices_DeleteFunc (Value.int .i64) (λ_=>rfl) p 123 lb (enters_of Tryz.func123 (by kernel_rfl) rfl) 0 (Tryz.zeroValue3) LO off cap d w hp hpo hH Po De
end Go.Abs
