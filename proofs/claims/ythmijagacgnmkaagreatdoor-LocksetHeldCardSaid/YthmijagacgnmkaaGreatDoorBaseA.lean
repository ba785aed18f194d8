/- The types of the program, how their values are read, and the library's functions. -/
import Derived.Test.YthmijagacgnmkaaGreatDoorCoreD
import Derived.Test.YthmijagacgnmkaaGreatDoorChecked
import Derived.KernelRfl
import Derived.Shelf.Small.Bits
import Derived.Shelf.Strconv.Itoa0
import Derived.Shelf.Sort.Plain
import Derived.Ground.Names2Prog
import Derived.Shelf.Slices.Clone
import Derived.Shelf.Slices.CompactI
import Derived.Shelf.Slices.SearchI
import Derived.Shelf.Slices.In.SortNone
import Derived.Shelf.Slices.Empties
import Derived.Ground.SlgnProg
import Derived.Shelf.SlicesE.Compact
import Derived.Ground.SlgfProg
import Derived.Shelf.SlicesE.IndexFunc
import Derived.Shelf.SlicesE.DeleteFunc
import Derived.Test.YthmijagacgnmkaaGreatDoorProg
import Derived.Lib.SliceRun
import Derived.Shelf.Spec.SlicesGrow
import Derived.JoinedOf
import Derived.SevenTiedAt
set_option linter.unusedSimpArgs false
set_option linter.unusedVariables false
namespace Go.Abs
open Go.Proofs
set_option maxRecDepth 1000000
set_option maxHeartbeats 4000000
theorem mix:Tryz.prog.follows .mixedOrders=true:=by kernel_rfl
@[go_sem]theorem gamAt0:fP 0 22=some (LD.map Value.string):=by rfl
structure DT where
 Name:ABs
 Index:Int
 B7:Int
 F6:Bool
 Init:Int
 deriving DecidableEq
structure KE where
 Name:ABs
 RW:Bool
 deriving DecidableEq
structure Ty where
 Name:ABs
 Mutex:Int
 deriving DecidableEq
structure Dp where
 Thread:Int
 Stmt:Int
 FG:Int
 deriving DecidableEq
structure AB where
 Cells:List DT
 AF:List KE
 Ah:List Ty
 AK:List ABs
 AA:List ABs
 BF:List Dp
 deriving DecidableEq
structure AY where
 Bz:Int
 Ax:List Int
 deriving DecidableEq
structure AG where
 Status:Int
 Es:Int
 Atomic:Bool
 deriving DecidableEq
structure AN where
 AF:List AY
 Tx:Int
 B6:List Bool
 AA:List AG
 deriving DecidableEq
structure AD where
 Sync:AN
 Cells:List Int
 AK:List Int
 Count:List Int
 deriving DecidableEq
structure Ab where
 L:List Int
 At:Int
 deriving DecidableEq
structure AE where
 Thread:Int
 Kind:Int
 Obj:Int
 Value:Int
 Site:Int
 DE:List Int
 C2:List Int
 deriving DecidableEq
structure Ac where
 World:AB
 AH:List AE
 deriving DecidableEq
structure ET where
 Kind:Int
 FG:Int
 Name:ABs
 B7:Int
 Init:Int
 On:ABs
 deriving DecidableEq
structure A7 where
 Op:Int
 N:Int
 Name:ABs
 L:List A7
structure AO where
 t:Ab
 BX:Int
 left:Int
 HY:Bool
 tx:Bool
 atomic:Bool
 loop:Bool
 held:List ABs
 deriving DecidableEq
structure AP where
 Op:Int
 FG:Int
 Name:ABs
 Arg:ABs
 Index:List A7
 Expr:A7
 Body:List AP
 Else:List AP
structure Cd where
 Name:ABs
 FG:Int
 GG:List ABs
 Body:List AP
structure AQ where
 Decls:List ET
 AA:List Cd
structure BE where
 p:AQ
 BX:Int
 GH:List AP
 Lx:List ABs
 YO:List ABs
structure Aa where
 Op:Int
 A:Int
 B:Int
 C:Int
 N:Int
 Site:Int
 deriving DecidableEq
structure A6 where
 w:AB
 locals:List ABs
 out:List Aa
 site:Int
 next:Int
 deriving DecidableEq
structure Av where
 CY:Int
 Bg:List Aa
 deriving DecidableEq
structure BL where
 World:AB
 AA:List Av
 deriving DecidableEq
structure Cv where
 Thread:Int
 T4:Int
 deriving DecidableEq
structure AL where
 PC:Int
 CY:List Int
 CS:List (List Int)
 AH:Int
 deriving DecidableEq
structure Ai where
 Sync:AN
 Cells:List Int
 AK:List Int
 AA:List AL
 deriving DecidableEq
structure KH where
 Program:List Int
 Dy:List Int
 WY:List Int
 deriving DecidableEq
structure NA where
 Thread:Int
 Kind:Int
 Obj:Int
 Site:Int
 Value:Int
 DE:List Int
 C2:List Int
 deriving DecidableEq
structure BQ where
 World:AB
 Start:Int
 Init:AD
 AH:List AE
 deriving DecidableEq
structure Be where
 E9:List Int
 JK:List Int
 deriving DecidableEq
structure Ae where
 State:Int
 Bz:Int
 AF:List Int
 deriving DecidableEq
structure WX where
 At:Int
 Field:Int
 N:Int
 deriving DecidableEq
structure SB where
 Value:Int
 Known:Bool
 deriving DecidableEq
structure oS where
 Sync:AN
 Cells:List SB
 AK:List SB
 Order:List Int
 Fixed:List Bool
 Woke:List Int
 deriving DecidableEq
def Hj (x:DT):List AV:=[BR x.Name,si x.Index,si x.B7,sb x.F6,si x.Init]
@[go_sem]theorem eCell_sn (l:List DT) (y0:ABs) (y1:Int) (y2:Int) (y3:Bool) (y4:Int):l.map Hj++[[BR y0,si y1,si y2,sb y3,si y4]]=(l++[(DT.mk y0 y1 y2 y3 y4)]).map Hj:=by simp[Hj]
attribute [go_sem] Hj
def Je (x:KE):List AV:=[BR x.Name,sb x.RW]
@[go_sem]theorem eLock_sn (l:List KE) (y0:ABs) (y1:Bool):l.map Je++[[BR y0,sb y1]]=(l++[(KE.mk y0 y1)]).map Je:=by simp[Je]
attribute [go_sem] Je
def Jd (x:Ty):List AV:=[BR x.Name,si x.Mutex]
@[go_sem]theorem eCond_sn (l:List Ty) (y0:ABs) (y1:Int):l.map Jd++[[BR y0,si y1]]=(l++[(Ty.mk y0 y1)]).map Jd:=by simp[Jd]
attribute [go_sem] Jd
def eS (x:ABs):List AV:=[BR x]
@[go_sem]theorem eS_sn (l:List ABs) (y0:ABs):l.map eS++[[BR y0]]=(l++[y0]).map eS:=by simp[eS]
attribute [go_sem] eS
def HP (x:Dp):List AV:=[si x.Thread,si x.Stmt,si x.FG]
@[go_sem]theorem eSite_sn (l:List Dp) (y0:Int) (y1:Int) (y2:Int):l.map HP++[[si y0,si y1,si y2]]=(l++[(Dp.mk y0 y1 y2)]).map HP:=by simp[HP]
attribute [go_sem] HP
def Am (x:AB):List AV:=[.sl false 5 (x.Cells.map Hj),.sl false 2 (x.AF.map Je),.sl false 2 (x.Ah.map Jd),.sl false 1 (x.AK.map eS),.sl false 1 (x.AA.map eS),.sl false 3 (x.BF.map HP)]
attribute [go_sem] Am
def LM (x:AB):List AV:=[.own false 5 (x.Cells.map Hj),.own false 2 (x.AF.map Je),.own false 2 (x.Ah.map Jd),.own false 1 (x.AK.map eS),.own false 1 (x.AA.map eS),.own false 3 (x.BF.map HP)]
attribute [go_sem] LM
def eI (x:Int):List AV:=[si x]
@[go_sem]theorem eI_sn (l:List Int) (y0:Int):l.map eI++[[si y0]]=(l++[y0]).map eI:=by simp[eI]
@[go_sem]theorem eI_in (l m:List Int) (y0:Int):l.map eI++[si y0]::m.map eI=(l++y0::m).map eI:=by simp[eI]
@[go_sem]theorem eI_se (l:List Int) (i:Nat) (y0:Int):(l.map eI).set i [si y0]=(l.set i y0).map eI:=by simp[eI,ABJ]
@[go_sem]theorem eI_re (n:Nat) (y0:Int):List.replicate n [si y0]=(List.replicate n y0).map eI:=by simp[eI]
attribute [go_sem] eI
def Hk (x:AY):List AV:=[si x.Bz,.sl false 1 (x.Ax.map eI)]
attribute [go_sem] Hk
def eB (x:Bool):List AV:=[sb x]
@[go_sem]theorem eB_sn (l:List Bool) (y0:Bool):l.map eB++[[sb y0]]=(l++[y0]).map eB:=by simp[eB]
@[go_sem]theorem eB_se (l:List Bool) (i:Nat) (y0:Bool):(l.map eB).set i [sb y0]=(l.set i y0).map eB:=by simp[eB,ABJ]
@[go_sem]theorem eB_re (n:Nat) (y0:Bool):List.replicate n [sb y0]=(List.replicate n y0).map eB:=by simp[eB]
attribute [go_sem] eB
def BN (x:AG):List AV:=[si x.Status,si x.Es,sb x.Atomic]
@[go_sem]theorem zU (l:List AG) (y0:Int) (y1:Int) (y2:Bool):l.map BN++[[si y0,si y1,sb y2]]=(l++[(AG.mk y0 y1 y2)]).map BN:=by simp[BN]
@[go_sem]theorem zT (l:List AG) (i:Nat) (y0:Int) (y1:Int) (y2:Bool):(l.map BN).set i [si y0,si y1,sb y2]=(l.set i (AG.mk y0 y1 y2)).map BN:=by simp[BN,ABJ]
@[go_sem]theorem zS (n:Nat) (y0:Int) (y1:Int) (y2:Bool):List.replicate n [si y0,si y1,sb y2]=(List.replicate n (AG.mk y0 y1 y2)).map BN:=by simp[BN]
attribute [go_sem] BN
def EH (x:AN):List AV:=[.sl false 2 (x.AF.map Hk),si x.Tx,.sl false 1 (x.B6.map eB),.sl false 3 (x.AA.map BN)]
@[go_sem]theorem eSync_sn (l:List AN) (y0:List AY) (y1:Int) (y2:List Bool) (y3:List AG):l.map EH++[[.sl false 2 (y0.map Hk),si y1,.sl false 1 (y2.map eB),.sl false 3 (y3.map BN)]]=(l++[(AN.mk y0 y1 y2 y3)]).map EH:=by simp[EH]
attribute [go_sem] EH
def Co (x:AY):List AV:=[si x.Bz,.own false 1 (x.Ax.map eI)]
@[go_sem]theorem zQ (l:List AY) (y0:Int) (y1:List Int):l.map Co++[[si y0,.own false 1 (y1.map eI)]]=(l++[(AY.mk y0 y1)]).map Co:=by simp[Co]
@[go_sem]theorem zP (l:List AY) (i:Nat) (y0:Int) (y1:List Int):(l.map Co).set i [si y0,.own false 1 (y1.map eI)]=(l.set i (AY.mk y0 y1)).map Co:=by simp[Co,ABJ]
@[go_sem]theorem wR (l:List AY) (y0:Int):l.map Co++[[si y0,.own false 1 []]]=(l++[(AY.mk y0 [])]).map Co:=by simp[Co]
@[go_sem]theorem wQ (n:Nat) (y0:Int):List.replicate n [si y0,.own false 1 []]=(List.replicate n (AY.mk y0 [])).map Co:=by simp[Co]
@[go_sem]theorem zO (l:List AY):Oe (l.map Co)=l.map Hk:=by induction l with|nil=>rfl|cons x l ih=>simp only[AAi,Oe,ih,go_sem,Co,Hk]
attribute [go_sem] Co
def Hm (x:AN):List AV:=[.own false 2 (x.AF.map Co),si x.Tx,.own false 1 (x.B6.map eB),.own false 3 (x.AA.map BN)]
attribute [go_sem] Hm
def BH (x:AD):List AV:=[.sl false 2 (x.Sync.AF.map Hk),si x.Sync.Tx,.sl false 1 (x.Sync.B6.map eB),.sl false 3 (x.Sync.AA.map BN),.sl false 1 (x.Cells.map eI),.sl false 1 (x.AK.map eI),.sl false 1 (x.Count.map eI)]
attribute [go_sem] BH
def Hl (x:AD):List AV:=[.own false 2 (x.Sync.AF.map Co),si x.Sync.Tx,.own false 1 (x.Sync.B6.map eB),.own false 3 (x.Sync.AA.map BN),.own false 1 (x.Cells.map eI),.own false 1 (x.AK.map eI),.own false 1 (x.Count.map eI)]
attribute [go_sem] Hl
def Yf (x:Int):List AV:=[.sc (.int .u8 x)]
attribute [go_sem] Yf
def Gz (x:Ab):List AV:=[.sl false 1 (x.L.map Yf),si x.At]
attribute [go_sem] Gz
def Bi (x:AE):List AV:=[si x.Thread,si x.Kind,si x.Obj,si x.Value,si x.Site,.sl false 1 (x.DE.map eI),.sl false 1 (x.C2.map eI)]
@[go_sem]theorem eEvent_sn (l:List AE) (y0:Int) (y1:Int) (y2:Int) (y3:Int) (y4:Int) (y5:List Int) (y6:List Int):l.map Bi++[[si y0,si y1,si y2,si y3,si y4,.sl false 1 (y5.map eI),.sl false 1 (y6.map eI)]]=(l++[(AE.mk y0 y1 y2 y3 y4 y5 y6)]).map Bi:=by simp[Bi]
@[go_sem]theorem eEvent_se (l:List AE) (i:Nat) (y0:Int) (y1:Int) (y2:Int) (y3:Int) (y4:Int) (y5:List Int) (y6:List Int):(l.map Bi).set i [si y0,si y1,si y2,si y3,si y4,.sl false 1 (y5.map eI),.sl false 1 (y6.map eI)]=(l.set i (AE.mk y0 y1 y2 y3 y4 y5 y6)).map Bi:=by simp[Bi,ABJ]
attribute [go_sem] Bi
def Yc (x:List Int):List AV:=[.sl false 1 (x.map eI)]
@[go_sem]theorem eLI_se (l:List (List Int)) (i:Nat) (y0:List Int):(l.map Yc).set i [.sl false 1 (y0.map eI)]=(l.set i y0).map Yc:=by simp[Yc,ABJ]
@[go_sem]theorem eLI_se_y0 (l:List (List Int)) (i:Nat) (y0:Int):(l.map Yc).set i [.sl false 1 [[si y0]]]=(l.set i [y0]).map Yc:=by simp[Yc,eI,ABJ]
@[go_sem]theorem eLI_se1 (l:List (List Int)) (i:Nat):(l.map Yc).set i [.sl false 1 []]=(l.set i []).map Yc:=by simp[Yc,ABJ]
@[go_sem]theorem eLI_re1 (n:Nat):List.replicate n [.sl false 1 []]=(List.replicate n []).map Yc:=by simp[Yc]
attribute [go_sem] Yc
def NC (x:List Int):List AV:=[.own false 1 (x.map eI)]
@[go_sem]theorem eLIo_sn (l:List (List Int)) (y0:List Int):l.map NC++[[.own false 1 (y0.map eI)]]=(l++[y0]).map NC:=by simp[NC]
@[go_sem]theorem eLIo_se (l:List (List Int)) (i:Nat) (y0:List Int):(l.map NC).set i [.own false 1 (y0.map eI)]=(l.set i y0).map NC:=by simp[NC,ABJ]
@[go_sem]theorem eLIo_re1 (n:Nat):List.replicate n [.own false 1 []]=(List.replicate n []).map NC:=by simp[NC]
@[go_sem]theorem eLIo_fz (l:List (List Int)):Oe (l.map NC)=l.map Yc:=by induction l with|nil=>rfl|cons x l ih=>simp only[AAi,Oe,ih,go_sem,NC,Yc]
attribute [go_sem] NC
def Ic (x:AE):List AV:=[si x.Thread,si x.Kind,si x.Obj,si x.Value,si x.Site,.own false 1 (x.DE.map eI),.own false 1 (x.C2.map eI)]
@[go_sem]theorem eEvento_fz (l:List AE):Oe (l.map Ic)=l.map Bi:=by induction l with|nil=>rfl|cons x l ih=>simp only[AAi,Oe,ih,go_sem,Ic,Bi]
attribute [go_sem] Ic
def FP (x:Ac):List AV:=[.sl false 5 (x.World.Cells.map Hj),.sl false 2 (x.World.AF.map Je),.sl false 2 (x.World.Ah.map Jd),.sl false 1 (x.World.AK.map eS),.sl false 1 (x.World.AA.map eS),.sl false 3 (x.World.BF.map HP),.sl false 7 (x.AH.map Bi)]
attribute [go_sem] FP
def V2 (x:Ac):List AV:=[.sl false 5 (x.World.Cells.map Hj),.sl false 2 (x.World.AF.map Je),.sl false 2 (x.World.Ah.map Jd),.sl false 1 (x.World.AK.map eS),.sl false 1 (x.World.AA.map eS),.sl false 3 (x.World.BF.map HP),.own false 7 (x.AH.map Bi)]
attribute [go_sem] V2
def Jm (x:ET):List AV:=[si x.Kind,si x.FG,BR x.Name,si x.B7,si x.Init,BR x.On]
attribute [go_sem] Jm
mutual
def A9:A7->List AV
 |⟨y0,y1,y2,y3⟩=>[si y0,si y1,BR y2,.sl false 4 (bV y3)]
def bV:List A7->List (List AV)
 |[]=>[]
 |x::l=>A9 x::bV l
end
theorem eExpr_m (l:List A7):bV l=l.map A9:=by induction l<;>simp[bV, *]
@[go_sem]theorem eExpr_d (x:A7):A9 x=[si x.Op,si x.N,BR x.Name,.sl false 4 (x.L.map A9)]:=by cases x;simp[A9,eExpr_m]
@[go_sem]theorem eExpr_eta (x:A7):A7.mk x.Op x.N x.Name x.L=x:=by cases x;rfl
def CH (x:AO):List AV:=[bA 2 [.sl false 1 (x.t.L.map Yf),si x.t.At],si x.BX,si x.left,sb x.HY,sb x.tx,sb x.atomic,sb x.loop,.own false 1 (x.held.map eS)]
attribute [go_sem] CH
mutual
def A4:AP->List AV
 |⟨y0,y1,y2,y3,y4,y5,y6,y7⟩=>[si y0,si y1,BR y2,BR y3,.sl false 4 (y4.map A9),si y5.Op,si y5.N,BR y5.Name,.sl false 4 (y5.L.map A9),.sl false 11 (Wz y6),.sl false 11 (Wz y7)]
def Wz:List AP->List (List AV)
 |[]=>[]
 |x::l=>A4 x::Wz l
end
theorem eStmt_m (l:List AP):Wz l=l.map A4:=by induction l<;>simp[Wz, *]
@[go_sem]theorem bW (x:AP):A4 x=[si x.Op,si x.FG,BR x.Name,BR x.Arg,.sl false 4 (x.Index.map A9),si x.Expr.Op,si x.Expr.N,BR x.Expr.Name,.sl false 4 (x.Expr.L.map A9),.sl false 11 (x.Body.map A4),.sl false 11 (x.Else.map A4)]:=by cases x;simp[A4,eStmt_m]
@[go_sem]theorem eStmt_eta (x:AP):AP.mk x.Op x.FG x.Name x.Arg x.Index x.Expr x.Body x.Else=x:=by cases x;rfl
@[go_sem]theorem eStmt_sn (l:List AP) (y0:Int) (y1:Int) (y2:ByteArray) (y3:ByteArray) (y4:List A7) (y5:Int) (y6:Int) (y7:ByteArray) (y8:List A7) (y9:List AP) (y10:List AP):l.map A4++[[si y0,si y1,BR y2,BR y3,.sl false 4 (y4.map A9),si y5,si y6,BR y7,.sl false 4 (y8.map A9),.sl false 11 (y9.map A4),.sl false 11 (y10.map A4)]]=(l++[(AP.mk y0 y1 y2 y3 y4 (A7.mk y5 y6 y7 y8) y9 y10)]).map A4:=by simp[bW]
@[go_sem]theorem eStmt_se (l:List AP) (i:Nat) (y0:Int) (y1:Int) (y2:ByteArray) (y3:ByteArray) (y4:List A7) (y5:Int) (y6:Int) (y7:ByteArray) (y8:List A7) (y9:List AP) (y10:List AP):(l.map A4).set i [si y0,si y1,BR y2,BR y3,.sl false 4 (y4.map A9),si y5,si y6,BR y7,.sl false 4 (y8.map A9),.sl false 11 (y9.map A4),.sl false 11 (y10.map A4)]=(l.set i (AP.mk y0 y1 y2 y3 y4 (A7.mk y5 y6 y7 y8) y9 y10)).map A4:=by simp[bW,List.map_set]
@[go_sem]theorem eStmt_sn1 (l:List AP) (y0:Int) (y1:Int) (y2:ByteArray) (y3:ByteArray) (y5:Int) (y6:Int) (y7:ByteArray):l.map A4++[[si y0,si y1,BR y2,BR y3,.sl false 4 [],si y5,si y6,BR y7,.sl false 4 [],.sl false 11 [],.sl false 11 []]]=(l++[(AP.mk y0 y1 y2 y3 [] (A7.mk y5 y6 y7 []) [] [])]).map A4:=by simp[bW]
def Ie (x:Cd):List AV:=[BR x.Name,si x.FG,.sl false 1 (x.GG.map eS),.sl false 11 (x.Body.map A4)]
@[go_sem]theorem eThread_sn (l:List Cd) (y0:ByteArray) (y1:Int) (y2:List ByteArray) (y3:List AP):l.map Ie++[[BR y0,si y1,.sl false 1 (y2.map eS),.sl false 11 (y3.map A4)]]=(l++[(Cd.mk y0 y1 y2 y3)]).map Ie:=by simp[Ie]
attribute [go_sem] Ie
def CC (x:AQ):List AV:=[.sl false 6 (x.Decls.map Jm),.sl false 4 (x.AA.map Ie)]
attribute [go_sem] CC
def HI (x:BE):List AV:=[.sl false 6 (x.p.Decls.map Jm),.sl false 4 (x.p.AA.map Ie),si x.BX,.own false 11 (x.GH.map A4),.own false 1 (x.Lx.map eS),.own false 1 (x.YO.map eS)]
attribute [go_sem] HI
def fM (x:Cd):List AV:=[BR x.Name,si x.FG,.own false 1 (x.GG.map eS),.own false 11 (x.Body.map A4)]
attribute [go_sem] fM
def EC (x:Aa):List AV:=[si x.Op,si x.A,si x.B,si x.C,si x.N,si x.Site]
@[go_sem]theorem eInstr_sn (l:List Aa) (y0:Int) (y1:Int) (y2:Int) (y3:Int) (y4:Int) (y5:Int):l.map EC++[[si y0,si y1,si y2,si y3,si y4,si y5]]=(l++[(Aa.mk y0 y1 y2 y3 y4 y5)]).map EC:=by simp[EC]
@[go_sem]theorem eInstr_se (l:List Aa) (i:Nat) (y0:Int) (y1:Int) (y2:Int) (y3:Int) (y4:Int) (y5:Int):(l.map EC).set i [si y0,si y1,si y2,si y3,si y4,si y5]=(l.set i (Aa.mk y0 y1 y2 y3 y4 y5)).map EC:=by simp[EC,List.map_set]
attribute [go_sem] EC
def egen (x:A6):List AV:=[.sl false 5 (x.w.Cells.map Hj),.sl false 2 (x.w.AF.map Je),.sl false 2 (x.w.Ah.map Jd),.sl false 1 (x.w.AK.map eS),.sl false 1 (x.w.AA.map eS),.sl false 3 (x.w.BF.map HP),.sl false 1 (x.locals.map eS),.sl false 6 (x.out.map EC),si x.site,si x.next]
attribute [go_sem] egen
def EJ (x:A6):List AV:=[.sl false 5 (x.w.Cells.map Hj),.sl false 2 (x.w.AF.map Je),.sl false 2 (x.w.Ah.map Jd),.sl false 1 (x.w.AK.map eS),.sl false 1 (x.w.AA.map eS),.sl false 3 (x.w.BF.map HP),.sl false 1 (x.locals.map eS),.own false 6 (x.out.map EC),si x.site,si x.next]
attribute [go_sem] EJ
def CT (x:Av):List AV:=[si x.CY,.sl false 6 (x.Bg.map EC)]
@[go_sem]theorem zR (l:List Av) (y0:Int) (y1:List Aa):l.map CT++[[si y0,.sl false 6 (y1.map EC)]]=(l++[(Av.mk y0 y1)]).map CT:=by simp[CT]
attribute [go_sem] CT
def JU (x:BL):List AV:=[.sl false 5 (x.World.Cells.map Hj),.sl false 2 (x.World.AF.map Je),.sl false 2 (x.World.Ah.map Jd),.sl false 1 (x.World.AK.map eS),.sl false 1 (x.World.AA.map eS),.sl false 3 (x.World.BF.map HP),.sl false 2 (x.AA.map CT)]
attribute [go_sem] JU
def JG (x:Cv):List AV:=[si x.Thread,si x.T4]
@[go_sem]theorem eChoice_sn (l:List Cv) (y0:Int) (y1:Int):l.map JG++[[si y0,si y1]]=(l++[(Cv.mk y0 y1)]).map JG:=by simp[JG]
attribute [go_sem] JG
def E0 (x:AL):List AV:=[si x.PC,.sl false 1 (x.CY.map eI),.sl false 1 (x.CS.map Yc),si x.AH]
attribute [go_sem] E0
def KR (x:Ai):List AV:=[.sl false 2 (x.Sync.AF.map Hk),si x.Sync.Tx,.sl false 1 (x.Sync.B6.map eB),.sl false 3 (x.Sync.AA.map BN),.sl false 1 (x.Cells.map eI),.sl false 1 (x.AK.map eI),.sl false 4 (x.AA.map E0)]
attribute [go_sem] KR
def Br (x:AL):List AV:=[si x.PC,.own false 1 (x.CY.map eI),.own false 1 (x.CS.map Yc),si x.AH]
@[go_sem]theorem sR (l:List AL) (y0:Int) (y1:List Int) (y2:List (List Int)) (y3:Int):l.map Br++[[si y0,.own false 1 (y1.map eI),.own false 1 (y2.map Yc),si y3]]=(l++[(AL.mk y0 y1 y2 y3)]).map Br:=by simp[Br]
@[go_sem]theorem sQ (l:List AL) (i:Nat) (y0:Int) (y1:List Int) (y2:List (List Int)) (y3:Int):(l.map Br).set i [si y0,.own false 1 (y1.map eI),.own false 1 (y2.map Yc),si y3]=(l.set i (AL.mk y0 y1 y2 y3)).map Br:=by simp[Br,List.map_set]
@[go_sem]theorem sP (l:List AL):Oe (l.map Br)=l.map E0:=by induction l with|nil=>rfl|cons x l ih=>simp only[List.map_cons,Oe,ih,go_sem,Br,E0]
attribute [go_sem] Br
def MR (x:Ai):List AV:=[.own false 2 (x.Sync.AF.map Co),si x.Sync.Tx,.own false 1 (x.Sync.B6.map eB),.own false 3 (x.Sync.AA.map BN),.own false 1 (x.Cells.map eI),.own false 1 (x.AK.map eI),.own false 4 (x.AA.map Br)]
attribute [go_sem] MR
def SV (x:KH):List AV:=[.sl false 1 (x.Program.map Yf),.sl false 1 (x.Dy.map Yf),.sl false 1 (x.WY.map Yf)]
attribute [go_sem] SV
def mD (x:List Bool):List AV:=[.own false 1 (x.map eB)]
@[go_sem]theorem eLBo_se (l:List (List Bool)) (i:Nat) (y0:List Bool):(l.map mD).set i [.own false 1 (y0.map eB)]=(l.set i y0).map mD:=by simp[mD,List.map_set]
attribute [go_sem] mD
def Yh (x:NA):List AV:=[.sc (.int .u8 x.Thread),.sc (.int .u8 x.Kind),.sc (.int .u8 x.Obj),.sc (.int .u8 x.Site),.sc (.int .u8 x.Value),.sl false 1 (x.DE.map Yf),.sl false 1 (x.C2.map Yf)]
attribute [go_sem] Yh
def G6 (x:Be):List AV:=[.sl false 1 (x.E9.map eI),.sl false 1 (x.JK.map eI)]
@[go_sem]theorem eHeld_sn (l:List Be) (y0:List Int) (y1:List Int):l.map G6++[[.sl false 1 (y0.map eI),.sl false 1 (y1.map eI)]]=(l++[(Be.mk y0 y1)]).map G6:=by simp[G6]
@[go_sem]theorem eHeld_se (l:List Be) (i:Nat) (y0:List Int) (y1:List Int):(l.map G6).set i [.sl false 1 (y0.map eI),.sl false 1 (y1.map eI)]=(l.set i (Be.mk y0 y1)).map G6:=by simp[G6,List.map_set]
@[go_sem]theorem eHeld_re3 (n:Nat):List.replicate n [.sl false 1 [],.sl false 1 []]=(List.replicate n (Be.mk [] [])).map G6:=by simp[G6]
attribute [go_sem] G6
def G5 (x:Ae):List AV:=[si x.State,si x.Bz,.sl false 1 (x.AF.map eI)]
@[go_sem]theorem eEraser_se (l:List Ae) (i:Nat) (y0:Int) (y1:Int) (y2:List Int):(l.map G5).set i [si y0,si y1,.sl false 1 (y2.map eI)]=(l.set i (Ae.mk y0 y1 y2)).map G5:=by simp[G5,List.map_set]
@[go_sem]theorem eEraser_re1 (n:Nat) (y0:Int) (y1:Int):List.replicate n [si y0,si y1,.sl false 1 []]=(List.replicate n (Ae.mk y0 y1 [])).map G5:=by simp[G5]
attribute [go_sem] G5
def Wy (x:Ae):List AV:=[si x.State,si x.Bz,.own false 1 (x.AF.map eI)]
attribute [go_sem] Wy
def mC (x:WX):List AV:=[.sc (.int .u8 x.At),.sc (.int .u8 x.Field),.sc (.int .i8 x.N)]
attribute [go_sem] mC
@[go_sem]theorem eLBo_em (n:Nat):(List.replicate n ([]:List Bool)).map mD=(List.replicate n ([]:List Int)).map NC:=by simp[mD,NC]
abbrev z0:List AV:=[.own false 2 [],si 0,.own false 1 [],.own false 3 [],.own false 1 [],.own false 1 [],.own false 1 []]
abbrev z1:List AV:=[si 0,si 0,BR ⟨#[]⟩,BR ⟨#[]⟩,.own false 4 [],si 0,si 0,BR ⟨#[]⟩,.own false 4 [],.own false 11 [],.own false 11 []]
abbrev z2:List AV:=[si 0,si 0,si 0,si 0,si 0,.own false 1 [],.own false 1 []]
abbrev z3:List AV:=[.own false 2 [],si 0,.own false 1 [],.own false 3 [],.own false 1 [],.own false 1 [],.own false 4 []]
abbrev z4:List AV:=[.own false 2 [],si 0,.own false 1 [],.own false 3 []]
abbrev z5:List AV:=[si 0,si 0,BR ⟨#[]⟩,BR ⟨#[]⟩,.sl false 4 [],si 0,si 0,BR ⟨#[]⟩,.sl false 4 [],.sl false 11 [],.sl false 11 []]
abbrev z6:List AV:=[.own false 2 [],si 0,.own false 1 [],.own false 3 [],.own false 2 [],.own false 2 [],.own false 1 [],.own false 1 [],.own false 1 []]
abbrev z7:List AV:=[.own false 5 [],.own false 2 [],.own false 2 [],.own false 1 [],.own false 1 [],.own false 3 [],si 0,.own false 2 [],si 0,.own false 1 [],.own false 3 [],.own false 1 [],.own false 1 [],.own false 1 [],.own false 7 []]
abbrev z8:List AV:=[.own false 5 [],.own false 2 [],.own false 2 [],.own false 1 [],.own false 1 [],.own false 3 []]
abbrev z9:List AV:=[si 0,.own false 1 [],.own false 1 [],si 0]
abbrev z10:List AV:=[.own false 5 [],.own false 2 [],.own false 2 [],.own false 1 [],.own false 1 [],.own false 3 [],.own false 7 []]
abbrev z11:List AV:=[.own false 5 [],.own false 2 [],.own false 2 [],.own false 1 [],.own false 1 [],.own false 3 [],.own false 2 []]
abbrev z12:List AV:=[BR ⟨#[]⟩,si 0,.own false 1 [],.own false 11 []]
abbrev z13:List AV:=[.sl false 5 [],.sl false 2 [],.sl false 2 [],.sl false 1 [],.sl false 1 [],.sl false 3 [],.own false 7 []]
abbrev z14:List AV:=[.sl false 2 [],si 0,.sl false 1 [],.sl false 3 [],.sl false 1 [],.sl false 1 [],.sl false 4 []]
abbrev z15:List AV:=[.own false 6 [],.own false 4 []]
abbrev z16:List AV:=[si 0,si 0,.own false 1 []]
abbrev z17:List AV:=[.sc (.int .u8 0),.sc (.int .u8 0),.sc (.int .u8 0),.sc (.int .u8 0),.sc (.int .u8 0),.own false 1 [],.own false 1 []]
abbrev z18:List AV:=[.own false 1 []]
abbrev z19:List (List AV):=[[BR ⟨#[109,97,105,110]⟩],[BR ⟨#[116,49]⟩],[BR ⟨#[116,50]⟩],[BR ⟨#[116,51]⟩]]
abbrev z20:List AV:=[si 0,si 0,si 0,si 0,si 0,si 0]
abbrev z21:List AV:=[.own false 1 [],.own false 1 []]
abbrev z22:List AV:=[.sc (.pointer none),si 0,si 0,sb false,sb false,sb false,sb false,.own false 1 []]
abbrev z23:List AV:=[si 0,si 0,BR ⟨#[]⟩,.own false 4 []]
abbrev z24:List AV:=[.own false 2 []]
attribute [go_sem] z0 z1 z2 z3 z4 z5 z6 z7 z8 z9 z10 z11 z12 z13 z14 z15 z16 z17 z18 z19 z20 z21 z22 z23 z24
def y0:Y:=⟨[si 0],.i .i64⟩
def y1:Y:=⟨z18,.l 1 8 [si 0]⟩
def y2:Y:=⟨z8,.s [0,0,0,0,0,0] []⟩
def y3:Y:=⟨z2,.s [0,0,0,0,0,0,0] []⟩
def y4:Y:=⟨z0,.s [4,0,0,0] []⟩
def y5:Y:=⟨z4,.s [0,0,0,0] []⟩
def y6:Y:=⟨z7,.s [6,0,7,0] []⟩
def y7:Y:=⟨z18,.l 1 16 [BR ⟨#[]⟩]⟩
def y8:Y:=⟨z10,.s [6,0] []⟩
def y9:Y:=⟨[.own false 7 []],.l 7 88 z2⟩
def y10:Y:=⟨[BR ⟨#[]⟩],.t⟩
def y11:Y:=⟨z1,.s [0,0,0,0,0,4,0,0] []⟩
def y12:Y:=⟨z20,.s [0,0,0,0,0,0] [1,1,1,1,1,1]⟩
def y13:Y:=⟨z23,.s [0,0,0,0] []⟩
def y14:Y:=⟨z24,.l 2 32 [si 0,.own false 1 []]⟩
def y15:Y:=⟨[.own false 3 []],.l 3 24 [si 0,si 0,sb false]⟩
def y16:Y:=⟨[si 0,si 0,sb false],.s [0,0,0] [1,1,0]⟩
def y17:Y:=⟨z15,.s [0,0] []⟩
def y18:Y:=⟨[.own false 5 []],.l 5 48 [BR ⟨#[]⟩,si 0,si 0,sb false,si 0]⟩
def y19:Y:=⟨z6,.s [4,0,0,0,0,0] []⟩
def y20:Y:=⟨z9,.s [0,0,0,0] []⟩
def y21:Y:=⟨[sb false],.b⟩
def y22:Y:=⟨z24,.l 2 24 [BR ⟨#[]⟩,sb false]⟩
def y23:Y:=⟨[si 0,.own false 1 []],.s [0,0] []⟩
def y24:Y:=⟨z16,.s [0,0,0] []⟩
def y25:Y:=⟨z18,.l 1 1 [.sc (.int .u8 0)]⟩
def y26:Y:=⟨[BR ⟨#[]⟩,si 0,si 0,sb false,si 0],.s [0,0,0,0,0] [2,1,1,0,1]⟩
def y27:Y:=⟨z24,.l 2 24 [BR ⟨#[]⟩,si 0]⟩
def y28:Y:=⟨[si 0,si 0,BR ⟨#[]⟩,si 0,si 0,BR ⟨#[]⟩],.s [0,0,0,0,0,0] [1,1,2,1,1,2]⟩
def y29:Y:=⟨z18,.l 1 1 [sb false]⟩
def y30:Y:=⟨[.own false 11 []],.l 11 176 z1⟩
def y31:Y:=⟨z3,.s [4,0,0,0] []⟩
def y32:Y:=⟨z11,.s [6,0] []⟩
def y33:Y:=⟨[.own false 6 []],.l 6 48 z20⟩
def y34:Y:=⟨[.own false 4 []],.l 4 72 z12⟩
def y35:Y:=⟨[.own false 5 [],.own false 2 [],.own false 2 [],.own false 1 [],.own false 1 [],.own false 3 [],.own false 1 [],.own false 6 [],si 0,si 0],.s [6,0,0,0,0] []⟩
def y36:Y:=⟨[.sc (.pointer none)],.o⟩
def y37:Y:=⟨[.own false 3 []],.l 3 24 [si 0,si 0,si 0]⟩
def y38:Y:=⟨[.own false 4 []],.l 4 56 z23⟩
def y39:Y:=⟨[.own false 1 [],.own false 1 [],.own false 1 []],.s [0,0,0] []⟩
def y40:Y:=⟨z21,.s [0,0] []⟩
def y41:Y:=⟨[.sc (.int .u8 0)],.i .u8⟩
def y42:Y:=⟨[.own false 6 []],.l 6 64 [si 0,si 0,BR ⟨#[]⟩,si 0,si 0,BR ⟨#[]⟩]⟩
def y43:Y:=⟨z22,.s [0,0,0,0,0,0,0,0] []⟩
def y44:Y:=⟨z18,.l 1 24 z18⟩
def y45:Y:=⟨z24,.l 2 48 z21⟩
def y46:Y:=⟨z24,.l 2 32 [si 0,.own false 6 []]⟩
def y47:Y:=⟨z24,.l 2 16 [si 0,sb false]⟩
def y48:Y:=⟨z12,.s [0,0,0,0] []⟩
def y49:Y:=⟨[si 0,.own false 6 []],.s [0,0] []⟩
def y50:Y:=⟨[si 0,si 0,si 0],.s [0,0,0] [1,1,1]⟩
def y51:Y:=⟨[BR ⟨#[]⟩,si 0],.s [0,0] [2,1]⟩
def y52:Y:=⟨[.own false 15 []],.l 15 328 z7⟩
def y53:Y:=⟨[.own false 4 []],.l 4 64 z9⟩
def y54:Y:=⟨[.own false 1 [],.own false 1 [],.own false 1 [],.sc (.int .u8 0),.sc (.int .u8 0)],.s [0,0,0,0,0] []⟩
def y55:Y:=⟨z24,.l 2 16 [si 0,si 0]⟩
def y56:Y:=⟨[BR ⟨#[]⟩,sb false],.s [0,0] [2,0]⟩
def y57:Y:=⟨[si 0,sb false],.s [0,0] [1,0]⟩
def y58:Y:=⟨[si 0,si 0],.s [0,0] [1,1]⟩
def y59:Y:=⟨[.own false 6 [],.own false 4 [],si 0,.own false 11 [],.own false 1 [],.own false 1 []],.s [2,0,0,0,0] []⟩
def y60:Y:=⟨z17,.s [0,0,0,0,0,0,0] []⟩
def y61:Y:=⟨[.own false 1 [],si 0],.s [0,0] []⟩
def y62:Y:=⟨[.sc (.int .u8 0),.sc (.int .u8 0),.sc (.int .i8 0)],.s [0,0,0] [1,1,1]⟩
def y63:Y:=⟨[.own false 3 []],.l 3 40 z16⟩
def y64:Y:=⟨[.own false 4 []],.l 4 80 z4⟩
def y65:Y:=⟨[sb false,sb false],.a 2 1 false⟩
def y66:Y:=⟨z21,.a 2 1 false⟩
def y67:Y:=⟨[.own false 7 []],.l 7 56 z17⟩
def y68:Y:=⟨[.sc (.int .i8 0)],.i .i8⟩
def y69:Y:=⟨[BR ⟨#[]⟩,BR ⟨#[]⟩,BR ⟨#[]⟩,BR ⟨#[]⟩,BR ⟨#[]⟩,BR ⟨#[]⟩,BR ⟨#[]⟩,BR ⟨#[]⟩,BR ⟨#[]⟩,BR ⟨#[]⟩,BR ⟨#[]⟩,BR ⟨#[]⟩,BR ⟨#[]⟩,BR ⟨#[]⟩,BR ⟨#[]⟩,BR ⟨#[]⟩,BR ⟨#[]⟩,BR ⟨#[]⟩,BR ⟨#[]⟩,BR ⟨#[]⟩,BR ⟨#[]⟩,BR ⟨#[]⟩],.a 22 1 false⟩
def tt:List (Nat×Y):=[(3,y0),(42,y1),(31,y2),(49,y3),(44,y4),(40,y5),(84,y6),(28,y7),(34,y8),(32,y9),(9,y10),(273,y11),(263,y12),(2,y0),(41,y1),(271,y13),(36,y14),(38,y15),(137,y16),(227,y17),(25,y18),(99,y19),(250,y20),(4,y21),(26,y22),(135,y23),(139,y24),(22,y25),(110,y26),(27,y27),(306,y28),(37,y29),(255,y30),(50,y0),(168,y31),(173,y32),(244,y33),(225,y34),(259,y35),(160,y36),(29,y37),(254,y36),(269,y38),(24,y39),(74,y40),(5,y41),(224,y42),(267,y43),(216,y44),(61,y45),(171,y46),(97,y47),(257,y48),(246,y49),(126,y50),(265,y36),(179,y51),(89,y52),(166,y53),(82,y54),(96,y55),(196,y56),(214,y57),(156,y58),(303,y59),(57,y60),(162,y61),(77,y62),(301,y36),(142,y63),(130,y64),(180,y65),(181,y66),(55,y67),(75,y68),(318,y69)]
def cc:List (Nat×Nat):=[(14,1),(15,2),(16,2),(20,2),(21,1),(22,1),(24,1),(26,1),(27,2),(29,2),(31,2),(35,1),(36,1),(40,1),(41,1),(42,1),(43,2),(44,2),(46,1),(50,1),(51,1),(52,2),(58,2),(59,2),(60,2),(70,2),(74,1),(75,1),(76,1),(77,1),(79,1),(80,1),(91,1),(92,2),(93,1),(94,2),(97,1),(98,2),(99,1),(103,2),(106,3),(107,1),(108,1),(115,3),(120,2),(124,1),(130,2),(131,2),(132,1),(134,1),(135,1),(136,2),(137,1),(138,2),(139,2),(145,2),(146,2),(147,2),(148,2),(149,2),(150,2),(151,2),(153,2),(158,1),(159,1),(170,3),(173,2),(175,2),(180,1),(182,1),(185,2),(188,1),(189,1),(203,2),(206,2),(219,3),(233,3),(234,3),(246,1),(247,1)]
def ll:List (Nat×Nat×Option Nat):=[(104,0,none),(105,0,none),(114,0,none),(140,0,none),(174,0,none),(176,0,none),(177,0,none),(183,0,none),(184,0,none),(187,0,none),(217,0,none),(220,0,none),(221,0,none),(240,0,none),(241,0,none),(242,0,none),(243,0,none),(244,0,none),(245,0,none),(248,0,none),(249,0,none),(256,0,none)]
def hn (K:List (Nat×List Nat):=[]) (Q:List (Nat×Nat):=[]) (C:List (Nat×Nat):=[]) (Z:List (Nat×Bool×Nat×List Step):=[]) (F:List Nat:=[]) (E:List (Nat×IC):=[]):Hn:=⟨tt,C++cc,ll,K,Q,Z,F,E⟩
end Go.Abs
namespace Go.Proofs
open Go.Shelf
def Tryz.gR:Go.Shelf.Ren:=⟨λ|189=>114|125=>162|257=>161|128=>200|129=>201|294=>191|295=>192|296=>193|297=>194|298=>195|299=>196|216=>197|300=>198|301=>199|328=>222|329=>223|330=>224|331=>225|332=>226|215=>227|343=>250|n=>n,λ|28=>42|3=>3|46=>231|0=>0|51=>286|53=>288|4=>4|183=>280|182=>279|131=>236|5=>5|9=>9|218=>312|222=>316|228=>335|229=>336|n=>n,λ|n=>n⟩
theorem Tryz.qJ:Go.Proofs.Lays.n189 Tryz.prog Tryz.gR:={
 mixed:=by kernel_rfl
 f125:=Tryz.func162.trans (congrArg some (by kernel_rfl))
 f128:=Tryz.func200.trans (congrArg some (by kernel_rfl))
 f129:=Tryz.func201.trans (congrArg some (by kernel_rfl))
 f189:=Tryz.func114.trans (congrArg some (by kernel_rfl))
 f215:=Tryz.func227.trans (congrArg some (by kernel_rfl))
 f216:=Tryz.func197.trans (congrArg some (by kernel_rfl))
 f257:=Tryz.func161.trans (congrArg some (by kernel_rfl))
 f294:=Tryz.func191.trans (congrArg some (by kernel_rfl))
 f295:=Tryz.func192.trans (congrArg some (by kernel_rfl))
 f296:=Tryz.func193.trans (congrArg some (by kernel_rfl))
 f297:=Tryz.func194.trans (congrArg some (by kernel_rfl))
 f298:=Tryz.func195.trans (congrArg some (by kernel_rfl))
 f299:=Tryz.func196.trans (congrArg some (by kernel_rfl))
 f300:=Tryz.func198.trans (congrArg some (by kernel_rfl))
 f301:=Tryz.func199.trans (congrArg some (by kernel_rfl))
 f328:=Tryz.func222.trans (congrArg some (by kernel_rfl))
 f329:=Tryz.func223.trans (congrArg some (by kernel_rfl))
 f330:=Tryz.func224.trans (congrArg some (by kernel_rfl))
 f331:=Tryz.func225.trans (congrArg some (by kernel_rfl))
 f332:=Tryz.func226.trans (congrArg some (by kernel_rfl))
 f343:=Tryz.func250.trans (congrArg some (by kernel_rfl))
 t0:=Tryz.underlying0
 a0:=Tryz.isAgg0
 z0:=Tryz.sizeOf0
 v0:=Tryz.zeroValue0
 t3:=Tryz.underlying3
 a3:=Tryz.isAgg3
 z3:=Tryz.sizeOf3
 v3:=Tryz.zeroValue3
 t4:=Tryz.underlying4
 a4:=Tryz.isAgg4
 z4:=Tryz.sizeOf4
 v4:=Tryz.zeroValue4
 t5:=Tryz.underlying5
 a5:=Tryz.isAgg5
 z5:=Tryz.sizeOf5
 v5:=Tryz.zeroValue5
 t9:=Tryz.underlying9
 a9:=Tryz.isAgg9
 z9:=Tryz.sizeOf9
 v9:=Tryz.zeroValue9
 t28:=Tryz.underlying42
 a28:=Tryz.isAgg42
 z28:=Tryz.sizeOf42
 v28:=Tryz.zeroValue42
 t46:=Tryz.underlying231
 a46:=Tryz.isAgg231
 z46:=Tryz.sizeOf231
 v46:=Tryz.zeroValue231
 t51:=Tryz.underlying286
 a51:=Tryz.isAgg286
 z51:=Tryz.sizeOf286
 v51:=Tryz.zeroValue286
 t53:=Tryz.underlying288
 a53:=Tryz.isAgg288
 z53:=Tryz.sizeOf288
 v53:=Tryz.zeroValue288
 t131:=Tryz.underlying236
 a131:=Tryz.isAgg236
 z131:=Tryz.sizeOf236
 v131:=Tryz.zeroValue236
 t182:=Tryz.underlying279
 a182:=Tryz.isAgg279
 z182:=Tryz.sizeOf279
 v182:=Tryz.zeroValue279
 t183:=Tryz.underlying280
 a183:=Tryz.isAgg280
 z183:=Tryz.sizeOf280
 v183:=Tryz.zeroValue280
 t218:=Tryz.underlying312
 a218:=Tryz.isAgg312
 z218:=Tryz.sizeOf312
 v218:=Tryz.zeroValue312
 t222:=Tryz.underlying316
 a222:=Tryz.isAgg316
 z222:=Tryz.sizeOf316
 v222:=Tryz.zeroValue316
 t228:=Tryz.underlying335
 a228:=Tryz.isAgg335
 z228:=Tryz.sizeOf335
 v228:=Tryz.zeroValue335
 t229:=Tryz.underlying336
 a229:=Tryz.isAgg336
 z229:=Tryz.sizeOf336
 v229:=Tryz.zeroValue336}
open Go.Sort Go.RowKit in
theorem Tryz.slices_Sort_int (MJ off cap:Nat) (zs:List Int) (w:World) (hH:Holds (Value.int .i64) w MJ off zs.toArray) (Sd:MJ<w.heap.size) (PJ:zs.length<4611686018427387904):
 Calls Tryz.prog 114 #[.slice (some ⟨MJ,off,none⟩) zs.length cap] w λe w'=>
  e= .returned (.tuple #[])/\∃n os,w'=grow (putRow (Value.int .i64) (Sort.ahead w n) MJ off (zs.mergeSort λx y=>decide (x≤y)).toArray) os:=Any.slices_Sort_int Tryz.qJ MJ off cap zs w hH Sd PJ
def Tryz.Y1:Go.Shelf.Ren:=⟨λ|15=>60|n=>n,λ|22=>42|3=>3|4=>4|n=>n,λ|n=>n⟩
theorem Tryz.uQ:Go.Proofs.Lays2.n15 Tryz.prog Tryz.Y1:={
 mixed:=by kernel_rfl
 f15:=Tryz.func60.trans (congrArg some (by kernel_rfl))
 t3:=Tryz.underlying3
 a3:=Tryz.isAgg3
 z3:=Tryz.sizeOf3
 v3:=Tryz.zeroValue3
 t4:=Tryz.underlying4
 a4:=Tryz.isAgg4
 z4:=Tryz.sizeOf4
 v4:=Tryz.zeroValue4
 t22:=Tryz.underlying42
 a22:=Tryz.isAgg42
 z22:=Tryz.sizeOf42
 v22:=Tryz.zeroValue42
 i3:=by kernel_rfl}
open Go.RowKit Go.Lib in
theorem Tryz.slices_Clone_int (b off n c:Nat) (zs:List Int) (w:World) (hz:n≤zs.length) (aV:n*8≤140737488355328) (hc:∀j,j<zs.length->w.cell? ⟨b,off+j,none⟩=some (.int .i64 (zs.getD j 0))):
 Calls Tryz.prog 60 #[.slice (some ⟨b,off,none⟩) n c] w λe w'=>∃v',e= .returned v'/\w'.ownsRow w.heap.size 3 1 v' n ((zs.take n).map (Value.int .i64))/\v'≠ .slice none 0 0/\Below w.heap.size w w':=Any.slices_Clone_int Tryz.uQ b off n c zs w hz aV hc
def Tryz.Y2:Go.Shelf.Ren:=⟨λ|20=>115|n=>n,λ|22=>42|3=>3|4=>4|0=>0|n=>n,λ|n=>n⟩
theorem Tryz.Z5:Go.Proofs.Lays2.n20 Tryz.prog Tryz.Y2:={
 mixed:=by kernel_rfl
 f20:=Tryz.func115.trans (congrArg some (by kernel_rfl))
 t0:=Tryz.underlying0
 a0:=Tryz.isAgg0
 z0:=Tryz.sizeOf0
 v0:=Tryz.zeroValue0
 t3:=Tryz.underlying3
 a3:=Tryz.isAgg3
 z3:=Tryz.sizeOf3
 v3:=Tryz.zeroValue3
 t4:=Tryz.underlying4
 a4:=Tryz.isAgg4
 z4:=Tryz.sizeOf4
 v4:=Tryz.zeroValue4
 t22:=Tryz.underlying42
 a22:=Tryz.isAgg42
 z22:=Tryz.sizeOf42
 v22:=Tryz.zeroValue42
 i3:=by kernel_rfl}
open Go.RowKit Go.Lib Go.Sort in
theorem Tryz.slices_Compact_int (MJ off cap:Nat) (zs:List Int) (w:World) (hH:Holds (Value.int .i64) w MJ off zs.toArray) (PJ:zs.length≤9223372036854775807) (Dv:zs.length≤cap):
 Calls Tryz.prog 115 #[.slice (some ⟨MJ,off,none⟩) zs.length cap] w λe w'=>e= .returned (.slice (some ⟨MJ,off,none⟩) (Lib.compact zs).length cap)/\∃q,w'=putRow (Value.int .i64) (Sort.ahead w q) MJ off (Lib.compact zs++List.replicate (zs.length-(Lib.compact zs).length) 0).toArray:=Any.slices_Compact_int Tryz.Z5 MJ off cap zs w hH PJ Dv
open Go.RowKit Go.Lib Go.Sort in
theorem Tryz.slices_Compact_int_empty (a:Option Addr) (cap:Nat) (w:World):
 Calls Tryz.prog 115 #[.slice a 0 cap] w λe w'=>e= .returned (.slice a 0 cap)/\w'=w:=Any.slices_Compact_int_empty Tryz.Z5 a cap w
def Tryz.Y3:Go.Shelf.Ren:=⟨λ|25=>172|31=>197|32=>205|37=>227|n=>n,λ|22=>42|3=>3|4=>4|40=>231|0=>0|n=>n,λ|n=>n⟩
theorem Tryz.Z6:Go.Proofs.Lays2.n25 Tryz.prog Tryz.Y3:={
 mixed:=by kernel_rfl
 f25:=Tryz.func172.trans (congrArg some (by kernel_rfl))
 f31:=Tryz.func197.trans (congrArg some (by kernel_rfl))
 f32:=Tryz.func205.trans (congrArg some (by kernel_rfl))
 f37:=Tryz.func227.trans (congrArg some (by kernel_rfl))
 t0:=Tryz.underlying0
 a0:=Tryz.isAgg0
 z0:=Tryz.sizeOf0
 v0:=Tryz.zeroValue0
 t3:=Tryz.underlying3
 a3:=Tryz.isAgg3
 z3:=Tryz.sizeOf3
 v3:=Tryz.zeroValue3
 t4:=Tryz.underlying4
 a4:=Tryz.isAgg4
 z4:=Tryz.sizeOf4
 v4:=Tryz.zeroValue4
 t22:=Tryz.underlying42
 a22:=Tryz.isAgg42
 z22:=Tryz.sizeOf42
 v22:=Tryz.zeroValue42
 t40:=Tryz.underlying231
 a40:=Tryz.isAgg231
 z40:=Tryz.sizeOf231
 v40:=Tryz.zeroValue231}
open Go.RowKit Go.Lib in
theorem Tryz.slices_BinarySearch_int (b off n c:Nat) (zs:List Int) (x:Int) (w:World) (hz:n≤zs.length) (aV:n<4611686018427387904) (hc:∀j,j<zs.length->w.cell? ⟨b,off+j,none⟩=some (.int .i64 (zs.getD j 0))) (hs:(zs.take n).Pairwise (· ≤ ·)):
 Calls Tryz.prog 172 #[.slice (some ⟨b,off,none⟩) n c,.int .i64 x] w λe w'=>e= .returned (.tuple #[.int .i64 ((zs.take n).countP (· <x):Nat),.bool ((zs.take n).contains x)])/\∃q,w'=w.drewN q:=Any.slices_BinarySearch_int Tryz.Z6 b off n c zs x w hz aV hc hs
open Go.RowKit Go.Sort in
theorem Tryz.slices_Sort_int_none (p:Option Addr) (cap:Nat) (w:World):
 Calls Tryz.prog 114 #[.slice p 0 cap] w λe w'=>e= .returned (.tuple #[])/\w'=w:=Any.slices_Sort_int_none Tryz.qJ p cap w
open Go.RowKit Go.Lib in
theorem Tryz.slices_BinarySearch_int_empty (a:Option Addr) (c:Nat) (x:Int) (w:World):
 Calls Tryz.prog 172 #[.slice a 0 c,.int .i64 x] w λe w'=>e= .returned (.tuple #[.int .i64 0,.bool false])/\w'=w:=Any.slices_BinarySearch_int_empty Tryz.Z6 a c x w
def Tryz.RP:Go.Shelf.Ren:=⟨λ|43=>115|n=>n,λ|22=>42|23=>3|3=>3|4=>4|0=>0|n=>n,λ|n=>n⟩
theorem Tryz.XX:Go.Proofs.SlLaysE.n43 Tryz.prog Tryz.RP:={
 mixed:=by kernel_rfl
 f43:=⟨Tryz.f115.name,by decide,Tryz.func115.trans (congrArg some (by kernel_rfl))⟩
 t0:=Tryz.underlying0
 a0:=Tryz.isAgg0
 z0:=Tryz.sizeOf0
 v0:=Tryz.zeroValue0
 t3:=Tryz.underlying3
 a3:=Tryz.isAgg3
 z3:=Tryz.sizeOf3
 v3:=Tryz.zeroValue3
 t4:=Tryz.underlying4
 a4:=Tryz.isAgg4
 z4:=Tryz.sizeOf4
 v4:=Tryz.zeroValue4
 t22:=Tryz.underlying42
 a22:=Tryz.isAgg42
 z22:=Tryz.sizeOf42
 v22:=Tryz.zeroValue42
 a23:=Tryz.isAgg3
 z23:=Tryz.sizeOf3}
open Go.RowKit Go.Lib Go.Sort in
theorem Tryz.slices_Compact {α:Type} [Inhabited α] [DecidableEq α] (enc:α->Value) (hO:OneCell enc) (heq:EqlAt Tryz.prog 3 enc (λx y=>decide (x=y))) (Nl:NeqAt Tryz.prog 3 enc (λx y=>decide (x=y))) (zr:α) (v23:∀w,(zeroValue 3).run Tryz.prog w= .ok (enc zr) w) (MJ off cap:Nat) (d:Array α) (w:World) (hH:Holds enc w MJ off d) (PJ:d.size≤9223372036854775807) (Dv:d.size≤cap):
 Calls Tryz.prog 115 #[.slice (some ⟨MJ,off,none⟩) d.size cap] w λe w'=>e= .returned (.slice (some ⟨MJ,off,none⟩) (compactUpTo d d.size).length cap)/\∃q,w'=putRow enc (Sort.ahead w q) MJ off (compactUpTo d d.size++List.replicate (d.size-(compactUpTo d d.size).length) zr).toArray:=AnyE.slices_Compact Tryz.XX enc hO heq Nl zr v23 MJ off cap d w hH PJ Dv
def Tryz.RQ:Go.Shelf.Ren:=⟨λ|10=>116|6=>163|n=>n,λ|22=>42|23=>3|25=>185|3=>3|4=>4|0=>0|n=>n,λ|n=>n⟩
theorem Tryz.XY:Go.Proofs.SlLaysH.n10 Tryz.prog Tryz.RQ:={
 mixed:=by kernel_rfl
 f6:=⟨Tryz.f163.name,by decide,Tryz.func163.trans (congrArg some (by kernel_rfl))⟩
 f10:=⟨Tryz.f116.name,by decide,Tryz.func116.trans (congrArg some (by kernel_rfl))⟩
 t0:=Tryz.underlying0
 a0:=Tryz.isAgg0
 z0:=Tryz.sizeOf0
 v0:=Tryz.zeroValue0
 t3:=Tryz.underlying3
 a3:=Tryz.isAgg3
 z3:=Tryz.sizeOf3
 v3:=Tryz.zeroValue3
 t4:=Tryz.underlying4
 a4:=Tryz.isAgg4
 z4:=Tryz.sizeOf4
 v4:=Tryz.zeroValue4
 t22:=Tryz.underlying42
 a22:=Tryz.isAgg42
 z22:=Tryz.sizeOf42
 v22:=Tryz.zeroValue42
 a23:=Tryz.isAgg3
 z23:=Tryz.sizeOf3
 t25:=Tryz.underlying185
 a25:=Tryz.isAgg185
 z25:=Tryz.sizeOf185
 v25:=Tryz.zeroValue185}
open Go.RowKit Go.Lib Go.Sort in
theorem Tryz.slices_DeleteFunc {α:Type} [Inhabited α] (enc:α->Value) (hO:OneCell enc) (p:α->Bool) (g:Nat) (lb:Array Value) (eg:∀args w,(callFunc g args).run Tryz.prog w= .ok (.enter g args) w) (zr:α) (v23:∀w,(zeroValue 3).run Tryz.prog w= .ok (enc zr) w) (MJ off cap:Nat) (d:Array α) (w:World) (hp:PredAt Tryz.prog g lb enc p w) (hpo:PredOver Tryz.prog g lb enc p MJ off d.size w) (hH:Holds enc w MJ off d) (PJ:d.size≤9223372036854775807) (Dv:d.size≤cap):
 Calls Tryz.prog 116 #[.slice (some ⟨MJ,off,none⟩) d.size cap,.func (.func g) #[] lb] w λe w'=>e= .returned (.slice (some ⟨MJ,off,none⟩) (d.toList.filter λx=> !p x).length cap)/\∃q,w'=putRow enc (Sort.ahead w q) MJ off ((d.toList.filter λx=> !p x)++List.replicate (d.size-(d.toList.filter λx=> !p x).length) zr).toArray:=AnyE.slices_DeleteFunc Tryz.XY enc hO p g lb eg zr v23 MJ off cap d w hp hpo hH PJ Dv
end Go.Proofs
namespace Go.Abs
open Go.Proofs Go.Sort Go.RowKit
theorem Wv (l:List Int):(Lib.compact l).length≤l.length:=by unfold Lib.compact Lib.compactUpTo;rw[AA0];exact ABK (ABg _ _) (by simp)
def K4 (l:List Int):ABr (List Int):=if l.length<4611686018427387904 then some (l.mergeSort λx y=>decide (x≤y))else none
theorem Pq {l r:List Int} (h:K4 l=some r):A8 Tryz.prog 114 [.own false 1 (l.map eI)] (.BI []) [.own false 1 (r.map eI)]:=by obtain⟨g,h⟩:=I9 h;obtain rfl:=AAU h;exact oB Tryz.slices_Sort_int Tryz.slices_Sort_int_none l g
def slices_Compact (l:List Int):ABr (List Int):=if l.length<4611686018427387904 then some (Lib.compact l)else none
theorem Mj {l r:List Int} (h:slices_Compact l=some r):Says Tryz.prog 115 [.own false 1 (l.map eI)] (.own false 1 (r.map eI)):=by obtain⟨g,h⟩:=I9 h;obtain rfl:=AAU h;exact Yr Tryz.slices_Compact_int Tryz.slices_Compact_int_empty l g (Wv l) rfl
theorem givesEq (b off:Nat) (n x:Int) (W:World) (hc:W.cell? ⟨b,off,none⟩=some (.int .i64 n)):
 FnGives Tryz.prog 117 #[.pointer (some ⟨b,off,none⟩)] #[.int .i64 x] (.bool (x==n)) W:=by
 show Calls Tryz.prog 117 #[.int .i64 x,.pointer (some ⟨b,off,none⟩)] W _
 go_enter Tryz.func117,Tryz.ntmps117
 go_wp2
 all_goals (go_ret;exact⟨by simp_all,0,rfl⟩)
def IV (l:List Int) (n:Int):ABr (List Int):=if l≠[]/\l.length<4611686018427387904 then some (l.filter λx=> !(x==n))else none
theorem NU {l r:List Int} {n:Int} (h:IV l n=some r):Says Tryz.prog 116 [.own false 1 (l.map eI),.mG 117 [[si n]]] (.own false 1 (r.map eI)):=by obtain⟨⟨g1,g2⟩,h⟩:=I9 h;obtain rfl:=AAU h;refine bT (q:=λn x=>x==n) ?_ givesEq l n g1 g2;intro lb p MJ off cap d w hp hpo hH PJ Dv;exact Tryz.slices_DeleteFunc (Value.int .i64) (λ_=>rfl) p 117 lb (enters_of Tryz.func117 (by kernel_rfl) rfl) 0 (Tryz.zeroValue3) MJ off cap d w hp hpo hH PJ Dv
def I1 (l:List Int) (x:Int):ABr (Int×Bool):=if l.length<4611686018427387904/\l.Pairwise (· ≤ ·)then some (((l.countP (· <x):Nat):Int),l.contains x)else none
theorem N7 {l:List Int} {x:Int} {r:Int×Bool} (h:I1 l x=some r):Says Tryz.prog 172 [.sl false 1 (l.map eI),si x] (.BI [si r.1,sb r.2]):=by obtain⟨⟨g1,g2⟩,h⟩:=I9 h;obtain rfl:=AAU h;exact bO Tryz.slices_BinarySearch_int Tryz.slices_BinarySearch_int_empty l x g1 g2
def Rv (n:Int):ABr (List Int):=if 0≤n/\n<4611686018427 then some []else none
def growR:Go.Shelf.Ren:=⟨λ|4=>171|n=>n,λ|22=>42|25=>3|n=>n,λ|n=>n⟩
theorem growL:Go.Proofs.Lays8.n4 Tryz.prog growR:={
 mixed:=by kernel_rfl
 f4:=⟨Tryz.f171.name,by decide,Tryz.func171.trans (ABl some (by kernel_rfl))⟩
 t0:=Tryz.underlying0
 a0:=Tryz.isAgg0
 z0:=Tryz.sizeOf0
 v0:=Tryz.zeroValue0
 t3:=Tryz.underlying3
 a3:=Tryz.isAgg3
 z3:=Tryz.sizeOf3
 v3:=Tryz.zeroValue3
 t4:=Tryz.underlying4
 a4:=Tryz.isAgg4
 z4:=Tryz.sizeOf4
 v4:=Tryz.zeroValue4
 t9:=Tryz.underlying9
 a9:=Tryz.isAgg9
 z9:=Tryz.sizeOf9
 v9:=Tryz.zeroValue9
 t20:=Tryz.underlying20
 a20:=Tryz.isAgg20
 z20:=Tryz.sizeOf20
 v20:=Tryz.zeroValue20
 t22:=Tryz.underlying42
 a22:=Tryz.isAgg42
 z22:=Tryz.sizeOf42
 v22:=Tryz.zeroValue42
}
theorem growS (n:Nat) (hn:n<4611686018427):Says Tryz.prog 171 [.sc (.slice none 0 0),si n] (.own false 1 []):=by
 refine tK (E:=3) ?_ ?_ n (by omega)
 . intro n w h0 hn;have hi:Tryz.prog.info? 3=some ((Tryz.prog.info? 3).getD default):=(by kernel_rfl);have hs:((Tryz.prog.info? 3).getD default).size=1:=(by kernel_rfl);have hb:((Tryz.prog.info? 3).getD default).bytes=8:=(by kernel_rfl);have h:=Any8.slices_Grow_grow growL ((Tryz.prog.info? 3).getD default) (.int .i64 0) hi (by kernel_rfl) (by rw[hs];omega) none 0 0 n [] w (AAv _) (by omega)
    (by rw[hb];omega) (by omega) (by simp) (by simp) (by simp)
   refine h.mono ?_;rintro e w' ⟨rfl,rfl⟩;refine⟨_,_,?_,rfl,rfl⟩
   have:=grownCap_ge w (0+n) 0 (growR.t 25);rw[ABX]at this;simp only[Array.size_append,size_zeroCells,Value.cells];simp;omega
 . intro w;have h:=Any8.slices_Grow_room growL none 0 0 0 w (by omega) (by omega) (by omega) (by omega);exact h
theorem YS {n:Int} {r:List Int} (h:Rv n=some r):Says Tryz.prog 171 [.sc (.slice none 0 0),si n] (.own false 1 (r.map eI)):=by obtain⟨⟨g1,g2⟩,h⟩:=I9 h;obtain rfl:=AAU h;obtain⟨m,rfl⟩:=Int.eq_ofNat_of_zero_le g1;exact growS m (by omega)
end Go.Abs
namespace Go.Abs
open Go.Proofs
theorem rb0:laidOutB Tryz.prog=true:=by kernel_rfl
theorem rb1:mapsRowed Tryz.prog=true:=by kernel_rfl
theorem rb2:Tryz.prog.stopsHeard=true:=by kernel_rfl
theorem rb3:Tryz.prog.mayEnter=true:=by kernel_rfl
theorem rb4:Tryz.prog.liftsFinal=false:=by kernel_rfl
theorem rb5:Tryz.prog.plainKeys=true:=by kernel_rfl
theorem rb6:Tryz.prog.mainIs=some (true,"d451a204984a6844bee374a30dabfb0cecc037902d4d03ac54b8394056717808".toList):=by kernel_rfl
theorem rb7:false=Tryz.prog.looks []:=by kernel_rfl
end Go.Abs
