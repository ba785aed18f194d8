/- The types of the program, how their values are read, and the library's functions. -/
import Derived.Test.YthmijagacgnmkaaGreatDoorCoreD
import Derived.Test.YthmijagacgnmkaaGreatDoorChecked
import Derived.KernelRfl
import Derived.Shelf.Small.Bits
import Derived.Shelf.Strconv.Itoa0
import Derived.Shelf.Sort.Plain
import Derived.Ground.Names2Prog
import Derived.Shelf.Slices.Clone
import Derived.Shelf.Slices.CompactI
import Derived.Shelf.Slices.SearchI
import Derived.Shelf.Slices.In.SortNone
import Derived.Shelf.Slices.Empties
import Derived.Ground.SlgnProg
import Derived.Shelf.SlicesE.Compact
import Derived.Ground.SlgfProg
import Derived.Shelf.SlicesE.IndexFunc
import Derived.Shelf.SlicesE.DeleteFunc
import Derived.Test.YthmijagacgnmkaaGreatDoorProg
import Derived.Lib.SliceRun
import Derived.Shelf.Spec.SlicesGrow
import Derived.JoinedOf
import Derived.SevenTiedAt
set_option linter.unusedSimpArgs false
set_option linter.unusedVariables false
namespace Go.Abs
open Go.Proofs
set_option maxRecDepth 1000000
set_option maxHeartbeats 4000000
theorem mix:Tryz.prog.follows .mixedOrders=true:=by kernel_rfl
@[go_sem]theorem gamAt0:iW 0 22=some (Lz.map Value.string):=by rfl
structure DL where
 Name:AB9
 Index:Int
 Bw:Int
 Gl:Bool
 Init:Int
 deriving DecidableEq
structure Ia where
 Name:AB9
 RW:Bool
 deriving DecidableEq
structure Nc where
 Name:AB9
 Mutex:Int
 deriving DecidableEq
structure Da where
 Thread:Int
 Stmt:Int
 FA:Int
 deriving DecidableEq
structure AD where
 Cells:List DL
 AE:List Ia
 Af:List Nc
 AK:List AB9
 AA:List AB9
 BL:List Da
 deriving DecidableEq
structure AW where
 B6:Int
 Al:List Int
 deriving DecidableEq
structure AH where
 Status:Int
 D7:Int
 Atomic:Bool
 deriving DecidableEq
structure AP where
 AE:List AW
 Tx:Int
 Bp:List Bool
 AA:List AH
 deriving DecidableEq
structure AB where
 Sync:AP
 Cells:List Int
 AK:List Int
 Count:List Int
 deriving DecidableEq
structure AU where
 L:List Int
 At:Int
 deriving DecidableEq
structure AG where
 Thread:Int
 Kind:Int
 Obj:Int
 Value:Int
 Site:Int
 Du:List Int
 DR:List Int
 deriving DecidableEq
structure Aw where
 World:AD
 AF:List AG
 deriving DecidableEq
structure Eg where
 Kind:Int
 FA:Int
 Name:AB9
 Bw:Int
 Init:Int
 On:AB9
 deriving DecidableEq
structure BB where
 Op:Int
 N:Int
 Name:AB9
 L:List BB
structure AN where
 t:AU
 Be:Int
 left:Int
 Ho:Bool
 tx:Bool
 atomic:Bool
 loop:Bool
 held:List AB9
 deriving DecidableEq
structure AQ where
 Op:Int
 FA:Int
 Name:AB9
 Arg:AB9
 Index:List BB
 Expr:BB
 Body:List AQ
 Else:List AQ
structure Co where
 Name:AB9
 FA:Int
 GZ:List AB9
 Body:List AQ
structure AR where
 Decls:List Eg
 AA:List Co
structure BJ where
 p:AR
 Be:Int
 Ga:List AQ
 MR:List AB9
 ZC:List AB9
structure Ac where
 Op:Int
 A:Int
 B:Int
 C:Int
 N:Int
 Site:Int
 deriving DecidableEq
structure A9 where
 w:AD
 locals:List AB9
 out:List Ac
 site:Int
 next:Int
 deriving DecidableEq
structure Az where
 Ch:Int
 Bq:List Ac
 deriving DecidableEq
structure BT where
 World:AD
 AA:List Az
 deriving DecidableEq
structure C6 where
 Thread:Int
 Uh:Int
 deriving DecidableEq
structure AL where
 PC:Int
 Ch:List Int
 Cc:List (List Int)
 AF:Int
 deriving DecidableEq
structure Aj where
 Sync:AP
 Cells:List Int
 AK:List Int
 AA:List AL
 deriving DecidableEq
structure Uf where
 Program:List Int
 Ct:List Int
 RJ:List Int
 deriving DecidableEq
structure AO where
 World:AD
 Start:Int
 Init:AB
 AF:List AG
 deriving DecidableEq
structure Vr where
 Program:List Int
 Ct:List Int
 RJ:List Int
 Bw:Int
 yP:Int
 deriving DecidableEq
structure D5 where
 HW:List Int
 MX:List Int
 deriving DecidableEq
structure DO where
 State:Int
 B6:Int
 AE:List Int
 deriving DecidableEq
structure Sy where
 Value:Int
 Known:Bool
 deriving DecidableEq
structure qG where
 Sync:AP
 Cells:List Sy
 AK:List Sy
 Order:List Int
 Fixed:List Bool
 Woke:List Int
 deriving DecidableEq
def Gx (x:DL):List AV:=[BZ x.Name,si x.Index,si x.Bw,sb x.Gl,si x.Init]
@[go_sem]theorem eCell_sn (l:List DL) (y0:AB9) (y1:Int) (y2:Int) (y3:Bool) (y4:Int):l.map Gx++[[BZ y0,si y1,si y2,sb y3,si y4]]=(l++[(DL.mk y0 y1 y2 y3 y4)]).map Gx:=by simp[Gx]
attribute [go_sem] Gx
def Hu (x:Ia):List AV:=[BZ x.Name,sb x.RW]
@[go_sem]theorem eLock_sn (l:List Ia) (y0:AB9) (y1:Bool):l.map Hu++[[BZ y0,sb y1]]=(l++[(Ia.mk y0 y1)]).map Hu:=by simp[Hu]
attribute [go_sem] Hu
def Ht (x:Nc):List AV:=[BZ x.Name,si x.Mutex]
@[go_sem]theorem eCond_sn (l:List Nc) (y0:AB9) (y1:Int):l.map Ht++[[BZ y0,si y1]]=(l++[(Nc.mk y0 y1)]).map Ht:=by simp[Ht]
attribute [go_sem] Ht
def eS (x:AB9):List AV:=[BZ x]
@[go_sem]theorem eS_sn (l:List AB9) (y0:AB9):l.map eS++[[BZ y0]]=(l++[y0]).map eS:=by simp[eS]
attribute [go_sem] eS
def GX (x:Da):List AV:=[si x.Thread,si x.Stmt,si x.FA]
@[go_sem]theorem eSite_sn (l:List Da) (y0:Int) (y1:Int) (y2:Int):l.map GX++[[si y0,si y1,si y2]]=(l++[(Da.mk y0 y1 y2)]).map GX:=by simp[GX]
attribute [go_sem] GX
def Ah (x:AD):List AV:=[.sl false 5 (x.Cells.map Gx),.sl false 2 (x.AE.map Hu),.sl false 2 (x.Af.map Ht),.sl false 1 (x.AK.map eS),.sl false 1 (x.AA.map eS),.sl false 3 (x.BL.map GX)]
attribute [go_sem] Ah
def K0 (x:AD):List AV:=[.own false 5 (x.Cells.map Gx),.own false 2 (x.AE.map Hu),.own false 2 (x.Af.map Ht),.own false 1 (x.AK.map eS),.own false 1 (x.AA.map eS),.own false 3 (x.BL.map GX)]
attribute [go_sem] K0
def eI (x:Int):List AV:=[si x]
@[go_sem]theorem eI_sn (l:List Int) (y0:Int):l.map eI++[[si y0]]=(l++[y0]).map eI:=by simp[eI]
@[go_sem]theorem eI_se (l:List Int) (i:Nat) (y0:Int):(l.map eI).set i [si y0]=(l.set i y0).map eI:=by simp[eI,ABY]
@[go_sem]theorem eI_re (n:Nat) (y0:Int):List.replicate n [si y0]=(List.replicate n y0).map eI:=by simp[eI]
attribute [go_sem] eI
def DS (x:AW):List AV:=[si x.B6,.sl false 1 (x.Al.map eI)]
attribute [go_sem] DS
def eB (x:Bool):List AV:=[sb x]
@[go_sem]theorem eB_sn (l:List Bool) (y0:Bool):l.map eB++[[sb y0]]=(l++[y0]).map eB:=by simp[eB]
@[go_sem]theorem eB_se (l:List Bool) (i:Nat) (y0:Bool):(l.map eB).set i [sb y0]=(l.set i y0).map eB:=by simp[eB,ABY]
@[go_sem]theorem eB_re (n:Nat) (y0:Bool):List.replicate n [sb y0]=(List.replicate n y0).map eB:=by simp[eB]
attribute [go_sem] eB
def An (x:AH):List AV:=[si x.Status,si x.D7,sb x.Atomic]
@[go_sem]theorem eThreadSync_sn (l:List AH) (y0:Int) (y1:Int) (y2:Bool):l.map An++[[si y0,si y1,sb y2]]=(l++[(AH.mk y0 y1 y2)]).map An:=by simp[An]
@[go_sem]theorem eThreadSync_se (l:List AH) (i:Nat) (y0:Int) (y1:Int) (y2:Bool):(l.map An).set i [si y0,si y1,sb y2]=(l.set i (AH.mk y0 y1 y2)).map An:=by simp[An,ABY]
@[go_sem]theorem eThreadSync_re (n:Nat) (y0:Int) (y1:Int) (y2:Bool):List.replicate n [si y0,si y1,sb y2]=(List.replicate n (AH.mk y0 y1 y2)).map An:=by simp[An]
attribute [go_sem] An
def FZ (x:AP):List AV:=[.sl false 2 (x.AE.map DS),si x.Tx,.sl false 1 (x.Bp.map eB),.sl false 3 (x.AA.map An)]
attribute [go_sem] FZ
def Bn (x:AW):List AV:=[si x.B6,.own false 1 (x.Al.map eI)]
@[go_sem]theorem eLockStateo_sn (l:List AW) (y0:Int) (y1:List Int):l.map Bn++[[si y0,.own false 1 (y1.map eI)]]=(l++[(AW.mk y0 y1)]).map Bn:=by simp[Bn]
@[go_sem]theorem eLockStateo_se (l:List AW) (i:Nat) (y0:Int) (y1:List Int):(l.map Bn).set i [si y0,.own false 1 (y1.map eI)]=(l.set i (AW.mk y0 y1)).map Bn:=by simp[Bn,ABY]
@[go_sem]theorem qU (l:List AW) (i:Nat) (y0:Int) (y1:Int):(l.map Bn).set i [si y0,.own false 1 [[si y1]]]=(l.set i (AW.mk y0 [y1])).map Bn:=by simp[Bn,eI,ABY]
@[go_sem]theorem yS (l:List AW) (y0:Int):l.map Bn++[[si y0,.own false 1 []]]=(l++[(AW.mk y0 [])]).map Bn:=by simp[Bn]
@[go_sem]theorem yR (n:Nat) (y0:Int):List.replicate n [si y0,.own false 1 []]=(List.replicate n (AW.mk y0 [])).map Bn:=by simp[Bn]
@[go_sem]theorem eLockStateo_fz (l:List AW):Ni (l.map Bn)=l.map DS:=by induction l with|nil=>rfl|cons x l ih=>simp only[AAy,Ni,ih,go_sem,Bn,DS]
attribute [go_sem] Bn
def IF (x:AP):List AV:=[.own false 2 (x.AE.map Bn),si x.Tx,.own false 1 (x.Bp.map eB),.own false 3 (x.AA.map An)]
attribute [go_sem] IF
def A3 (x:AB):List AV:=[.sl false 2 (x.Sync.AE.map DS),si x.Sync.Tx,.sl false 1 (x.Sync.Bp.map eB),.sl false 3 (x.Sync.AA.map An),.sl false 1 (x.Cells.map eI),.sl false 1 (x.AK.map eI),.sl false 1 (x.Count.map eI)]
attribute [go_sem] A3
def Dt (x:AB):List AV:=[.own false 2 (x.Sync.AE.map Bn),si x.Sync.Tx,.own false 1 (x.Sync.Bp.map eB),.own false 3 (x.Sync.AA.map An),.own false 1 (x.Cells.map eI),.own false 1 (x.AK.map eI),.own false 1 (x.Count.map eI)]
attribute [go_sem] Dt
def Ww (x:Int):List AV:=[.sc (.int .u8 x)]
attribute [go_sem] Ww
def FE (x:AU):List AV:=[.sl false 1 (x.L.map Ww),si x.At]
attribute [go_sem] FE
def BX (x:AG):List AV:=[si x.Thread,si x.Kind,si x.Obj,si x.Value,si x.Site,.sl false 1 (x.Du.map eI),.sl false 1 (x.DR.map eI)]
@[go_sem]theorem eEvent_sn (l:List AG) (y0:Int) (y1:Int) (y2:Int) (y3:Int) (y4:Int) (y5:List Int) (y6:List Int):l.map BX++[[si y0,si y1,si y2,si y3,si y4,.sl false 1 (y5.map eI),.sl false 1 (y6.map eI)]]=(l++[(AG.mk y0 y1 y2 y3 y4 y5 y6)]).map BX:=by simp[BX]
attribute [go_sem] BX
def ZS (x:List Int):List AV:=[.sl false 1 (x.map eI)]
@[go_sem]theorem eLI_se (l:List (List Int)) (i:Nat) (y0:List Int):(l.map ZS).set i [.sl false 1 (y0.map eI)]=(l.set i y0).map ZS:=by simp[ZS,ABY]
@[go_sem]theorem eLI_se_y0 (l:List (List Int)) (i:Nat) (y0:Int):(l.map ZS).set i [.sl false 1 [[si y0]]]=(l.set i [y0]).map ZS:=by simp[ZS,eI,ABY]
@[go_sem]theorem eLI_se1 (l:List (List Int)) (i:Nat):(l.map ZS).set i [.sl false 1 []]=(l.set i []).map ZS:=by simp[ZS,ABY]
@[go_sem]theorem eLI_re1 (n:Nat):List.replicate n [.sl false 1 []]=(List.replicate n []).map ZS:=by simp[ZS]
attribute [go_sem] ZS
def Ng (x:List Int):List AV:=[.own false 1 (x.map eI)]
@[go_sem]theorem eLIo_sn (l:List (List Int)) (y0:List Int):l.map Ng++[[.own false 1 (y0.map eI)]]=(l++[y0]).map Ng:=by simp[Ng]
@[go_sem]theorem eLIo_se (l:List (List Int)) (i:Nat) (y0:List Int):(l.map Ng).set i [.own false 1 (y0.map eI)]=(l.set i y0).map Ng:=by simp[Ng,ABY]
@[go_sem]theorem eLIo_re1 (n:Nat):List.replicate n [.own false 1 []]=(List.replicate n []).map Ng:=by simp[Ng]
@[go_sem]theorem eLIo_fz (l:List (List Int)):Ni (l.map Ng)=l.map ZS:=by induction l with|nil=>rfl|cons x l ih=>simp only[AAy,Ni,ih,go_sem,Ng,ZS]
attribute [go_sem] Ng
def IE (x:AG):List AV:=[si x.Thread,si x.Kind,si x.Obj,si x.Value,si x.Site,.own false 1 (x.Du.map eI),.own false 1 (x.DR.map eI)]
@[go_sem]theorem eEvento_sn (l:List AG) (y0:Int) (y1:Int) (y2:Int) (y3:Int) (y4:Int) (y5:List Int) (y6:List Int):l.map IE++[[si y0,si y1,si y2,si y3,si y4,.own false 1 (y5.map eI),.own false 1 (y6.map eI)]]=(l++[(AG.mk y0 y1 y2 y3 y4 y5 y6)]).map IE:=by simp[IE]
@[go_sem]theorem eEvento_fz (l:List AG):Ni (l.map IE)=l.map BX:=by induction l with|nil=>rfl|cons x l ih=>simp only[AAy,Ni,ih,go_sem,IE,BX]
attribute [go_sem] IE
def IV (x:Aw):List AV:=[.sl false 5 (x.World.Cells.map Gx),.sl false 2 (x.World.AE.map Hu),.sl false 2 (x.World.Af.map Ht),.sl false 1 (x.World.AK.map eS),.sl false 1 (x.World.AA.map eS),.sl false 3 (x.World.BL.map GX),.sl false 7 (x.AF.map BX)]
attribute [go_sem] IV
def Wv (x:Aw):List AV:=[.sl false 5 (x.World.Cells.map Gx),.sl false 2 (x.World.AE.map Hu),.sl false 2 (x.World.Af.map Ht),.sl false 1 (x.World.AK.map eS),.sl false 1 (x.World.AA.map eS),.sl false 3 (x.World.BL.map GX),.own false 7 (x.AF.map BX)]
attribute [go_sem] Wv
def KG (x:Eg):List AV:=[si x.Kind,si x.FA,BZ x.Name,si x.Bw,si x.Init,BZ x.On]
attribute [go_sem] KG
mutual
def BD:BB->List AV
 |⟨y0,y1,y2,y3⟩=>[si y0,si y1,BZ y2,.sl false 4 (dO y3)]
def dO:List BB->List (List AV)
 |[]=>[]
 |x::l=>BD x::dO l
end
theorem eExpr_m (l:List BB):dO l=l.map BD:=by induction l<;>simp[dO, *]
@[go_sem]theorem eExpr_d (x:BB):BD x=[si x.Op,si x.N,BZ x.Name,.sl false 4 (x.L.map BD)]:=by cases x;simp[BD,eExpr_m]
@[go_sem]theorem eExpr_eta (x:BB):BB.mk x.Op x.N x.Name x.L=x:=by cases x;rfl
def CS (x:AN):List AV:=[bA 2 [.sl false 1 (x.t.L.map Ww),si x.t.At],si x.Be,si x.left,sb x.Ho,sb x.tx,sb x.atomic,sb x.loop,.own false 1 (x.held.map eS)]
attribute [go_sem] CS
mutual
def A7:AQ->List AV
 |⟨y0,y1,y2,y3,y4,y5,y6,y7⟩=>[si y0,si y1,BZ y2,BZ y3,.sl false 4 (y4.map BD),si y5.Op,si y5.N,BZ y5.Name,.sl false 4 (y5.L.map BD),.sl false 11 (Xl y6),.sl false 11 (Xl y7)]
def Xl:List AQ->List (List AV)
 |[]=>[]
 |x::l=>A7 x::Xl l
end
theorem eStmt_m (l:List AQ):Xl l=l.map A7:=by induction l<;>simp[Xl, *]
@[go_sem]theorem dP (x:AQ):A7 x=[si x.Op,si x.FA,BZ x.Name,BZ x.Arg,.sl false 4 (x.Index.map BD),si x.Expr.Op,si x.Expr.N,BZ x.Expr.Name,.sl false 4 (x.Expr.L.map BD),.sl false 11 (x.Body.map A7),.sl false 11 (x.Else.map A7)]:=by cases x;simp[A7,eStmt_m]
@[go_sem]theorem eStmt_eta (x:AQ):AQ.mk x.Op x.FA x.Name x.Arg x.Index x.Expr x.Body x.Else=x:=by cases x;rfl
@[go_sem]theorem eStmt_sn (l:List AQ) (y0:Int) (y1:Int) (y2:ByteArray) (y3:ByteArray) (y4:List BB) (y5:Int) (y6:Int) (y7:ByteArray) (y8:List BB) (y9:List AQ) (y10:List AQ):l.map A7++[[si y0,si y1,BZ y2,BZ y3,.sl false 4 (y4.map BD),si y5,si y6,BZ y7,.sl false 4 (y8.map BD),.sl false 11 (y9.map A7),.sl false 11 (y10.map A7)]]=(l++[(AQ.mk y0 y1 y2 y3 y4 (BB.mk y5 y6 y7 y8) y9 y10)]).map A7:=by simp[dP]
@[go_sem]theorem eStmt_se (l:List AQ) (i:Nat) (y0:Int) (y1:Int) (y2:ByteArray) (y3:ByteArray) (y4:List BB) (y5:Int) (y6:Int) (y7:ByteArray) (y8:List BB) (y9:List AQ) (y10:List AQ):(l.map A7).set i [si y0,si y1,BZ y2,BZ y3,.sl false 4 (y4.map BD),si y5,si y6,BZ y7,.sl false 4 (y8.map BD),.sl false 11 (y9.map A7),.sl false 11 (y10.map A7)]=(l.set i (AQ.mk y0 y1 y2 y3 y4 (BB.mk y5 y6 y7 y8) y9 y10)).map A7:=by simp[dP,List.map_set]
@[go_sem]theorem eStmt_sn1 (l:List AQ) (y0:Int) (y1:Int) (y2:ByteArray) (y3:ByteArray) (y5:Int) (y6:Int) (y7:ByteArray):l.map A7++[[si y0,si y1,BZ y2,BZ y3,.sl false 4 [],si y5,si y6,BZ y7,.sl false 4 [],.sl false 11 [],.sl false 11 []]]=(l++[(AQ.mk y0 y1 y2 y3 [] (BB.mk y5 y6 y7 []) [] [])]).map A7:=by simp[dP]
def Iv (x:Co):List AV:=[BZ x.Name,si x.FA,.sl false 1 (x.GZ.map eS),.sl false 11 (x.Body.map A7)]
@[go_sem]theorem eThread_sn (l:List Co) (y0:ByteArray) (y1:Int) (y2:List ByteArray) (y3:List AQ):l.map Iv++[[BZ y0,si y1,.sl false 1 (y2.map eS),.sl false 11 (y3.map A7)]]=(l++[(Co.mk y0 y1 y2 y3)]).map Iv:=by simp[Iv]
attribute [go_sem] Iv
def CN (x:AR):List AV:=[.sl false 6 (x.Decls.map KG),.sl false 4 (x.AA.map Iv)]
attribute [go_sem] CN
def HX (x:BJ):List AV:=[.sl false 6 (x.p.Decls.map KG),.sl false 4 (x.p.AA.map Iv),si x.Be,.own false 11 (x.Ga.map A7),.own false 1 (x.MR.map eS),.own false 1 (x.ZC.map eS)]
attribute [go_sem] HX
def iT (x:Co):List AV:=[BZ x.Name,si x.FA,.own false 1 (x.GZ.map eS),.own false 11 (x.Body.map A7)]
attribute [go_sem] iT
def EN (x:Ac):List AV:=[si x.Op,si x.A,si x.B,si x.C,si x.N,si x.Site]
@[go_sem]theorem eInstr_sn (l:List Ac) (y0:Int) (y1:Int) (y2:Int) (y3:Int) (y4:Int) (y5:Int):l.map EN++[[si y0,si y1,si y2,si y3,si y4,si y5]]=(l++[(Ac.mk y0 y1 y2 y3 y4 y5)]).map EN:=by simp[EN]
@[go_sem]theorem eInstr_se (l:List Ac) (i:Nat) (y0:Int) (y1:Int) (y2:Int) (y3:Int) (y4:Int) (y5:Int):(l.map EN).set i [si y0,si y1,si y2,si y3,si y4,si y5]=(l.set i (Ac.mk y0 y1 y2 y3 y4 y5)).map EN:=by simp[EN,List.map_set]
attribute [go_sem] EN
def egen (x:A9):List AV:=[.sl false 5 (x.w.Cells.map Gx),.sl false 2 (x.w.AE.map Hu),.sl false 2 (x.w.Af.map Ht),.sl false 1 (x.w.AK.map eS),.sl false 1 (x.w.AA.map eS),.sl false 3 (x.w.BL.map GX),.sl false 1 (x.locals.map eS),.sl false 6 (x.out.map EN),si x.site,si x.next]
attribute [go_sem] egen
def EV (x:A9):List AV:=[.sl false 5 (x.w.Cells.map Gx),.sl false 2 (x.w.AE.map Hu),.sl false 2 (x.w.Af.map Ht),.sl false 1 (x.w.AK.map eS),.sl false 1 (x.w.AA.map eS),.sl false 3 (x.w.BL.map GX),.sl false 1 (x.locals.map eS),.own false 6 (x.out.map EN),si x.site,si x.next]
attribute [go_sem] EV
def Cd (x:Az):List AV:=[si x.Ch,.sl false 6 (x.Bq.map EN)]
@[go_sem]theorem eThreadCode_sn (l:List Az) (y0:Int) (y1:List Ac):l.map Cd++[[si y0,.sl false 6 (y1.map EN)]]=(l++[(Az.mk y0 y1)]).map Cd:=by simp[Cd]
attribute [go_sem] Cd
def Jo (x:BT):List AV:=[.sl false 5 (x.World.Cells.map Gx),.sl false 2 (x.World.AE.map Hu),.sl false 2 (x.World.Af.map Ht),.sl false 1 (x.World.AK.map eS),.sl false 1 (x.World.AA.map eS),.sl false 3 (x.World.BL.map GX),.sl false 2 (x.AA.map Cd)]
attribute [go_sem] Jo
def JT (x:C6):List AV:=[si x.Thread,si x.Uh]
@[go_sem]theorem eChoice_sn (l:List C6) (y0:Int) (y1:Int):l.map JT++[[si y0,si y1]]=(l++[(C6.mk y0 y1)]).map JT:=by simp[JT]
attribute [go_sem] JT
def FF (x:AL):List AV:=[si x.PC,.sl false 1 (x.Ch.map eI),.sl false 1 (x.Cc.map ZS),si x.AF]
attribute [go_sem] FF
def Kj (x:Aj):List AV:=[.sl false 2 (x.Sync.AE.map DS),si x.Sync.Tx,.sl false 1 (x.Sync.Bp.map eB),.sl false 3 (x.Sync.AA.map An),.sl false 1 (x.Cells.map eI),.sl false 1 (x.AK.map eI),.sl false 4 (x.AA.map FF)]
attribute [go_sem] Kj
def B0 (x:AL):List AV:=[si x.PC,.own false 1 (x.Ch.map eI),.own false 1 (x.Cc.map ZS),si x.AF]
@[go_sem]theorem uR (l:List AL) (y0:Int) (y1:List Int) (y2:List (List Int)) (y3:Int):l.map B0++[[si y0,.own false 1 (y1.map eI),.own false 1 (y2.map ZS),si y3]]=(l++[(AL.mk y0 y1 y2 y3)]).map B0:=by simp[B0]
@[go_sem]theorem uQ (l:List AL) (i:Nat) (y0:Int) (y1:List Int) (y2:List (List Int)) (y3:Int):(l.map B0).set i [si y0,.own false 1 (y1.map eI),.own false 1 (y2.map ZS),si y3]=(l.set i (AL.mk y0 y1 y2 y3)).map B0:=by simp[B0,List.map_set]
@[go_sem]theorem uP (l:List AL):Ni (l.map B0)=l.map FF:=by induction l with|nil=>rfl|cons x l ih=>simp only[List.map_cons,Ni,ih,go_sem,B0,FF]
attribute [go_sem] B0
def Mk (x:Aj):List AV:=[.own false 2 (x.Sync.AE.map Bn),si x.Sync.Tx,.own false 1 (x.Sync.Bp.map eB),.own false 3 (x.Sync.AA.map An),.own false 1 (x.Cells.map eI),.own false 1 (x.AK.map eI),.own false 4 (x.AA.map B0)]
attribute [go_sem] Mk
def sJ (x:Uf):List AV:=[.sl false 1 (x.Program.map Ww),.sl false 1 (x.Ct.map Ww),.sl false 1 (x.RJ.map Ww)]
attribute [go_sem] sJ
def Xk (x:List Bool):List AV:=[.own false 1 (x.map eB)]
@[go_sem]theorem eLBo_se (l:List (List Bool)) (i:Nat) (y0:List Bool):(l.map Xk).set i [.own false 1 (y0.map eB)]=(l.set i y0).map Xk:=by simp[Xk,List.map_set]
attribute [go_sem] Xk
def BV (x:AO):List AV:=[.sl false 5 (x.World.Cells.map Gx),.sl false 2 (x.World.AE.map Hu),.sl false 2 (x.World.Af.map Ht),.sl false 1 (x.World.AK.map eS),.sl false 1 (x.World.AA.map eS),.sl false 3 (x.World.BL.map GX),si x.Start,.sl false 2 (x.Init.Sync.AE.map DS),si x.Init.Sync.Tx,.sl false 1 (x.Init.Sync.Bp.map eB),.sl false 3 (x.Init.Sync.AA.map An),.sl false 1 (x.Init.Cells.map eI),.sl false 1 (x.Init.AK.map eI),.sl false 1 (x.Init.Count.map eI),.sl false 7 (x.AF.map BX)]
attribute [go_sem] BV
def JM (x:AO):List AV:=[.sl false 5 (x.World.Cells.map Gx),.sl false 2 (x.World.AE.map Hu),.sl false 2 (x.World.Af.map Ht),.sl false 1 (x.World.AK.map eS),.sl false 1 (x.World.AA.map eS),.sl false 3 (x.World.BL.map GX),si x.Start,.own false 2 (x.Init.Sync.AE.map Bn),si x.Init.Sync.Tx,.own false 1 (x.Init.Sync.Bp.map eB),.own false 3 (x.Init.Sync.AA.map An),.own false 1 (x.Init.Cells.map eI),.own false 1 (x.Init.AK.map eI),.own false 1 (x.Init.Count.map eI),.sl false 7 (x.AF.map BX)]
@[go_sem]theorem eWindowo_sn (l:List AO) (y0:List DL) (y1:List Ia) (y2:List Nc) (y3:List ByteArray) (y4:List ByteArray) (y5:List Da) (y6:Int) (y7:List AW) (y8:Int) (y9:List Bool) (y10:List AH) (y11:List Int) (y12:List Int) (y13:List Int) (y14:List AG):l.map JM++[[.sl false 5 (y0.map Gx),.sl false 2 (y1.map Hu),.sl false 2 (y2.map Ht),.sl false 1 (y3.map eS),.sl false 1 (y4.map eS),.sl false 3 (y5.map GX),si y6,.own false 2 (y7.map Bn),si y8,.own false 1 (y9.map eB),.own false 3 (y10.map An),.own false 1 (y11.map eI),.own false 1 (y12.map eI),.own false 1 (y13.map eI),.sl false 7 (y14.map BX)]]=(l++[(AO.mk (AD.mk y0 y1 y2 y3 y4 y5) y6 (AB.mk (AP.mk y7 y8 y9 y10) y11 y12 y13) y14)]).map JM:=by simp[JM]
@[go_sem]theorem eWindowo_fz (l:List AO):Ni (l.map JM)=l.map BV:=by induction l with|nil=>rfl|cons x l ih=>simp only[List.map_cons,Ni,ih,go_sem,JM,BV]
attribute [go_sem] JM
def uS (x:Vr):List AV:=[.sl false 1 (x.Program.map Ww),.sl false 1 (x.Ct.map Ww),.sl false 1 (x.RJ.map Ww),.sc (.int .u8 x.Bw),.sc (.int .u8 x.yP)]
attribute [go_sem] uS
def K6 (x:D5):List AV:=[.sl false 1 (x.HW.map eI),.sl false 1 (x.MX.map eI)]
@[go_sem]theorem eHeld_se (l:List D5) (i:Nat) (y0:List Int) (y1:List Int):(l.map K6).set i [.sl false 1 (y0.map eI),.sl false 1 (y1.map eI)]=(l.set i (D5.mk y0 y1)).map K6:=by simp[K6,List.map_set]
@[go_sem]theorem eHeld_re3 (n:Nat):List.replicate n [.sl false 1 [],.sl false 1 []]=(List.replicate n (D5.mk [] [])).map K6:=by simp[K6]
attribute [go_sem] K6
def Wu (x:DO):List AV:=[si x.State,si x.B6,.sl false 1 (x.AE.map eI)]
attribute [go_sem] Wu
@[go_sem]theorem eLBo_em (n:Nat):(List.replicate n ([]:List Bool)).map Xk=(List.replicate n ([]:List Int)).map Ng:=by simp[Xk,Ng]
abbrev z0:List AV:=[.own false 2 [],si 0,.own false 1 [],.own false 3 [],.own false 1 [],.own false 1 [],.own false 1 []]
abbrev z1:List AV:=[si 0,si 0,BZ ⟨#[]⟩,BZ ⟨#[]⟩,.own false 4 [],si 0,si 0,BZ ⟨#[]⟩,.own false 4 [],.own false 11 [],.own false 11 []]
abbrev z2:List AV:=[si 0,si 0,si 0,si 0,si 0,.own false 1 [],.own false 1 []]
abbrev z3:List AV:=[.own false 2 [],si 0,.own false 1 [],.own false 3 [],.own false 1 [],.own false 1 [],.own false 4 []]
abbrev z4:List AV:=[.own false 2 [],si 0,.own false 1 [],.own false 3 []]
abbrev z5:List AV:=[si 0,si 0,BZ ⟨#[]⟩,BZ ⟨#[]⟩,.sl false 4 [],si 0,si 0,BZ ⟨#[]⟩,.sl false 4 [],.sl false 11 [],.sl false 11 []]
abbrev z6:List AV:=[.own false 2 [],si 0,.own false 1 [],.own false 3 [],.own false 2 [],.own false 2 [],.own false 1 [],.own false 1 [],.own false 1 []]
abbrev z7:List AV:=[.own false 5 [],.own false 2 [],.own false 2 [],.own false 1 [],.own false 1 [],.own false 3 [],si 0,.own false 2 [],si 0,.own false 1 [],.own false 3 [],.own false 1 [],.own false 1 [],.own false 1 [],.own false 7 []]
abbrev z8:List AV:=[.own false 5 [],.own false 2 [],.own false 2 [],.own false 1 [],.own false 1 [],.own false 3 []]
abbrev z9:List AV:=[si 0,.own false 1 [],.own false 1 [],si 0]
abbrev z10:List AV:=[.own false 5 [],.own false 2 [],.own false 2 [],.own false 1 [],.own false 1 [],.own false 3 [],.own false 7 []]
abbrev z11:List AV:=[.own false 5 [],.own false 2 [],.own false 2 [],.own false 1 [],.own false 1 [],.own false 3 [],.own false 2 []]
abbrev z12:List AV:=[BZ ⟨#[]⟩,si 0,.own false 1 [],.own false 11 []]
abbrev z13:List AV:=[.sl false 5 [],.sl false 2 [],.sl false 2 [],.sl false 1 [],.sl false 1 [],.sl false 3 [],.own false 7 []]
abbrev z14:List AV:=[.sl false 2 [],si 0,.sl false 1 [],.sl false 3 [],.sl false 1 [],.sl false 1 [],.sl false 4 []]
abbrev z15:List AV:=[.own false 6 [],.own false 4 []]
abbrev z16:List AV:=[si 0,si 0,.own false 1 []]
abbrev z17:List AV:=[.sc (.int .u8 0),.sc (.int .u8 0),.sc (.int .u8 0),.sc (.int .u8 0),.sc (.int .u8 0),.own false 1 [],.own false 1 []]
abbrev z18:List AV:=[.own false 1 []]
abbrev z19:List (List AV):=[[BZ ⟨#[109,97,105,110]⟩],[BZ ⟨#[116,49]⟩],[BZ ⟨#[116,50]⟩],[BZ ⟨#[116,51]⟩]]
abbrev z20:List AV:=[si 0,si 0,si 0,si 0,si 0,si 0]
abbrev z21:List AV:=[.own false 1 [],.own false 1 []]
abbrev z22:List AV:=[.sc (.pointer none),si 0,si 0,sb false,sb false,sb false,sb false,.own false 1 []]
abbrev z23:List AV:=[si 0,si 0,BZ ⟨#[]⟩,.own false 4 []]
abbrev z24:List AV:=[.own false 2 []]
attribute [go_sem] z0 z1 z2 z3 z4 z5 z6 z7 z8 z9 z10 z11 z12 z13 z14 z15 z16 z17 z18 z19 z20 z21 z22 z23 z24
def y0:Y:=⟨[si 0],.i .i64⟩
def y1:Y:=⟨z18,.l 1 8 [si 0]⟩
def y2:Y:=⟨z8,.s [0,0,0,0,0,0] []⟩
def y3:Y:=⟨z2,.s [0,0,0,0,0,0,0] []⟩
def y4:Y:=⟨z0,.s [4,0,0,0] []⟩
def y5:Y:=⟨z4,.s [0,0,0,0] []⟩
def y6:Y:=⟨z7,.s [6,0,7,0] []⟩
def y7:Y:=⟨z18,.l 1 16 [BZ ⟨#[]⟩]⟩
def y8:Y:=⟨z10,.s [6,0] []⟩
def y9:Y:=⟨[.own false 7 []],.l 7 88 z2⟩
def y10:Y:=⟨[BZ ⟨#[]⟩],.t⟩
def y11:Y:=⟨z1,.s [0,0,0,0,0,4,0,0] []⟩
def y12:Y:=⟨z20,.s [0,0,0,0,0,0] [1,1,1,1,1,1]⟩
def y13:Y:=⟨z23,.s [0,0,0,0] []⟩
def y14:Y:=⟨z24,.l 2 32 [si 0,.own false 1 []]⟩
def y15:Y:=⟨[.own false 3 []],.l 3 24 [si 0,si 0,sb false]⟩
def y16:Y:=⟨[si 0,si 0,sb false],.s [0,0,0] [1,1,0]⟩
def y17:Y:=⟨z15,.s [0,0] []⟩
def y18:Y:=⟨[.own false 5 []],.l 5 48 [BZ ⟨#[]⟩,si 0,si 0,sb false,si 0]⟩
def y19:Y:=⟨z6,.s [4,0,0,0,0,0] []⟩
def y20:Y:=⟨z9,.s [0,0,0,0] []⟩
def y21:Y:=⟨[sb false],.b⟩
def y22:Y:=⟨z24,.l 2 24 [BZ ⟨#[]⟩,sb false]⟩
def y23:Y:=⟨[si 0,.own false 1 []],.s [0,0] []⟩
def y24:Y:=⟨z16,.s [0,0,0] []⟩
def y25:Y:=⟨z18,.l 1 1 [.sc (.int .u8 0)]⟩
def y26:Y:=⟨[BZ ⟨#[]⟩,si 0,si 0,sb false,si 0],.s [0,0,0,0,0] [2,1,1,0,1]⟩
def y27:Y:=⟨z24,.l 2 24 [BZ ⟨#[]⟩,si 0]⟩
def y28:Y:=⟨[si 0,si 0,BZ ⟨#[]⟩,si 0,si 0,BZ ⟨#[]⟩],.s [0,0,0,0,0,0] [1,1,2,1,1,2]⟩
def y29:Y:=⟨z18,.l 1 1 [sb false]⟩
def y30:Y:=⟨[.own false 11 []],.l 11 176 z1⟩
def y31:Y:=⟨z3,.s [4,0,0,0] []⟩
def y32:Y:=⟨z11,.s [6,0] []⟩
def y33:Y:=⟨[.own false 6 []],.l 6 48 z20⟩
def y34:Y:=⟨[.own false 4 []],.l 4 72 z12⟩
def y35:Y:=⟨[.own false 5 [],.own false 2 [],.own false 2 [],.own false 1 [],.own false 1 [],.own false 3 [],.own false 1 [],.own false 6 [],si 0,si 0],.s [6,0,0,0,0] []⟩
def y36:Y:=⟨[.sc (.pointer none)],.o⟩
def y37:Y:=⟨[.own false 3 []],.l 3 24 [si 0,si 0,si 0]⟩
def y38:Y:=⟨[.own false 4 []],.l 4 56 z23⟩
def y39:Y:=⟨[.own false 1 [],.own false 1 [],.own false 1 []],.s [0,0,0] []⟩
def y40:Y:=⟨z21,.s [0,0] []⟩
def y41:Y:=⟨[.sc (.int .u8 0)],.i .u8⟩
def y42:Y:=⟨[.own false 6 []],.l 6 64 [si 0,si 0,BZ ⟨#[]⟩,si 0,si 0,BZ ⟨#[]⟩]⟩
def y43:Y:=⟨z22,.s [0,0,0,0,0,0,0,0] []⟩
def y44:Y:=⟨z18,.l 1 24 z18⟩
def y45:Y:=⟨z24,.l 2 48 z21⟩
def y46:Y:=⟨z24,.l 2 32 [si 0,.own false 6 []]⟩
def y47:Y:=⟨z24,.l 2 16 [si 0,sb false]⟩
def y48:Y:=⟨z12,.s [0,0,0,0] []⟩
def y49:Y:=⟨[si 0,.own false 6 []],.s [0,0] []⟩
def y50:Y:=⟨[si 0,si 0,si 0],.s [0,0,0] [1,1,1]⟩
def y51:Y:=⟨[BZ ⟨#[]⟩,si 0],.s [0,0] [2,1]⟩
def y52:Y:=⟨[.own false 15 []],.l 15 328 z7⟩
def y53:Y:=⟨[.own false 4 []],.l 4 64 z9⟩
def y54:Y:=⟨[.own false 1 [],.own false 1 [],.own false 1 [],.sc (.int .u8 0),.sc (.int .u8 0)],.s [0,0,0,0,0] []⟩
def y55:Y:=⟨z24,.l 2 16 [si 0,si 0]⟩
def y56:Y:=⟨[BZ ⟨#[]⟩,sb false],.s [0,0] [2,0]⟩
def y57:Y:=⟨[si 0,sb false],.s [0,0] [1,0]⟩
def y58:Y:=⟨[si 0,si 0],.s [0,0] [1,1]⟩
def y59:Y:=⟨[.own false 6 [],.own false 4 [],si 0,.own false 11 [],.own false 1 [],.own false 1 []],.s [2,0,0,0,0] []⟩
def y60:Y:=⟨z17,.s [0,0,0,0,0,0,0] []⟩
def y61:Y:=⟨[.own false 1 [],si 0],.s [0,0] []⟩
def y62:Y:=⟨[.sc (.int .u8 0),.sc (.int .u8 0),.sc (.int .i8 0)],.s [0,0,0] [1,1,1]⟩
def y63:Y:=⟨[.own false 3 []],.l 3 40 z16⟩
def y64:Y:=⟨[.own false 4 []],.l 4 80 z4⟩
def y65:Y:=⟨[sb false,sb false],.a 2 1 false⟩
def y66:Y:=⟨z21,.a 2 1 false⟩
def y67:Y:=⟨[.own false 7 []],.l 7 56 z17⟩
def y68:Y:=⟨[.sc (.int .i8 0)],.i .i8⟩
def y69:Y:=⟨[BZ ⟨#[]⟩,BZ ⟨#[]⟩,BZ ⟨#[]⟩,BZ ⟨#[]⟩,BZ ⟨#[]⟩,BZ ⟨#[]⟩,BZ ⟨#[]⟩,BZ ⟨#[]⟩,BZ ⟨#[]⟩,BZ ⟨#[]⟩,BZ ⟨#[]⟩,BZ ⟨#[]⟩,BZ ⟨#[]⟩,BZ ⟨#[]⟩,BZ ⟨#[]⟩,BZ ⟨#[]⟩,BZ ⟨#[]⟩,BZ ⟨#[]⟩,BZ ⟨#[]⟩,BZ ⟨#[]⟩,BZ ⟨#[]⟩,BZ ⟨#[]⟩],.a 22 1 false⟩
def tt:List (Nat×Y):=[(3,y0),(42,y1),(31,y2),(49,y3),(44,y4),(40,y5),(84,y6),(28,y7),(34,y8),(32,y9),(9,y10),(273,y11),(263,y12),(2,y0),(41,y1),(271,y13),(36,y14),(38,y15),(137,y16),(227,y17),(25,y18),(99,y19),(250,y20),(4,y21),(26,y22),(135,y23),(139,y24),(22,y25),(110,y26),(27,y27),(306,y28),(37,y29),(255,y30),(50,y0),(168,y31),(173,y32),(244,y33),(225,y34),(259,y35),(160,y36),(29,y37),(254,y36),(269,y38),(24,y39),(74,y40),(5,y41),(224,y42),(267,y43),(216,y44),(61,y45),(171,y46),(97,y47),(257,y48),(246,y49),(126,y50),(265,y36),(179,y51),(89,y52),(166,y53),(82,y54),(96,y55),(196,y56),(214,y57),(156,y58),(303,y59),(57,y60),(162,y61),(77,y62),(301,y36),(142,y63),(130,y64),(180,y65),(181,y66),(55,y67),(75,y68),(318,y69)]
def cc:List (Nat×Nat):=[(14,1),(15,2),(16,2),(20,2),(21,1),(22,1),(24,1),(26,1),(27,2),(29,2),(31,2),(35,1),(36,1),(40,1),(41,1),(42,1),(43,2),(44,2),(46,1),(50,1),(51,1),(52,2),(58,2),(59,2),(60,2),(70,2),(74,1),(75,1),(76,1),(77,1),(79,1),(80,1),(91,1),(92,2),(93,1),(94,2),(97,1),(98,2),(99,1),(103,2),(106,3),(107,1),(108,1),(115,3),(120,2),(124,1),(130,2),(131,2),(132,1),(134,1),(135,1),(136,2),(137,1),(138,2),(139,2),(145,2),(146,2),(147,2),(148,2),(149,2),(150,2),(151,2),(153,2),(158,1),(159,1),(170,3),(173,2),(175,2),(180,1),(182,1),(185,2),(188,1),(189,1),(203,2),(206,2),(219,3),(233,3),(234,3),(246,1),(247,1)]
def ll:List (Nat×Nat×Option Nat):=[(104,0,none),(105,0,none),(114,0,none),(140,0,none),(174,0,none),(176,0,none),(177,0,none),(183,0,none),(184,0,none),(187,0,none),(217,0,none),(220,0,none),(221,0,none),(240,0,none),(241,0,none),(242,0,none),(243,0,none),(244,0,none),(245,0,none),(248,0,none),(249,0,none),(256,0,none)]
def hn (K:List (Nat×List Nat):=[]) (Q:List (Nat×Nat):=[]) (C:List (Nat×Nat):=[]) (Z:List (Nat×Bool×Nat×List Step):=[]) (F:List Nat:=[]) (E:List (Nat×IC):=[]):Hn:=⟨tt,C++cc,ll,K,Q,Z,F,E⟩
end Go.Abs
namespace Go.Proofs
open Go.Shelf
def Tryz.jY:Go.Shelf.Ren:=⟨λ|189=>114|125=>162|257=>161|128=>200|129=>201|294=>191|295=>192|296=>193|297=>194|298=>195|299=>196|216=>197|300=>198|301=>199|328=>222|329=>223|330=>224|331=>225|332=>226|215=>227|343=>250|n=>n,λ|28=>42|3=>3|46=>231|0=>0|51=>286|53=>288|4=>4|183=>280|182=>279|131=>236|5=>5|9=>9|218=>312|222=>316|228=>335|229=>336|n=>n,λ|n=>n⟩
theorem Tryz.rQ:Go.Proofs.Lays.n189 Tryz.prog Tryz.jY:={
 mixed:=by kernel_rfl
 f125:=Tryz.func162.trans (congrArg some (by kernel_rfl))
 f128:=Tryz.func200.trans (congrArg some (by kernel_rfl))
 f129:=Tryz.func201.trans (congrArg some (by kernel_rfl))
 f189:=Tryz.func114.trans (congrArg some (by kernel_rfl))
 f215:=Tryz.func227.trans (congrArg some (by kernel_rfl))
 f216:=Tryz.func197.trans (congrArg some (by kernel_rfl))
 f257:=Tryz.func161.trans (congrArg some (by kernel_rfl))
 f294:=Tryz.func191.trans (congrArg some (by kernel_rfl))
 f295:=Tryz.func192.trans (congrArg some (by kernel_rfl))
 f296:=Tryz.func193.trans (congrArg some (by kernel_rfl))
 f297:=Tryz.func194.trans (congrArg some (by kernel_rfl))
 f298:=Tryz.func195.trans (congrArg some (by kernel_rfl))
 f299:=Tryz.func196.trans (congrArg some (by kernel_rfl))
 f300:=Tryz.func198.trans (congrArg some (by kernel_rfl))
 f301:=Tryz.func199.trans (congrArg some (by kernel_rfl))
 f328:=Tryz.func222.trans (congrArg some (by kernel_rfl))
 f329:=Tryz.func223.trans (congrArg some (by kernel_rfl))
 f330:=Tryz.func224.trans (congrArg some (by kernel_rfl))
 f331:=Tryz.func225.trans (congrArg some (by kernel_rfl))
 f332:=Tryz.func226.trans (congrArg some (by kernel_rfl))
 f343:=Tryz.func250.trans (congrArg some (by kernel_rfl))
 t0:=Tryz.underlying0
 a0:=Tryz.isAgg0
 z0:=Tryz.sizeOf0
 v0:=Tryz.zeroValue0
 t3:=Tryz.underlying3
 a3:=Tryz.isAgg3
 z3:=Tryz.sizeOf3
 v3:=Tryz.zeroValue3
 t4:=Tryz.underlying4
 a4:=Tryz.isAgg4
 z4:=Tryz.sizeOf4
 v4:=Tryz.zeroValue4
 t5:=Tryz.underlying5
 a5:=Tryz.isAgg5
 z5:=Tryz.sizeOf5
 v5:=Tryz.zeroValue5
 t9:=Tryz.underlying9
 a9:=Tryz.isAgg9
 z9:=Tryz.sizeOf9
 v9:=Tryz.zeroValue9
 t28:=Tryz.underlying42
 a28:=Tryz.isAgg42
 z28:=Tryz.sizeOf42
 v28:=Tryz.zeroValue42
 t46:=Tryz.underlying231
 a46:=Tryz.isAgg231
 z46:=Tryz.sizeOf231
 v46:=Tryz.zeroValue231
 t51:=Tryz.underlying286
 a51:=Tryz.isAgg286
 z51:=Tryz.sizeOf286
 v51:=Tryz.zeroValue286
 t53:=Tryz.underlying288
 a53:=Tryz.isAgg288
 z53:=Tryz.sizeOf288
 v53:=Tryz.zeroValue288
 t131:=Tryz.underlying236
 a131:=Tryz.isAgg236
 z131:=Tryz.sizeOf236
 v131:=Tryz.zeroValue236
 t182:=Tryz.underlying279
 a182:=Tryz.isAgg279
 z182:=Tryz.sizeOf279
 v182:=Tryz.zeroValue279
 t183:=Tryz.underlying280
 a183:=Tryz.isAgg280
 z183:=Tryz.sizeOf280
 v183:=Tryz.zeroValue280
 t218:=Tryz.underlying312
 a218:=Tryz.isAgg312
 z218:=Tryz.sizeOf312
 v218:=Tryz.zeroValue312
 t222:=Tryz.underlying316
 a222:=Tryz.isAgg316
 z222:=Tryz.sizeOf316
 v222:=Tryz.zeroValue316
 t228:=Tryz.underlying335
 a228:=Tryz.isAgg335
 z228:=Tryz.sizeOf335
 v228:=Tryz.zeroValue335
 t229:=Tryz.underlying336
 a229:=Tryz.isAgg336
 z229:=Tryz.sizeOf336
 v229:=Tryz.zeroValue336}
open Go.Sort Go.RowKit in
theorem Tryz.slices_Sort_int (Mg off cap:Nat) (zs:List Int) (w:World) (hH:Holds (Value.int .i64) w Mg off zs.toArray) (TQ:Mg<w.heap.size) (Pn:zs.length<4611686018427387904):
 Calls Tryz.prog 114 #[.slice (some ⟨Mg,off,none⟩) zs.length cap] w λe w'=>
  e= .returned (.tuple #[])/\∃n os,w'=grow (putRow (Value.int .i64) (Sort.ahead w n) Mg off (zs.mergeSort λx y=>decide (x≤y)).toArray) os:=Any.slices_Sort_int Tryz.rQ Mg off cap zs w hH TQ Pn
def Tryz.Zo:Go.Shelf.Ren:=⟨λ|15=>60|n=>n,λ|22=>42|3=>3|4=>4|n=>n,λ|n=>n⟩
theorem Tryz.wN:Go.Proofs.Lays2.n15 Tryz.prog Tryz.Zo:={
 mixed:=by kernel_rfl
 f15:=Tryz.func60.trans (congrArg some (by kernel_rfl))
 t3:=Tryz.underlying3
 a3:=Tryz.isAgg3
 z3:=Tryz.sizeOf3
 v3:=Tryz.zeroValue3
 t4:=Tryz.underlying4
 a4:=Tryz.isAgg4
 z4:=Tryz.sizeOf4
 v4:=Tryz.zeroValue4
 t22:=Tryz.underlying42
 a22:=Tryz.isAgg42
 z22:=Tryz.sizeOf42
 v22:=Tryz.zeroValue42
 i3:=by kernel_rfl}
open Go.RowKit Go.Lib in
theorem Tryz.slices_Clone_int (b off n c:Nat) (zs:List Int) (w:World) (hz:n≤zs.length) (Xx:n*8≤140737488355328) (hc:∀j,j<zs.length->w.cell? ⟨b,off+j,none⟩=some (.int .i64 (zs.getD j 0))):
 Calls Tryz.prog 60 #[.slice (some ⟨b,off,none⟩) n c] w λe w'=>∃v',e= .returned v'/\w'.ownsRow w.heap.size 3 1 v' n ((zs.take n).map (Value.int .i64))/\v'≠ .slice none 0 0/\Below w.heap.size w w':=Any.slices_Clone_int Tryz.wN b off n c zs w hz Xx hc
def Tryz.Zp:Go.Shelf.Ren:=⟨λ|16=>148|n=>n,λ|24=>28|9=>9|4=>4|n=>n,λ|n=>n⟩
theorem Tryz.wQ:Go.Proofs.Lays2.n16 Tryz.prog Tryz.Zp:={
 mixed:=by kernel_rfl
 f16:=Tryz.func148.trans (congrArg some (by kernel_rfl))
 t4:=Tryz.underlying4
 a4:=Tryz.isAgg4
 z4:=Tryz.sizeOf4
 v4:=Tryz.zeroValue4
 t9:=Tryz.underlying9
 a9:=Tryz.isAgg9
 z9:=Tryz.sizeOf9
 v9:=Tryz.zeroValue9
 t24:=Tryz.underlying28
 a24:=Tryz.isAgg28
 z24:=Tryz.sizeOf28
 v24:=Tryz.zeroValue28
 i9:=by kernel_rfl}
open Go.RowKit Go.Lib in
theorem Tryz.slices_Clone_string (b off n c:Nat) (zs:List ByteArray) (w:World) (hz:n≤zs.length) (Xx:n*16≤140737488355328) (hc:∀j,j<zs.length->w.cell? ⟨b,off+j,none⟩=some (.string (zs.getD j ByteArray.empty))):
 Calls Tryz.prog 148 #[.slice (some ⟨b,off,none⟩) n c] w λe w'=>∃v',e= .returned v'/\w'.ownsRow w.heap.size 9 1 v' n ((zs.take n).map (Value.string))/\v'≠ .slice none 0 0/\Below w.heap.size w w':=Any.slices_Clone_string Tryz.wQ b off n c zs w hz Xx hc
def Tryz.Zq:Go.Shelf.Ren:=⟨λ|20=>115|n=>n,λ|22=>42|3=>3|4=>4|0=>0|n=>n,λ|n=>n⟩
theorem Tryz.bU:Go.Proofs.Lays2.n20 Tryz.prog Tryz.Zq:={
 mixed:=by kernel_rfl
 f20:=Tryz.func115.trans (congrArg some (by kernel_rfl))
 t0:=Tryz.underlying0
 a0:=Tryz.isAgg0
 z0:=Tryz.sizeOf0
 v0:=Tryz.zeroValue0
 t3:=Tryz.underlying3
 a3:=Tryz.isAgg3
 z3:=Tryz.sizeOf3
 v3:=Tryz.zeroValue3
 t4:=Tryz.underlying4
 a4:=Tryz.isAgg4
 z4:=Tryz.sizeOf4
 v4:=Tryz.zeroValue4
 t22:=Tryz.underlying42
 a22:=Tryz.isAgg42
 z22:=Tryz.sizeOf42
 v22:=Tryz.zeroValue42
 i3:=by kernel_rfl}
open Go.RowKit Go.Lib Go.Sort in
theorem Tryz.slices_Compact_int (Mg off cap:Nat) (zs:List Int) (w:World) (hH:Holds (Value.int .i64) w Mg off zs.toArray) (Pn:zs.length≤9223372036854775807) (D6:zs.length≤cap):
 Calls Tryz.prog 115 #[.slice (some ⟨Mg,off,none⟩) zs.length cap] w λe w'=>e= .returned (.slice (some ⟨Mg,off,none⟩) (Lib.compact zs).length cap)/\∃q,w'=putRow (Value.int .i64) (Sort.ahead w q) Mg off (Lib.compact zs++List.replicate (zs.length-(Lib.compact zs).length) 0).toArray:=Any.slices_Compact_int Tryz.bU Mg off cap zs w hH Pn D6
open Go.RowKit Go.Lib Go.Sort in
theorem Tryz.slices_Compact_int_empty (a:Option Addr) (cap:Nat) (w:World):
 Calls Tryz.prog 115 #[.slice a 0 cap] w λe w'=>e= .returned (.slice a 0 cap)/\w'=w:=Any.slices_Compact_int_empty Tryz.bU a cap w
def Tryz.Zr:Go.Shelf.Ren:=⟨λ|25=>172|31=>197|32=>205|37=>227|n=>n,λ|22=>42|3=>3|4=>4|40=>231|0=>0|n=>n,λ|n=>n⟩
theorem Tryz.bV:Go.Proofs.Lays2.n25 Tryz.prog Tryz.Zr:={
 mixed:=by kernel_rfl
 f25:=Tryz.func172.trans (congrArg some (by kernel_rfl))
 f31:=Tryz.func197.trans (congrArg some (by kernel_rfl))
 f32:=Tryz.func205.trans (congrArg some (by kernel_rfl))
 f37:=Tryz.func227.trans (congrArg some (by kernel_rfl))
 t0:=Tryz.underlying0
 a0:=Tryz.isAgg0
 z0:=Tryz.sizeOf0
 v0:=Tryz.zeroValue0
 t3:=Tryz.underlying3
 a3:=Tryz.isAgg3
 z3:=Tryz.sizeOf3
 v3:=Tryz.zeroValue3
 t4:=Tryz.underlying4
 a4:=Tryz.isAgg4
 z4:=Tryz.sizeOf4
 v4:=Tryz.zeroValue4
 t22:=Tryz.underlying42
 a22:=Tryz.isAgg42
 z22:=Tryz.sizeOf42
 v22:=Tryz.zeroValue42
 t40:=Tryz.underlying231
 a40:=Tryz.isAgg231
 z40:=Tryz.sizeOf231
 v40:=Tryz.zeroValue231}
open Go.RowKit Go.Lib in
theorem Tryz.slices_BinarySearch_int (b off n c:Nat) (zs:List Int) (x:Int) (w:World) (hz:n≤zs.length) (Xx:n<4611686018427387904) (hc:∀j,j<zs.length->w.cell? ⟨b,off+j,none⟩=some (.int .i64 (zs.getD j 0))) (hs:(zs.take n).Pairwise (· ≤ ·)):
 Calls Tryz.prog 172 #[.slice (some ⟨b,off,none⟩) n c,.int .i64 x] w λe w'=>e= .returned (.tuple #[.int .i64 ((zs.take n).countP (· <x):Nat),.bool ((zs.take n).contains x)])/\∃q,w'=w.drewN q:=Any.slices_BinarySearch_int Tryz.bV b off n c zs x w hz Xx hc hs
open Go.RowKit Go.Sort in
theorem Tryz.slices_Sort_int_none (p:Option Addr) (cap:Nat) (w:World):
 Calls Tryz.prog 114 #[.slice p 0 cap] w λe w'=>e= .returned (.tuple #[])/\w'=w:=Any.slices_Sort_int_none Tryz.rQ p cap w
open Go.RowKit Go.Lib in
theorem Tryz.slices_BinarySearch_int_empty (a:Option Addr) (c:Nat) (x:Int) (w:World):
 Calls Tryz.prog 172 #[.slice a 0 c,.int .i64 x] w λe w'=>e= .returned (.tuple #[.int .i64 0,.bool false])/\w'=w:=Any.slices_BinarySearch_int_empty Tryz.bV a c x w
def Tryz.SF:Go.Shelf.Ren:=⟨λ|43=>115|n=>n,λ|22=>42|23=>3|3=>3|4=>4|0=>0|n=>n,λ|n=>n⟩
theorem Tryz.YM:Go.Proofs.SlLaysE.n43 Tryz.prog Tryz.SF:={
 mixed:=by kernel_rfl
 f43:=⟨Tryz.f115.name,by decide,Tryz.func115.trans (congrArg some (by kernel_rfl))⟩
 t0:=Tryz.underlying0
 a0:=Tryz.isAgg0
 z0:=Tryz.sizeOf0
 v0:=Tryz.zeroValue0
 t3:=Tryz.underlying3
 a3:=Tryz.isAgg3
 z3:=Tryz.sizeOf3
 v3:=Tryz.zeroValue3
 t4:=Tryz.underlying4
 a4:=Tryz.isAgg4
 z4:=Tryz.sizeOf4
 v4:=Tryz.zeroValue4
 t22:=Tryz.underlying42
 a22:=Tryz.isAgg42
 z22:=Tryz.sizeOf42
 v22:=Tryz.zeroValue42
 a23:=Tryz.isAgg3
 z23:=Tryz.sizeOf3}
open Go.RowKit Go.Lib Go.Sort in
theorem Tryz.slices_Compact {α:Type} [Inhabited α] [DecidableEq α] (enc:α->Value) (hO:OneCell enc) (heq:EqlAt Tryz.prog 3 enc (λx y=>decide (x=y))) (Pk:NeqAt Tryz.prog 3 enc (λx y=>decide (x=y))) (zr:α) (v23:∀w,(zeroValue 3).run Tryz.prog w= .ok (enc zr) w) (Mg off cap:Nat) (d:Array α) (w:World) (hH:Holds enc w Mg off d) (Pn:d.size≤9223372036854775807) (D6:d.size≤cap):
 Calls Tryz.prog 115 #[.slice (some ⟨Mg,off,none⟩) d.size cap] w λe w'=>e= .returned (.slice (some ⟨Mg,off,none⟩) (compactUpTo d d.size).length cap)/\∃q,w'=putRow enc (Sort.ahead w q) Mg off (compactUpTo d d.size++List.replicate (d.size-(compactUpTo d d.size).length) zr).toArray:=AnyE.slices_Compact Tryz.YM enc hO heq Pk zr v23 Mg off cap d w hH Pn D6
def Tryz.SH:Go.Shelf.Ren:=⟨λ|10=>116|6=>163|n=>n,λ|22=>42|23=>3|25=>185|3=>3|4=>4|0=>0|n=>n,λ|n=>n⟩
theorem Tryz.YN:Go.Proofs.SlLaysH.n10 Tryz.prog Tryz.SH:={
 mixed:=by kernel_rfl
 f6:=⟨Tryz.f163.name,by decide,Tryz.func163.trans (congrArg some (by kernel_rfl))⟩
 f10:=⟨Tryz.f116.name,by decide,Tryz.func116.trans (congrArg some (by kernel_rfl))⟩
 t0:=Tryz.underlying0
 a0:=Tryz.isAgg0
 z0:=Tryz.sizeOf0
 v0:=Tryz.zeroValue0
 t3:=Tryz.underlying3
 a3:=Tryz.isAgg3
 z3:=Tryz.sizeOf3
 v3:=Tryz.zeroValue3
 t4:=Tryz.underlying4
 a4:=Tryz.isAgg4
 z4:=Tryz.sizeOf4
 v4:=Tryz.zeroValue4
 t22:=Tryz.underlying42
 a22:=Tryz.isAgg42
 z22:=Tryz.sizeOf42
 v22:=Tryz.zeroValue42
 a23:=Tryz.isAgg3
 z23:=Tryz.sizeOf3
 t25:=Tryz.underlying185
 a25:=Tryz.isAgg185
 z25:=Tryz.sizeOf185
 v25:=Tryz.zeroValue185}
open Go.RowKit Go.Lib Go.Sort in
theorem Tryz.slices_DeleteFunc {α:Type} [Inhabited α] (enc:α->Value) (hO:OneCell enc) (p:α->Bool) (g:Nat) (lb:Array Value) (eg:∀args w,(callFunc g args).run Tryz.prog w= .ok (.enter g args) w) (zr:α) (v23:∀w,(zeroValue 3).run Tryz.prog w= .ok (enc zr) w) (Mg off cap:Nat) (d:Array α) (w:World) (hp:PredAt Tryz.prog g lb enc p w) (hpo:PredOver Tryz.prog g lb enc p Mg off d.size w) (hH:Holds enc w Mg off d) (Pn:d.size≤9223372036854775807) (D6:d.size≤cap):
 Calls Tryz.prog 116 #[.slice (some ⟨Mg,off,none⟩) d.size cap,.func (.func g) #[] lb] w λe w'=>e= .returned (.slice (some ⟨Mg,off,none⟩) (d.toList.filter λx=> !p x).length cap)/\∃q,w'=putRow enc (Sort.ahead w q) Mg off ((d.toList.filter λx=> !p x)++List.replicate (d.size-(d.toList.filter λx=> !p x).length) zr).toArray:=AnyE.slices_DeleteFunc Tryz.YN enc hO p g lb eg zr v23 Mg off cap d w hp hpo hH Pn D6
end Go.Proofs
namespace Go.Abs
open Go.Proofs Go.Sort Go.RowKit
theorem Xh (l:List Int):(Lib.compact l).length≤l.length:=by unfold Lib.compact Lib.compactUpTo;rw[ABI];exact ABc (List.length_filter_le _ _) (by simp)
def LO (l:List Int):AB8 (List Int):=if l.length<4611686018427387904 then some (l.mergeSort λx y=>decide (x≤y))else none
theorem QM {l r:List Int} (h:LO l=some r):BA Tryz.prog 114 [.own false 1 (l.map eI)] (.BM []) [.own false 1 (r.map eI)]:=by obtain⟨g,h⟩:=G9 h;obtain rfl:=AAl h;exact pX Tryz.slices_Sort_int Tryz.slices_Sort_int_none l g
def slices_Compact (l:List Int):AB8 (List Int):=if l.length<4611686018427387904 then some (Lib.compact l)else none
theorem M9 {l r:List Int} (h:slices_Compact l=some r):Says Tryz.prog 115 [.own false 1 (l.map eI)] (.own false 1 (r.map eI)):=by obtain⟨g,h⟩:=G9 h;obtain rfl:=AAl h;exact Ze Tryz.slices_Compact_int Tryz.slices_Compact_int_empty l g (Xh l) rfl
theorem givesEq (b off:Nat) (n x:Int) (W:World) (hc:W.cell? ⟨b,off,none⟩=some (.int .i64 n)):
 FnGives Tryz.prog 117 #[.pointer (some ⟨b,off,none⟩)] #[.int .i64 x] (.bool (x==n)) W:=by
 show Calls Tryz.prog 117 #[.int .i64 x,.pointer (some ⟨b,off,none⟩)] W _
 go_enter Tryz.func117,Tryz.ntmps117
 go_wp2
 all_goals (go_ret;exact⟨by simp_all,0,rfl⟩)
def Io (l:List Int) (n:Int):AB8 (List Int):=if l≠[]/\l.length<4611686018427387904 then some (l.filter λx=> !(x==n))else none
theorem N0 {l r:List Int} {n:Int} (h:Io l n=some r):Says Tryz.prog 116 [.own false 1 (l.map eI),.nY 117 [[si n]]] (.own false 1 (r.map eI)):=by obtain⟨⟨g1,g2⟩,h⟩:=G9 h;obtain rfl:=AAl h;refine dN (q:=λn x=>x==n) ?_ givesEq l n g1 g2;intro lb p Mg off cap d w hp hpo hH Pn D6;exact Tryz.slices_DeleteFunc (Value.int .i64) (λ_=>rfl) p 117 lb (enters_of Tryz.func117 (by kernel_rfl) rfl) 0 (Tryz.zeroValue3) Mg off cap d w hp hpo hH Pn D6
def Lb (l:List Int) (x:Int):AB8 (Int×Bool):=if l.length<4611686018427387904/\l.Pairwise (· ≤ ·)then some (((l.countP (· <x):Nat):Int),l.contains x)else none
theorem Oa {l:List Int} {x:Int} {r:Int×Bool} (h:Lb l x=some r):Says Tryz.prog 172 [.sl false 1 (l.map eI),si x] (.BM [si r.1,sb r.2]):=by obtain⟨⟨g1,g2⟩,h⟩:=G9 h;obtain rfl:=AAl h;exact dI Tryz.slices_BinarySearch_int Tryz.slices_BinarySearch_int_empty l x g1 g2
def Vm (n:Int):AB8 (List Int):=if 0≤n/\n<4611686018427 then some []else none
def growR:Go.Shelf.Ren:=⟨λ|4=>171|n=>n,λ|22=>42|25=>3|n=>n,λ|n=>n⟩
theorem growL:Go.Proofs.Lays8.n4 Tryz.prog growR:={
 mixed:=by kernel_rfl
 f4:=⟨Tryz.f171.name,by decide,Tryz.func171.trans (AB6 some (by kernel_rfl))⟩
 t0:=Tryz.underlying0
 a0:=Tryz.isAgg0
 z0:=Tryz.sizeOf0
 v0:=Tryz.zeroValue0
 t3:=Tryz.underlying3
 a3:=Tryz.isAgg3
 z3:=Tryz.sizeOf3
 v3:=Tryz.zeroValue3
 t4:=Tryz.underlying4
 a4:=Tryz.isAgg4
 z4:=Tryz.sizeOf4
 v4:=Tryz.zeroValue4
 t9:=Tryz.underlying9
 a9:=Tryz.isAgg9
 z9:=Tryz.sizeOf9
 v9:=Tryz.zeroValue9
 t20:=Tryz.underlying20
 a20:=Tryz.isAgg20
 z20:=Tryz.sizeOf20
 v20:=Tryz.zeroValue20
 t22:=Tryz.underlying42
 a22:=Tryz.isAgg42
 z22:=Tryz.sizeOf42
 v22:=Tryz.zeroValue42
}
theorem growS (n:Nat) (hn:n<4611686018427):Says Tryz.prog 171 [.sc (.slice none 0 0),si n] (.own false 1 []):=by
 refine vI (E:=3) ?_ ?_ n (by omega)
 . intro n w h0 hn;have hi:Tryz.prog.info? 3=some ((Tryz.prog.info? 3).getD default):=(by kernel_rfl);have hs:((Tryz.prog.info? 3).getD default).size=1:=(by kernel_rfl);have hb:((Tryz.prog.info? 3).getD default).bytes=8:=(by kernel_rfl);have h:=Any8.slices_Grow_grow growL ((Tryz.prog.info? 3).getD default) (.int .i64 0) hi (by kernel_rfl) (by rw[hs];omega) none 0 0 n [] w (AA8 _) (by omega)
    (by rw[hb];omega) (by omega) (by simp) (by simp) (by simp)
   refine h.mono ?_;rintro e w' ⟨rfl,rfl⟩;refine⟨_,_,?_,rfl,rfl⟩
   have:=grownCap_ge w (0+n) 0 (growR.t 25);rw[ABr]at this;simp only[Array.size_append,size_zeroCells,Value.cells];simp;omega
 . intro w;have h:=Any8.slices_Grow_room growL none 0 0 0 w (by omega) (by omega) (by omega) (by omega);exact h
theorem ZG {n:Int} {r:List Int} (h:Vm n=some r):Says Tryz.prog 171 [.sc (.slice none 0 0),si n] (.own false 1 (r.map eI)):=by obtain⟨⟨g1,g2⟩,h⟩:=G9 h;obtain rfl:=AAl h;obtain⟨m,rfl⟩:=Int.eq_ofNat_of_zero_le g1;exact growS m (by omega)
end Go.Abs
namespace Go.Abs
open Go.Proofs
theorem rb0:laidOutB Tryz.prog=true:=by kernel_rfl
theorem rb1:mapsRowed Tryz.prog=true:=by kernel_rfl
theorem rb2:Tryz.prog.stopsHeard=true:=by kernel_rfl
theorem rb3:Tryz.prog.mayEnter=true:=by kernel_rfl
theorem rb4:Tryz.prog.liftsFinal=false:=by kernel_rfl
theorem rb5:Tryz.prog.plainKeys=true:=by kernel_rfl
theorem rb6:Tryz.prog.mainIs=some (true,"d451a204984a6844bee374a30dabfb0cecc037902d4d03ac54b8394056717808".toList):=by kernel_rfl
theorem rb7:false=Tryz.prog.looks []:=by kernel_rfl
end Go.Abs
