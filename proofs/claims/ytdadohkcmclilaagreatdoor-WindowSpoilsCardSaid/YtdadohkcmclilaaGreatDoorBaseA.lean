/- The types of the program, how their values are read, and the library's functions. -/
import Derived.Test.YtdadohkcmclilaaGreatDoorCoreD
import Derived.Test.YtdadohkcmclilaaGreatDoorChecked
import Derived.KernelRfl
import Derived.Shelf.Small.Bits
import Derived.Shelf.Strconv.Itoa0
import Derived.Shelf.Sort.Plain
import Derived.Ground.Names2Prog
import Derived.Shelf.Slices.Clone
import Derived.Shelf.Slices.CompactI
import Derived.Shelf.Slices.SearchI
import Derived.Shelf.Slices.Cells
import Derived.Shelf.Slices.In.SortNone
import Derived.Ground.SlgnProg
import Derived.Shelf.SlicesE.Compact
import Derived.Shelf.SlicesE.Clone
import Derived.Ground.SlgfProg
import Derived.Shelf.SlicesE.IndexFunc
import Derived.Shelf.SlicesE.DeleteFunc
import Derived.Test.YtdadohkcmclilaaGreatDoorProg
import Derived.Lib.SliceRun
set_option linter.unusedSimpArgs false
set_option linter.unusedVariables false
namespace Go.Abs
open Go.Proofs
set_option maxRecDepth 1000000
set_option maxHeartbeats 4000000
theorem mix:Tryz.prog.follows .mixedOrders=true:=by kernel_rfl
@[go_sem]theorem gamAt0:dG 0 22=some (Km.map Value.string):=by rfl
structure EV where
 Kind:Int
 E8:Int
 Name:ABi
 CG:Int
 Init:Int
 On:ABi
 deriving DecidableEq
structure Dh where
 L:List Int
 At:Int
 deriving DecidableEq
structure BA where
 Op:Int
 N:Int
 Name:ABi
 L:List BA
structure AO where
 t:Dh
 Be:Int
 left:Int
 HB:Bool
 tx:Bool
 atomic:Bool
 loop:Bool
 held:List ABi
 deriving DecidableEq
structure AR where
 Op:Int
 E8:Int
 Name:ABi
 Arg:ABi
 Index:List BA
 Expr:BA
 Body:List AR
 Else:List AR
structure Cj where
 Name:ABi
 E8:Int
 Fh:List ABi
 Body:List AR
structure AU where
 Decls:List EV
 AA:List Cj
structure BI where
 p:AU
 Be:Int
 Fi:List AR
 LS:List ABi
 Xf:List ABi
structure I6 where
 Name:ABi
 RW:Bool
 deriving DecidableEq
structure DS where
 Thread:Int
 Stmt:Int
 E8:Int
 deriving DecidableEq
structure DR where
 Name:ABi
 Index:Int
 CG:Int
 G4:Bool
 Init:Int
 deriving DecidableEq
structure Nj where
 Name:ABi
 Mutex:Int
 deriving DecidableEq
structure AD where
 Cells:List DR
 AG:List I6
 Af:List Nj
 AH:List ABi
 AA:List ABi
 BL:List DS
 deriving DecidableEq
structure Ac where
 Op:Int
 A:Int
 B:Int
 C:Int
 N:Int
 Site:Int
 deriving DecidableEq
structure A8 where
 w:AD
 locals:List ABi
 out:List Ac
 site:Int
 next:Int
 deriving DecidableEq
structure Al where
 B5:Int
 Aw:List Ac
 deriving DecidableEq
structure BB where
 World:AD
 AA:List Al
 deriving DecidableEq
structure BJ where
 Thread:Int
 Px:Int
 deriving DecidableEq
structure AX where
 CS:Int
 Aj:List Int
 deriving DecidableEq
structure AF where
 Status:Int
 DC:Int
 Atomic:Bool
 deriving DecidableEq
structure AQ where
 AG:List AX
 Tx:Int
 B4:List Bool
 AA:List AF
 deriving DecidableEq
structure AM where
 PC:Int
 B5:List Int
 CA:List (List Int)
 AE:Int
 deriving DecidableEq
structure Ae where
 Sync:AQ
 Cells:List Int
 AH:List Int
 AA:List AM
 deriving DecidableEq
structure AK where
 Thread:Int
 Kind:Int
 Obj:Int
 Value:Int
 Site:Int
 EI:List Int
 Dr:List Int
 deriving DecidableEq
structure BN where
 World:AD
 AE:List AK
 deriving DecidableEq
structure AB where
 Sync:AQ
 Cells:List Int
 AH:List Int
 Count:List Int
 deriving DecidableEq
structure AP where
 World:AD
 Start:Int
 Init:AB
 AE:List AK
 deriving DecidableEq
def JR (x:EV):List AV:=[si x.Kind,si x.E8,BZ x.Name,si x.CG,si x.Init,BZ x.On]
attribute [go_sem] JR
def WL (x:Int):List AV:=[.sc (.int .u8 x)]
attribute [go_sem] WL
def UF (x:Dh):List AV:=[.sl false 1 (x.L.map WL),si x.At]
attribute [go_sem] UF
mutual
def BC:BA->List AV
 |⟨y0,y1,y2,y3⟩=>[si y0,si y1,BZ y2,.sl false 4 (Zo y3)]
def Zo:List BA->List (List AV)
 |[]=>[]
 |x::l=>BC x::Zo l
end
theorem eExpr_m (l:List BA):Zo l=l.map BC:=by induction l<;>simp[Zo, *]
@[go_sem]theorem eExpr_d (x:BA):BC x=[si x.Op,si x.N,BZ x.Name,.sl false 4 (x.L.map BC)]:=by cases x;simp[BC,eExpr_m]
@[go_sem]theorem eExpr_eta (x:BA):BA.mk x.Op x.N x.Name x.L=x:=by cases x;rfl
def eS (x:ByteArray):List AV:=[BZ x]
@[go_sem]theorem eS_sn (l:List ByteArray) (y0:ByteArray):l.map eS++[[BZ y0]]=(l++[y0]).map eS:=by simp[eS]
attribute [go_sem] eS
def CR (x:AO):List AV:=[bA 2 [.sl false 1 (x.t.L.map WL),si x.t.At],si x.Be,si x.left,sb x.HB,sb x.tx,sb x.atomic,sb x.loop,.own false 1 (x.held.map eS)]
attribute [go_sem] CR
mutual
def A6:AR->List AV
 |⟨y0,y1,y2,y3,y4,y5,y6,y7⟩=>[si y0,si y1,BZ y2,BZ y3,.sl false 4 (y4.map BC),si y5.Op,si y5.N,BZ y5.Name,.sl false 4 (y5.L.map BC),.sl false 11 (WJ y6),.sl false 11 (WJ y7)]
def WJ:List AR->List (List AV)
 |[]=>[]
 |x::l=>A6 x::WJ l
end
theorem eStmt_m (l:List AR):WJ l=l.map A6:=by induction l<;>simp[WJ, *]
@[go_sem]theorem Zp (x:AR):A6 x=[si x.Op,si x.E8,BZ x.Name,BZ x.Arg,.sl false 4 (x.Index.map BC),si x.Expr.Op,si x.Expr.N,BZ x.Expr.Name,.sl false 4 (x.Expr.L.map BC),.sl false 11 (x.Body.map A6),.sl false 11 (x.Else.map A6)]:=by cases x;simp[A6,eStmt_m]
@[go_sem]theorem eStmt_eta (x:AR):AR.mk x.Op x.E8 x.Name x.Arg x.Index x.Expr x.Body x.Else=x:=by cases x;rfl
@[go_sem]theorem eStmt_sn (l:List AR) (y0:Int) (y1:Int) (y2:ByteArray) (y3:ByteArray) (y4:List BA) (y5:Int) (y6:Int) (y7:ByteArray) (y8:List BA) (y9:List AR) (wC:List AR):l.map A6++[[si y0,si y1,BZ y2,BZ y3,.sl false 4 (y4.map BC),si y5,si y6,BZ y7,.sl false 4 (y8.map BC),.sl false 11 (y9.map A6),.sl false 11 (wC.map A6)]]=(l++[(AR.mk y0 y1 y2 y3 y4 (BA.mk y5 y6 y7 y8) y9 wC)]).map A6:=by simp[Zp]
@[go_sem]theorem eStmt_se (l:List AR) (i:Nat) (y0:Int) (y1:Int) (y2:ByteArray) (y3:ByteArray) (y4:List BA) (y5:Int) (y6:Int) (y7:ByteArray) (y8:List BA) (y9:List AR) (wC:List AR):(l.map A6).set i [si y0,si y1,BZ y2,BZ y3,.sl false 4 (y4.map BC),si y5,si y6,BZ y7,.sl false 4 (y8.map BC),.sl false 11 (y9.map A6),.sl false 11 (wC.map A6)]=(l.set i (AR.mk y0 y1 y2 y3 y4 (BA.mk y5 y6 y7 y8) y9 wC)).map A6:=by simp[Zp,List.map_set]
@[go_sem]theorem eStmt_sn1 (l:List AR) (y0:Int) (y1:Int) (y2:ByteArray) (y3:ByteArray) (y5:Int) (y6:Int) (y7:ByteArray):l.map A6++[[si y0,si y1,BZ y2,BZ y3,.sl false 4 [],si y5,si y6,BZ y7,.sl false 4 [],.sl false 11 [],.sl false 11 []]]=(l++[(AR.mk y0 y1 y2 y3 [] (BA.mk y5 y6 y7 []) [] [])]).map A6:=by simp[Zp]
def IE (x:Cj):List AV:=[BZ x.Name,si x.E8,.sl false 1 (x.Fh.map eS),.sl false 11 (x.Body.map A6)]
@[go_sem]theorem eThread_sn (l:List Cj) (y0:ByteArray) (y1:Int) (y2:List ByteArray) (y3:List AR):l.map IE++[[BZ y0,si y1,.sl false 1 (y2.map eS),.sl false 11 (y3.map A6)]]=(l++[(Cj.mk y0 y1 y2 y3)]).map IE:=by simp[IE]
attribute [go_sem] IE
def CL (x:AU):List AV:=[.sl false 6 (x.Decls.map JR),.sl false 4 (x.AA.map IE)]
attribute [go_sem] CL
def Gv (x:BI):List AV:=[.sl false 6 (x.p.Decls.map JR),.sl false 4 (x.p.AA.map IE),si x.Be,.own false 11 (x.Fi.map A6),.own false 1 (x.LS.map eS),.own false 1 (x.Xf.map eS)]
attribute [go_sem] Gv
def dD (x:Cj):List AV:=[BZ x.Name,si x.E8,.own false 1 (x.Fh.map eS),.own false 11 (x.Body.map A6)]
attribute [go_sem] dD
def Hg (x:I6):List AV:=[BZ x.Name,sb x.RW]
@[go_sem]theorem eLock_sn (l:List I6) (y0:ByteArray) (y1:Bool):l.map Hg++[[BZ y0,sb y1]]=(l++[(I6.mk y0 y1)]).map Hg:=by simp[Hg]
attribute [go_sem] Hg
def GF (x:DS):List AV:=[si x.Thread,si x.Stmt,si x.E8]
@[go_sem]theorem eSite_sn (l:List DS) (y0:Int) (y1:Int) (y2:Int):l.map GF++[[si y0,si y1,si y2]]=(l++[(DS.mk y0 y1 y2)]).map GF:=by simp[GF]
attribute [go_sem] GF
def Gd (x:DR):List AV:=[BZ x.Name,si x.Index,si x.CG,sb x.G4,si x.Init]
@[go_sem]theorem eCell_sn (l:List DR) (y0:ByteArray) (y1:Int) (y2:Int) (y3:Bool) (y4:Int):l.map Gd++[[BZ y0,si y1,si y2,sb y3,si y4]]=(l++[(DR.mk y0 y1 y2 y3 y4)]).map Gd:=by simp[Gd]
attribute [go_sem] Gd
def Hf (x:Nj):List AV:=[BZ x.Name,si x.Mutex]
@[go_sem]theorem eCond_sn (l:List Nj) (y0:ByteArray) (y1:Int):l.map Hf++[[BZ y0,si y1]]=(l++[(Nj.mk y0 y1)]).map Hf:=by simp[Hf]
attribute [go_sem] Hf
def Az (x:AD):List AV:=[.sl false 5 (x.Cells.map Gd),.sl false 2 (x.AG.map Hg),.sl false 2 (x.Af.map Hf),.sl false 1 (x.AH.map eS),.sl false 1 (x.AA.map eS),.sl false 3 (x.BL.map GF)]
attribute [go_sem] Az
def NK (x:AD):List AV:=[.own false 5 (x.Cells.map Gd),.own false 2 (x.AG.map Hg),.own false 2 (x.Af.map Hf),.own false 1 (x.AH.map eS),.own false 1 (x.AA.map eS),.own false 3 (x.BL.map GF)]
attribute [go_sem] NK
def EB (x:Ac):List AV:=[si x.Op,si x.A,si x.B,si x.C,si x.N,si x.Site]
@[go_sem]theorem eInstr_sn (l:List Ac) (y0:Int) (y1:Int) (y2:Int) (y3:Int) (y4:Int) (y5:Int):l.map EB++[[si y0,si y1,si y2,si y3,si y4,si y5]]=(l++[(Ac.mk y0 y1 y2 y3 y4 y5)]).map EB:=by simp[EB]
@[go_sem]theorem eInstr_se (l:List Ac) (i:Nat) (y0:Int) (y1:Int) (y2:Int) (y3:Int) (y4:Int) (y5:Int):(l.map EB).set i [si y0,si y1,si y2,si y3,si y4,si y5]=(l.set i (Ac.mk y0 y1 y2 y3 y4 y5)).map EB:=by simp[EB,List.map_set]
attribute [go_sem] EB
def egen (x:A8):List AV:=[.sl false 5 (x.w.Cells.map Gd),.sl false 2 (x.w.AG.map Hg),.sl false 2 (x.w.Af.map Hf),.sl false 1 (x.w.AH.map eS),.sl false 1 (x.w.AA.map eS),.sl false 3 (x.w.BL.map GF),.sl false 1 (x.locals.map eS),.sl false 6 (x.out.map EB),si x.site,si x.next]
attribute [go_sem] egen
def EJ (x:A8):List AV:=[.sl false 5 (x.w.Cells.map Gd),.sl false 2 (x.w.AG.map Hg),.sl false 2 (x.w.Af.map Hf),.sl false 1 (x.w.AH.map eS),.sl false 1 (x.w.AA.map eS),.sl false 3 (x.w.BL.map GF),.sl false 1 (x.locals.map eS),.own false 6 (x.out.map EB),si x.site,si x.next]
attribute [go_sem] EJ
def eI (x:Int):List AV:=[si x]
@[go_sem]theorem eI_sn (l:List Int) (y0:Int):l.map eI++[[si y0]]=(l++[y0]).map eI:=by simp[eI]
@[go_sem]theorem eI_se (l:List Int) (i:Nat) (y0:Int):(l.map eI).set i [si y0]=(l.set i y0).map eI:=by simp[eI,List.map_set]
@[go_sem]theorem eI_re (n:Nat) (y0:Int):List.replicate n [si y0]=(List.replicate n y0).map eI:=by simp[eI]
attribute [go_sem] eI
def Ce (x:Al):List AV:=[si x.B5,.sl false 6 (x.Aw.map EB)]
@[go_sem]theorem yX (l:List Al) (y0:Int) (y1:List Ac):l.map Ce++[[si y0,.sl false 6 (y1.map EB)]]=(l++[(Al.mk y0 y1)]).map Ce:=by simp[Ce]
attribute [go_sem] Ce
def He (x:BB):List AV:=[.sl false 5 (x.World.Cells.map Gd),.sl false 2 (x.World.AG.map Hg),.sl false 2 (x.World.Af.map Hf),.sl false 1 (x.World.AH.map eS),.sl false 1 (x.World.AA.map eS),.sl false 3 (x.World.BL.map GF),.sl false 2 (x.AA.map Ce)]
attribute [go_sem] He
def Hc (x:BJ):List AV:=[si x.Thread,si x.Px]
@[go_sem]theorem eChoice_sn (l:List BJ) (y0:Int) (y1:Int):l.map Hc++[[si y0,si y1]]=(l++[(BJ.mk y0 y1)]).map Hc:=by simp[Hc]
attribute [go_sem] Hc
def Dk (x:AX):List AV:=[si x.CS,.sl false 1 (x.Aj.map eI)]
attribute [go_sem] Dk
def eB (x:Bool):List AV:=[sb x]
@[go_sem]theorem eB_sn (l:List Bool) (y0:Bool):l.map eB++[[sb y0]]=(l++[y0]).map eB:=by simp[eB]
@[go_sem]theorem eB_se (l:List Bool) (i:Nat) (y0:Bool):(l.map eB).set i [sb y0]=(l.set i y0).map eB:=by simp[eB,List.map_set]
@[go_sem]theorem eB_re (n:Nat) (y0:Bool):List.replicate n [sb y0]=(List.replicate n y0).map eB:=by simp[eB]
attribute [go_sem] eB
def Ax (x:AF):List AV:=[si x.Status,si x.DC,sb x.Atomic]
@[go_sem]theorem zA (l:List AF) (y0:Int) (y1:Int) (y2:Bool):l.map Ax++[[si y0,si y1,sb y2]]=(l++[(AF.mk y0 y1 y2)]).map Ax:=by simp[Ax]
@[go_sem]theorem yZ (l:List AF) (i:Nat) (y0:Int) (y1:Int) (y2:Bool):(l.map Ax).set i [si y0,si y1,sb y2]=(l.set i (AF.mk y0 y1 y2)).map Ax:=by simp[Ax,List.map_set]
@[go_sem]theorem yY (n:Nat) (y0:Int) (y1:Int) (y2:Bool):List.replicate n [si y0,si y1,sb y2]=(List.replicate n (AF.mk y0 y1 y2)).map Ax:=by simp[Ax]
attribute [go_sem] Ax
def FK (x:AQ):List AV:=[.sl false 2 (x.AG.map Dk),si x.Tx,.sl false 1 (x.B4.map eB),.sl false 3 (x.AA.map Ax)]
attribute [go_sem] FK
def B6 (x:AX):List AV:=[si x.CS,.own false 1 (x.Aj.map eI)]
@[go_sem]theorem yW (l:List AX) (y0:Int) (y1:List Int):l.map B6++[[si y0,.own false 1 (y1.map eI)]]=(l++[(AX.mk y0 y1)]).map B6:=by simp[B6]
@[go_sem]theorem yV (l:List AX) (i:Nat) (y0:Int) (y1:List Int):(l.map B6).set i [si y0,.own false 1 (y1.map eI)]=(l.set i (AX.mk y0 y1)).map B6:=by simp[B6,List.map_set]
@[go_sem]theorem nL (l:List AX) (i:Nat) (y0:Int) (y1:Int):(l.map B6).set i [si y0,.own false 1 [[si y1]]]=(l.set i (AX.mk y0 [y1])).map B6:=by simp[B6,eI,List.map_set]
@[go_sem]theorem vH (l:List AX) (y0:Int):l.map B6++[[si y0,.own false 1 []]]=(l++[(AX.mk y0 [])]).map B6:=by simp[B6]
@[go_sem]theorem vG (n:Nat) (y0:Int):List.replicate n [si y0,.own false 1 []]=(List.replicate n (AX.mk y0 [])).map B6:=by simp[B6]
@[go_sem]theorem yU (l:List AX):Mg (l.map B6)=l.map Dk:=by induction l with|nil=>rfl|cons x l ih=>simp only[List.map_cons,Mg,ih,go_sem,B6,Dk]
attribute [go_sem] B6
def HO (x:AQ):List AV:=[.own false 2 (x.AG.map B6),si x.Tx,.own false 1 (x.B4.map eB),.own false 3 (x.AA.map Ax)]
attribute [go_sem] HO
def bD (x:List Int):List AV:=[.sl false 1 (x.map eI)]
@[go_sem]theorem eLI_se (l:List (List Int)) (i:Nat) (y0:List Int):(l.map bD).set i [.sl false 1 (y0.map eI)]=(l.set i y0).map bD:=by simp[bD,List.map_set]
@[go_sem]theorem eLI_se_y0 (l:List (List Int)) (i:Nat) (y0:Int):(l.map bD).set i [.sl false 1 [[si y0]]]=(l.set i [y0]).map bD:=by simp[bD,eI,List.map_set]
@[go_sem]theorem eLI_se1 (l:List (List Int)) (i:Nat):(l.map bD).set i [.sl false 1 []]=(l.set i []).map bD:=by simp[bD,List.map_set]
@[go_sem]theorem eLI_re1 (n:Nat):List.replicate n [.sl false 1 []]=(List.replicate n []).map bD:=by simp[bD]
attribute [go_sem] bD
def Eu (x:AM):List AV:=[si x.PC,.sl false 1 (x.B5.map eI),.sl false 1 (x.CA.map bD),si x.AE]
attribute [go_sem] Eu
def Iz (x:Ae):List AV:=[.sl false 2 (x.Sync.AG.map Dk),si x.Sync.Tx,.sl false 1 (x.Sync.B4.map eB),.sl false 3 (x.Sync.AA.map Ax),.sl false 1 (x.Cells.map eI),.sl false 1 (x.AH.map eI),.sl false 4 (x.AA.map Eu)]
attribute [go_sem] Iz
def Bw (x:AM):List AV:=[si x.PC,.own false 1 (x.B5.map eI),.own false 1 (x.CA.map bD),si x.AE]
@[go_sem]theorem q8 (l:List AM) (y0:Int) (y1:List Int) (y2:List (List Int)) (y3:Int):l.map Bw++[[si y0,.own false 1 (y1.map eI),.own false 1 (y2.map bD),si y3]]=(l++[(AM.mk y0 y1 y2 y3)]).map Bw:=by simp[Bw]
@[go_sem]theorem q7 (l:List AM) (i:Nat) (y0:Int) (y1:List Int) (y2:List (List Int)) (y3:Int):(l.map Bw).set i [si y0,.own false 1 (y1.map eI),.own false 1 (y2.map bD),si y3]=(l.set i (AM.mk y0 y1 y2 y3)).map Bw:=by simp[Bw,List.map_set]
@[go_sem]theorem q6 (l:List AM):Mg (l.map Bw)=l.map Eu:=by induction l with|nil=>rfl|cons x l ih=>simp only[List.map_cons,Mg,ih,go_sem,Bw,Eu]
attribute [go_sem] Bw
def Ll (x:Ae):List AV:=[.own false 2 (x.Sync.AG.map B6),si x.Sync.Tx,.own false 1 (x.Sync.B4.map eB),.own false 3 (x.Sync.AA.map Ax),.own false 1 (x.Cells.map eI),.own false 1 (x.AH.map eI),.own false 4 (x.AA.map Bw)]
attribute [go_sem] Ll
def BQ (x:AK):List AV:=[si x.Thread,si x.Kind,si x.Obj,si x.Value,si x.Site,.sl false 1 (x.EI.map eI),.sl false 1 (x.Dr.map eI)]
@[go_sem]theorem eEvent_sn (l:List AK) (y0:Int) (y1:Int) (y2:Int) (y3:Int) (y4:Int) (y5:List Int) (y6:List Int):l.map BQ++[[si y0,si y1,si y2,si y3,si y4,.sl false 1 (y5.map eI),.sl false 1 (y6.map eI)]]=(l++[(AK.mk y0 y1 y2 y3 y4 y5 y6)]).map BQ:=by simp[BQ]
attribute [go_sem] BQ
def It (x:AK):List AV:=[si x.Thread,si x.Kind,si x.Obj,si x.Value,si x.Site,.own false 1 (x.EI.map eI),.own false 1 (x.Dr.map eI)]
@[go_sem]theorem eEvento_sn (l:List AK) (y0:Int) (y1:Int) (y2:Int) (y3:Int) (y4:Int) (y5:List Int) (y6:List Int):l.map It++[[si y0,si y1,si y2,si y3,si y4,.own false 1 (y5.map eI),.own false 1 (y6.map eI)]]=(l++[(AK.mk y0 y1 y2 y3 y4 y5 y6)]).map It:=by simp[It]
@[go_sem]theorem eEvento_fz (l:List AK):Mg (l.map It)=l.map BQ:=by induction l with|nil=>rfl|cons x l ih=>simp only[List.map_cons,Mg,ih,go_sem,It,BQ]
attribute [go_sem] It
def kJ (x:List Int):List AV:=[.own false 1 (x.map eI)]
@[go_sem]theorem eLIo_sn (l:List (List Int)) (y0:List Int):l.map kJ++[[.own false 1 (y0.map eI)]]=(l++[y0]).map kJ:=by simp[kJ]
@[go_sem]theorem eLIo_fz (l:List (List Int)):Mg (l.map kJ)=l.map bD:=by induction l with|nil=>rfl|cons x l ih=>simp only[List.map_cons,Mg,ih,go_sem,kJ,bD]
attribute [go_sem] kJ
def Ia (x:BN):List AV:=[.sl false 5 (x.World.Cells.map Gd),.sl false 2 (x.World.AG.map Hg),.sl false 2 (x.World.Af.map Hf),.sl false 1 (x.World.AH.map eS),.sl false 1 (x.World.AA.map eS),.sl false 3 (x.World.BL.map GF),.sl false 7 (x.AE.map BQ)]
attribute [go_sem] Ia
def Zq (x:BN):List AV:=[.sl false 5 (x.World.Cells.map Gd),.sl false 2 (x.World.AG.map Hg),.sl false 2 (x.World.Af.map Hf),.sl false 1 (x.World.AH.map eS),.sl false 1 (x.World.AA.map eS),.sl false 3 (x.World.BL.map GF),.own false 7 (x.AE.map BQ)]
attribute [go_sem] Zq
def BH (x:AB):List AV:=[.sl false 2 (x.Sync.AG.map Dk),si x.Sync.Tx,.sl false 1 (x.Sync.B4.map eB),.sl false 3 (x.Sync.AA.map Ax),.sl false 1 (x.Cells.map eI),.sl false 1 (x.AH.map eI),.sl false 1 (x.Count.map eI)]
attribute [go_sem] BH
def Et (x:AB):List AV:=[.own false 2 (x.Sync.AG.map B6),si x.Sync.Tx,.own false 1 (x.Sync.B4.map eB),.own false 3 (x.Sync.AA.map Ax),.own false 1 (x.Cells.map eI),.own false 1 (x.AH.map eI),.own false 1 (x.Count.map eI)]
attribute [go_sem] Et
def Py (x:List Bool):List AV:=[.own false 1 (x.map eB)]
@[go_sem]theorem eLBo_se (l:List (List Bool)) (i:Nat) (y0:List Bool):(l.map Py).set i [.own false 1 (y0.map eB)]=(l.set i y0).map Py:=by simp[Py,List.map_set]
@[go_sem]theorem eLBo_re1 (n:Nat):List.replicate n [.own false 1 []]=(List.replicate n []).map Py:=by simp[Py]
attribute [go_sem] Py
def BW (x:AP):List AV:=[.sl false 5 (x.World.Cells.map Gd),.sl false 2 (x.World.AG.map Hg),.sl false 2 (x.World.Af.map Hf),.sl false 1 (x.World.AH.map eS),.sl false 1 (x.World.AA.map eS),.sl false 3 (x.World.BL.map GF),si x.Start,.sl false 2 (x.Init.Sync.AG.map Dk),si x.Init.Sync.Tx,.sl false 1 (x.Init.Sync.B4.map eB),.sl false 3 (x.Init.Sync.AA.map Ax),.sl false 1 (x.Init.Cells.map eI),.sl false 1 (x.Init.AH.map eI),.sl false 1 (x.Init.Count.map eI),.sl false 7 (x.AE.map BQ)]
attribute [go_sem] BW
def HV (x:AP):List AV:=[.sl false 5 (x.World.Cells.map Gd),.sl false 2 (x.World.AG.map Hg),.sl false 2 (x.World.Af.map Hf),.sl false 1 (x.World.AH.map eS),.sl false 1 (x.World.AA.map eS),.sl false 3 (x.World.BL.map GF),si x.Start,.own false 2 (x.Init.Sync.AG.map B6),si x.Init.Sync.Tx,.own false 1 (x.Init.Sync.B4.map eB),.own false 3 (x.Init.Sync.AA.map Ax),.own false 1 (x.Init.Cells.map eI),.own false 1 (x.Init.AH.map eI),.own false 1 (x.Init.Count.map eI),.sl false 7 (x.AE.map BQ)]
@[go_sem]theorem eWindowo_sn (l:List AP) (y0:List DR) (y1:List I6) (y2:List Nj) (y3:List ByteArray) (y4:List ByteArray) (y5:List DS) (y6:Int) (y7:List AX) (y8:Int) (y9:List Bool) (wC:List AF) (y11:List Int) (y12:List Int) (y13:List Int) (y14:List AK):l.map HV++[[.sl false 5 (y0.map Gd),.sl false 2 (y1.map Hg),.sl false 2 (y2.map Hf),.sl false 1 (y3.map eS),.sl false 1 (y4.map eS),.sl false 3 (y5.map GF),si y6,.own false 2 (y7.map B6),si y8,.own false 1 (y9.map eB),.own false 3 (wC.map Ax),.own false 1 (y11.map eI),.own false 1 (y12.map eI),.own false 1 (y13.map eI),.sl false 7 (y14.map BQ)]]=(l++[(AP.mk (AD.mk y0 y1 y2 y3 y4 y5) y6 (AB.mk (AQ.mk y7 y8 y9 wC) y11 y12 y13) y14)]).map HV:=by simp[HV]
@[go_sem]theorem eWindowo_fz (l:List AP):Mg (l.map HV)=l.map BW:=by induction l with|nil=>rfl|cons x l ih=>simp only[List.map_cons,Mg,ih,go_sem,HV,BW]
attribute [go_sem] HV
abbrev z0:List AV:=[.own false 2 [],si 0,.own false 1 [],.own false 3 [],.own false 1 [],.own false 1 [],.own false 1 []]
abbrev z1:List AV:=[si 0,si 0,BZ ⟨#[]⟩,BZ ⟨#[]⟩,.own false 4 [],si 0,si 0,BZ ⟨#[]⟩,.own false 4 [],.own false 11 [],.own false 11 []]
abbrev z2:List AV:=[.own false 2 [],si 0,.own false 1 [],.own false 3 [],.own false 1 [],.own false 1 [],.own false 4 []]
abbrev z3:List AV:=[.own false 2 [],si 0,.own false 1 [],.own false 3 []]
abbrev z4:List AV:=[si 0,si 0,BZ ⟨#[]⟩,BZ ⟨#[]⟩,.sl false 4 [],si 0,si 0,BZ ⟨#[]⟩,.sl false 4 [],.sl false 11 [],.sl false 11 []]
abbrev z5:List AV:=[si 0,si 0,si 0,si 0,si 0,.own false 1 [],.own false 1 []]
abbrev z6:List AV:=[.own false 5 [],.own false 2 [],.own false 2 [],.own false 1 [],.own false 1 [],.own false 3 [],si 0,.own false 2 [],si 0,.own false 1 [],.own false 3 [],.own false 1 [],.own false 1 [],.own false 1 [],.own false 7 []]
abbrev z7:List AV:=[.own false 5 [],.own false 2 [],.own false 2 [],.own false 1 [],.own false 1 [],.own false 3 []]
abbrev z8:List AV:=[si 0,.own false 1 [],.own false 1 [],si 0]
abbrev z9:List AV:=[.own false 5 [],.own false 2 [],.own false 2 [],.own false 1 [],.own false 1 [],.own false 3 [],.own false 2 []]
abbrev z10:List AV:=[BZ ⟨#[]⟩,si 0,.own false 1 [],.own false 11 []]
abbrev z11:List AV:=[.sl false 5 [],.sl false 2 [],.sl false 2 [],.sl false 1 [],.sl false 1 [],.sl false 3 [],.own false 7 []]
abbrev z12:List AV:=[.sl false 2 [],si 0,.sl false 1 [],.sl false 3 [],.sl false 1 [],.sl false 1 [],.sl false 4 []]
abbrev z13:List AV:=[.own false 6 [],.own false 4 []]
abbrev z14:List (List AV):=[[BZ ⟨#[109,97,105,110]⟩],[BZ ⟨#[116,49]⟩],[BZ ⟨#[116,50]⟩],[BZ ⟨#[116,51]⟩]]
abbrev z15:List AV:=[si 0,si 0,si 0,si 0,si 0,si 0]
abbrev z16:List AV:=[.own false 1 []]
abbrev z17:List AV:=[.sc (.pointer none),si 0,si 0,sb false,sb false,sb false,sb false,.own false 1 []]
abbrev z18:List AV:=[si 0,si 0,BZ ⟨#[]⟩,.own false 4 []]
attribute [go_sem] z0 z1 z2 z3 z4 z5 z6 z7 z8 z9 z10 z11 z12 z13 z14 z15 z16 z17 z18
def y0:Y:=⟨[si 0],.i .i64⟩
def y1:Y:=⟨z7,.s [0,0,0,0,0,0] []⟩
def y2:Y:=⟨z0,.s [4,0,0,0] []⟩
def y3:Y:=⟨z16,.l 1 8 [si 0]⟩
def y4:Y:=⟨z5,.s [0,0,0,0,0,0,0] []⟩
def y5:Y:=⟨z3,.s [0,0,0,0] []⟩
def y6:Y:=⟨z16,.l 1 16 [BZ ⟨#[]⟩]⟩
def y7:Y:=⟨[BZ ⟨#[]⟩],.t⟩
def y8:Y:=⟨z6,.s [6,0,7,0] []⟩
def y9:Y:=⟨z1,.s [0,0,0,0,0,4,0,0] []⟩
def wC:Y:=⟨z15,.s [0,0,0,0,0,0] [1,1,1,1,1,1]⟩
def y11:Y:=⟨z18,.s [0,0,0,0] []⟩
def y12:Y:=⟨[.own false 7 []],.l 7 88 z5⟩
def y13:Y:=⟨[.own false 2 []],.l 2 32 [si 0,.own false 1 []]⟩
def y14:Y:=⟨[.own false 3 []],.l 3 24 [si 0,si 0,sb false]⟩
def y15:Y:=⟨z13,.s [0,0] []⟩
def y16:Y:=⟨[si 0,si 0,sb false],.s [0,0,0] [1,1,0]⟩
def y17:Y:=⟨[.own false 5 [],.own false 2 [],.own false 2 [],.own false 1 [],.own false 1 [],.own false 3 [],.own false 7 []],.s [6,0] []⟩
def y18:Y:=⟨z8,.s [0,0,0,0] []⟩
def y19:Y:=⟨[.own false 5 []],.l 5 48 [BZ ⟨#[]⟩,si 0,si 0,sb false,si 0]⟩
def y20:Y:=⟨[.own false 2 []],.l 2 24 [BZ ⟨#[]⟩,sb false]⟩
def y21:Y:=⟨[sb false],.b⟩
def y22:Y:=⟨z2,.s [4,0,0,0] []⟩
def y23:Y:=⟨[si 0,.own false 1 []],.s [0,0] []⟩
def y24:Y:=⟨[si 0,si 0,BZ ⟨#[]⟩,si 0,si 0,BZ ⟨#[]⟩],.s [0,0,0,0,0,0] [1,1,2,1,1,2]⟩
def y25:Y:=⟨z9,.s [6,0] []⟩
def y26:Y:=⟨[.own false 11 []],.l 11 176 z1⟩
def y27:Y:=⟨[.own false 2 []],.l 2 24 [BZ ⟨#[]⟩,si 0]⟩
def y28:Y:=⟨[.own false 6 []],.l 6 48 z15⟩
def y29:Y:=⟨[BZ ⟨#[]⟩,si 0,si 0,sb false,si 0],.s [0,0,0,0,0] [2,1,1,0,1]⟩
def y30:Y:=⟨[.own false 4 []],.l 4 72 z10⟩
def y31:Y:=⟨[.own false 5 [],.own false 2 [],.own false 2 [],.own false 1 [],.own false 1 [],.own false 3 [],.own false 1 [],.own false 6 [],si 0,si 0],.s [6,0,0,0,0] []⟩
def y32:Y:=⟨[.sc (.pointer none)],.o⟩
def y33:Y:=⟨[.own false 4 []],.l 4 56 z18⟩
def y34:Y:=⟨z16,.l 1 1 [sb false]⟩
def y35:Y:=⟨[.own false 3 []],.l 3 24 [si 0,si 0,si 0]⟩
def y36:Y:=⟨[.own false 6 []],.l 6 64 [si 0,si 0,BZ ⟨#[]⟩,si 0,si 0,BZ ⟨#[]⟩]⟩
def y37:Y:=⟨z17,.s [0,0,0,0,0,0,0,0] []⟩
def y38:Y:=⟨z16,.l 1 1 [.sc (.int .u8 0)]⟩
def y39:Y:=⟨[.own false 15 []],.l 15 328 z6⟩
def y40:Y:=⟨[.own false 2 []],.l 2 32 [si 0,.own false 6 []]⟩
def y41:Y:=⟨z16,.l 1 24 z16⟩
def y42:Y:=⟨z10,.s [0,0,0,0] []⟩
def y43:Y:=⟨[si 0,.own false 6 []],.s [0,0] []⟩
def y44:Y:=⟨[.sc (.int .u8 0)],.i .u8⟩
def y45:Y:=⟨[.own false 4 []],.l 4 64 z8⟩
def y46:Y:=⟨[si 0,si 0,si 0],.s [0,0,0] [1,1,1]⟩
def y47:Y:=⟨[BZ ⟨#[]⟩,si 0],.s [0,0] [2,1]⟩
def y48:Y:=⟨[BZ ⟨#[]⟩,sb false],.s [0,0] [2,0]⟩
def y49:Y:=⟨[.own false 6 [],.own false 4 [],si 0,.own false 11 [],.own false 1 [],.own false 1 []],.s [2,0,0,0,0] []⟩
def y50:Y:=⟨[.own false 2 []],.l 2 16 [si 0,si 0]⟩
def y51:Y:=⟨[si 0,si 0],.s [0,0] [1,1]⟩
def y52:Y:=⟨[.own false 1 [],si 0],.s [0,0] []⟩
def y53:Y:=⟨[.own false 1 [],.own false 1 []],.a 2 1 false⟩
def y54:Y:=⟨[sb false,sb false],.a 2 1 false⟩
def y55:Y:=⟨[BZ ⟨#[]⟩,BZ ⟨#[]⟩,BZ ⟨#[]⟩,BZ ⟨#[]⟩,BZ ⟨#[]⟩,BZ ⟨#[]⟩,BZ ⟨#[]⟩,BZ ⟨#[]⟩,BZ ⟨#[]⟩,BZ ⟨#[]⟩,BZ ⟨#[]⟩,BZ ⟨#[]⟩,BZ ⟨#[]⟩,BZ ⟨#[]⟩,BZ ⟨#[]⟩,BZ ⟨#[]⟩,BZ ⟨#[]⟩,BZ ⟨#[]⟩,BZ ⟨#[]⟩,BZ ⟨#[]⟩,BZ ⟨#[]⟩,BZ ⟨#[]⟩],.a 22 1 false⟩
def tt:List (Nat×Y):=[(3,y0),(29,y1),(50,y2),(48,y3),(83,y4),(46,y5),(26,y6),(9,y7),(52,y8),(143,y9),(127,wC),(47,y3),(2,y0),(141,y11),(34,y12),(42,y13),(44,y14),(90,y15),(73,y16),(36,y17),(65,y18),(23,y19),(24,y20),(4,y21),(55,y22),(75,y23),(199,y24),(32,y25),(118,y26),(25,y27),(121,y28),(151,y29),(88,y30),(123,y31),(117,y32),(139,y33),(43,y34),(39,y0),(27,y35),(87,y36),(136,y37),(22,y38),(38,y39),(30,y40),(63,y41),(120,y42),(129,y43),(5,y44),(53,y45),(162,y46),(131,y32),(132,y32),(158,y47),(155,y48),(196,y49),(58,y50),(106,y51),(194,y32),(134,y52),(182,y53),(206,y54),(271,y55)]
def cc:List (Nat×Nat):=[(9,1),(10,1),(11,1),(12,3),(13,2),(20,3),(22,3),(23,2),(24,2),(27,1),(28,1),(29,1),(31,2),(32,1),(33,2),(34,1),(35,2),(52,2),(55,2),(58,1),(61,2),(65,1),(66,1),(68,2),(69,2),(70,2),(71,2),(72,2),(73,2),(74,2),(75,2),(76,2),(77,2),(83,2),(85,1),(86,2),(87,2),(93,1),(103,2),(105,2),(113,3),(140,2),(141,2),(142,1),(155,1),(156,1),(169,3),(170,3),(172,2),(174,3)]
def ll:List (Nat×Nat×Option Nat):=[(59,0,none),(60,0,none),(63,0,none),(64,0,none),(111,0,none),(114,0,none),(115,0,none),(149,0,none),(150,0,none),(151,0,none),(152,0,none),(153,0,none),(154,0,none),(157,0,none),(158,0,none),(176,0,none)]
def hn (K:List (Nat×List Nat):=[]) (Q:List (Nat×Nat):=[]) (C:List (Nat×Nat):=[]) (Z:List (Nat×Bool×Nat×List Step):=[]) (F:List Nat:=[]) (E:List (Nat×IC):=[]):Hn:=⟨tt,C++cc,ll,K,Q,Z,F,E⟩
end Go.Abs
namespace Go.Proofs
open Go.Shelf
def Tryz.eD:Go.Shelf.Ren:=⟨λ|189=>120|125=>161|257=>160|128=>192|129=>193|294=>183|295=>184|296=>185|297=>186|298=>187|299=>188|216=>189|300=>190|301=>191|328=>203|329=>204|330=>205|331=>206|332=>207|215=>208|343=>211|n=>n,λ|28=>48|3=>3|46=>237|0=>0|51=>263|53=>265|4=>4|183=>256|182=>255|131=>260|5=>5|9=>9|218=>276|222=>280|228=>283|229=>274|n=>n,λ|n=>n⟩
theorem Tryz.oK:Go.Proofs.Lays.n189 Tryz.prog Tryz.eD:={
 mixed:=by kernel_rfl
 f125:=Tryz.func161.trans (congrArg some (by kernel_rfl))
 f128:=Tryz.func192.trans (congrArg some (by kernel_rfl))
 f129:=Tryz.func193.trans (congrArg some (by kernel_rfl))
 f189:=Tryz.func120.trans (congrArg some (by kernel_rfl))
 f215:=Tryz.func208.trans (congrArg some (by kernel_rfl))
 f216:=Tryz.func189.trans (congrArg some (by kernel_rfl))
 f257:=Tryz.func160.trans (congrArg some (by kernel_rfl))
 f294:=Tryz.func183.trans (congrArg some (by kernel_rfl))
 f295:=Tryz.func184.trans (congrArg some (by kernel_rfl))
 f296:=Tryz.func185.trans (congrArg some (by kernel_rfl))
 f297:=Tryz.func186.trans (congrArg some (by kernel_rfl))
 f298:=Tryz.func187.trans (congrArg some (by kernel_rfl))
 f299:=Tryz.func188.trans (congrArg some (by kernel_rfl))
 f300:=Tryz.func190.trans (congrArg some (by kernel_rfl))
 f301:=Tryz.func191.trans (congrArg some (by kernel_rfl))
 f328:=Tryz.func203.trans (congrArg some (by kernel_rfl))
 f329:=Tryz.func204.trans (congrArg some (by kernel_rfl))
 f330:=Tryz.func205.trans (congrArg some (by kernel_rfl))
 f331:=Tryz.func206.trans (congrArg some (by kernel_rfl))
 f332:=Tryz.func207.trans (congrArg some (by kernel_rfl))
 f343:=Tryz.func211.trans (congrArg some (by kernel_rfl))
 t0:=Tryz.underlying0
 a0:=Tryz.isAgg0
 z0:=Tryz.sizeOf0
 v0:=Tryz.zeroValue0
 t3:=Tryz.underlying3
 a3:=Tryz.isAgg3
 z3:=Tryz.sizeOf3
 v3:=Tryz.zeroValue3
 t4:=Tryz.underlying4
 a4:=Tryz.isAgg4
 z4:=Tryz.sizeOf4
 v4:=Tryz.zeroValue4
 t5:=Tryz.underlying5
 a5:=Tryz.isAgg5
 z5:=Tryz.sizeOf5
 v5:=Tryz.zeroValue5
 t9:=Tryz.underlying9
 a9:=Tryz.isAgg9
 z9:=Tryz.sizeOf9
 v9:=Tryz.zeroValue9
 t28:=Tryz.underlying48
 a28:=Tryz.isAgg48
 z28:=Tryz.sizeOf48
 v28:=Tryz.zeroValue48
 t46:=Tryz.underlying237
 a46:=Tryz.isAgg237
 z46:=Tryz.sizeOf237
 v46:=Tryz.zeroValue237
 t51:=Tryz.underlying263
 a51:=Tryz.isAgg263
 z51:=Tryz.sizeOf263
 v51:=Tryz.zeroValue263
 t53:=Tryz.underlying265
 a53:=Tryz.isAgg265
 z53:=Tryz.sizeOf265
 v53:=Tryz.zeroValue265
 t131:=Tryz.underlying260
 a131:=Tryz.isAgg260
 z131:=Tryz.sizeOf260
 v131:=Tryz.zeroValue260
 t182:=Tryz.underlying255
 a182:=Tryz.isAgg255
 z182:=Tryz.sizeOf255
 v182:=Tryz.zeroValue255
 t183:=Tryz.underlying256
 a183:=Tryz.isAgg256
 z183:=Tryz.sizeOf256
 v183:=Tryz.zeroValue256
 t218:=Tryz.underlying276
 a218:=Tryz.isAgg276
 z218:=Tryz.sizeOf276
 v218:=Tryz.zeroValue276
 t222:=Tryz.underlying280
 a222:=Tryz.isAgg280
 z222:=Tryz.sizeOf280
 v222:=Tryz.zeroValue280
 t228:=Tryz.underlying283
 a228:=Tryz.isAgg283
 z228:=Tryz.sizeOf283
 v228:=Tryz.zeroValue283
 t229:=Tryz.underlying274
 a229:=Tryz.isAgg274
 z229:=Tryz.sizeOf274
 v229:=Tryz.zeroValue274}
open Go.Sort Go.RowKit in
theorem Tryz.slices_Sort_int (Lh off cap:Nat) (zs:List Int) (w:World) (hH:Holds (Value.int .i64) w Lh off zs.toArray) (Ry:Lh<w.heap.size) (P3:zs.length<4611686018427387904):
 Calls Tryz.prog 120 #[.slice (some ⟨Lh,off,none⟩) zs.length cap] w λe w'=>
  e= .returned (.tuple #[])/\∃n os,w'=grow (putRow (Value.int .i64) (Sort.ahead w n) Lh off (zs.mergeSort λx y=>decide (x≤y)).toArray) os:=Any.slices_Sort_int Tryz.oK Lh off cap zs w hH Ry P3
def Tryz.YD:Go.Shelf.Ren:=⟨λ|15=>75|n=>n,λ|22=>48|3=>3|4=>4|n=>n,λ|n=>n⟩
theorem Tryz.sO:Go.Proofs.Lays2.n15 Tryz.prog Tryz.YD:={
 mixed:=by kernel_rfl
 f15:=Tryz.func75.trans (congrArg some (by kernel_rfl))
 t3:=Tryz.underlying3
 a3:=Tryz.isAgg3
 z3:=Tryz.sizeOf3
 v3:=Tryz.zeroValue3
 t4:=Tryz.underlying4
 a4:=Tryz.isAgg4
 z4:=Tryz.sizeOf4
 v4:=Tryz.zeroValue4
 t22:=Tryz.underlying48
 a22:=Tryz.isAgg48
 z22:=Tryz.sizeOf48
 v22:=Tryz.zeroValue48
 i3:=by kernel_rfl}
open Go.RowKit Go.Lib in
theorem Tryz.slices_Clone_int (b off n c:Nat) (zs:List Int) (w:World) (hz:n≤zs.length) (rR:n*8≤140737488355328) (hc:∀j,j<zs.length->w.cell? ⟨b,off+j,none⟩=some (.int .i64 (zs.getD j 0))):
 Calls Tryz.prog 75 #[.slice (some ⟨b,off,none⟩) n c] w λe w'=>∃v',e= .returned v'/\w'.ownsRow w.heap.size 3 1 v' n ((zs.take n).map (Value.int .i64))/\v'≠ .slice none 0 0/\Below w.heap.size w w':=Any.slices_Clone_int Tryz.sO b off n c zs w hz rR hc
def Tryz.YE:Go.Shelf.Ren:=⟨λ|16=>72|n=>n,λ|24=>26|9=>9|4=>4|n=>n,λ|n=>n⟩
theorem Tryz.sP:Go.Proofs.Lays2.n16 Tryz.prog Tryz.YE:={
 mixed:=by kernel_rfl
 f16:=Tryz.func72.trans (congrArg some (by kernel_rfl))
 t4:=Tryz.underlying4
 a4:=Tryz.isAgg4
 z4:=Tryz.sizeOf4
 v4:=Tryz.zeroValue4
 t9:=Tryz.underlying9
 a9:=Tryz.isAgg9
 z9:=Tryz.sizeOf9
 v9:=Tryz.zeroValue9
 t24:=Tryz.underlying26
 a24:=Tryz.isAgg26
 z24:=Tryz.sizeOf26
 v24:=Tryz.zeroValue26
 i9:=by kernel_rfl}
open Go.RowKit Go.Lib in
theorem Tryz.slices_Clone_string (b off n c:Nat) (zs:List ByteArray) (w:World) (hz:n≤zs.length) (rR:n*16≤140737488355328) (hc:∀j,j<zs.length->w.cell? ⟨b,off+j,none⟩=some (.string (zs.getD j ByteArray.empty))):
 Calls Tryz.prog 72 #[.slice (some ⟨b,off,none⟩) n c] w λe w'=>∃v',e= .returned v'/\w'.ownsRow w.heap.size 9 1 v' n ((zs.take n).map (Value.string))/\v'≠ .slice none 0 0/\Below w.heap.size w w':=Any.slices_Clone_string Tryz.sP b off n c zs w hz rR hc
def Tryz.YF:Go.Shelf.Ren:=⟨λ|20=>121|n=>n,λ|22=>48|3=>3|4=>4|0=>0|n=>n,λ|n=>n⟩
theorem Tryz.Y9:Go.Proofs.Lays2.n20 Tryz.prog Tryz.YF:={
 mixed:=by kernel_rfl
 f20:=Tryz.func121.trans (congrArg some (by kernel_rfl))
 t0:=Tryz.underlying0
 a0:=Tryz.isAgg0
 z0:=Tryz.sizeOf0
 v0:=Tryz.zeroValue0
 t3:=Tryz.underlying3
 a3:=Tryz.isAgg3
 z3:=Tryz.sizeOf3
 v3:=Tryz.zeroValue3
 t4:=Tryz.underlying4
 a4:=Tryz.isAgg4
 z4:=Tryz.sizeOf4
 v4:=Tryz.zeroValue4
 t22:=Tryz.underlying48
 a22:=Tryz.isAgg48
 z22:=Tryz.sizeOf48
 v22:=Tryz.zeroValue48
 i3:=by kernel_rfl}
open Go.RowKit Go.Lib Go.Sort in
theorem Tryz.slices_Compact_int (Lh off cap:Nat) (zs:List Int) (w:World) (hH:Holds (Value.int .i64) w Lh off zs.toArray) (P3:zs.length≤9223372036854775807) (Dv:zs.length≤cap):
 Calls Tryz.prog 121 #[.slice (some ⟨Lh,off,none⟩) zs.length cap] w λe w'=>e= .returned (.slice (some ⟨Lh,off,none⟩) (Lib.compact zs).length cap)/\∃q,w'=putRow (Value.int .i64) (Sort.ahead w q) Lh off (Lib.compact zs++List.replicate (zs.length-(Lib.compact zs).length) 0).toArray:=Any.slices_Compact_int Tryz.Y9 Lh off cap zs w hH P3 Dv
open Go.RowKit Go.Lib Go.Sort in
theorem Tryz.slices_Compact_int_empty (a:Option Addr) (cap:Nat) (w:World):
 Calls Tryz.prog 121 #[.slice a 0 cap] w λe w'=>e= .returned (.slice a 0 cap)/\w'=w:=Any.slices_Compact_int_empty Tryz.Y9 a cap w
open Go.RowKit Go.Sort in
theorem Tryz.slices_Sort_int_none (p:Option Addr) (cap:Nat) (w:World):
 Calls Tryz.prog 120 #[.slice p 0 cap] w λe w'=>e= .returned (.tuple #[])/\w'=w:=Any.slices_Sort_int_none Tryz.oK p cap w
def Tryz.Q1:Go.Shelf.Ren:=⟨λ|43=>121|n=>n,λ|22=>48|23=>3|3=>3|4=>4|0=>0|n=>n,λ|n=>n⟩
theorem Tryz.Wt:Go.Proofs.SlLaysE.n43 Tryz.prog Tryz.Q1:={
 mixed:=by kernel_rfl
 f43:=⟨Tryz.f121.name,by decide,Tryz.func121.trans (congrArg some (by kernel_rfl))⟩
 t0:=Tryz.underlying0
 a0:=Tryz.isAgg0
 z0:=Tryz.sizeOf0
 v0:=Tryz.zeroValue0
 t3:=Tryz.underlying3
 a3:=Tryz.isAgg3
 z3:=Tryz.sizeOf3
 v3:=Tryz.zeroValue3
 t4:=Tryz.underlying4
 a4:=Tryz.isAgg4
 z4:=Tryz.sizeOf4
 v4:=Tryz.zeroValue4
 t22:=Tryz.underlying48
 a22:=Tryz.isAgg48
 z22:=Tryz.sizeOf48
 v22:=Tryz.zeroValue48
 a23:=Tryz.isAgg3
 z23:=Tryz.sizeOf3}
open Go.RowKit Go.Lib Go.Sort in
theorem Tryz.slices_Compact {α:Type} [Inhabited α] [DecidableEq α] (enc:α->Value) (hO:OneCell enc) (heq:EqlAt Tryz.prog 3 enc (λx y=>decide (x=y))) (Mj:NeqAt Tryz.prog 3 enc (λx y=>decide (x=y))) (zr:α) (v23:∀w,(zeroValue 3).run Tryz.prog w= .ok (enc zr) w) (Lh off cap:Nat) (d:Array α) (w:World) (hH:Holds enc w Lh off d) (P3:d.size≤9223372036854775807) (Dv:d.size≤cap):
 Calls Tryz.prog 121 #[.slice (some ⟨Lh,off,none⟩) d.size cap] w λe w'=>e= .returned (.slice (some ⟨Lh,off,none⟩) (compactUpTo d d.size).length cap)/\∃q,w'=putRow enc (Sort.ahead w q) Lh off (compactUpTo d d.size++List.replicate (d.size-(compactUpTo d d.size).length) zr).toArray:=AnyE.slices_Compact Tryz.Wt enc hO heq Mj zr v23 Lh off cap d w hH P3 Dv
def Tryz.Q3:Go.Shelf.Ren:=⟨λ|10=>122|6=>162|n=>n,λ|22=>48|23=>3|25=>181|3=>3|4=>4|0=>0|n=>n,λ|n=>n⟩
theorem Tryz.Wu:Go.Proofs.SlLaysH.n10 Tryz.prog Tryz.Q3:={
 mixed:=by kernel_rfl
 f6:=⟨Tryz.f162.name,by decide,Tryz.func162.trans (congrArg some (by kernel_rfl))⟩
 f10:=⟨Tryz.f122.name,by decide,Tryz.func122.trans (congrArg some (by kernel_rfl))⟩
 t0:=Tryz.underlying0
 a0:=Tryz.isAgg0
 z0:=Tryz.sizeOf0
 v0:=Tryz.zeroValue0
 t3:=Tryz.underlying3
 a3:=Tryz.isAgg3
 z3:=Tryz.sizeOf3
 v3:=Tryz.zeroValue3
 t4:=Tryz.underlying4
 a4:=Tryz.isAgg4
 z4:=Tryz.sizeOf4
 v4:=Tryz.zeroValue4
 t22:=Tryz.underlying48
 a22:=Tryz.isAgg48
 z22:=Tryz.sizeOf48
 v22:=Tryz.zeroValue48
 a23:=Tryz.isAgg3
 z23:=Tryz.sizeOf3
 t25:=Tryz.underlying181
 a25:=Tryz.isAgg181
 z25:=Tryz.sizeOf181
 v25:=Tryz.zeroValue181}
open Go.RowKit Go.Lib Go.Sort in
theorem Tryz.slices_DeleteFunc {α:Type} [Inhabited α] (enc:α->Value) (hO:OneCell enc) (p:α->Bool) (g:Nat) (lb:Array Value) (eg:∀args w,(callFunc g args).run Tryz.prog w= .ok (.enter g args) w) (zr:α) (v23:∀w,(zeroValue 3).run Tryz.prog w= .ok (enc zr) w) (Lh off cap:Nat) (d:Array α) (w:World) (hp:PredAt Tryz.prog g lb enc p w) (hpo:PredOver Tryz.prog g lb enc p Lh off d.size w) (hH:Holds enc w Lh off d) (P3:d.size≤9223372036854775807) (Dv:d.size≤cap):
 Calls Tryz.prog 122 #[.slice (some ⟨Lh,off,none⟩) d.size cap,.func (.func g) #[] lb] w λe w'=>e= .returned (.slice (some ⟨Lh,off,none⟩) (d.toList.filter λx=> !p x).length cap)/\∃q,w'=putRow enc (Sort.ahead w q) Lh off ((d.toList.filter λx=> !p x)++List.replicate (d.size-(d.toList.filter λx=> !p x).length) zr).toArray:=AnyE.slices_DeleteFunc Tryz.Wu enc hO p g lb eg zr v23 Lh off cap d w hp hpo hH P3 Dv
end Go.Proofs
namespace Go.Abs
open Go.Proofs Go.Sort Go.RowKit
theorem WC (l:List Int):(Lib.compact l).length≤l.length:=by unfold Lib.compact Lib.compactUpTo;rw[AAn];exact ABF (List.length_filter_le _ _) (by simp)
def MB (l:List Int):ABh (List Int):=if l.length<4611686018427387904 then some (l.mergeSort λx y=>decide (x≤y))else none
theorem Xj {l r:List Int} (h:MB l=some r):BM Tryz.prog 120 [.own false 1 (l.map eI)] (.BT []) [.own false 1 (r.map eI)]:=by obtain⟨g,h⟩:=G5 h;obtain rfl:=AAJ h;exact mA Tryz.slices_Sort_int Tryz.slices_Sort_int_none l g
def slices_Compact (l:List Int):ABh (List Int):=if l.length<4611686018427387904 then some (Lib.compact l)else none
theorem TN {l r:List Int} (h:slices_Compact l=some r):Says Tryz.prog 121 [.own false 1 (l.map eI)] (.own false 1 (r.map eI)):=by obtain⟨g,h⟩:=G5 h;obtain rfl:=AAJ h;exact X6 Tryz.slices_Compact_int Tryz.slices_Compact_int_empty l g (WC l) rfl
theorem givesEq (b off:Nat) (n x:Int) (W:World) (hc:W.cell? ⟨b,off,none⟩=some (.int .i64 n)):
 FnGives Tryz.prog 123 #[.pointer (some ⟨b,off,none⟩)] #[.int .i64 x] (.bool (x==n)) W:=by
 show Calls Tryz.prog 123 #[.int .i64 x,.pointer (some ⟨b,off,none⟩)] W _
 go_enter Tryz.func123,Tryz.ntmps123
 go_wp2
 all_goals (go_ret;exact⟨by simp_all,0,rfl⟩)
def Hw (l:List Int) (n:Int):ABh (List Int):=if l≠[]/\l.length<4611686018427387904 then some (l.filter λx=> !(x==n))else none
theorem Mx {l r:List Int} {n:Int} (h:Hw l n=some r):Says Tryz.prog 122 [.own false 1 (l.map eI),.kN 123 [[si n]]] (.own false 1 (r.map eI)):=by obtain⟨⟨g1,g2⟩,h⟩:=G5 h;obtain rfl:=AAJ h;refine Zn (q:=λn x=>x==n) ?_ givesEq l n g1 g2;intro lb p Lh off cap d w hp hpo hH P3 Dv;exact Tryz.slices_DeleteFunc (Value.int .i64) (λ_=>rfl) p 123 lb (enters_of Tryz.func123 (by kernel_rfl) rfl) 0 (Tryz.zeroValue3) Lh off cap d w hp hpo hH P3 Dv
end Go.Abs
