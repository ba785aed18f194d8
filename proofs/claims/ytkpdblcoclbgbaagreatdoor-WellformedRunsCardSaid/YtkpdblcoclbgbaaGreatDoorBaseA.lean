/- The types of the program, how their values are read, and the library's functions. -/
import Derived.Test.YtkpdblcoclbgbaaGreatDoorCoreD
import Derived.Test.YtkpdblcoclbgbaaGreatDoorChecked
import Derived.KernelRfl
import Derived.Shelf.Small.Bits
import Derived.Shelf.Strconv.Itoa0
import Derived.Shelf.Sort.Plain
import Derived.Ground.Names2Prog
import Derived.Shelf.Slices.Clone
import Derived.Shelf.Slices.CompactI
import Derived.Shelf.Slices.SearchI
import Derived.Shelf.Slices.In.SortNone
import Derived.Ground.SlgnProg
import Derived.Shelf.SlicesE.Compact
import Derived.Ground.SlgfProg
import Derived.Shelf.SlicesE.IndexFunc
import Derived.Shelf.SlicesE.DeleteFunc
import Derived.Test.YtkpdblcoclbgbaaGreatDoorProg
import Derived.Lib.SliceRun
set_option linter.unusedSimpArgs false
set_option linter.unusedVariables false
namespace Go.Abs
open Go.Proofs
set_option maxRecDepth 100000
set_option maxHeartbeats 4000000
theorem mix:Tryz.prog.follows .mixedOrders=true:=by kernel_rfl
@[go_sem]theorem gamAt0:U9 0 22=some (Ho.map Value.string):=by rfl
structure DK where
 Kind:Int
 D4:Int
 Name:ByteArray
 Bn:Int
 Init:Int
 On:ByteArray
 deriving DecidableEq
structure Cm where
 L:List Int
 At:Int
 deriving DecidableEq
structure As where
 Op:Int
 N:Int
 Name:ByteArray
 L:List As
structure AF where
 t:Cm
 BG:Int
 left:Int
 E5:Bool
 tx:Bool
 atomic:Bool
 loop:Bool
 held:List ByteArray
 deriving DecidableEq
structure AK where
 Op:Int
 D4:Int
 Name:ByteArray
 Arg:ByteArray
 Index:List As
 Expr:As
 Body:List AK
 Else:List AK
structure CA where
 Name:ByteArray
 D4:Int
 EY:List ByteArray
 Body:List AK
structure AL where
 Decls:List DK
 AA:List CA
structure A1 where
 p:AL
 BG:Int
 EN:List AK
 IU:List ByteArray
 RZ:List ByteArray
structure Iy where
 Name:ByteArray
 RW:Bool
 deriving DecidableEq
structure DO where
 Thread:Int
 Stmt:Int
 D4:Int
 deriving DecidableEq
structure DJ where
 Name:ByteArray
 Index:Int
 Bn:Int
 E0:Bool
 Init:Int
 deriving DecidableEq
structure QC where
 Name:ByteArray
 Mutex:Int
 deriving DecidableEq
structure AB where
 Cells:List DJ
 AG:List Iy
 Au:List QC
 AH:List ByteArray
 AA:List ByteArray
 BA:List DO
 deriving DecidableEq
structure AW where
 Op:Int
 A:Int
 B:Int
 C:Int
 N:Int
 Site:Int
 deriving DecidableEq
structure Aw where
 w:AB
 locals:List ByteArray
 out:List AW
 site:Int
 next:Int
 deriving DecidableEq
structure Ak where
 CN:Int
 B3:List AW
 deriving DecidableEq
structure BB where
 World:AB
 AA:List Ak
 deriving DecidableEq
structure CC where
 Thread:Int
 QG:Int
 deriving DecidableEq
structure AY where
 En:Int
 BW:List Int
 deriving DecidableEq
structure AD where
 Status:Int
 Ef:Int
 Atomic:Bool
 deriving DecidableEq
structure AO where
 AG:List AY
 Tx:Int
 Ce:List Bool
 AA:List AD
 deriving DecidableEq
structure AE where
 PC:Int
 CN:List Int
 Bt:List (List Int)
 AX:Int
 deriving DecidableEq
structure AZ where
 Sync:AO
 Cells:List Int
 AH:List Int
 AA:List AE
 deriving DecidableEq
structure AN where
 Thread:Int
 Kind:Int
 Obj:Int
 Value:Int
 Site:Int
 Dy:List Int
 Db:List Int
 deriving DecidableEq
structure EJ where
 World:AB
 AX:List AN
 deriving DecidableEq
structure AM where
 Sync:AO
 Cells:List Int
 AH:List Int
 Count:List Int
 deriving DecidableEq
def G2 (x:DK):List AV:=[si x.Kind,si x.D4,Ao x.Name,si x.Bn,si x.Init,Ao x.On]
attribute [go_sem] G2
def UN (x:Int):List AV:=[.sc (.int .u8 x)]
attribute [go_sem] UN
def Ot (x:Cm):List AV:=[.sl false 1 (x.L.map UN),si x.At]
attribute [go_sem] Ot
mutual
def Av:As->List AV
 |⟨y0,y1,y2,y3⟩=>[si y0,si y1,Ao y2,.sl false 4 (To y3)]
def To:List As->List (List AV)
 |[]=>[]
 |x::l=>Av x::To l
end
theorem iV (l:List As):To l=l.map Av:=by induction l<;>simp[To, *]
@[go_sem]theorem eExpr_d (x:As):Av x=[si x.Op,si x.N,Ao x.Name,.sl false 4 (x.L.map Av)]:=by cases x;simp[Av,iV]
@[go_sem]theorem tS (x:As):As.mk x.Op x.N x.Name x.L=x:=by cases x;rfl
def eS (x:ByteArray):List AV:=[Ao x]
@[go_sem]theorem eS_sn (l:List ByteArray) (y0:ByteArray):l.map eS++[[Ao y0]]=(l++[y0]).map eS:=by simp[eS]
attribute [go_sem] eS
def Be (x:AF):List AV:=[bA 2 [.sl false 1 (x.t.L.map UN),si x.t.At],si x.BG,si x.left,sb x.E5,sb x.tx,sb x.atomic,sb x.loop,.own false 1 (x.held.map eS)]
attribute [go_sem] Be
mutual
def An:AK->List AV
 |⟨y0,y1,y2,y3,y4,y5,y6,y7⟩=>[si y0,si y1,Ao y2,Ao y3,.sl false 4 (y4.map Av),si y5.Op,si y5.N,Ao y5.Name,.sl false 4 (y5.L.map Av),.sl false 11 (QX y6),.sl false 11 (QX y7)]
def QX:List AK->List (List AV)
 |[]=>[]
 |x::l=>An x::QX l
end
theorem iW (l:List AK):QX l=l.map An:=by induction l<;>simp[QX, *]
@[go_sem]theorem Tp (x:AK):An x=[si x.Op,si x.D4,Ao x.Name,Ao x.Arg,.sl false 4 (x.Index.map Av),si x.Expr.Op,si x.Expr.N,Ao x.Expr.Name,.sl false 4 (x.Expr.L.map Av),.sl false 11 (x.Body.map An),.sl false 11 (x.Else.map An)]:=by cases x;simp[An,iW]
@[go_sem]theorem tV (x:AK):AK.mk x.Op x.D4 x.Name x.Arg x.Index x.Expr x.Body x.Else=x:=by cases x;rfl
@[go_sem]theorem v8 (l:List AK) (y0:Int) (y1:Int) (y2:ByteArray) (y3:ByteArray) (y4:List As) (y5:Int) (y6:Int) (y7:ByteArray) (y8:List As) (y9:List AK) (y10:List AK):l.map An++[[si y0,si y1,Ao y2,Ao y3,.sl false 4 (y4.map Av),si y5,si y6,Ao y7,.sl false 4 (y8.map Av),.sl false 11 (y9.map An),.sl false 11 (y10.map An)]]=(l++[(AK.mk y0 y1 y2 y3 y4 (As.mk y5 y6 y7 y8) y9 y10)]).map An:=by simp[Tp]
@[go_sem]theorem v7 (l:List AK) (i:Nat) (y0:Int) (y1:Int) (y2:ByteArray) (y3:ByteArray) (y4:List As) (y5:Int) (y6:Int) (y7:ByteArray) (y8:List As) (y9:List AK) (y10:List AK):(l.map An).set i [si y0,si y1,Ao y2,Ao y3,.sl false 4 (y4.map Av),si y5,si y6,Ao y7,.sl false 4 (y8.map Av),.sl false 11 (y9.map An),.sl false 11 (y10.map An)]=(l.set i (AK.mk y0 y1 y2 y3 y4 (As.mk y5 y6 y7 y8) y9 y10)).map An:=by simp[Tp,List.map_set]
@[go_sem]theorem tW (l:List AK) (y0:Int) (y1:Int) (y2:ByteArray) (y3:ByteArray) (y5:Int) (y6:Int) (y7:ByteArray):l.map An++[[si y0,si y1,Ao y2,Ao y3,.sl false 4 [],si y5,si y6,Ao y7,.sl false 4 [],.sl false 11 [],.sl false 11 []]]=(l++[(AK.mk y0 y1 y2 y3 [] (As.mk y5 y6 y7 []) [] [])]).map An:=by simp[Tp]
def GD (x:CA):List AV:=[Ao x.Name,si x.D4,.sl false 1 (x.EY.map eS),.sl false 11 (x.Body.map An)]
@[go_sem]theorem rP (l:List CA) (y0:ByteArray) (y1:Int) (y2:List ByteArray) (y3:List AK):l.map GD++[[Ao y0,si y1,.sl false 1 (y2.map eS),.sl false 11 (y3.map An)]]=(l++[(CA.mk y0 y1 y2 y3)]).map GD:=by simp[GD]
attribute [go_sem] GD
def Bb (x:AL):List AV:=[.sl false 6 (x.Decls.map G2),.sl false 4 (x.AA.map GD)]
attribute [go_sem] Bb
def Es (x:A1):List AV:=[.sl false 6 (x.p.Decls.map G2),.sl false 4 (x.p.AA.map GD),si x.BG,.own false 11 (x.EN.map An),.own false 1 (x.IU.map eS),.own false 1 (x.RZ.map eS)]
attribute [go_sem] Es
def U6 (x:CA):List AV:=[Ao x.Name,si x.D4,.own false 1 (x.EY.map eS),.own false 11 (x.Body.map An)]
attribute [go_sem] U6
def HI (x:Iy):List AV:=[Ao x.Name,sb x.RW]
@[go_sem]theorem vY (l:List Iy) (y0:ByteArray) (y1:Bool):l.map HI++[[Ao y0,sb y1]]=(l++[(Iy.mk y0 y1)]).map HI:=by simp[HI]
attribute [go_sem] HI
def E7 (x:DO):List AV:=[si x.Thread,si x.Stmt,si x.D4]
@[go_sem]theorem vZ (l:List DO) (y0:Int) (y1:Int) (y2:Int):l.map E7++[[si y0,si y1,si y2]]=(l++[(DO.mk y0 y1 y2)]).map E7:=by simp[E7]
attribute [go_sem] E7
def Fg (x:DJ):List AV:=[Ao x.Name,si x.Index,si x.Bn,sb x.E0,si x.Init]
@[go_sem]theorem vV (l:List DJ) (y0:ByteArray) (y1:Int) (y2:Int) (y3:Bool) (y4:Int):l.map Fg++[[Ao y0,si y1,si y2,sb y3,si y4]]=(l++[(DJ.mk y0 y1 y2 y3 y4)]).map Fg:=by simp[Fg]
attribute [go_sem] Fg
def HH (x:QC):List AV:=[Ao x.Name,si x.Mutex]
@[go_sem]theorem vW (l:List QC) (y0:ByteArray) (y1:Int):l.map HH++[[Ao y0,si y1]]=(l++[(QC.mk y0 y1)]).map HH:=by simp[HH]
attribute [go_sem] HH
def Ap (x:AB):List AV:=[.sl false 5 (x.Cells.map Fg),.sl false 2 (x.AG.map HI),.sl false 2 (x.Au.map HH),.sl false 1 (x.AH.map eS),.sl false 1 (x.AA.map eS),.sl false 3 (x.BA.map E7)]
attribute [go_sem] Ap
def K8 (x:AB):List AV:=[.own false 5 (x.Cells.map Fg),.own false 2 (x.AG.map HI),.own false 2 (x.Au.map HH),.own false 1 (x.AH.map eS),.own false 1 (x.AA.map eS),.own false 3 (x.BA.map E7)]
attribute [go_sem] K8
def C7 (x:AW):List AV:=[si x.Op,si x.A,si x.B,si x.C,si x.N,si x.Site]
@[go_sem]theorem tU (l:List AW) (y0:Int) (y1:Int) (y2:Int) (y3:Int) (y4:Int) (y5:Int):l.map C7++[[si y0,si y1,si y2,si y3,si y4,si y5]]=(l++[(AW.mk y0 y1 y2 y3 y4 y5)]).map C7:=by simp[C7]
@[go_sem]theorem tT (l:List AW) (i:Nat) (y0:Int) (y1:Int) (y2:Int) (y3:Int) (y4:Int) (y5:Int):(l.map C7).set i [si y0,si y1,si y2,si y3,si y4,si y5]=(l.set i (AW.mk y0 y1 y2 y3 y4 y5)).map C7:=by simp[C7,List.map_set]
attribute [go_sem] C7
def rQ (x:Aw):List AV:=[.sl false 5 (x.w.Cells.map Fg),.sl false 2 (x.w.AG.map HI),.sl false 2 (x.w.Au.map HH),.sl false 1 (x.w.AH.map eS),.sl false 1 (x.w.AA.map eS),.sl false 3 (x.w.BA.map E7),.sl false 1 (x.locals.map eS),.sl false 6 (x.out.map C7),si x.site,si x.next]
attribute [go_sem] rQ
def DC (x:Aw):List AV:=[.sl false 5 (x.w.Cells.map Fg),.sl false 2 (x.w.AG.map HI),.sl false 2 (x.w.Au.map HH),.sl false 1 (x.w.AH.map eS),.sl false 1 (x.w.AA.map eS),.sl false 3 (x.w.BA.map E7),.sl false 1 (x.locals.map eS),.own false 6 (x.out.map C7),si x.site,si x.next]
attribute [go_sem] DC
def eI (x:Int):List AV:=[si x]
@[go_sem]theorem eI_sn (l:List Int) (y0:Int):l.map eI++[[si y0]]=(l++[y0]).map eI:=by simp[eI]
@[go_sem]theorem eI_se (l:List Int) (i:Nat) (y0:Int):(l.map eI).set i [si y0]=(l.set i y0).map eI:=by simp[eI,List.map_set]
@[go_sem]theorem eI_re (n:Nat) (y0:Int):List.replicate n [si y0]=(List.replicate n y0).map eI:=by simp[eI]
attribute [go_sem] eI
def Bq (x:Ak):List AV:=[si x.CN,.sl false 6 (x.B3.map C7)]
@[go_sem]theorem cC (l:List Ak) (y0:Int) (y1:List AW):l.map Bq++[[si y0,.sl false 6 (y1.map C7)]]=(l++[(Ak.mk y0 y1)]).map Bq:=by simp[Bq]
attribute [go_sem] Bq
def Gp (x:BB):List AV:=[.sl false 5 (x.World.Cells.map Fg),.sl false 2 (x.World.AG.map HI),.sl false 2 (x.World.Au.map HH),.sl false 1 (x.World.AH.map eS),.sl false 1 (x.World.AA.map eS),.sl false 3 (x.World.BA.map E7),.sl false 2 (x.AA.map Bq)]
attribute [go_sem] Gp
def Gb (x:CC):List AV:=[si x.Thread,si x.QG]
@[go_sem]theorem rO (l:List CC) (y0:Int) (y1:Int):l.map Gb++[[si y0,si y1]]=(l++[(CC.mk y0 y1)]).map Gb:=by simp[Gb]
attribute [go_sem] Gb
def Gg (x:AY):List AV:=[si x.En,.sl false 1 (x.BW.map eI)]
attribute [go_sem] Gg
def eB (x:Bool):List AV:=[sb x]
@[go_sem]theorem eB_sn (l:List Bool) (y0:Bool):l.map eB++[[sb y0]]=(l++[y0]).map eB:=by simp[eB]
@[go_sem]theorem eB_se (l:List Bool) (i:Nat) (y0:Bool):(l.map eB).set i [sb y0]=(l.set i y0).map eB:=by simp[eB,List.map_set]
@[go_sem]theorem eB_re (n:Nat) (y0:Bool):List.replicate n [sb y0]=(List.replicate n y0).map eB:=by simp[eB]
attribute [go_sem] eB
def A2 (x:AD):List AV:=[si x.Status,si x.Ef,sb x.Atomic]
@[go_sem]theorem cF (l:List AD) (y0:Int) (y1:Int) (y2:Bool):l.map A2++[[si y0,si y1,sb y2]]=(l++[(AD.mk y0 y1 y2)]).map A2:=by simp[A2]
@[go_sem]theorem cE (l:List AD) (i:Nat) (y0:Int) (y1:Int) (y2:Bool):(l.map A2).set i [si y0,si y1,sb y2]=(l.set i (AD.mk y0 y1 y2)).map A2:=by simp[A2,List.map_set]
@[go_sem]theorem cD (n:Nat) (y0:Int) (y1:Int) (y2:Bool):List.replicate n [si y0,si y1,sb y2]=(List.replicate n (AD.mk y0 y1 y2)).map A2:=by simp[A2]
attribute [go_sem] A2
def GZ (x:AO):List AV:=[.sl false 2 (x.AG.map Gg),si x.Tx,.sl false 1 (x.Ce.map eB),.sl false 3 (x.AA.map A2)]
attribute [go_sem] GZ
def B5 (x:AY):List AV:=[si x.En,.own false 1 (x.BW.map eI)]
@[go_sem]theorem cB (l:List AY) (y0:Int) (y1:List Int):l.map B5++[[si y0,.own false 1 (y1.map eI)]]=(l++[(AY.mk y0 y1)]).map B5:=by simp[B5]
@[go_sem]theorem cA (l:List AY) (i:Nat) (y0:Int) (y1:List Int):(l.map B5).set i [si y0,.own false 1 (y1.map eI)]=(l.set i (AY.mk y0 y1)).map B5:=by simp[B5,List.map_set]
@[go_sem]theorem Zw (l:List AY) (y0:Int):l.map B5++[[si y0,.own false 1 []]]=(l++[(AY.mk y0 [])]).map B5:=by simp[B5]
@[go_sem]theorem Zv (n:Nat) (y0:Int):List.replicate n [si y0,.own false 1 []]=(List.replicate n (AY.mk y0 [])).map B5:=by simp[B5]
@[go_sem]theorem bZ (l:List AY):LO (l.map B5)=l.map Gg:=by induction l with|nil=>rfl|cons x l ih=>simp only[List.map_cons,LO,ih,go_sem,B5,Gg]
attribute [go_sem] B5
def FK (x:AO):List AV:=[.own false 2 (x.AG.map B5),si x.Tx,.own false 1 (x.Ce.map eB),.own false 3 (x.AA.map A2)]
attribute [go_sem] FK
def UQ (x:List Int):List AV:=[.sl false 1 (x.map eI)]
@[go_sem]theorem eLI_se (l:List (List Int)) (i:Nat) (y0:List Int):(l.map UQ).set i [.sl false 1 (y0.map eI)]=(l.set i y0).map UQ:=by simp[UQ,List.map_set]
@[go_sem]theorem eLI_se1 (l:List (List Int)) (i:Nat):(l.map UQ).set i [.sl false 1 []]=(l.set i []).map UQ:=by simp[UQ,List.map_set]
@[go_sem]theorem eLI_re1 (n:Nat):List.replicate n [.sl false 1 []]=(List.replicate n []).map UQ:=by simp[UQ]
@[go_sem]theorem eLI_ses (l:List (List Int)) (i:Nat) (y:Int):(l.map UQ).set i [.sl false 1 [[si y]]]=(l.set i [y]).map UQ:=by simp[UQ,List.map_set,eI]
attribute [go_sem] UQ
def Dh (x:AE):List AV:=[si x.PC,.sl false 1 (x.CN.map eI),.sl false 1 (x.Bt.map UQ),si x.AX]
attribute [go_sem] Dh
def HM (x:AZ):List AV:=[.sl false 2 (x.Sync.AG.map Gg),si x.Sync.Tx,.sl false 1 (x.Sync.Ce.map eB),.sl false 3 (x.Sync.AA.map A2),.sl false 1 (x.Cells.map eI),.sl false 1 (x.AH.map eI),.sl false 4 (x.AA.map Dh)]
attribute [go_sem] HM
def BN (x:AE):List AV:=[si x.PC,.own false 1 (x.CN.map eI),.own false 1 (x.Bt.map UQ),si x.AX]
@[go_sem]theorem Yo (l:List AE) (y0:Int) (y1:List Int) (y2:List (List Int)) (y3:Int):l.map BN++[[si y0,.own false 1 (y1.map eI),.own false 1 (y2.map UQ),si y3]]=(l++[(AE.mk y0 y1 y2 y3)]).map BN:=by simp[BN]
@[go_sem]theorem Yn (l:List AE) (i:Nat) (y0:Int) (y1:List Int) (y2:List (List Int)) (y3:Int):(l.map BN).set i [si y0,.own false 1 (y1.map eI),.own false 1 (y2.map UQ),si y3]=(l.set i (AE.mk y0 y1 y2 y3)).map BN:=by simp[BN,List.map_set]
@[go_sem]theorem Ym (l:List AE):LO (l.map BN)=l.map Dh:=by induction l with|nil=>rfl|cons x l ih=>simp only[List.map_cons,LO,ih,go_sem,BN,Dh]
attribute [go_sem] BN
def IZ (x:AZ):List AV:=[.own false 2 (x.Sync.AG.map B5),si x.Sync.Tx,.own false 1 (x.Sync.Ce.map eB),.own false 3 (x.Sync.AA.map A2),.own false 1 (x.Cells.map eI),.own false 1 (x.AH.map eI),.own false 4 (x.AA.map BN)]
attribute [go_sem] IZ
def C4 (x:AN):List AV:=[si x.Thread,si x.Kind,si x.Obj,si x.Value,si x.Site,.sl false 1 (x.Dy.map eI),.sl false 1 (x.Db.map eI)]
@[go_sem]theorem tQ (l:List AN) (y0:Int) (y1:Int) (y2:Int) (y3:Int) (y4:Int) (y5:List Int) (y6:List Int):l.map C4++[[si y0,si y1,si y2,si y3,si y4,.sl false 1 (y5.map eI),.sl false 1 (y6.map eI)]]=(l++[(AN.mk y0 y1 y2 y3 y4 y5 y6)]).map C4:=by simp[C4]
attribute [go_sem] C4
def Ln (x:AN):List AV:=[si x.Thread,si x.Kind,si x.Obj,si x.Value,si x.Site,.own false 1 (x.Dy.map eI),.own false 1 (x.Db.map eI)]
attribute [go_sem] Ln
def Wk (x:List Int):List AV:=[.own false 1 (x.map eI)]
@[go_sem]theorem eLIo_sn (l:List (List Int)) (y0:List Int):l.map Wk++[[.own false 1 (y0.map eI)]]=(l++[y0]).map Wk:=by simp[Wk]
@[go_sem]theorem eLIo_fz (l:List (List Int)):LO (l.map Wk)=l.map UQ:=by induction l with|nil=>rfl|cons x l ih=>simp only[List.map_cons,LO,ih,go_sem,Wk,UQ]
attribute [go_sem] Wk
def U7 (x:EJ):List AV:=[.sl false 5 (x.World.Cells.map Fg),.sl false 2 (x.World.AG.map HI),.sl false 2 (x.World.Au.map HH),.sl false 1 (x.World.AH.map eS),.sl false 1 (x.World.AA.map eS),.sl false 3 (x.World.BA.map E7),.sl false 7 (x.AX.map C4)]
attribute [go_sem] U7
def Rn (x:EJ):List AV:=[.sl false 5 (x.World.Cells.map Fg),.sl false 2 (x.World.AG.map HI),.sl false 2 (x.World.Au.map HH),.sl false 1 (x.World.AH.map eS),.sl false 1 (x.World.AA.map eS),.sl false 3 (x.World.BA.map E7),.own false 7 (x.AX.map C4)]
attribute [go_sem] Rn
def Cz (x:AM):List AV:=[.sl false 2 (x.Sync.AG.map Gg),si x.Sync.Tx,.sl false 1 (x.Sync.Ce.map eB),.sl false 3 (x.Sync.AA.map A2),.sl false 1 (x.Cells.map eI),.sl false 1 (x.AH.map eI),.sl false 1 (x.Count.map eI)]
attribute [go_sem] Cz
def HL (x:AM):List AV:=[.own false 2 (x.Sync.AG.map B5),si x.Sync.Tx,.own false 1 (x.Sync.Ce.map eB),.own false 3 (x.Sync.AA.map A2),.own false 1 (x.Cells.map eI),.own false 1 (x.AH.map eI),.own false 1 (x.Count.map eI)]
attribute [go_sem] HL
def Wj (x:List Bool):List AV:=[.own false 1 (x.map eB)]
@[go_sem]theorem eLBo_se (l:List (List Bool)) (i:Nat) (y0:List Bool):(l.map Wj).set i [.own false 1 (y0.map eB)]=(l.set i y0).map Wj:=by simp[Wj,List.map_set]
@[go_sem]theorem vX (n:Nat):List.replicate n [.own false 1 []]=(List.replicate n []).map Wj:=by simp[Wj]
attribute [go_sem] Wj
abbrev z0:List AV:=[si 0,si 0,Ao ⟨#[]⟩,Ao ⟨#[]⟩,.own false 4 [],si 0,si 0,Ao ⟨#[]⟩,.own false 4 [],.own false 11 [],.own false 11 []]
abbrev z1:List AV:=[.own false 2 [],si 0,.own false 1 [],.own false 3 [],.own false 1 [],.own false 1 [],.own false 1 []]
abbrev z2:List AV:=[.own false 2 [],si 0,.own false 1 [],.own false 3 [],.own false 1 [],.own false 1 [],.own false 4 []]
abbrev z3:List AV:=[si 0,si 0,si 0,si 0,si 0,.own false 1 [],.own false 1 []]
abbrev z4:List AV:=[.own false 2 [],si 0,.own false 1 [],.own false 3 []]
abbrev z5:List AV:=[si 0,si 0,Ao ⟨#[]⟩,si 0,si 0,Ao ⟨#[]⟩]
abbrev z6:List AV:=[si 0,.own false 1 [],.own false 1 [],si 0]
abbrev z7:List AV:=[.own false 5 [],.own false 2 [],.own false 2 [],.own false 1 [],.own false 1 [],.own false 3 [],.own false 2 []]
abbrev z8:List AV:=[si 0,si 0,Ao ⟨#[]⟩,Ao ⟨#[]⟩,.sl false 4 [],si 0,si 0,Ao ⟨#[]⟩,.sl false 4 [],.sl false 11 [],.sl false 11 []]
abbrev z9:List AV:=[si 0,si 0,si 0,si 0,si 0,si 0]
abbrev uQ:List AV:=[.own false 5 [],.own false 2 [],.own false 2 [],.own false 1 [],.own false 1 [],.own false 3 [],.own false 7 []]
abbrev kL:List AV:=[.own false 5 [],.own false 2 [],.own false 2 [],.own false 1 [],.own false 1 [],.own false 3 []]
abbrev z12:List AV:=[si 0,si 0,Ao ⟨#[]⟩,.own false 4 []]
abbrev kM:List AV:=[Ao ⟨#[]⟩,si 0,.own false 1 [],.own false 11 []]
abbrev z14:List AV:=[.sl false 5 [],.sl false 2 [],.sl false 2 [],.sl false 1 [],.sl false 1 [],.sl false 3 [],.own false 7 []]
abbrev z15:List AV:=[.sl false 2 [],si 0,.sl false 1 [],.sl false 3 [],.sl false 1 [],.sl false 1 [],.sl false 4 []]
abbrev sX:List AV:=[Ao ⟨#[]⟩,si 0,si 0,sb false,si 0]
abbrev z17:List AV:=[.own false 6 [],.own false 4 []]
abbrev fD:List AV:=[si 0,si 0,sb false]
abbrev kN:List AV:=[si 0,.own false 1 []]
abbrev z20:List (List AV):=[[Ao ⟨#[]⟩],[Ao ⟨#[]⟩]]
abbrev z21:List (List AV):=[[Ao ⟨#[109,97,105,110]⟩],[Ao ⟨#[116,49]⟩],[Ao ⟨#[116,50]⟩],[Ao ⟨#[116,51]⟩]]
attribute [go_sem] z0 z1 z2 z3 z4 z5 z6 z7 z8 z9 uQ kL z12 kM z14 z15 sX z17 fD kN z20 z21
end Go.Abs
namespace Go.Proofs
open Go.Shelf
def Tryz.VN:Go.Shelf.Ren:=⟨λ|189=>58|125=>92|257=>91|128=>123|129=>124|294=>114|295=>115|296=>116|297=>117|298=>118|299=>119|216=>120|300=>121|301=>122|328=>147|329=>148|330=>149|331=>150|332=>151|215=>152|343=>164|n=>n,λ|28=>41|3=>3|46=>179|0=>0|51=>215|53=>217|4=>4|183=>208|182=>207|131=>212|5=>5|9=>9|218=>234|222=>238|228=>252|229=>253|n=>n,λ|n=>n⟩
theorem Tryz.Xr:Go.Proofs.Lays.n189 Tryz.prog Tryz.VN:={
 mixed:=by kernel_rfl
 f125:=Tryz.func92.trans (congrArg some (by kernel_rfl))
 f128:=Tryz.func123.trans (congrArg some (by kernel_rfl))
 f129:=Tryz.func124.trans (congrArg some (by kernel_rfl))
 f189:=Tryz.func58.trans (congrArg some (by kernel_rfl))
 f215:=Tryz.func152.trans (congrArg some (by kernel_rfl))
 f216:=Tryz.func120.trans (congrArg some (by kernel_rfl))
 f257:=Tryz.func91.trans (congrArg some (by kernel_rfl))
 f294:=Tryz.func114.trans (congrArg some (by kernel_rfl))
 f295:=Tryz.func115.trans (congrArg some (by kernel_rfl))
 f296:=Tryz.func116.trans (congrArg some (by kernel_rfl))
 f297:=Tryz.func117.trans (congrArg some (by kernel_rfl))
 f298:=Tryz.func118.trans (congrArg some (by kernel_rfl))
 f299:=Tryz.func119.trans (congrArg some (by kernel_rfl))
 f300:=Tryz.func121.trans (congrArg some (by kernel_rfl))
 f301:=Tryz.func122.trans (congrArg some (by kernel_rfl))
 f328:=Tryz.func147.trans (congrArg some (by kernel_rfl))
 f329:=Tryz.func148.trans (congrArg some (by kernel_rfl))
 f330:=Tryz.func149.trans (congrArg some (by kernel_rfl))
 f331:=Tryz.func150.trans (congrArg some (by kernel_rfl))
 f332:=Tryz.func151.trans (congrArg some (by kernel_rfl))
 f343:=Tryz.func164.trans (congrArg some (by kernel_rfl))
 t0:=Tryz.underlying0
 a0:=Tryz.isAgg0
 z0:=Tryz.sizeOf0
 v0:=Tryz.zeroValue0
 t3:=Tryz.underlying3
 a3:=Tryz.isAgg3
 z3:=Tryz.sizeOf3
 v3:=Tryz.zeroValue3
 t4:=Tryz.underlying4
 a4:=Tryz.isAgg4
 z4:=Tryz.sizeOf4
 v4:=Tryz.zeroValue4
 t5:=Tryz.underlying5
 a5:=Tryz.isAgg5
 z5:=Tryz.sizeOf5
 v5:=Tryz.zeroValue5
 t9:=Tryz.underlying9
 a9:=Tryz.isAgg9
 z9:=Tryz.sizeOf9
 v9:=Tryz.zeroValue9
 t28:=Tryz.underlying41
 a28:=Tryz.isAgg41
 z28:=Tryz.sizeOf41
 v28:=Tryz.zeroValue41
 t46:=Tryz.underlying179
 a46:=Tryz.isAgg179
 z46:=Tryz.sizeOf179
 v46:=Tryz.zeroValue179
 t51:=Tryz.underlying215
 a51:=Tryz.isAgg215
 z51:=Tryz.sizeOf215
 v51:=Tryz.zeroValue215
 t53:=Tryz.underlying217
 a53:=Tryz.isAgg217
 z53:=Tryz.sizeOf217
 v53:=Tryz.zeroValue217
 t131:=Tryz.underlying212
 a131:=Tryz.isAgg212
 z131:=Tryz.sizeOf212
 v131:=Tryz.zeroValue212
 t182:=Tryz.underlying207
 a182:=Tryz.isAgg207
 z182:=Tryz.sizeOf207
 v182:=Tryz.zeroValue207
 t183:=Tryz.underlying208
 a183:=Tryz.isAgg208
 z183:=Tryz.sizeOf208
 v183:=Tryz.zeroValue208
 t218:=Tryz.underlying234
 a218:=Tryz.isAgg234
 z218:=Tryz.sizeOf234
 v218:=Tryz.zeroValue234
 t222:=Tryz.underlying238
 a222:=Tryz.isAgg238
 z222:=Tryz.sizeOf238
 v222:=Tryz.zeroValue238
 t228:=Tryz.underlying252
 a228:=Tryz.isAgg252
 z228:=Tryz.sizeOf252
 v228:=Tryz.zeroValue252
 t229:=Tryz.underlying253
 a229:=Tryz.isAgg253
 z229:=Tryz.sizeOf253
 v229:=Tryz.zeroValue253}
open Go.Sort Go.RowKit in
theorem Tryz.slices_Sort_int (blk off cap:Nat) (zs:List Int) (w:World) (hH:Holds (Value.int .i64) w blk off zs.toArray) (NO:blk<w.heap.size) (hsz:zs.length<4611686018427387904):
 Calls Tryz.prog 58 #[.slice (some ⟨blk,off,none⟩) zs.length cap] w λe w'=>
  e= .returned (.tuple #[])/\∃n os,w'=grow (putRow (Value.int .i64) (Sort.ahead w n) blk off (zs.mergeSort λx y=>decide (x≤y)).toArray) os:=Any.slices_Sort_int Tryz.Xr blk off cap zs w hH NO hsz
def Tryz.SB:Go.Shelf.Ren:=⟨λ|15=>35|n=>n,λ|22=>41|3=>3|4=>4|n=>n,λ|n=>n⟩
theorem Tryz.ZH:Go.Proofs.Lays2.n15 Tryz.prog Tryz.SB:={
 mixed:=by kernel_rfl
 f15:=Tryz.func35.trans (congrArg some (by kernel_rfl))
 t3:=Tryz.underlying3
 a3:=Tryz.isAgg3
 z3:=Tryz.sizeOf3
 v3:=Tryz.zeroValue3
 t4:=Tryz.underlying4
 a4:=Tryz.isAgg4
 z4:=Tryz.sizeOf4
 v4:=Tryz.zeroValue4
 t22:=Tryz.underlying41
 a22:=Tryz.isAgg41
 z22:=Tryz.sizeOf41
 v22:=Tryz.zeroValue41
 i3:=by kernel_rfl}
open Go.RowKit Go.Lib in
theorem Tryz.slices_Clone_int (b off n c:Nat) (zs:List Int) (w:World) (hz:n≤zs.length) (hbig:n*8≤140737488355328) (hc:∀j,j<zs.length->w.cell? ⟨b,off+j,none⟩=some (.int .i64 (zs.getD j 0))):
 Calls Tryz.prog 35 #[.slice (some ⟨b,off,none⟩) n c] w λe w'=>∃v',e= .returned v'/\w'.ownsRow w.heap.size 3 1 v' n ((zs.take n).map (Value.int .i64))/\v'≠ .slice none 0 0/\Below w.heap.size w w':=Any.slices_Clone_int Tryz.ZH b off n c zs w hz hbig hc
def Tryz.SC:Go.Shelf.Ren:=⟨λ|20=>59|n=>n,λ|22=>41|3=>3|4=>4|0=>0|n=>n,λ|n=>n⟩
theorem Tryz.TE:Go.Proofs.Lays2.n20 Tryz.prog Tryz.SC:={
 mixed:=by kernel_rfl
 f20:=Tryz.func59.trans (congrArg some (by kernel_rfl))
 t0:=Tryz.underlying0
 a0:=Tryz.isAgg0
 z0:=Tryz.sizeOf0
 v0:=Tryz.zeroValue0
 t3:=Tryz.underlying3
 a3:=Tryz.isAgg3
 z3:=Tryz.sizeOf3
 v3:=Tryz.zeroValue3
 t4:=Tryz.underlying4
 a4:=Tryz.isAgg4
 z4:=Tryz.sizeOf4
 v4:=Tryz.zeroValue4
 t22:=Tryz.underlying41
 a22:=Tryz.isAgg41
 z22:=Tryz.sizeOf41
 v22:=Tryz.zeroValue41
 i3:=by kernel_rfl}
open Go.RowKit Go.Lib Go.Sort in
theorem Tryz.slices_Compact_int (blk off cap:Nat) (zs:List Int) (w:World) (hH:Holds (Value.int .i64) w blk off zs.toArray) (hsz:zs.length≤9223372036854775807) (hcap:zs.length≤cap):
 Calls Tryz.prog 59 #[.slice (some ⟨blk,off,none⟩) zs.length cap] w λe w'=>e= .returned (.slice (some ⟨blk,off,none⟩) (Lib.compact zs).length cap)/\∃q,w'=putRow (Value.int .i64) (Sort.ahead w q) blk off (Lib.compact zs++List.replicate (zs.length-(Lib.compact zs).length) 0).toArray:=Any.slices_Compact_int Tryz.TE blk off cap zs w hH hsz hcap
open Go.RowKit Go.Lib Go.Sort in
theorem Tryz.slices_Compact_int_empty (a:Option Addr) (cap:Nat) (w:World):
 Calls Tryz.prog 59 #[.slice a 0 cap] w λe w'=>e= .returned (.slice a 0 cap)/\w'=w:=Any.slices_Compact_int_empty Tryz.TE a cap w
open Go.RowKit Go.Sort in
theorem Tryz.slices_Sort_int_none (p:Option Addr) (cap:Nat) (w:World):
 Calls Tryz.prog 58 #[.slice p 0 cap] w λe w'=>e= .returned (.tuple #[])/\w'=w:=Any.slices_Sort_int_none Tryz.Xr p cap w
def Tryz.NT:Go.Shelf.Ren:=⟨λ|43=>59|n=>n,λ|22=>41|23=>3|3=>3|4=>4|0=>0|n=>n,λ|n=>n⟩
theorem Tryz.SD:Go.Proofs.SlLaysE.n43 Tryz.prog Tryz.NT:={
 mixed:=by kernel_rfl
 f43:=⟨Tryz.f59.name,by decide,Tryz.func59.trans (congrArg some (by kernel_rfl))⟩
 t0:=Tryz.underlying0
 a0:=Tryz.isAgg0
 z0:=Tryz.sizeOf0
 v0:=Tryz.zeroValue0
 t3:=Tryz.underlying3
 a3:=Tryz.isAgg3
 z3:=Tryz.sizeOf3
 v3:=Tryz.zeroValue3
 t4:=Tryz.underlying4
 a4:=Tryz.isAgg4
 z4:=Tryz.sizeOf4
 v4:=Tryz.zeroValue4
 t22:=Tryz.underlying41
 a22:=Tryz.isAgg41
 z22:=Tryz.sizeOf41
 v22:=Tryz.zeroValue41
 a23:=Tryz.isAgg3
 z23:=Tryz.sizeOf3}
open Go.RowKit Go.Lib Go.Sort in
theorem Tryz.slices_Compact {α:Type} [Inhabited α] [DecidableEq α] (enc:α->Value) (hO:OneCell enc) (heq:EqlAt Tryz.prog 3 enc (λx y=>decide (x=y))) (hne:NeqAt Tryz.prog 3 enc (λx y=>decide (x=y))) (zr:α) (v23:∀w,(zeroValue 3).run Tryz.prog w= .ok (enc zr) w) (blk off cap:Nat) (d:Array α) (w:World) (hH:Holds enc w blk off d) (hsz:d.size≤9223372036854775807) (hcap:d.size≤cap):
 Calls Tryz.prog 59 #[.slice (some ⟨blk,off,none⟩) d.size cap] w λe w'=>e= .returned (.slice (some ⟨blk,off,none⟩) (compactUpTo d d.size).length cap)/\∃q,w'=putRow enc (Sort.ahead w q) blk off (compactUpTo d d.size++List.replicate (d.size-(compactUpTo d d.size).length) zr).toArray:=AnyE.slices_Compact Tryz.SD enc hO heq hne zr v23 blk off cap d w hH hsz hcap
def Tryz.NU:Go.Shelf.Ren:=⟨λ|10=>60|6=>93|n=>n,λ|22=>41|23=>3|25=>129|3=>3|4=>4|0=>0|n=>n,λ|n=>n⟩
theorem Tryz.SE:Go.Proofs.SlLaysH.n10 Tryz.prog Tryz.NU:={
 mixed:=by kernel_rfl
 f6:=⟨Tryz.f93.name,by decide,Tryz.func93.trans (congrArg some (by kernel_rfl))⟩
 f10:=⟨Tryz.f60.name,by decide,Tryz.func60.trans (congrArg some (by kernel_rfl))⟩
 t0:=Tryz.underlying0
 a0:=Tryz.isAgg0
 z0:=Tryz.sizeOf0
 v0:=Tryz.zeroValue0
 t3:=Tryz.underlying3
 a3:=Tryz.isAgg3
 z3:=Tryz.sizeOf3
 v3:=Tryz.zeroValue3
 t4:=Tryz.underlying4
 a4:=Tryz.isAgg4
 z4:=Tryz.sizeOf4
 v4:=Tryz.zeroValue4
 t22:=Tryz.underlying41
 a22:=Tryz.isAgg41
 z22:=Tryz.sizeOf41
 v22:=Tryz.zeroValue41
 a23:=Tryz.isAgg3
 z23:=Tryz.sizeOf3
 t25:=Tryz.underlying129
 a25:=Tryz.isAgg129
 z25:=Tryz.sizeOf129
 v25:=Tryz.zeroValue129}
open Go.RowKit Go.Lib Go.Sort in
theorem Tryz.slices_DeleteFunc {α:Type} [Inhabited α] (enc:α->Value) (hO:OneCell enc) (p:α->Bool) (g:Nat) (lb:Array Value) (eg:∀args w,(callFunc g args).run Tryz.prog w= .ok (.enter g args) w) (zr:α) (v23:∀w,(zeroValue 3).run Tryz.prog w= .ok (enc zr) w) (blk off cap:Nat) (d:Array α) (w:World) (hp:PredAt Tryz.prog g lb enc p w) (hpo:PredOver Tryz.prog g lb enc p blk off d.size w) (hH:Holds enc w blk off d) (hsz:d.size≤9223372036854775807) (hcap:d.size≤cap):
 Calls Tryz.prog 60 #[.slice (some ⟨blk,off,none⟩) d.size cap,.func (.func g) #[] lb] w λe w'=>e= .returned (.slice (some ⟨blk,off,none⟩) (d.toList.filter λx=> !p x).length cap)/\∃q,w'=putRow enc (Sort.ahead w q) blk off ((d.toList.filter λx=> !p x)++List.replicate (d.size-(d.toList.filter λx=> !p x).length) zr).toArray:=AnyE.slices_DeleteFunc Tryz.SE enc hO p g lb eg zr v23 blk off cap d w hp hpo hH hsz hcap
end Go.Proofs
namespace Go.Abs
open Go.Proofs Go.Sort Go.RowKit
theorem QT (l:List Int):(Lib.compact l).length≤l.length:=by
 unfold Lib.compact Lib.compactUpTo
 rw[List.length_map]
 exact Nat.le_trans (List.length_filter_le _ _) (by simp)
def Il (l:List Int):Option (List Int):=if l.length<4611686018427387904 then some (l.mergeSort λx y=>decide (x≤y))else none
theorem Rf {l r:List Int} (h:Il l=some r):A5 Tryz.prog 58 [.own false 1 (l.map eI)] (.A9 []) [.own false 1 (r.map eI)]:=by
 obtain⟨g,h⟩:=HZ h
 obtain rfl:=Option.some.inj h
 exact XJ Tryz.slices_Sort_int Tryz.slices_Sort_int_none l g
def slices_Compact (l:List Int):Option (List Int):=if l.length<4611686018427387904 then some (Lib.compact l)else none
theorem OD {l r:List Int} (h:slices_Compact l=some r):Says Tryz.prog 59 [.own false 1 (l.map eI)] (.own false 1 (r.map eI)):=by
 obtain⟨g,h⟩:=HZ h
 obtain rfl:=Option.some.inj h
 exact Ry Tryz.slices_Compact_int Tryz.slices_Compact_int_empty l g (QT l) rfl
theorem jF (b off:Nat) (n x:Int) (W:World) (hc:W.cell? ⟨b,off,none⟩=some (.int .i64 n)):
 FnGives Tryz.prog 61 #[.pointer (some ⟨b,off,none⟩)] #[.int .i64 x] (.bool (x==n)) W:=by
 show Calls Tryz.prog 61 #[.int .i64 x,.pointer (some ⟨b,off,none⟩)] W _
 go_enter Tryz.func61,Tryz.ntmps61
 go_wp2
 all_goals (go_ret;exact⟨by simp_all,0,rfl⟩)
def F6 (l:List Int) (n:Int):Option (List Int):=if l≠[]/\l.length<4611686018427387904 then some (l.filter λx=> !(x==n))else none
theorem I9 {l r:List Int} {n:Int} (h:F6 l n=some r):Says Tryz.prog 60 [.own false 1 (l.map eI),.Wn 61 [[si n]]] (.own false 1 (r.map eI)):=by
 obtain⟨⟨g1,g2⟩,h⟩:=HZ h
 obtain rfl:=Option.some.inj h
 refine Tn (q:=λn x=>x==n) ?_ jF l n g1 g2
 intro lb p blk off cap d w hp hpo hH hsz hcap
 exact Tryz.slices_DeleteFunc (Value.int .i64) (λ_=>rfl) p 61 lb (enters_of Tryz.func61 (by kernel_rfl) rfl) 0 (Tryz.zeroValue3) blk off cap d w hp hpo hH hsz hcap
end Go.Abs
