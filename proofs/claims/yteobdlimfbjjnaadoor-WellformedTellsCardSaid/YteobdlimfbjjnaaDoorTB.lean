/- The types of the program, and how their values are read. -/
import Derived.Test.YteobdlimfbjjnaaDoorCoreD
import Derived.Test.YteobdlimfbjjnaaDoorProg
import Derived.KernelRfl
namespace Go.Abs
open Go.Proofs
set_option maxRecDepth 100000
set_option maxHeartbeats 4000000
theorem mix : Tryd.prog.follows .mixedOrders = true := by kernel_rfl
@[go_sem] theorem gamAt0 : gamAt 0 22 = some (gamS0.map Value.string) := by rfl
structure SCell where
  Name : ByteArray
  Index : Int
  Size : Int
  Volatile : Bool
  Init : Int
  deriving DecidableEq
structure SLock where
  Name : ByteArray
  RW : Bool
  deriving DecidableEq
structure SCond where
  Name : ByteArray
  Mutex : Int
  deriving DecidableEq
structure SSite where
  Thread : Int
  Stmt : Int
  Line : Int
  deriving DecidableEq
structure SWorld where
  Cells : List SCell
  Locks : List SLock
  Conds : List SCond
  Futures : List ByteArray
  Threads : List ByteArray
  Sites : List SSite
  deriving DecidableEq
structure SLockState where
  Owner : Int
  Readers : List Int
  deriving DecidableEq
structure SThreadSync where
  Status : Int
  Cond : Int
  Atomic : Bool
  deriving DecidableEq
structure SSync where
  Locks : List SLockState
  Tx : Int
  Done : List Bool
  Threads : List SThreadSync
  deriving DecidableEq
structure SSnapshot where
  Sync : SSync
  Cells : List Int
  Futures : List Int
  Count : List Int
  deriving DecidableEq
structure SEvent where
  Thread : Int
  Kind : Int
  Obj : Int
  Value : Int
  Site : Int
  Deps : List Int
  From : List Int
  deriving DecidableEq
structure STrace where
  World : SWorld
  Events : List SEvent
  deriving DecidableEq
def eCell (x : SCell) : List AV := [sst x.Name, si x.Index, si x.Size, sb x.Volatile, si x.Init]
@[go_sem] theorem eCell_ce (l : List SCell) : ((l.map eCell).all fun x => x.all cellA) = true := by simp [eCell, cellA]
@[go_sem] theorem eCell_pl (l : List SCell) : ((l.map eCell).all fun x => x.all plainA) = true := by simp [eCell, plainA]
@[go_sem] theorem eCell_fz (l : List SCell) : frzR (l.map eCell) = l.map eCell := by induction l with | nil => rfl | cons x l ih => simp only [List.map_cons, frzR, frzL, frz, ih, eCell]
@[go_sem] theorem eCell_fm (l : List SCell) : (l.map eCell).map (fun x => x.map frz) = l.map eCell := by rw [← frzR_eq]; exact eCell_fz l
@[go_sem] theorem eCell_fr (l : List SCell) : freshR (l.map eCell) = true := by induction l with | nil => rfl | cons x l ih => simp [freshR, freshL, fresh, eCell, ih]
attribute [go_sem] eCell
def eS (x : ByteArray) : List AV := [sst x]
@[go_sem] theorem eS_sn (l : List ByteArray) (y0 : ByteArray) : l.map eS ++ [[sst y0]] = (l ++ [y0]).map eS := by simp [eS]
@[go_sem] theorem eS_ce (l : List ByteArray) : ((l.map eS).all fun x => x.all cellA) = true := by simp [eS, cellA]
@[go_sem] theorem eS_pl (l : List ByteArray) : ((l.map eS).all fun x => x.all plainA) = true := by simp [eS, plainA]
@[go_sem] theorem eS_fz (l : List ByteArray) : frzR (l.map eS) = l.map eS := by induction l with | nil => rfl | cons x l ih => simp only [List.map_cons, frzR, frzL, frz, ih, eS]
@[go_sem] theorem eS_fm (l : List ByteArray) : (l.map eS).map (fun x => x.map frz) = l.map eS := by rw [← frzR_eq]; exact eS_fz l
@[go_sem] theorem eS_fr (l : List ByteArray) : freshR (l.map eS) = true := by induction l with | nil => rfl | cons x l ih => simp [freshR, freshL, fresh, eS, ih]
attribute [go_sem] eS
def eLock (x : SLock) : List AV := [sst x.Name, sb x.RW]
@[go_sem] theorem eLock_ce (l : List SLock) : ((l.map eLock).all fun x => x.all cellA) = true := by simp [eLock, cellA]
@[go_sem] theorem eLock_pl (l : List SLock) : ((l.map eLock).all fun x => x.all plainA) = true := by simp [eLock, plainA]
@[go_sem] theorem eLock_fz (l : List SLock) : frzR (l.map eLock) = l.map eLock := by induction l with | nil => rfl | cons x l ih => simp only [List.map_cons, frzR, frzL, frz, ih, eLock]
@[go_sem] theorem eLock_fm (l : List SLock) : (l.map eLock).map (fun x => x.map frz) = l.map eLock := by rw [← frzR_eq]; exact eLock_fz l
@[go_sem] theorem eLock_fr (l : List SLock) : freshR (l.map eLock) = true := by induction l with | nil => rfl | cons x l ih => simp [freshR, freshL, fresh, eLock, ih]
attribute [go_sem] eLock
def eCond (x : SCond) : List AV := [sst x.Name, si x.Mutex]
@[go_sem] theorem eCond_ce (l : List SCond) : ((l.map eCond).all fun x => x.all cellA) = true := by simp [eCond, cellA]
@[go_sem] theorem eCond_pl (l : List SCond) : ((l.map eCond).all fun x => x.all plainA) = true := by simp [eCond, plainA]
@[go_sem] theorem eCond_fz (l : List SCond) : frzR (l.map eCond) = l.map eCond := by induction l with | nil => rfl | cons x l ih => simp only [List.map_cons, frzR, frzL, frz, ih, eCond]
@[go_sem] theorem eCond_fm (l : List SCond) : (l.map eCond).map (fun x => x.map frz) = l.map eCond := by rw [← frzR_eq]; exact eCond_fz l
@[go_sem] theorem eCond_fr (l : List SCond) : freshR (l.map eCond) = true := by induction l with | nil => rfl | cons x l ih => simp [freshR, freshL, fresh, eCond, ih]
attribute [go_sem] eCond
def eSite (x : SSite) : List AV := [si x.Thread, si x.Stmt, si x.Line]
@[go_sem] theorem eSite_ce (l : List SSite) : ((l.map eSite).all fun x => x.all cellA) = true := by simp [eSite, cellA]
@[go_sem] theorem eSite_pl (l : List SSite) : ((l.map eSite).all fun x => x.all plainA) = true := by simp [eSite, plainA]
@[go_sem] theorem eSite_fz (l : List SSite) : frzR (l.map eSite) = l.map eSite := by induction l with | nil => rfl | cons x l ih => simp only [List.map_cons, frzR, frzL, frz, ih, eSite]
@[go_sem] theorem eSite_fm (l : List SSite) : (l.map eSite).map (fun x => x.map frz) = l.map eSite := by rw [← frzR_eq]; exact eSite_fz l
@[go_sem] theorem eSite_fr (l : List SSite) : freshR (l.map eSite) = true := by induction l with | nil => rfl | cons x l ih => simp [freshR, freshL, fresh, eSite, ih]
attribute [go_sem] eSite
def eWorld (x : SWorld) : List AV := [.sl false 5 (x.Cells.map eCell), .sl false 2 (x.Locks.map eLock), .sl false 2 (x.Conds.map eCond), .sl false 1 (x.Futures.map eS), .sl false 1 (x.Threads.map eS), .sl false 3 (x.Sites.map eSite)]
@[go_sem] theorem eWorld_ce (l : List SWorld) : ((l.map eWorld).all fun x => x.all cellA) = true := by simp [eWorld, cellA]
@[go_sem] theorem eWorld_pl (l : List SWorld) : ((l.map eWorld).all fun x => x.all plainA) = true := by simp [eWorld, plainA]
@[go_sem] theorem eWorld_fz (l : List SWorld) : frzR (l.map eWorld) = l.map eWorld := by induction l with | nil => rfl | cons x l ih => simp only [List.map_cons, frzR, frzL, frz, ih, eWorld]
@[go_sem] theorem eWorld_fm (l : List SWorld) : (l.map eWorld).map (fun x => x.map frz) = l.map eWorld := by rw [← frzR_eq]; exact eWorld_fz l
attribute [go_sem] eWorld
def eI (x : Int) : List AV := [si x]
@[go_sem] theorem eI_sn (l : List Int) (y0 : Int) : l.map eI ++ [[si y0]] = (l ++ [y0]).map eI := by simp [eI]
@[go_sem] theorem eI_se (l : List Int) (i : Nat) (y0 : Int) : (l.map eI).set i [si y0] = (l.set i y0).map eI := by simp [eI, List.map_set]
@[go_sem] theorem eI_re (n : Nat) (y0 : Int) : List.replicate n [si y0] = (List.replicate n y0).map eI := by simp [eI]
@[go_sem] theorem eI_ce (l : List Int) : ((l.map eI).all fun x => x.all cellA) = true := by simp [eI, cellA]
@[go_sem] theorem eI_pl (l : List Int) : ((l.map eI).all fun x => x.all plainA) = true := by simp [eI, plainA]
@[go_sem] theorem eI_fz (l : List Int) : frzR (l.map eI) = l.map eI := by induction l with | nil => rfl | cons x l ih => simp only [List.map_cons, frzR, frzL, frz, ih, eI]
@[go_sem] theorem eI_fm (l : List Int) : (l.map eI).map (fun x => x.map frz) = l.map eI := by rw [← frzR_eq]; exact eI_fz l
@[go_sem] theorem eI_fr (l : List Int) : freshR (l.map eI) = true := by induction l with | nil => rfl | cons x l ih => simp [freshR, freshL, fresh, eI, ih]
attribute [go_sem] eI
def eLockState (x : SLockState) : List AV := [si x.Owner, .sl false 1 (x.Readers.map eI)]
@[go_sem] theorem eLockState_ce (l : List SLockState) : ((l.map eLockState).all fun x => x.all cellA) = true := by simp [eLockState, cellA]
@[go_sem] theorem eLockState_pl (l : List SLockState) : ((l.map eLockState).all fun x => x.all plainA) = true := by simp [eLockState, plainA]
@[go_sem] theorem eLockState_fz (l : List SLockState) : frzR (l.map eLockState) = l.map eLockState := by induction l with | nil => rfl | cons x l ih => simp only [List.map_cons, frzR, frzL, frz, ih, eLockState]
@[go_sem] theorem eLockState_fm (l : List SLockState) : (l.map eLockState).map (fun x => x.map frz) = l.map eLockState := by rw [← frzR_eq]; exact eLockState_fz l
attribute [go_sem] eLockState
def eB (x : Bool) : List AV := [sb x]
@[go_sem] theorem eB_sn (l : List Bool) (y0 : Bool) : l.map eB ++ [[sb y0]] = (l ++ [y0]).map eB := by simp [eB]
@[go_sem] theorem eB_se (l : List Bool) (i : Nat) (y0 : Bool) : (l.map eB).set i [sb y0] = (l.set i y0).map eB := by simp [eB, List.map_set]
@[go_sem] theorem eB_re (n : Nat) (y0 : Bool) : List.replicate n [sb y0] = (List.replicate n y0).map eB := by simp [eB]
@[go_sem] theorem eB_ce (l : List Bool) : ((l.map eB).all fun x => x.all cellA) = true := by simp [eB, cellA]
@[go_sem] theorem eB_pl (l : List Bool) : ((l.map eB).all fun x => x.all plainA) = true := by simp [eB, plainA]
@[go_sem] theorem eB_fz (l : List Bool) : frzR (l.map eB) = l.map eB := by induction l with | nil => rfl | cons x l ih => simp only [List.map_cons, frzR, frzL, frz, ih, eB]
@[go_sem] theorem eB_fm (l : List Bool) : (l.map eB).map (fun x => x.map frz) = l.map eB := by rw [← frzR_eq]; exact eB_fz l
@[go_sem] theorem eB_fr (l : List Bool) : freshR (l.map eB) = true := by induction l with | nil => rfl | cons x l ih => simp [freshR, freshL, fresh, eB, ih]
attribute [go_sem] eB
def eThreadSync (x : SThreadSync) : List AV := [si x.Status, si x.Cond, sb x.Atomic]
@[go_sem] theorem eThreadSync_sn (l : List SThreadSync) (y0 : Int) (y1 : Int) (y2 : Bool) : l.map eThreadSync ++ [[si y0, si y1, sb y2]] = (l ++ [(SThreadSync.mk y0 y1 y2)]).map eThreadSync := by simp [eThreadSync]
@[go_sem] theorem eThreadSync_se (l : List SThreadSync) (i : Nat) (y0 : Int) (y1 : Int) (y2 : Bool) : (l.map eThreadSync).set i [si y0, si y1, sb y2] = (l.set i (SThreadSync.mk y0 y1 y2)).map eThreadSync := by simp [eThreadSync, List.map_set]
@[go_sem] theorem eThreadSync_re (n : Nat) (y0 : Int) (y1 : Int) (y2 : Bool) : List.replicate n [si y0, si y1, sb y2] = (List.replicate n (SThreadSync.mk y0 y1 y2)).map eThreadSync := by simp [eThreadSync]
@[go_sem] theorem eThreadSync_ce (l : List SThreadSync) : ((l.map eThreadSync).all fun x => x.all cellA) = true := by simp [eThreadSync, cellA]
@[go_sem] theorem eThreadSync_pl (l : List SThreadSync) : ((l.map eThreadSync).all fun x => x.all plainA) = true := by simp [eThreadSync, plainA]
@[go_sem] theorem eThreadSync_fz (l : List SThreadSync) : frzR (l.map eThreadSync) = l.map eThreadSync := by induction l with | nil => rfl | cons x l ih => simp only [List.map_cons, frzR, frzL, frz, ih, eThreadSync]
@[go_sem] theorem eThreadSync_fm (l : List SThreadSync) : (l.map eThreadSync).map (fun x => x.map frz) = l.map eThreadSync := by rw [← frzR_eq]; exact eThreadSync_fz l
@[go_sem] theorem eThreadSync_fr (l : List SThreadSync) : freshR (l.map eThreadSync) = true := by induction l with | nil => rfl | cons x l ih => simp [freshR, freshL, fresh, eThreadSync, ih]
attribute [go_sem] eThreadSync
def eSync (x : SSync) : List AV := [.sl false 2 (x.Locks.map eLockState), si x.Tx, .sl false 1 (x.Done.map eB), .sl false 3 (x.Threads.map eThreadSync)]
@[go_sem] theorem eSync_ce (l : List SSync) : ((l.map eSync).all fun x => x.all cellA) = true := by simp [eSync, cellA]
@[go_sem] theorem eSync_pl (l : List SSync) : ((l.map eSync).all fun x => x.all plainA) = true := by simp [eSync, plainA]
@[go_sem] theorem eSync_fz (l : List SSync) : frzR (l.map eSync) = l.map eSync := by induction l with | nil => rfl | cons x l ih => simp only [List.map_cons, frzR, frzL, frz, ih, eSync]
@[go_sem] theorem eSync_fm (l : List SSync) : (l.map eSync).map (fun x => x.map frz) = l.map eSync := by rw [← frzR_eq]; exact eSync_fz l
attribute [go_sem] eSync
def eLockStateo (x : SLockState) : List AV := [si x.Owner, .own false 1 (x.Readers.map eI)]
@[go_sem] theorem eLockStateo_sn (l : List SLockState) (y0 : Int) (y1 : List Int) : l.map eLockStateo ++ [[si y0, .own false 1 (y1.map eI)]] = (l ++ [(SLockState.mk y0 y1)]).map eLockStateo := by simp [eLockStateo]
@[go_sem] theorem eLockStateo_se (l : List SLockState) (i : Nat) (y0 : Int) (y1 : List Int) : (l.map eLockStateo).set i [si y0, .own false 1 (y1.map eI)] = (l.set i (SLockState.mk y0 y1)).map eLockStateo := by simp [eLockStateo, List.map_set]
@[go_sem] theorem eLockStateo_re (n : Nat) (y0 : Int) (y1 : List Int) : List.replicate n [si y0, .own false 1 (y1.map eI)] = (List.replicate n (SLockState.mk y0 y1)).map eLockStateo := by simp [eLockStateo]
@[go_sem] theorem eLockStateo_sn1 (l : List SLockState) (y0 : Int) : l.map eLockStateo ++ [[si y0, .own false 1 []]] = (l ++ [(SLockState.mk y0 [])]).map eLockStateo := by simp [eLockStateo]
@[go_sem] theorem eLockStateo_se1 (l : List SLockState) (i : Nat) (y0 : Int) : (l.map eLockStateo).set i [si y0, .own false 1 []] = (l.set i (SLockState.mk y0 [])).map eLockStateo := by simp [eLockStateo, List.map_set]
@[go_sem] theorem eLockStateo_re1 (n : Nat) (y0 : Int) : List.replicate n [si y0, .own false 1 []] = (List.replicate n (SLockState.mk y0 [])).map eLockStateo := by simp [eLockStateo]
@[go_sem] theorem eLockStateo_ce (l : List SLockState) : ((l.map eLockStateo).all fun x => x.all cellA) = true := by simp [eLockStateo, cellA]
@[go_sem] theorem eLockStateo_fz (l : List SLockState) : frzR (l.map eLockStateo) = l.map eLockState := by induction l with | nil => rfl | cons x l ih => simp only [List.map_cons, frzR, frzL, frz, ih, eLockStateo, eLockState, eI_fz]
@[go_sem] theorem eLockStateo_fm (l : List SLockState) : (l.map eLockStateo).map (fun x => x.map frz) = l.map eLockState := by rw [← frzR_eq]; exact eLockStateo_fz l
@[go_sem] theorem eLockStateo_fr (l : List SLockState) : freshR (l.map eLockStateo) = true := by induction l with | nil => rfl | cons x l ih => simp [freshR, freshL, fresh, eLockStateo, ih, eI_fr]
attribute [go_sem] eLockStateo
def eSynco (x : SSync) : List AV := [.own false 2 (x.Locks.map eLockStateo), si x.Tx, .own false 1 (x.Done.map eB), .own false 3 (x.Threads.map eThreadSync)]
@[go_sem] theorem eSynco_ce (l : List SSync) : ((l.map eSynco).all fun x => x.all cellA) = true := by simp [eSynco, cellA]
@[go_sem] theorem eSynco_fz (l : List SSync) : frzR (l.map eSynco) = l.map eSync := by induction l with | nil => rfl | cons x l ih => simp only [List.map_cons, frzR, frzL, frz, ih, eSynco, eSync, eLockStateo_fz, eB_fz, eThreadSync_fz]
@[go_sem] theorem eSynco_fm (l : List SSync) : (l.map eSynco).map (fun x => x.map frz) = l.map eSync := by rw [← frzR_eq]; exact eSynco_fz l
@[go_sem] theorem eSynco_fr (l : List SSync) : freshR (l.map eSynco) = true := by induction l with | nil => rfl | cons x l ih => simp [freshR, freshL, fresh, eSynco, ih, eLockStateo_fr, eB_fr, eThreadSync_fr]
attribute [go_sem] eSynco
def eSnapshot (x : SSnapshot) : List AV := [.sl false 2 (x.Sync.Locks.map eLockState), si x.Sync.Tx, .sl false 1 (x.Sync.Done.map eB), .sl false 3 (x.Sync.Threads.map eThreadSync), .sl false 1 (x.Cells.map eI), .sl false 1 (x.Futures.map eI), .sl false 1 (x.Count.map eI)]
@[go_sem] theorem eSnapshot_ce (l : List SSnapshot) : ((l.map eSnapshot).all fun x => x.all cellA) = true := by simp [eSnapshot, cellA]
@[go_sem] theorem eSnapshot_pl (l : List SSnapshot) : ((l.map eSnapshot).all fun x => x.all plainA) = true := by simp [eSnapshot, plainA]
@[go_sem] theorem eSnapshot_fz (l : List SSnapshot) : frzR (l.map eSnapshot) = l.map eSnapshot := by induction l with | nil => rfl | cons x l ih => simp only [List.map_cons, frzR, frzL, frz, ih, eSnapshot]
@[go_sem] theorem eSnapshot_fm (l : List SSnapshot) : (l.map eSnapshot).map (fun x => x.map frz) = l.map eSnapshot := by rw [← frzR_eq]; exact eSnapshot_fz l
attribute [go_sem] eSnapshot
def eSnapshoto (x : SSnapshot) : List AV := [.own false 2 (x.Sync.Locks.map eLockStateo), si x.Sync.Tx, .own false 1 (x.Sync.Done.map eB), .own false 3 (x.Sync.Threads.map eThreadSync), .own false 1 (x.Cells.map eI), .own false 1 (x.Futures.map eI), .own false 1 (x.Count.map eI)]
@[go_sem] theorem eSnapshoto_ce (l : List SSnapshot) : ((l.map eSnapshoto).all fun x => x.all cellA) = true := by simp [eSnapshoto, cellA]
@[go_sem] theorem eSnapshoto_fz (l : List SSnapshot) : frzR (l.map eSnapshoto) = l.map eSnapshot := by induction l with | nil => rfl | cons x l ih => simp only [List.map_cons, frzR, frzL, frz, ih, eSnapshoto, eSnapshot, eLockStateo_fz, eB_fz, eThreadSync_fz, eI_fz, eI_fz, eI_fz]
@[go_sem] theorem eSnapshoto_fm (l : List SSnapshot) : (l.map eSnapshoto).map (fun x => x.map frz) = l.map eSnapshot := by rw [← frzR_eq]; exact eSnapshoto_fz l
@[go_sem] theorem eSnapshoto_fr (l : List SSnapshot) : freshR (l.map eSnapshoto) = true := by induction l with | nil => rfl | cons x l ih => simp [freshR, freshL, fresh, eSnapshoto, ih, eLockStateo_fr, eB_fr, eThreadSync_fr, eI_fr, eI_fr, eI_fr]
attribute [go_sem] eSnapshoto
def eEvent (x : SEvent) : List AV := [si x.Thread, si x.Kind, si x.Obj, si x.Value, si x.Site, .sl false 1 (x.Deps.map eI), .sl false 1 (x.From.map eI)]
@[go_sem] theorem eEvent_ce (l : List SEvent) : ((l.map eEvent).all fun x => x.all cellA) = true := by simp [eEvent, cellA]
@[go_sem] theorem eEvent_pl (l : List SEvent) : ((l.map eEvent).all fun x => x.all plainA) = true := by simp [eEvent, plainA]
@[go_sem] theorem eEvent_fz (l : List SEvent) : frzR (l.map eEvent) = l.map eEvent := by induction l with | nil => rfl | cons x l ih => simp only [List.map_cons, frzR, frzL, frz, ih, eEvent]
@[go_sem] theorem eEvent_fm (l : List SEvent) : (l.map eEvent).map (fun x => x.map frz) = l.map eEvent := by rw [← frzR_eq]; exact eEvent_fz l
attribute [go_sem] eEvent
def eTrace (x : STrace) : List AV := [.sl false 5 (x.World.Cells.map eCell), .sl false 2 (x.World.Locks.map eLock), .sl false 2 (x.World.Conds.map eCond), .sl false 1 (x.World.Futures.map eS), .sl false 1 (x.World.Threads.map eS), .sl false 3 (x.World.Sites.map eSite), .sl false 7 (x.Events.map eEvent)]
@[go_sem] theorem eTrace_ce (l : List STrace) : ((l.map eTrace).all fun x => x.all cellA) = true := by simp [eTrace, cellA]
@[go_sem] theorem eTrace_pl (l : List STrace) : ((l.map eTrace).all fun x => x.all plainA) = true := by simp [eTrace, plainA]
@[go_sem] theorem eTrace_fz (l : List STrace) : frzR (l.map eTrace) = l.map eTrace := by induction l with | nil => rfl | cons x l ih => simp only [List.map_cons, frzR, frzL, frz, ih, eTrace]
@[go_sem] theorem eTrace_fm (l : List STrace) : (l.map eTrace).map (fun x => x.map frz) = l.map eTrace := by rw [← frzR_eq]; exact eTrace_fz l
attribute [go_sem] eTrace
def eLB (x : List Bool) : List AV := [.sl false 1 (x.map eB)]
@[go_sem] theorem eLB_ce (l : List (List Bool)) : ((l.map eLB).all fun x => x.all cellA) = true := by simp [eLB, cellA]
@[go_sem] theorem eLB_pl (l : List (List Bool)) : ((l.map eLB).all fun x => x.all plainA) = true := by simp [eLB, plainA]
@[go_sem] theorem eLB_fz (l : List (List Bool)) : frzR (l.map eLB) = l.map eLB := by induction l with | nil => rfl | cons x l ih => simp only [List.map_cons, frzR, frzL, frz, ih, eLB]
@[go_sem] theorem eLB_fm (l : List (List Bool)) : (l.map eLB).map (fun x => x.map frz) = l.map eLB := by rw [← frzR_eq]; exact eLB_fz l
attribute [go_sem] eLB
def eLBo (x : List Bool) : List AV := [.own false 1 (x.map eB)]
@[go_sem] theorem eLBo_se (l : List (List Bool)) (i : Nat) (y0 : List Bool) : (l.map eLBo).set i [.own false 1 (y0.map eB)] = (l.set i y0).map eLBo := by simp [eLBo, List.map_set]
@[go_sem] theorem eLBo_re (n : Nat) (y0 : List Bool) : List.replicate n [.own false 1 (y0.map eB)] = (List.replicate n y0).map eLBo := by simp [eLBo]
@[go_sem] theorem eLBo_se1 (l : List (List Bool)) (i : Nat) : (l.map eLBo).set i [.own false 1 []] = (l.set i []).map eLBo := by simp [eLBo, List.map_set]
@[go_sem] theorem eLBo_re1 (n : Nat) : List.replicate n [.own false 1 []] = (List.replicate n []).map eLBo := by simp [eLBo]
@[go_sem] theorem eLBo_ce (l : List (List Bool)) : ((l.map eLBo).all fun x => x.all cellA) = true := by simp [eLBo, cellA]
@[go_sem] theorem eLBo_fz (l : List (List Bool)) : frzR (l.map eLBo) = l.map eLB := by induction l with | nil => rfl | cons x l ih => simp only [List.map_cons, frzR, frzL, frz, ih, eLBo, eLB, eB_fz]
@[go_sem] theorem eLBo_fm (l : List (List Bool)) : (l.map eLBo).map (fun x => x.map frz) = l.map eLB := by rw [← frzR_eq]; exact eLBo_fz l
@[go_sem] theorem eLBo_fr (l : List (List Bool)) : freshR (l.map eLBo) = true := by induction l with | nil => rfl | cons x l ih => simp [freshR, freshL, fresh, eLBo, ih, eB_fr]
attribute [go_sem] eLBo
end Go.Abs
