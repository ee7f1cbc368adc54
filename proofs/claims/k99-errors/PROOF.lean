import PyProof.Rows.All
import Wide.All
import OpenK.AllK
import Wide.FinOn
import HandS.HeadHook2
import HandS.Head0
import HandS.Head1
import HandS.Head2
import HandS.HeadEnd
import HandS.HeadHook1
import HandS.ForExc
import HandS.ExcInit
import HandS.ExcIs
import HandS.IsInst
import HandS.Defaults
import KE.KExcIs
import HandS.ExcValue
import HandS.ForMost
import HandS.Evl
import HandS.Style
import HandS.Flow
import HandS.HotCalls
import HandS.ExcBuiltin
import PySem.Challenge.RW_flowbench_k99_errors
set_option Elab.async false
set_option linter.all false
set_option maxRecDepth 100000
namespace Lw
open PySem
/-- the text's i-th statement -/
def top (i : Nat) : Stmt := PySem.Challenge.pw_flowbench_k99_errors.main.body.getD i (.Pass ⟨0, 0, 0, 0⟩)
end Lw

set_option maxHeartbeats 0
/-! The top of law k99: its defs and classes by names, and the run of the top. -/
namespace K99
open PySem PySem.Spec PyProof.Rows L2
open Lw
/-- the classes in the law's order: where the text has them, the name, the fields, the address -/
structure CD where
  ix : Nat
  nm : Str
  fs : List Str
  ad : Addr
def cds0 : List CD := [⟨2, "InvalidArc", ["given"], 44⟩, ⟨3, "InvalidBodies", ["given"], 63⟩, ⟨4, "InvalidBools", ["given"], 82⟩, ⟨5, "InvalidBounds", ["given"], 101⟩, ⟨6, "InvalidChances", ["given"], 120⟩, ⟨7, "InvalidChange", ["given"], 139⟩, ⟨8, "InvalidCopies", ["given"], 158⟩, ⟨9, "InvalidCosts", ["given"], 177⟩, ⟨10, "InvalidCounts", ["given"], 196⟩, ⟨11, "InvalidDefinition", ["given"], 215⟩, ⟨12, "InvalidElement", ["given"], 234⟩, ⟨13, "InvalidExpression", ["given"], 253⟩, ⟨14, "InvalidFunction", ["given"], 272⟩, ⟨15, "InvalidImages", ["given"], 291⟩, ⟨16, "InvalidIndex", ["given"], 310⟩, ⟨17, "InvalidInputs", ["given"], 329⟩, ⟨18, "InvalidInterval", ["given"], 348⟩, ⟨19, "InvalidIntervals", ["given"], 367⟩, ⟨20, "InvalidKind", ["given"], 386⟩, ⟨21, "InvalidLattice", ["given"], 405⟩, ⟨22, "InvalidLine", ["given"], 424⟩, ⟨23, "InvalidMoves", ["given"], 443⟩, ⟨24, "InvalidNexts", ["given"], 462⟩, ⟨25, "InvalidNode", ["given"], 481⟩, ⟨26, "InvalidNodes", ["given"], 500⟩, ⟨27, "InvalidNumber", ["given"], 519⟩, ⟨28, "InvalidOrder", ["given"], 538⟩, ⟨29, "InvalidPairs", ["given"], 557⟩, ⟨30, "InvalidPlace", ["given"], 576⟩, ⟨31, "InvalidPointer", ["given"], 595⟩, ⟨32, "InvalidPool", ["given"], 614⟩, ⟨33, "InvalidProgram", ["given"], 633⟩, ⟨34, "InvalidRow", ["given"], 652⟩]
def cds1 : List CD := [⟨35, "InvalidRows", ["given"], 671⟩, ⟨36, "InvalidSigns", ["given"], 690⟩, ⟨37, "InvalidStatements", ["given"], 709⟩, ⟨38, "InvalidStep", ["given"], 728⟩, ⟨39, "InvalidSteps", ["given"], 747⟩, ⟨40, "InvalidTable", ["given"], 766⟩, ⟨41, "InvalidTests", ["given"], 785⟩, ⟨42, "InvalidText", ["given"], 804⟩, ⟨43, "InvalidValues", ["given"], 823⟩, ⟨44, "InvalidVariable", ["given"], 842⟩, ⟨45, "InvalidWay", ["given"], 861⟩, ⟨46, "InvalidWays", ["given"], 880⟩, ⟨64, "Refused", ["given"], 1175⟩, ⟨48, "CannotDo", ["change"], 899⟩, ⟨49, "Ended", [], 911⟩, ⟨50, "InvalidClaim", ["index"], 930⟩, ⟨51, "InvalidRecord", ["index"], 949⟩, ⟨52, "Irreducible", ["circle"], 968⟩, ⟨53, "NoJoin", ["one", "other"], 987⟩, ⟨54, "NoLoop", ["head"], 1006⟩, ⟨55, "NoMeet", ["one", "other"], 1025⟩, ⟨56, "NoStop", ["node"], 1044⟩, ⟨57, "NoWayOut", ["node"], 1063⟩, ⟨58, "NotOrder", ["one", "other"], 1082⟩, ⟨59, "NotRising", [], 1094⟩, ⟨60, "NotSkip", ["node"], 1113⟩, ⟨61, "NotTest", ["node"], 1132⟩, ⟨62, "NothingToRedo", [], 1144⟩, ⟨63, "NothingToUndo", [], 1156⟩, ⟨65, "StopThere", ["node"], 1194⟩, ⟨66, "TooMany", ["count"], 1213⟩, ⟨67, "UnknownName", ["name"], 1232⟩, ⟨68, "Unreached", ["node"], 1251⟩]
def cds : List CD := cds0 ++ cds1
def CD.st (c : CD) : Stmt := inClass (top c.ix) 0
def CD.qual (c : CD) : Str := c.nm ++ (".__init__" : Str)
/-- a def of the law's own: its name, where the text has it, its address -/
structure FD where
  nm : Str
  ix : Nat
  ad : Addr
def fds : List FD := [⟨"_law_cell", 70, 1260⟩, ⟨"_law_box", 71, 1267⟩, ⟨"_law_take", 72, 1274⟩, ⟨"_law_same", 73, 1279⟩, ⟨"_law_named", 76, 1298⟩, ⟨"_law_placed", 77, 1305⟩, ⟨"_law_classes", 78, 1312⟩, ⟨"_law_kept", 79, 1319⟩, ⟨"_law_many", 80, 1326⟩, ⟨"_law_value", 81, 1333⟩, ⟨"_law_errors_right", 82, 1338⟩, ⟨"_law_raised", 83, 1345⟩, ⟨"law", 84, 1352⟩]
abbrev AF : Addr := 24
open PySem.W in
/-- an exception class over par and ValueError -/
def xcB (K : Frag) (C : Addr) (par : List Value) : Bool := match K.lookup C with
  | some ⟨.type t, _, .cls cd, sl⟩ => decide (t = "type") && (decide (cd.mro = .ref C :: (par ++ PySem.HandSPX.veTail)) && (cd.hasDict && (!cd.hasDel && (match sl.toList with
    | [_, _, _, _, some (.builtin n), _] => decide (n = "ValueError.__new__")
    | _ => false))))
  | _ => false
open PySem.W in
def xtB (K : Frag) (C : Addr) : Bool := decide (findIn K (.ref C) "__setattr__" = some (some (.builtin "object.__setattr__"))) && (keepIn K (.ref C) && (decide (findIn K (.ref C) "__getattribute__" = some (some (.builtin "BaseException.__getattribute__"))) &&
  (decide (findIn K (.ref C) "__getattr__" = some none) && decide (findIn K (.ref C) "__class__" = some (some (.builtin "object.__class__"))))))
open PySem.W in
def xiB (K : Frag) (C fI : Addr) (fs : List Str) : Bool := match fs with
  | [] => excIn K C He.veBase "ValueError.__new__"
  | _ :: _ => decide (findIn K (.ref C) "__init__" = some (some (.ref fI))) && (isFn K (.ref fI) && fs.all fun f => decide (findIn K (.ref C) f = some none))
/-- what a def at f is -/
def fnA (K : PySem.W.Frag) (f : Addr) : He.FnW := match K.lookup f with
  | some ⟨_, _, .func fd, _⟩ => some (fd.name, fd.qualname, fd.params, fd.body, fd.scope, fd.globals, fd.closure, fd.builtins)
  | _ => none
def fnOkA (K : PySem.W.Frag) (f : Addr) (qual : Str) : Bool := match K.lookup f with
  | some ⟨_, _, .func fd, _⟩ => PySem.W.codeIn K fd.code qual && (He.dflB K fd.defaults [] && He.kwdB K fd.kwdefaults [])
  | _ => false
/-- the list with its objects looked at, from the left: so the kernel reads each object once -/
def frcO {β : Type} : Obj → (Obj → β) → β
  | ⟨c, d, dt, sl⟩, k => k ⟨c, d, dt, sl⟩
def frc {β : Type} (g : Addr → Option Obj) : List Addr → (PySem.W.Frag → β) → β
  | [], k => k []
  | a :: r, k => match g a with
    | some o => frcO o fun o => frc g r fun K => k ((a, o) :: K)
    | none => frc g r k
theorem frcO_eq {β : Type} (o : Obj) (k : Obj → β) : frcO o k = k o := by
  obtain ⟨c, d, dt, sl⟩ := o
  rfl
theorem frc_eq {β : Type} (g : Addr → Option Obj) : ∀ (as : List Addr) (k : PySem.W.Frag → β), frc g as k = k (He.frG g as)
  | [], k => rfl
  | a :: r, k => by
    unfold frc
    cases e : g a with
    | none =>
      show frc g r k = _
      rw [frc_eq g r k]
      unfold He.frG
      rw [List.filterMap_cons, e]
      rfl
    | some o =>
      show frcO o _ = _
      rw [frcO_eq, frc_eq g r]
      unfold He.frG
      rw [List.filterMap_cons, e]
      rfl
/-! ### what is looked at -/
/-- a class's part of the heap -/
def CD.as (c : CD) : List Addr := match c.fs with
  | [] => [c.ad, c.ad - 1, 24, 23]
  | _ :: _ => [c.ad, c.ad - 1, 24, 23, c.ad - 3, c.ad - 4]
def CD.fI (c : CD) : Addr := c.ad - 3
def CD.chk (c : CD) (K : PySem.W.Frag) : Bool := xcB K c.ad [.ref AF] && (xtB K c.ad && (xiB K c.ad c.fI c.fs && (match c.fs with
  | [] => true
  | _ :: _ => fnOkA K c.fI c.qual)))
abbrev OC : Type := Bool × He.FnW
def CD.obs (c : CD) (K : PySem.W.Frag) : OC := (c.chk K, match c.fs with
  | [] => none
  | _ :: _ => fnA K c.fI)
def CD.val (c : CD) : OC := (true, match c.fs with
  | [] => none
  | _ :: _ => some ("__init__", c.qual, defArgs c.st, .stmts (defBody c.st), defScope c.st, mainGlobals, [], builtinsNs))
def FD.as (d : FD) : List Addr := [d.ad, d.ad - 1]
def FD.st (d : FD) : Stmt := top d.ix
def FD.obs (d : FD) (K : PySem.W.Frag) : OC := (fnOkA K d.ad d.nm, fnA K d.ad)
def FD.val (d : FD) : OC := (true, some (d.nm, d.nm, defArgs d.st, .stmts (defBody d.st), defScope d.st, mainGlobals, [], builtinsNs))
def flowB (K : PySem.W.Frag) : Bool := xcB K AF [] && (xtB K AF && xiB K AF 0 [])
/-- a name and what it stands for -/
abbrev NA : Type := Option Str × Option Addr
def refA : Value → Option Addr
  | .ref a => some a
  | _ => none
def keyS : Value → Option Str
  | .str n _ => some n
  | _ => none
def naE (e : DictEntry) : NA := (keyS e.key, refA e.val)
def glo (K : PySem.W.Frag) : List NA := match K.lookup mainGlobals with
  | some ⟨_, _, .dict es _, _⟩ => es.toList.map naE
  | _ => []
def gloL : List NA := ([(some "__name__", none), (some "__doc__", none), (some "__package__", none), (some "__loader__", none), (some "__spec__", none), (some "__annotations__", some 6), (some "__builtins__", some 4), (some "__file__", none), (some "__cached__", none), (some "FlowError", some 24), (some "InvalidArc", some 44), (some "InvalidBodies", some 63), (some "InvalidBools", some 82), (some "InvalidBounds", some 101), (some "InvalidChances", some 120), (some "InvalidChange", some 139), (some "InvalidCopies", some 158), (some "InvalidCosts", some 177), (some "InvalidCounts", some 196), (some "InvalidDefinition", some 215), (some "InvalidElement", some 234), (some "InvalidExpression", some 253), (some "InvalidFunction", some 272), (some "InvalidImages", some 291), (some "InvalidIndex", some 310), (some "InvalidInputs", some 329), (some "InvalidInterval", some 348), (some "InvalidIntervals", some 367), (some "InvalidKind", some 386), (some "InvalidLattice", some 405)] : List NA) ++ ([(some "InvalidLine", some 424), (some "InvalidMoves", some 443), (some "InvalidNexts", some 462), (some "InvalidNode", some 481), (some "InvalidNodes", some 500), (some "InvalidNumber", some 519), (some "InvalidOrder", some 538), (some "InvalidPairs", some 557), (some "InvalidPlace", some 576), (some "InvalidPointer", some 595), (some "InvalidPool", some 614), (some "InvalidProgram", some 633), (some "InvalidRow", some 652), (some "InvalidRows", some 671), (some "InvalidSigns", some 690), (some "InvalidStatements", some 709), (some "InvalidStep", some 728), (some "InvalidSteps", some 747), (some "InvalidTable", some 766), (some "InvalidTests", some 785), (some "InvalidText", some 804), (some "InvalidValues", some 823), (some "InvalidVariable", some 842), (some "InvalidWay", some 861), (some "InvalidWays", some 880), (some "CannotDo", some 899), (some "Ended", some 911), (some "InvalidClaim", some 930), (some "InvalidRecord", some 949), (some "Irreducible", some 968)] : List NA) ++ ([(some "NoJoin", some 987), (some "NoLoop", some 1006), (some "NoMeet", some 1025), (some "NoStop", some 1044), (some "NoWayOut", some 1063), (some "NotOrder", some 1082), (some "NotRising", some 1094), (some "NotSkip", some 1113), (some "NotTest", some 1132), (some "NothingToRedo", some 1144), (some "NothingToUndo", some 1156), (some "Refused", some 1175), (some "StopThere", some 1194), (some "TooMany", some 1213), (some "UnknownName", some 1232), (some "Unreached", some 1251), (some "_law_cell", some 1260), (some "_law_box", some 1267), (some "_law_take", some 1274), (some "_law_same", some 1279), (some "_law_copy", some 1284), (some "_law_very", some 1291), (some "_law_named", some 1298), (some "_law_placed", some 1305), (some "_law_classes", some 1312), (some "_law_kept", some 1319), (some "_law_many", some 1326), (some "_law_value", some 1333), (some "_law_errors_right", some 1338), (some "_law_raised", some 1345)] : List NA) ++ ([(some "law", some 1352)] : List NA)
abbrev AlB : Type := (List NA × Bool) × List OC
abbrev Al : Type := AlB × List OC × List OC
def gB (g : Addr → Option Obj) : AlB := ((frc g [mainGlobals] glo, frc g [24, 23] flowB), fds.map fun d => frc g d.as d.obs)
def gC (l : List CD) (g : Addr → Option Obj) : List OC := l.map fun c => frc g c.as c.obs
def obsG (g : Addr → Option Obj) : Al := (gB g, gC cds0 g, gC cds1 g)
def obsH (g : Addr → Option Obj) : Al := (((glo (He.frG g [mainGlobals]), flowB (He.frG g [24, 23])), fds.map fun d => d.obs (He.frG g d.as)), cds0.map (fun c => c.obs (He.frG g c.as)), cds1.map fun c => c.obs (He.frG g c.as))
theorem obsG_eq (g : Addr → Option Obj) : obsG g = obsH g := by
  unfold obsG obsH gB gC
  rw [frc_eq, frc_eq]
  have h1 : (fun c : CD => frc g c.as c.obs) = fun c => c.obs (He.frG g c.as) := funext fun c => frc_eq _ _ _
  have h2 : (fun d : FD => frc g d.as d.obs) = fun d => d.obs (He.frG g d.as) := funext fun d => frc_eq _ _ _
  rw [h1, h2]
def valB : AlB := ((gloL, true), fds.map FD.val)
def vals : Al := (valB, cds0.map CD.val, cds1.map CD.val)
def asK : List Addr := mainGlobals :: (cds.flatMap CD.as ++ fds.flatMap FD.as)
def hk : PySem.W.Hook where
  α := Al
  obs := fun s => obsG s.heap.get?
  val := fun _ => vals
  says := fun _ h => ∃ g : Addr → Option Obj, (∀ a o, g a = some o → h.get? a = some o) ∧ obsH g = vals
  of := fun w s e => ⟨s.heap.get?, fun _ _ z => z, (obsG_eq _).symm.trans e⟩
  keeps := fun _ _ _ ⟨g, hg, c⟩ k => ⟨g, fun a o z => k a o (hg a o z), c⟩
def ob (s : PySem.W.SharedT) : Al := obsG (HandSHeadRun.getT s)
theorem ob_eq (s : PySem.W.SharedT) : ob s = hk.obs s.abs := by
  have e : HandSHeadRun.getT s = s.abs.heap.get? := funext (HandSHeadRun.getT_eq s)
  show obsG (HandSHeadRun.getT s) = obsG s.abs.heap.get?
  rw [e]
abbrev R : PySem.W.OpenRow := PySem.W.OpenLaw.row PySem.Challenge.rw_flowbench_k99_errors
def loose : List Str := (["FlowError", "InvalidArc", "InvalidBodies", "InvalidBools", "InvalidBounds", "InvalidChances", "InvalidChange", "InvalidCopies", "InvalidCosts", "InvalidCounts", "InvalidDefinition", "InvalidElement", "InvalidExpression", "InvalidFunction", "InvalidImages", "InvalidIndex", "InvalidInputs", "InvalidInterval", "InvalidIntervals", "InvalidKind", "InvalidLattice", "InvalidLine", "InvalidMoves", "InvalidNexts", "InvalidNode", "InvalidNodes", "InvalidNumber", "InvalidOrder", "InvalidPairs", "InvalidPlace"] : List Str) ++ (["InvalidPointer", "InvalidPool", "InvalidProgram", "InvalidRow", "InvalidRows", "InvalidSigns", "InvalidStatements", "InvalidStep", "InvalidSteps", "InvalidTable", "InvalidTests", "InvalidText", "InvalidValues", "InvalidVariable", "InvalidWay", "InvalidWays", "CannotDo", "Ended", "InvalidClaim", "InvalidRecord", "Irreducible", "NoJoin", "NoLoop", "NoMeet", "NoStop", "NoWayOut", "NotOrder", "NotRising", "NotSkip", "NotTest"] : List Str) ++ (["NothingToRedo", "NothingToUndo", "Refused", "StopThere", "TooMany", "UnknownName", "Unreached", "_law_cell", "_law_box", "_law_take", "_law_same", "_law_copy", "_law_very", "_law_named", "_law_placed", "_law_classes", "_law_kept", "_law_many", "_law_value", "_law_errors_right", "_law_raised"] : List Str)
/-! ### the top's run, looked at in parts -/
abbrev Vw : Program := PySem.W.view R.prog [84]
open HandSHeadRun in
noncomputable abbrev endS (w : World) (os : OsState) : Option PySem.W.SharedT := endF (stepQ (denQ tabQ) R.prog w) 20000 R.prog w os
open HandSHeadRun in
noncomputable abbrev lookA (w : World) (s : PySem.W.SharedT) : Bool := looksF R.prog (PySem.W.boot_heap w.params) s.abs
open PySem.Calls in
noncomputable abbrev lookB (w : World) (s : PySem.W.SharedT) := HandSHeadRun.seenQ Vw loose (importedModules R.prog.main.body) (fun s => PySem.W.xlAt Vw [] s && PySem.W.recOk R.toRowW.records s) s.abs
theorem join2 {α β γ : Type} {o : Option α} {f : α → β} {g : α → γ} {x : β} {y : γ} (h : o.map f = some x) (k : o.map g = some y) : o.map (fun s => (f s, g s)) = some (x, y) := by
  cases o with
  | none => cases h
  | some s =>
    cases h
    cases k
    rfl
end K99

set_option maxHeartbeats 0
namespace K99
open PySem PySem.Spec PyProof.Rows L2
open Lw
theorem runA (w : World) (os : OsState) : (endS w os).map (fun s => (lookA w s, lookB w s)) = some (true, PySem.W.openGood Vw loose) := by
  kernel_rfl
end K99

set_option maxHeartbeats 0
namespace K99
open PySem PySem.Spec PyProof.Rows L2
open Lw
theorem runB (w : World) (os : OsState) : (endS w os).map (fun s => gB (HandSHeadRun.getT s)) = some valB := by
  kernel_rfl
end K99

set_option maxHeartbeats 0
namespace K99
open PySem PySem.Spec PyProof.Rows L2
open Lw
theorem runC (w : World) (os : OsState) : (endS w os).map (fun s => gC cds0 (HandSHeadRun.getT s)) = some (cds0.map CD.val) := by
  kernel_rfl
end K99

set_option maxHeartbeats 0
namespace K99
open PySem PySem.Spec PyProof.Rows L2
open Lw
theorem runD (w : World) (os : OsState) : (endS w os).map (fun s => gC cds1 (HandSHeadRun.getT s)) = some (cds1.map CD.val) := by
  kernel_rfl
end K99

set_option maxHeartbeats 4000000
/-! Own exceptions over ValueError held as values: made (also by keywords), their fields read, isinstance asked. -/
namespace PySem
namespace XkL
open PySem.W PySem.Calls PyProof.Rows PySem.HandSPX
section
variable {M : Model} {A : Around} {E : Value → Shared → Prop} {h : Heap} {g : Array GenState} {d : Drawn} {t : Nat} {os : OsState}
variable {nm q : Str} {C N : Addr} {bs bm bmB : List Value} {hdct : Bool} {sn : List Str} {sub : List Value} {ab : Bool} {col : Option Bool} {dd : Option Addr} {k0 k1 k2 k3 k5 : Option Value} {B newId initId : String}
theorem chk_new {us : List Value} {kw : List (Str × Value)} (F : ExcBaseFacts B newId initId bmB) (hT : ∀ Y : String, bm.contains (.type Y) = bmB.contains (.type Y)) {Q : Unit → Shared → Prop}
    (oC : h.get? C = some (excClassObj nm q C N bs bm hdct sn sub ab col dd k0 k1 k2 k3 k5 newId)) (kq : Q () ⟨h, g, d, t, os⟩) : wpAny M A (checkBuiltinCall newId ⟨.ref C :: us, kw⟩) Q E ⟨h, g, d, t, os⟩ := by
  have cB : (Value.ref C :: bm).contains (.type B) = true := by rw [List.contains_cons, hT, F.hasB, Bool.or_true]
  have nostar := F.noStar
  simp only [checkBuiltinCall, F.newKind, F.newSplit, F.newRow]
  repeat (first
    | refine wpAny_loadPart_at oC ?_
    | (refine wpAny_isSubtype_exc oC ?_; rw [cB])
    | refine wpAny_staticBase_exc oC ?_
    | refine wpAny_madeBy_exc oC ?_
    | simp only [bne_self_eq_false, Bool.false_eq_true, if_false]
    | wp_step)
  exact kq
end
section
variable {prog : Program} {w : World} {A : Around} {E : Value → Shared → Prop} {R : Result → Shared → Prop} {h : Heap} {g : Array GenState} {d : Drawn} {t : Nat} {os : OsState}
variable {nm q : Str} {C N : Addr} {bs bm bmB : List Value} {hdct : Bool} {sn : List Str} {sub : List Value} {ab : Bool} {col : Option Bool} {dd : Option Addr} {k0 k1 k2 k3 k5 : Option Value} {B newId initId : String}
/-- the object that BaseException.__new__ lays, its args ahead of it -/
abbrev made2 (h : Heap) (C : Addr) (us : List Value) : Heap := (h.push (W.kdv_tup us)).push (excO C h.objs.size)
theorem made2_keep (h : Heap) (C : Addr) (us : List Value) : ∀ b o, h.get? b = some o → (made2 h C us).get? b = some o := fun b o e =>
  Heap.get?_push_of_some _ (Heap.get?_push_of_some _ e)
theorem made2_at (h : Heap) (C : Addr) (us : List Value) : (made2 h C us).get? (h.objs.size + 1) = some (excO C h.objs.size) := by
  unfold made2
  heap_get
theorem new_kw {us : List Value} {kw : List (Str × Value)} (F : ExcBaseFacts B newId initId bmB) (hT : ∀ Y : String, bm.contains (.type Y) = bmB.contains (.type Y))
    (oC : h.get? C = some (excClassObj nm q C N bs bm hdct sn sub ab col dd k0 k1 k2 k3 k5 newId)) (hl : us.length ≤ sizeLine)
    (kq : R (.ok (.ret (.ref (h.objs.size + 1)))) ⟨made2 h C us, g, d, t, os⟩) : codeAny (model prog w) A (.builtin newId ⟨.ref C :: us, kw⟩) R ⟨h, g, d, t, os⟩ := by
  have ends := F.ends
  have cB : (Value.ref C :: bm).contains (.type B) = true := by rw [List.contains_cons, hT, F.hasB, Bool.or_true]
  have cA : (Value.ref C :: bm).contains (.type "AttributeError") = false := by rw [List.contains_cons, hT, F.noAttr] <;> rfl
  have cN : (Value.ref C :: bm).contains (.type "NameError") = false := by rw [List.contains_cons, hT, F.noName] <;> rfl
  refine codeAny_builtinAt F.entry ?_
  unfold Builtin.«BaseException.__new__»
  refine wpAt_bind ?_
  show wpAt _ _ _ (PySem.stack >>= _) _ _ _
  refine wpAt_bind (wpAt_stack fun p below => wpAt_of_wpAny ?_)
  wp_walk
  refine wpAt_of_wpAny ?_
  rw [F.owner]
  repeat (first
    | with_reducible refine wpAny_madeHere_exc F.canon oC ?_
    | with_reducible refine wpAny_loadPart_at oC ?_
    | (with_reducible refine wpAny_isSubtype_exc oC ?_; first | rw [cB] | rw [cA] | rw [cN])
    | wp_step)
  show R _ _
  rw [Heap.size_push]
  exact kq
theorem typecall_kw {us : List Value} {kw : List (Str × Value)} {fI : Addr} {Q : Fin → Shared → Prop} (F : ExcBaseFacts B newId initId bmB) (hT : ∀ Y : String, bm.contains (.type Y) = bmB.contains (.type Y))
    (oC : h.get? C = some (excClassObj nm q C N bs bm hdct sn sub ab col dd k0 k1 k2 k3 k5 newId))
    (hi : W.Looks (model prog w) h (typeLookup (.ref C) "__init__") (some (.ref fI))) (hb : ∀ self, W.Looks (model prog w) h (bindSpecial (.ref fI) self) (.ref fI, [self])) (hl : us.length ≤ sizeLine)
    (kq : codeAny (model prog w) A (.call (.ref fI) ⟨.ref (h.objs.size + 1) :: us, kw⟩)
      (fun r s' => match r with | .ok (.ret v) => v = .none ∧ Q (.done (.ret (.ref (h.objs.size + 1)))) s' | .ok _ => False | .error e => E e s') ⟨made2 h C us, g, d, t, os⟩) :
    wpAny (model prog w) A (Builtin.«type.__call__» ⟨.ref C :: us, kw⟩) Q E ⟨h, g, d, t, os⟩ := by
  repeat (first
    | with_reducible refine wpAny_loadPart_at oC ?_
    | with_reducible refine wpAny_madeBy_exc oC ?_
    | wp_step)
  refine codeAny_call_builtin_code (Code.quiet_builtin _ F.quiet) (chk_new F hT oC ?_)
  refine new_kw F hT oC hl ?_
  show wpAny _ _ _ _ _ _
  have oC1 := made2_keep h C us _ _ oC
  have oE := made2_at h C us
  have cC : (Value.ref C :: bm).contains (.ref C) = true := by simp
  have i1 := hi.keeps (made2_keep h C us)
  have b1 := (hb (.ref (h.objs.size + 1))).keeps (made2_keep h C us)
  unfold isInstance
  repeat (first
    | with_reducible refine wpAny_loadPart_at oE ?_
    | (with_reducible refine wpAny_isSubtype_exc oC1 ?_; rw [cC])
    | wp_step)
  show wpAny _ _ (typeLookup (.ref C) _) _ _ _
  refine i1.at ?_
  refine wpAny_holding (wpAny_bind (b1.at ?_))
  refine wpAny_bind (wpAny_call (codeAny_mono kq fun r s' z => ?_))
  rcases r with e | (v | _ | _ | _) <;> first | exact z | exact z.elim | skip
  obtain ⟨rfl, z⟩ := z
  first
    | exact wpAny_pure (wpAny_pure z)
    | (wp_walk; exact z)
theorem call_kw {us : List Value} {kw : List (Str × Value)} {fI : Addr} (F : ExcBaseFacts B newId initId bmB) (hT : ∀ Y : String, bm.contains (.type Y) = bmB.contains (.type Y))
    (oC : h.get? C = some (excClassObj nm q C N bs bm hdct sn sub ab col dd k0 k1 k2 k3 k5 newId))
    (hi : W.Looks (model prog w) h (typeLookup (.ref C) "__init__") (some (.ref fI))) (hb : ∀ self, W.Looks (model prog w) h (bindSpecial (.ref fI) self) (.ref fI, [self])) (hl : us.length ≤ sizeLine)
    (kq : codeAny (model prog w) (A.under (.builtin "type.__call__" ⟨.ref C :: us, kw⟩)) (.call (.ref fI) ⟨.ref (h.objs.size + 1) :: us, kw⟩) (W.InitBack (h.objs.size + 1) R) ⟨made2 h C us, g, d, t, os⟩) :
    codeAny (model prog w) A (.call (.ref C) ⟨us, kw⟩) R ⟨h, g, d, t, os⟩ := by
  have f1 := tc_lookup
  have f2 := tc_bind (.ref C)
  have ty : (⟨h, g, d, t, os⟩ : Shared).TypeIs (.ref C) "type" := ⟨_, oC, rfl⟩
  refine codeAny_of_tree ?_
  show wpAny _ _ (callAny (.ref C) _) _ _ _
  repeat (any_goals (first
    | assumption
    | with_reducible refine wpAny_loadPart_at oC ?_
    | wp_step))
  refine ⟨rfl, ?_⟩
  refine codeAny_call_builtin_at (Code.quiet_builtin _ (by decide +kernel)) entry_typeCall (wpAny_check_type_call_sub oC (typecall_kw F hT oC hi hb hl ?_))
  refine codeAny_mono kq fun r s' z => ?_
  rcases r with e | (v | _ | _ | _) <;> exact z
end
end XkL
end PySem

set_option maxHeartbeats 4000000
namespace Xk
open PySem PySem.Spec PyProof.Rows L2
theorem upd_swap {H : Hp} {a d : Addr} {o u v : HO} (h : d ≠ a) : upd (upd (upd H a o) d u) a v = upd (upd H d u) a v := by
  funext b
  by_cases e : b = a
  · rw [e, upd_same, upd_same]
  · rw [upd_ne e, upd_ne e]
    by_cases q : b = d
    · rw [q, upd_same, upd_same]
    · rw [upd_ne q, upd_ne q, upd_ne e]
/-- __init__(self, ..): the fields fs are stored, in order -/
def spX (C : Addr) (fs : List Str) : Sp := fun vs H Q _ => ∃ (a : Addr) (ws : List V), vs = .ref a :: ws ∧ ws.length = fs.length ∧ H a = some (exo a C none) ∧
  ∀ d, H d = none → Q .non (upd (upd H d (exd d (fs.zip ws).reverse)) a (exo a C (some d)))
/-- a new exception of the class at C with these fields -/
def NewX (C : Addr) (fs : List Str) (ws : List V) (H : Hp) (Q : VK) : Prop := ∀ a d, H a = none → H d = none → d ≠ a → Q (.ref a) (upd (upd H d (exd d (fs.zip ws).reverse)) a (exo a C (some d)))
def tXk (C : Addr) (fs : List Str) (ta : TA) : TE := fun σ H Q => ta σ H fun vs H1 => vs.length = fs.length ∧ NewX C fs vs H1 Q
def tXkR (C : Addr) (fs : List Str) (g : List V → List V) (ta : TA) : TE := fun σ H Q => ta σ H fun vs H1 => vs.length = fs.length ∧ NewX C fs (g vs) H1 Q
/-- what is told of a class at C whose __init__ (at fI) stores fs -/
structure XCls (P : Program) (w : World) (K : PySem.W.Frag) (mg : Str → Option Value) (base : Heap) (C : Addr) (fs : List Str) (fI : Addr) (fd : FuncData) : Prop where
  oc : OexC K C
  iC : PySem.W.findIn K (.ref C) "__init__" = some (some (.ref fI))
  tI : PySem.W.typeIn K (.ref fI) = some (.type "function")
  ok : FnOk P w K mg base CX0 1 fI fd (("self" : Str) :: fs) (spX C fs)
section
variable {X : Cx} {C fI : Addr} {fd : FuncData} {fs : List Str} {x : Str} {e : Expr} {es : List Expr} {kws : List Keyword} {ta : TA} {p pos : Pos}
/-- the call of such a class: values us, keywords ks of values ws, that come to ps as g us ws -/
theorem run_xk {pins : List (Addr × Obj)} {σ : L2.St} {H : Hp} {s : Shared} {Q : VK} {us bs : List Value} {kw : List (Str × Value)} {vs : List V} (T : XCls X.prog X.w X.K X.mg X.base C fs fI fd) (hr : Room 2 X.A) (I : Inv X pins σ H s)
    (lu : us.length ≤ 1000) (bd : ∀ (s' : Shared) (x : Value), X.K.In s'.heap → BindsTo s' fd ⟨x :: us, kw⟩ ((("self" : Str) :: fs).zip (x :: bs))) (r : Vals vs bs) (lv : vs.length = fs.length) (h : NewX C fs vs H Q) :
    wpAny (model X.prog X.w) X.A (call (.ref C) us kw) (EP X pins σ Q) X.xe s := by
  obtain ⟨nm, q, N, cb, bm, sn, sub, ab, col, dd, k0, k1, k2, k3, k5, hC, hbm⟩ := T.oc.cls
  obtain ⟨hp, g, dr, tk, os⟩ := s
  have hsz : hp.objs.size ≤ hp.objs.size + 1 := Nat.le_succ _
  have hn : H (hp.objs.size + 1) = none := I.hok.fresh hsz
  have kk := PySem.XkL.made2_keep hp C us
  have oe := PySem.XkL.made2_at hp C us
  have I2 : Inv X pins σ (upd H (hp.objs.size + 1) (exo (hp.objs.size + 1) C none)) ⟨PySem.XkL.made2 hp C us, g, dr, tk, os⟩ :=
    I.laid (t' := tk) (a := hp.objs.size + 1) (o := exo (hp.objs.size + 1) C none) (h' := PySem.XkL.made2 hp C us) kk hsz (exo_ok oe)
  have hus : us.length ≤ sizeLine := by
    rw [sizeLine_eq]
    omega
  have hq : spX C fs (.ref (hp.objs.size + 1) :: vs) (upd H (hp.objs.size + 1) (exo (hp.objs.size + 1) C none)) (fun v H2 => v = .non ∧ Q (.ref (hp.objs.size + 1)) H2) (fun _ _ _ => False) := by
    refine ⟨_, vs, rfl, lv, upd_same, fun d hd => ⟨rfl, ?_⟩⟩
    have nd : d ≠ hp.objs.size + 1 := fun z => by
      rw [z, upd_same] at hd
      cases hd
    rw [upd_swap nd]
    exact h _ d hn (by rw [upd_ne nd] at hd; exact hd) nd
  refine wpAny_call (PySem.XkL.call_kw F.excBase_ValueError (fun Y => PySem.HandSPX.refsVE_contains Y bm hbm) (I.kIn _ _ hC) (PySem.W.looks_findIn I.kIn T.iC) (fun self => PySem.W.bind_fn I.kIn self T.tI) hus
    (codeAny_mono (T.ok.run _ X.stack _ _ ⟨Value.ref (hp.objs.size + 1) :: us, kw⟩ (Value.ref (hp.objs.size + 1) :: bs) _ _ (fun _ _ _ => False) (hr.make C us kw) (I2.env0.make C us kw) (bd _ _ I2.kIn) (Paired.cons (show RelV (V.ref (hp.objs.size + 1)) (Value.ref (hp.objs.size + 1)) from rfl) r) hq) fun r s' hq' => ?_))
  cases r with
  | error er => exact False.elim hq'
  | ok fl =>
    cases fl with
    | ret u =>
      obtain ⟨v, H', I3, rv, ev, q3⟩ := I2.after hq'
      subst ev
      exact ⟨rv, ⟨V.ref (hp.objs.size + 1), H', I3, rfl, q3⟩⟩
    | next => exact False.elim hq'
    | brk => exact False.elim hq'
    | cont => exact False.elim hq'
/-- C(e, ..) -/
theorem pe_xk (T : XCls X.prog X.w X.K X.mg X.base C fs fI fd) (hr : Room 2 X.A) (hb : Binds X.K fd (("self" : Str) :: fs) []) (hf : fs.length ≤ 100) (hm : X.mg x = some (.ref C)) (ha : PA X (e :: es) ta) (hg : Gl X x := by rfl)
    (hdb : (x == ("__debug__" : Str)) = false := by decide) (he : starEach (e :: es) X.env = (false, eval e X.env) :: starEach es X.env := by rfl) (hpl : (backTo pos (starEach es X.env)).any (·.1) = false := by rfl) :
    PE X (.Call (.Name x p) (e :: es) [] pos) (tXk C fs ta) := by
  refine ⟨fun pins s σ H Q I h => ?_⟩
  refine wpAny_Call_Name_kw (ld_glob I hg hm ?_ hdb)
  refine PySem.W.callWith_K (h₀ := X.base) I.ok.mod.kin T.oc.kC (thn (ha.run pos pins s σ H _ I h) fun us s1 ⟨vs, H1, I1, r1, hz, q1⟩ => ⟨I1.kIn, ?_⟩) he hpl
  have l1 : us.length = fs.length := r1.length.symm.trans hz
  refine run_xk (kw := []) (us := us) (bs := us) T hr I1 (by omega) (fun s' x Y => ?_) r1 hz q1
  have z := hb s' (x :: us) Y (by simp [l1])
  rw [List.append_nil] at z
  exact z
/-- C(k = v, ..), by keywords alone -/
theorem pe_xkK {ks : List Str} {gw : List Value → List Value} {gv : List V → List V} (T : XCls X.prog X.w X.K X.mg X.base C fs fI fd) (hr : Room 2 X.A) (hf : fs.length ≤ 100) (hm : X.mg x = some (.ref C)) (hkw : PK X kws ta)
    (hb : ∀ (s' : Shared) (x : Value) (ws : List Value), ws.length = fs.length → BindsTo s' fd ⟨[x], ks.zip ws⟩ ((("self" : Str) :: fs).zip (x :: gw ws))) (hrel : ∀ {vs : List V} {ws : List Value}, Vals vs ws → Vals (gv vs) (gw ws)) (hlen : ∀ vs : List V, (gv vs).length = vs.length)
    (hg : Gl X x := by rfl) (hall : (backToKw pos (keywordEach kws X.env)).all (·.1.isSome) = true := by rfl) (hks : (backToKw pos (keywordEach kws X.env)).filterMap (·.1) = ks := by rfl) (hdb : (x == ("__debug__" : Str)) = false := by decide)
    (hpl : ((backTo pos (starEach [] X.env)).any (·.1) || (backToKw pos (keywordEach kws X.env)).any (·.1.isNone)) = false := by rfl) :
    PE X (.Call (.Name x p) [] kws pos) (tXkR C fs gv ta) := by
  refine ⟨fun pins s σ H Q I h => ?_⟩
  refine wpAny_Call_Name_kw (ld_glob I hg hm ?_ hdb)
  refine PySem.W.callWith_KW0 (h₀ := X.base) I.ok.mod.kin T.oc.kC hall (thn (hkw.run pos pins s σ H _ I h) fun ws s1 ⟨vs, H1, I1, r1, hz, q1⟩ => ⟨I1.kIn, ?_⟩) hpl
  rw [hks]
  have l1 : ws.length = fs.length := r1.length.symm.trans hz
  show wpAny _ _ (call (.ref C) [] (ks.zip ws)) _ _ _
  refine run_xk (us := []) (bs := gw ws) T hr I1 (Nat.zero_le _) (fun s' x Y => hb s' x ws l1) (hrel r1) ((hlen vs).trans hz) q1
end
end Xk

set_option maxHeartbeats 4000000
namespace Xk
open PySem PySem.Spec PyProof.Rows L2
section
variable {X : Cx} {C : Addr} {e : Expr} {te : TE} {f : Str} {pos : Pos}
/-- e.f, e an exception that is held as a value -/
def tGx (K : PySem.W.Frag) (f : Str) (te : TE) : TE := fun σ H Q => te σ H fun x H1 => ∃ (a C d : Addr) (fs : List (Str × V)) (v : V), x = .ref a ∧ ExcC K C ∧ PySem.W.findIn K (.ref C) f = some none ∧ H1 a = some (exo a C (some d)) ∧ H1 d = some (exd d fs) ∧ fs.lookup f = some v ∧ Q v H1
theorem inst_x {pins : List (Addr × Obj)} {σ : L2.St} {H : Hp} {s : Shared} {a d : Addr} {fs : List (Str × V)} (I : Inv X pins σ H s) (ha : H a = some (exo a C (some d))) (hd : H d = some (exd d fs)) :
    ∃ (ox od : Obj) (mA : Str → Option Value), PySem.W.InstAt s.heap a ox C (some od) ∧ (∀ name, PySem.W.lookIn name od = some (mA name)) ∧ ∀ g, RelO (fs.lookup g) (mA g) := by
  obtain ⟨t1, ho⟩ := exo_at I.hok ha
  obtain ⟨mA, hns, rel⟩ := exd_at I.hok hd
  obtain ⟨od, hod, hl⟩ := lookIn_ns hns
  exact ⟨_, od, mA, ⟨ho, rfl, rfl, hod⟩, hl, rel⟩
theorem pe_gx (he : PE X e te) (hb : attributeBase e f X.env (eval e X.env) = eval e X.env := by rfl) : PE X (.Attribute e f pos) (tGx X.K f te) := by
  refine ⟨fun pins s σ H Q I h => ?_⟩
  refine attr_of hb (thn (he.run pins s σ H _ I h) fun u s1 hh => ?_)
  obtain ⟨x, H1, I1, rx, a, C, d, fs, v, ex, T, hno, ha, hd, hl, q⟩ := hh
  subst ex
  obtain rfl : u = Value.ref a := rx
  obtain ⟨ox, od, mA, J, lk, rel⟩ := inst_x I1 ha hd
  have r := rel f
  rw [hl] at r
  obtain ⟨w, hw, rw'⟩ := RelO.some_of r
  exact PySem.HandSPX.exc_get I1.kIn J T.hg T.hk T.hs (PySem.W.findObj_own T.hd hno rfl (by rw [lk, hw])) (handed_of rw') ⟨v, H1, I1.tok _, rw', q⟩
/-- isinstance(e, c) -/
def rIsx (K : PySem.W.Frag) : List V → Hp → VK → Prop := fun xs H Q => ∃ (a C : Addr) (d : Option Addr) (c : V) (u : Value) (b : Bool), xs = [.ref a, c] ∧ ExcC K C ∧ H a = some (exo a C d) ∧ (∀ dd, d = some dd → ∃ fs, H dd = some (exd dd fs)) ∧ ClsV c u ∧ PySem.W.kitOne K (.ref C) u = some b ∧ Q (.bl b) H
theorem excC_cls {K : PySem.W.Frag} (T : ExcC K C) : (PySem.W.clsIn K C).isSome = true := by
  have h := T.hd
  unfold PySem.W.hasDictIn at h
  cases e : PySem.W.clsIn K C with
  | none =>
    rw [e] at h
    cases h
  | some cd => rfl
theorem inst_any {pins : List (Addr × Obj)} {σ : L2.St} {H : Hp} {s : Shared} {a : Addr} {d : Option Addr} (I : Inv X pins σ H s) (ha : H a = some (exo a C d)) (hd : ∀ dd, d = some dd → ∃ fs, H dd = some (exd dd fs)) :
    ∃ (ox : Obj) (od : Option Obj), PySem.W.InstAt s.heap a ox C od := by
  cases d with
  | none =>
    obtain ⟨t1, ho⟩ := exo_at I.hok ha
    exact ⟨_, none, ⟨ho, rfl, rfl, trivial⟩⟩
  | some d =>
    obtain ⟨fs, h⟩ := hd d rfl
    obtain ⟨ox, od, _, J, _⟩ := inst_x I ha h
    exact ⟨ox, some od, J⟩
theorem call_isx : CallR X (.builtin "isinstance") (rIsx X.K) := by
  intro pins s σ H xs us Q I r h
  obtain ⟨a, C, d, c, u, b, rfl, T, ha, hd, k, e, q⟩ := h
  obtain ⟨u1, u2, rfl, r1, r2⟩ := vals2 r
  have e2 := k.eq r2
  subst e2
  cases (show u1 = Value.ref a from r1)
  obtain ⟨ox, od, J⟩ := inst_any I ha hd
  exact PySem.W.kia_one (PySem.W.kitx_exc (excC_cls T) T.hg T.hk T.hs T.ha T.hn T.ht T.hm) I.kIn J e (fun z => nomatch z) fun tk => ⟨.bl b, H, I.tok tk, rfl, q⟩
end
/-! ### the __init__s -/
/-- self.f = f -/
def body1 (f : Str) (q1 q2 q3 q4 : Pos) : List Stmt := [.Assign [.Attribute (.Name "self" q1) f q2] (.Name f q3) q4]
def body2 (f g : Str) (q1 q2 q3 q4 q5 q6 q7 q8 : Pos) : List Stmt := [.Assign [.Attribute (.Name "self" q1) f q2] (.Name f q3) q4, .Assign [.Attribute (.Name "self" q5) g q6] (.Name g q7) q8]
section
variable {P : Program} {w : World} {K : PySem.W.Frag} {mg : Str → Option Value} {base : Heap} {C fI : Addr} {fd : FuncData} {f g qual : Str} {pa : Arguments} {bd : List Stmt} {sc : Scope}
theorem vis_of {N Ps : List Str} (S : FnScope N Ps sc) {x : Str} (h : x ∈ Ps) : Vis sc x := by
  rcases S.par x h with e | e
  · exact Or.inl e
  · exact Or.inr (Or.inl e)
theorem ok_init1 {q1 q2 q3 q4 : Pos} (F : FunD K "__init__" qual pa bd sc [] [] fI fd) (hb : bd = body1 f q1 q2 q3 q4) (S : FnScope ["self", f] ["self", f] sc) (T : OexC K C) (hno : PySem.W.findIn K (.ref C) f = some none)
    (hd : (f == ("__debug__" : Str)) = false) (hcd : (f == ("__classdict__" : Str)) = false) : FnOk P w K mg base CX0 1 fI fd [("self" : Str), f] (spX C [f]) := by
  refine F.ok (CX := CX0) S (fun vs H Q E h => ?_) (fun cdv A outer s H vs Q E hr h => ⟨tOst K f (tVar 0) (tVar 1), ?_, ?_⟩)
  · obtain ⟨a, ws, rfl, hl, _⟩ := h
    exact congrArg Nat.succ hl
  · rw [hb]
    exact pss_one (ps_ost (pe_var (i := 0) rfl (vis_of S (by simp))) (pe_var (i := 1) rfl (vis_of S (by simp)) hd hcd))
  · obtain ⟨a, ws, rfl, hl, ha, k⟩ := h
    match ws, hl with
    | [y], _ =>
      refine ⟨y, rfl, .ref a, rfl, a, C, rfl, T, hno, .inl ⟨ha, fun dx hdx _ => ?_⟩⟩
      exact k dx hdx
theorem ok_init2 {q1 q2 q3 q4 q5 q6 q7 q8 : Pos} (F : FunD K "__init__" qual pa bd sc [] [] fI fd) (hb : bd = body2 f g q1 q2 q3 q4 q5 q6 q7 q8) (S : FnScope ["self", f, g] ["self", f, g] sc) (T : OexC K C) (hno : PySem.W.findIn K (.ref C) f = some none)
    (hng : PySem.W.findIn K (.ref C) g = some none) (hd : (f == ("__debug__" : Str)) = false) (hcd : (f == ("__classdict__" : Str)) = false) (gd : (g == ("__debug__" : Str)) = false) (gcd : (g == ("__classdict__" : Str)) = false) :
    FnOk P w K mg base CX0 1 fI fd [("self" : Str), f, g] (spX C [f, g]) := by
  refine F.ok (CX := CX0) S (fun vs H Q E h => ?_) (fun cdv A outer s H vs Q E hr h => ⟨tSeq (tOst K f (tVar 0) (tVar 1)) (tOst K g (tVar 0) (tVar 2)), ?_, ?_⟩)
  · obtain ⟨a, ws, rfl, hl, _⟩ := h
    exact congrArg Nat.succ hl
  · rw [hb]
    exact pss_cons (ps_ost (pe_var (i := 0) rfl (vis_of S (by simp))) (pe_var (i := 1) rfl (vis_of S (by simp)) hd hcd)) (pss_one (ps_ost (pe_var (i := 0) rfl (vis_of S (by simp))) (pe_var (i := 2) rfl (vis_of S (by simp)) gd gcd)))
  · obtain ⟨a, ws, rfl, hl, ha, k⟩ := h
    match ws, hl with
    | [y, z], _ =>
      refine ⟨y, rfl, .ref a, rfl, a, C, rfl, T, hno, .inl ⟨ha, fun dx hdx nd => ?_⟩⟩
      refine ⟨z, rfl, .ref a, rfl, a, C, rfl, T, hng, .inr ⟨dx, [(f, y)], upd_same, by rw [upd_ne nd, upd_same], (by show 1 ≤ 900; decide), ?_⟩⟩
      have k2 := k dx hdx
      have e : upd (upd (upd H dx (exd dx [(f, y)])) a (exo a C (some dx))) dx (exd dx ((g, z) :: [(f, y)])) = upd (upd H dx (exd dx ([f, g].zip [y, z]).reverse)) a (exo a C (some dx)) := by
        funext b
        by_cases e1 : b = dx
        · rw [e1, upd_same, upd_ne nd, upd_same]
          rfl
        · rw [upd_ne e1]
          by_cases e2 : b = a
          · rw [e2, upd_same, upd_same]
          · rw [upd_ne e2, upd_ne e1, upd_ne e2, upd_ne e1]
      rw [e]
      exact k2
end
end Xk

set_option maxHeartbeats 4000000
namespace Xk
open PySem PySem.Spec PyProof.Rows L2
section
variable {X : Cx} {C : Addr} {x : Str} {p pos : Pos}
/-- C(), C without an __init__ of its own -/
theorem pe_xk0 {bmB : List Value} {B newId initId : String} (F : ExcBaseFacts B newId initId bmB) (q : PySem.W.excIn X.K C bmB newId = true) (gC : X.mg x = some (.ref C)) (kC : PySem.W.keepIn X.K (.ref C) = true) (hg : Gl X x := by rfl)
    (hdb : (x == ("__debug__" : Str)) = false := by decide) : PE X (.Call (.Name x p) [] [] pos) (fun σ H Q => ∀ a, H a = none → Q (.ref a) (upd H a (exo a C none))) := by
  refine ⟨fun pins s σ H Q I h => ?_⟩
  refine wpAny_Call_Name_kw (ld_glob I hg gC ?_ hdb)
  refine PySem.W.callWith_K0 I.kIn kC ?_
  show wpAny _ _ (call (.ref C) []) _ _ _
  obtain ⟨hp, g, dr, tk, os⟩ := s
  obtain ⟨bm, N, nm, qn, bs, hdct, sn, sub, ab, col, dd, k0, k1, k2, k3, k5, mN, hC, hN, hni, T⟩ := exc_obj I.kIn q
  refine wpAny_call_exc_subT F T hC hN hni (fun h' a hm => ?_) (by show 0 ≤ sizeLine; exact Nat.zero_le _)
  have hn : H a = none := I.hok.gone hm.new
  obtain ⟨t, ht, _, _⟩ := hm.there
  exact ⟨.ref a, upd H a (exo a C none), I.laidN hm.keeps hm.new hn (exo_ok ht), rfl, h a hn⟩
end
end Xk

set_option maxHeartbeats 4000000
/-! What a part of the written heap tells, a larger part tells, too. -/
namespace Mo
open PySem PySem.W
variable {K K' : Frag}
def Le (K K' : Frag) : Prop := ∀ a o, K.lookup a = some o → K'.lookup a = some o
theorem nsIn_le (h : Le K K') {ns : Addr} {x : Str} {r : Option Value} (e : nsIn K ns x = some r) : nsIn K' ns x = some r := by
  unfold nsIn at e ⊢
  cases q : K.lookup ns with
  | none =>
    rw [q] at e
    cases e
  | some o =>
    rw [q] at e
    rw [h _ _ q]
    exact e
theorem ownIn_le (h : Le K K') {c : Value} {x : Str} {r : Option Value} (e : ownIn K x c = some r) : ownIn K' x c = some r := by
  cases c with
  | ref a =>
    have e1 : (match K.lookup a with
      | some ⟨_, _, .cls cd, _⟩ => nsIn K cd.ns x
      | _ => none) = some r := e
    show (match K'.lookup a with
      | some ⟨_, _, .cls cd, _⟩ => nsIn K' cd.ns x
      | _ => none) = some r
    cases q : K.lookup a with
    | none =>
      rw [q] at e1
      cases e1
    | some o =>
      rw [q] at e1
      rw [h _ _ q]
      obtain ⟨oc, od, dt, sl⟩ := o
      cases dt with
      | cls cd => exact nsIn_le h e1
      | _ => cases e1
  | _ => exact e
theorem alongIn_le (h : Le K K') {x : Str} : ∀ {l : List Value} {r : Option Value}, alongIn K x l = some r → alongIn K' x l = some r
  | [], r, e => e
  | c :: l, r, e => by
    unfold alongIn at e ⊢
    cases q : ownIn K x c with
    | none =>
      rw [q] at e
      cases e
    | some o =>
      rw [q] at e
      rw [ownIn_le h q]
      cases o with
      | some v => exact e
      | none => exact alongIn_le h e
theorem findIn_le (h : Le K K') {t : Value} {x : Str} {r : Option Value} (e : findIn K t x = some r) : findIn K' t x = some r := by
  cases t with
  | ref a =>
    have e1 : (match K.lookup a with
      | some ⟨_, _, .cls cd, _⟩ => alongIn K x cd.mro
      | _ => none) = some r := e
    show (match K'.lookup a with
      | some ⟨_, _, .cls cd, _⟩ => alongIn K' x cd.mro
      | _ => none) = some r
    cases q : K.lookup a with
    | none =>
      rw [q] at e1
      cases e1
    | some o =>
      rw [q] at e1
      rw [h _ _ q]
      obtain ⟨oc, od, dt, sl⟩ := o
      cases dt with
      | cls cd => exact alongIn_le h e1
      | _ => cases e1
  | _ => exact e
theorem typeIn_le (h : Le K K') {v t : Value} (e : typeIn K v = some t) : typeIn K' v = some t := by
  cases v with
  | ref a =>
    have e1 : (K.lookup a).map (·.cls) = some t := e
    show (K'.lookup a).map (·.cls) = some t
    cases q : K.lookup a with
    | none =>
      rw [q] at e1
      cases e1
    | some o =>
      rw [q] at e1
      rw [h _ _ q]
      exact e1
  | _ => exact e
theorem specialIn_le (h : Le K K') {v : Value} {x : Str} {r : Option Value} (e : specialIn K v x = some r) : specialIn K' v x = some r := by
  unfold specialIn at e ⊢
  obtain ⟨t, a, b⟩ := Option.bind_eq_some_iff.mp e
  rw [typeIn_le h a]
  exact findIn_le h b
theorem keepIn_le (h : Le K K') {v : Value} (e : keepIn K v = true) : keepIn K' v = true := by
  cases v with
  | ref a =>
    have e1 : (match K.lookup a with
      | some ⟨_, _, .func _, _⟩ => true
      | some ⟨_, _, .cls _, _⟩ => specialIn K (.ref a) "__call__" == some (some (.builtin "type.__call__"))
      | _ => false) = true := e
    show (match K'.lookup a with
      | some ⟨_, _, .func _, _⟩ => true
      | some ⟨_, _, .cls _, _⟩ => specialIn K' (.ref a) "__call__" == some (some (.builtin "type.__call__"))
      | _ => false) = true
    cases q : K.lookup a with
    | none =>
      rw [q] at e1
      cases e1
    | some o =>
      rw [q] at e1
      rw [h _ _ q]
      obtain ⟨oc, od, dt, sl⟩ := o
      cases dt with
      | cls cd =>
        have e2 : (specialIn K (.ref a) "__call__" == some (some (.builtin "type.__call__"))) = true := e1
        show (specialIn K' (.ref a) "__call__" == some (some (.builtin "type.__call__"))) = true
        rw [specialIn_le h (eq_of_beq e2)]
        exact beq_self_eq_true _
      | func fd => rfl
      | _ => cases e1
  | _ => exact e
theorem clsIn_le (h : Le K K') {C : Addr} {cd : ClassData} (e : clsIn K C = some cd) : clsIn K' C = some cd := by
  unfold clsIn at e ⊢
  cases q : K.lookup C with
  | none =>
    rw [q] at e
    cases e
  | some o =>
    rw [q] at e
    rw [h _ _ q]
    exact e
theorem nsOkIn_le (h : Le K K') {N : Addr} (e : nsOkIn K N = true) : nsOkIn K' N = true := by
  unfold nsOkIn at e ⊢
  cases q : K.lookup N with
  | none =>
    rw [q] at e
    cases e
  | some o =>
    rw [q] at e
    rw [h _ _ q]
    exact e
theorem tailIn_le (h : Le K K') {bmB : List Value} : ∀ {l : List Value}, tailIn K bmB l = true → tailIn K' bmB l = true
  | [], e => e
  | v :: r, e => by
    unfold tailIn at e ⊢
    rcases Bool.or_eq_true_iff.mp e with z | z
    · exact Bool.or_eq_true_iff.mpr (.inl z)
    · refine Bool.or_eq_true_iff.mpr (.inr ?_)
      cases v with
      | ref A =>
        have e1 : (match K.lookup A with
          | some ⟨_, _, .cls cd, _⟩ => nsOkIn K cd.ns && nsIn K cd.ns "__init__" == some none && tailIn K bmB r
          | _ => false) = true := z
        show (match K'.lookup A with
          | some ⟨_, _, .cls cd, _⟩ => nsOkIn K' cd.ns && nsIn K' cd.ns "__init__" == some none && tailIn K' bmB r
          | _ => false) = true
        cases q : K.lookup A with
        | none =>
          rw [q] at e1
          cases e1
        | some o =>
          rw [q] at e1
          rw [h _ _ q]
          obtain ⟨oc, od, dt, sl⟩ := o
          cases dt with
          | cls cd =>
            have e2 : (nsOkIn K cd.ns && nsIn K cd.ns "__init__" == some none && tailIn K bmB r) = true := e1
            show (nsOkIn K' cd.ns && nsIn K' cd.ns "__init__" == some none && tailIn K' bmB r) = true
            simp only [Bool.and_eq_true] at e2 ⊢
            exact ⟨⟨nsOkIn_le h e2.1.1, by rw [nsIn_le h (eq_of_beq e2.1.2)]; exact beq_self_eq_true _⟩, tailIn_le h e2.2⟩
          | _ => cases e1
      | _ => cases z
end Mo

set_option maxHeartbeats 4000000
/-! Short words over the hand layer: named readings, defs by their names. For every law of this program. -/
namespace Lw
open PySem PySem.Spec PyProof.Rows L2 Evl
/-! ### a def by its name, and what it keeps -/
structure Cal (P : Program) (w : World) (K : PySem.W.Frag) (mg : Str → Option Value) (base : Heap) (x : Str) (ps : List Str) (k : Nat) (sp : Sp) : Prop where
  ex : ∃ (f : Addr) (fd : FuncData), mg x = some (.ref f) ∧ PySem.W.keepIn K (.ref f) = true ∧ Binds K fd ps [] ∧ FnOk P w K mg base CX0 k f fd ps sp
section
variable {X : Cx} {x : Str} {ps : List Str} {k j : Nat} {sp : Sp} {e : Expr} {es : List Expr} {t : TA} {p pos : Pos}
theorem pe_cal (c : Cal X.prog X.w X.K X.mg X.base x ps k sp) (hr : Room j X.A) (ha : PA X (e :: es) t) (hk : k ≤ j := by decide) (hg : Gl X x := by rfl) (hdb : (x == ("__debug__" : Str)) = false := by decide)
    (he : starEach (e :: es) X.env = (false, eval e X.env) :: starEach es X.env := by rfl) (hpl : (backTo pos (starEach es X.env)).any (·.1) = false := by rfl) : PE X (.Call (.Name x p) (e :: es) [] pos) (tCall sp [] E0 t) := by
  obtain ⟨f, fd, hm, kp, b, F⟩ := c.ex
  exact pe_call F (hr.mono hk) hg hm kp b .nil pass0 ha hdb he hpl
end
/-! ### named readings -/
abbrev rAddI : R2 := rI0 fun i j => .int (i + j)
abbrev rSubI : R2 := rI0 fun i j => .int (i - j)
abbrev rMulI : R2 := rI CMul fun i j => .int (i * j)
abbrev rDivI : R2 := rI CDiv fun i j => .int (i / j)
abbrev rModI : R2 := rI (fun _ j => 0 < j) fun i j => .int (i % j)
abbrev rPowI : R2 := rI CPow fun i j => .int (i ^ j.toNat)
abbrev rAndI : R2 := rI0 fun i j => .int (Builtin.bitAnd i j)
abbrev rLtI : R2 := rI0 fun i j => .bl (decide (i < j))
abbrev rLeI : R2 := rI0 fun i j => .bl (decide (i ≤ j))
abbrev rGtI : R2 := rI0 fun i j => .bl (decide (j < i))
abbrev rGeI : R2 := rI0 fun i j => .bl (decide (j ≤ i))
abbrev rIsNon : R2 := fun x y H Q => y = .non ∧ Q (.bl (decide (x = .non))) H
abbrev rIsNotNon : R2 := fun x y H Q => y = .non ∧ Q (.bl (!decide (x = .non))) H
abbrev rIntC : List V → Hp → VK → Prop := fun xs H Q => (∃ i, xs = [.int i] ∧ Q (.int i) H) ∨ ∃ k, xs = [.bl k] ∧ Q (.int (if k then 1 else 0)) H
abbrev rAbs : List V → Hp → VK → Prop := fun xs H Q => ∃ i, xs = [.int i] ∧ Q (.int (if i < 0 then -i else i)) H
abbrev rLenV (K : PySem.W.Frag) : List V → Hp → VK → Prop := fun xs H Q => ∃ x n, xs = [x] ∧ LenV K x H n ∧ Q (.int n) H
abbrev rLenD : List V → Hp → VK → Prop := fun xs H Q => ∃ a kvs, xs = [V.ref a] ∧ H a = some (.dK kvs) ∧ Q (.int kvs.length) H
abbrev rLenA (K : PySem.W.Frag) : List V → Hp → VK → Prop := fun xs H Q => rLenV K xs H Q ∨ rLenD xs H Q
abbrev rTupOf (K : PySem.W.Frag) : List V → Hp → VK → Prop := fun xs H Q => ∃ p ys, xs = [.ref p] ∧ ((SqL K H p ys ∧ ∀ l, H l = none → Q (.ref l) (upd H l (.tup ys))) ∨ (SqT K H p ys ∧ Q (.ref p) H))
/-! ### boot -/
theorem b_len : bootBuiltins ("len" : Str) = some (.builtin "len") := by decide +kernel
theorem b_abs : bootBuiltins ("abs" : Str) = some (.builtin "abs") := by decide +kernel
theorem b_sum : bootBuiltins ("sum" : Str) = some (.builtin "sum") := by decide +kernel
theorem b_isi : bootBuiltins ("isinstance" : Str) = some (.builtin "isinstance") := by decide +kernel
theorem b_int : bootBuiltins ("int" : Str) = some (.type "int") := by decide +kernel
theorem b_bool : bootBuiltins ("bool" : Str) = some (.type "bool") := by decide +kernel
theorem b_str : bootBuiltins ("str" : Str) = some (.type "str") := by decide +kernel
theorem b_list : bootBuiltins ("list" : Str) = some (.type "list") := by decide +kernel
theorem b_tuple : bootBuiltins ("tuple" : Str) = some (.type "tuple") := by decide +kernel
theorem b_dict : bootBuiltins ("dict" : Str) = some (.type "dict") := by decide +kernel
theorem b_VE : bootBuiltins ("ValueError" : Str) = some (.type "ValueError") := by decide +kernel
/-- the builtins that the module does not hide -/
structure Free (mg : Str → Option Value) : Prop where
  len : mg "len" = none
  abs : mg "abs" = none
  sum : mg "sum" = none
  isi : mg "isinstance" = none
  int : mg "int" = none
  bool : mg "bool" = none
  str : mg "str" = none
  list : mg "list" = none
  tuple : mg "tuple" = none
  dict : mg "dict" = none
  range : mg "range" = none
section
variable {X : Cx} {a b : Expr} {ta tb : TE} {t : TA} {es : List Expr} {p pos : Pos}
theorem n_int (m : Free X.mg) (hg : Gl X "int" := by rfl) : PE X (.Name "int" pos) (tC (.ty "int")) := pe_bltn hg m.int b_int rfl
theorem n_bool (m : Free X.mg) (hg : Gl X "bool" := by rfl) : PE X (.Name "bool" pos) (tC (.ty "bool")) := pe_bltn hg m.bool b_bool rfl
theorem n_str (m : Free X.mg) (hg : Gl X "str" := by rfl) : PE X (.Name "str" pos) (tC (.ty "str")) := pe_bltn hg m.str b_str rfl
theorem n_list (m : Free X.mg) (hg : Gl X "list" := by rfl) : PE X (.Name "list" pos) (tC (.ty "list")) := pe_bltn hg m.list b_list rfl
theorem n_tuple (m : Free X.mg) (hg : Gl X "tuple" := by rfl) : PE X (.Name "tuple" pos) (tC (.ty "tuple")) := pe_bltn hg m.tuple b_tuple rfl
theorem n_dict (m : Free X.mg) (hg : Gl X "dict" := by rfl) : PE X (.Name "dict" pos) (tC (.ty "dict")) := pe_bltn hg m.dict b_dict rfl
theorem x_list (ha : PE X a ta) (hb : PE X b tb) (hs : PlainIx b := by exact fun _ _ => rfl) : PE X (.Subscript a b pos) (tOp (rIxL X.K) ta tb) := pe_ix ix_list ha hb hs
theorem x_tup (ha : PE X a ta) (hb : PE X b tb) (hs : PlainIx b := by exact fun _ _ => rfl) : PE X (.Subscript a b pos) (tOp (rIxT X.K) ta tb) := pe_ix ix_tup ha hb hs
theorem x_seq (ha : PE X a ta) (hb : PE X b tb) (hs : PlainIx b := by exact fun _ _ => rfl) : PE X (.Subscript a b pos) (tOp (rIx X.K) ta tb) := pe_ix ix_seq ha hb hs
end
end Lw

set_option maxHeartbeats 4000000
namespace Xk
open PySem PySem.Spec PyProof.Rows L2 Evl
/-! ### a class of errors by its name -/
structure XE (P : Program) (w : World) (K : PySem.W.Frag) (mg : Str → Option Value) (base : Heap) (x : Str) (C : Addr) (fs : List Str) : Prop where
  gC : mg x = some (.ref C)
  kC : PySem.W.keepIn K (.ref C) = true
  ec : ExcC K C
  no : ∀ f ∈ fs, PySem.W.findIn K (.ref C) f = some none
  ini : fs ≠ [] → ∃ (fI : Addr) (fd : FuncData), XCls P w K mg base C fs fI fd ∧ Binds K fd (("self" : Str) :: fs) [] ∧
    ∀ (s' : Shared) (x : Value) (ws : List Value), ws.length = fs.length → BindsTo s' fd ⟨[x], fs.reverse.zip ws⟩ ((("self" : Str) :: fs).zip (x :: ws.reverse))
  emp : fs = [] → ∃ K0 : PySem.W.Frag, Mo.Le K0 K ∧ PySem.W.excIn K0 C He.veBase "ValueError.__new__" = true
section
variable {X : Cx} {C : Addr} {fs : List Str} {x : Str} {e : Expr} {es : List Expr} {kws : List Keyword} {ta : TA} {p pos : Pos}
theorem vals_rev {vs : List V} {us : List Value} (h : Vals vs us) : Vals vs.reverse us.reverse := Vals.reverse h
theorem pe_new (T : XE X.prog X.w X.K X.mg X.base x C fs) (hr : Room 2 X.A) (ha : PA X (e :: es) ta) (h0 : fs ≠ [] := by exact fun z => nomatch z) (hf : fs.length ≤ 100 := by decide) (hg : Gl X x := by rfl)
    (hdb : (x == ("__debug__" : Str)) = false := by decide) (he : starEach (e :: es) X.env = (false, eval e X.env) :: starEach es X.env := by rfl) (hpl : (backTo pos (starEach es X.env)).any (·.1) = false := by rfl) :
    PE X (.Call (.Name x p) (e :: es) [] pos) (tXk C fs ta) := by
  obtain ⟨fI, fd, h1, h2, _⟩ := T.ini h0
  exact pe_xk h1 hr h2 hf T.gC ha hg hdb he hpl
theorem pe_newK (T : XE X.prog X.w X.K X.mg X.base x C fs) (hr : Room 2 X.A) (hkw : PK X kws ta) (h0 : fs ≠ [] := by exact fun z => nomatch z) (hf : fs.length ≤ 100 := by decide) (hg : Gl X x := by rfl)
    (hall : (backToKw pos (keywordEach kws X.env)).all (·.1.isSome) = true := by rfl) (hks : (backToKw pos (keywordEach kws X.env)).filterMap (·.1) = fs.reverse := by rfl) (hdb : (x == ("__debug__" : Str)) = false := by decide)
    (hpl : ((backTo pos (starEach [] X.env)).any (·.1) || (backToKw pos (keywordEach kws X.env)).any (·.1.isNone)) = false := by rfl) :
    PE X (.Call (.Name x p) [] kws pos) (tXkR C fs List.reverse ta) := by
  obtain ⟨fI, fd, h1, _, h3⟩ := T.ini h0
  exact pe_xkK (gw := List.reverse) h1 hr hf T.gC hkw h3 vals_rev (fun vs => List.length_reverse) hg hall hks hdb hpl
/-- C(), C without an __init__ of its own -/
def tX0 (C : Addr) : TE := fun σ H Q => ∀ a, H a = none → Q (.ref a) (upd H a (exo a C none))
theorem pe_new0 (T : XE X.prog X.w X.K X.mg X.base x C []) (hg : Gl X x := by rfl) (hdb : (x == ("__debug__" : Str)) = false := by decide) : PE X (.Call (.Name x p) [] [] pos) (tX0 C) := by
  obtain ⟨K0, hl, q⟩ := T.emp rfl
  refine ⟨fun pins s σ H Q I h => ?_⟩
  refine wpAny_Call_Name_kw (ld_glob I hg T.gC ?_ hdb)
  refine PySem.W.callWith_K0 I.kIn T.kC ?_
  show wpAny _ _ (call (.ref C) []) _ _ _
  have k0 : K0.In s.heap := fun a o e => I.kIn a o (hl a o e)
  obtain ⟨hp, g, dr, tk, os⟩ := s
  obtain ⟨bm, N, nm, qn, bs, hdct, sn, sub, ab, col, dd, k0', k1, k2, k3, k5, mN, hC, hN, hni, T'⟩ := exc_obj k0 q
  refine wpAny_call_exc_subT F.excBase_ValueError T' hC hN hni (fun h' a hm => ?_) (by show 0 ≤ sizeLine; exact Nat.zero_le _)
  have hn : H a = none := I.hok.gone hm.new
  obtain ⟨t, ht, _, _⟩ := hm.there
  exact ⟨.ref a, upd H a (exo a C none), I.laidN hm.keeps hm.new hn (exo_ok ht), rfl, h a hn⟩
end
/-! ### what stands there -/
/-- an error of the class at C with the fields fs: one, other -/
def ErrAt (C : Addr) (fs : List Str) (one other : V) (H : Hp) (v : V) : Prop := ∃ a, v = .ref a ∧ ((fs = [] ∧ H a = some (exo a C none)) ∨ (fs ≠ [] ∧ ∃ d, H a = some (exo a C (some d)) ∧ H d = some (exd d (fs.zip [one, other]).reverse)))
theorem ErrAt.mono {C : Addr} {fs : List Str} {one other : V} {H H' : Hp} {v : V} (h : ErrAt C fs one other H v) (e : Ex H H') : ErrAt C fs one other H' v := by
  obtain ⟨a, rfl, ⟨h0, h1⟩ | ⟨h0, d, h1, h2⟩⟩ := h
  · exact ⟨a, rfl, .inl ⟨h0, e _ _ h1⟩⟩
  · exact ⟨a, rfl, .inr ⟨h0, d, e _ _ h1, e _ _ h2⟩⟩
/-- a class: its address, its fields -/
abbrev AF := Addr × List Str
inductive Errs (one other : V) (H : Hp) : List AF → List V → Prop
  | nil : Errs one other H [] []
  | cons {c : AF} {cs : List AF} {v : V} {vs : List V} : ErrAt c.1 c.2 one other H v → Errs one other H cs vs → Errs one other H (c :: cs) (v :: vs)
section
variable {one other : V} {H H' : Hp} {cs ds : List AF} {vs ws : List V}
theorem Errs.mono (h : Errs one other H cs vs) (e : Ex H H') : Errs one other H' cs vs := by
  induction h with
  | nil => exact .nil
  | cons h _ ih => exact .cons (h.mono e) ih
theorem Errs.append (h : Errs one other H cs vs) (h' : Errs one other H ds ws) : Errs one other H (cs ++ ds) (vs ++ ws) := by
  induction h with
  | nil => exact h'
  | cons a _ ih => exact .cons a ih
theorem Errs.length (h : Errs one other H cs vs) : vs.length = cs.length := by
  induction h with
  | nil => rfl
  | cons _ _ ih => exact congrArg Nat.succ ih
theorem Errs.get (h : Errs one other H cs vs) : ∀ {i : Nat} {c : AF}, cs[i]? = some c → ∃ v, vs[i]? = some v ∧ ErrAt c.1 c.2 one other H v := by
  induction h with
  | nil =>
    intro i c h
    simp at h
  | cons a _ ih =>
    intro i c h
    cases i with
    | zero =>
      have e := Option.some.inj (show some _ = some c from h)
      subst e
      exact ⟨_, rfl, a⟩
    | succ i => exact ih (by simpa using h)
end
/-! ### what makes them -/
def EvX (one other : V) (te : TE) (σ : L2.St) (H : Hp) (c : AF) : Prop := ∀ H1, Ex H H1 → ∀ Q : VK, (∀ v H2, Ex H1 H2 → ErrAt c.1 c.2 one other H2 v → Q v H2) → te σ H1 Q
def EvXA (one other : V) (ta : TA) (σ : L2.St) (H : Hp) (cs : List AF) : Prop := ∀ H1, Ex H H1 → ∀ Q : List V → Hp → Prop, (∀ vs H2, Ex H1 H2 → Errs one other H2 cs vs → Q vs H2) → ta σ H1 Q
def EvXL (one other : V) (te : TE) (σ : L2.St) (H : Hp) (cs : List AF) : Prop := ∀ H1, Ex H H1 → ∀ Q : VK, (∀ p vs H2, H1 p = none → Ex H1 H2 → H2 p = some (.lst vs) → Errs one other H2 cs vs → Q (.ref p) H2) → te σ H1 Q
section
variable {one other : V} {σ : L2.St} {H : Hp} {cs ds : List AF} {te tl : TE} {ta : TA} {c : AF} {C : Addr} {f g : Str}
theorem xa_nil : EvXA one other tNil σ H [] := fun H1 _ _ q => q [] H1 (Ex.refl H1) .nil
theorem xa_cons (h : EvX one other te σ H c) (hr : EvXA one other ta σ H cs) : EvXA one other (tCons te ta) σ H (c :: cs) := fun H1 e _ q =>
  h H1 e _ fun v H2 e2 hv => hr H2 (e.trans e2) _ fun vs H3 e3 hs => q (v :: vs) H3 (e2.trans e3) (.cons (hv.mono e3) hs)
theorem xl_lst (h : EvXA one other ta σ H cs) (hl : cs.length ≤ 1000) : EvXL one other (tLst ta) σ H cs := fun H1 e _ q =>
  h H1 e _ fun vs H2 e2 hs => ⟨by rw [hs.length, sizeLine_eq]; omega, fun p hp => q p vs _ (fresh_back e2 hp) (e2.trans (Ex.new hp)) upd_same (hs.mono (Ex.new hp))⟩
theorem xl_cat {i : Nat} {l : Addr} {vs : List V} (hσ : σ[i]? = some (some (.ref l))) (hl : H l = some (.lst vs)) (hv : Errs one other H cs vs) (h : EvXL one other te σ H ds) (hz : cs.length + ds.length ≤ 1000) : EvXL one other (tOp rCat (tVar i) te) σ H (cs ++ ds) := fun H1 e Q q =>
  ⟨.ref l, hσ, h H1 e _ fun p ws H2 hp e2 h2 hw => ⟨l, p, vs, ws, rfl, rfl, e2 _ _ (e _ _ hl), h2, by rw [hv.length, hw.length, sizeLine_eq]; omega, fun r hr =>
    q r (vs ++ ws) _ (fresh_back e2 hr) (e2.trans (Ex.new hr)) upd_same ((hv.mono ((e.trans e2).trans (Ex.new hr))).append (hw.mono (Ex.new hr)))⟩⟩
theorem new_err {fs : List Str} {ws : List V} (h0 : fs ≠ []) (hw : (fs.zip ws).reverse = (fs.zip [one, other]).reverse) {H1 : Hp} {Q : VK} (q : ∀ v H2, Ex H1 H2 → ErrAt C fs one other H2 v → Q v H2) : NewX C fs ws H1 Q := fun a d ha hd nd => by
  have hd' : upd H1 d (exd d (fs.zip ws).reverse) a = none := by
    rw [upd_ne (Ne.symm nd)]
    exact ha
  refine q (.ref a) _ ((Ex.new hd).trans (Ex.new hd')) ⟨a, rfl, .inr ⟨h0, d, upd_same, ?_⟩⟩
  rw [upd_ne nd, upd_same, hw]
theorem x_p1 {i : Nat} (hσ : σ[i]? = some (some one)) : EvX one other (tXk C [f] (tCons (tVar i) tNil)) σ H (C, [f]) := fun H1 e Q q => ⟨one, hσ, rfl, new_err (fs := [f]) (by simp) rfl q⟩
theorem x_k1 {i : Nat} (hσ : σ[i]? = some (some one)) : EvX one other (tXkR C [f] List.reverse (tCons (tVar i) tNil)) σ H (C, [f]) := fun H1 e Q q => ⟨one, hσ, rfl, new_err (fs := [f]) (ws := [one].reverse) (by simp) rfl q⟩
theorem x_p2 {i j : Nat} (hσ : σ[i]? = some (some one)) (hσ' : σ[j]? = some (some other)) : EvX one other (tXk C [f, g] (tCons (tVar i) (tCons (tVar j) tNil))) σ H (C, [f, g]) := fun H1 e Q q => ⟨one, hσ, other, hσ', rfl, new_err (fs := [f, g]) (by simp) rfl q⟩
theorem x_k2 {i j : Nat} (hσ : σ[i]? = some (some one)) (hσ' : σ[j]? = some (some other)) : EvX one other (tXkR C [f, g] List.reverse (tCons (tVar j) (tCons (tVar i) tNil))) σ H (C, [f, g]) := fun H1 e Q q => ⟨other, hσ', one, hσ, rfl, new_err (fs := [f, g]) (ws := [other, one].reverse) (by simp) rfl q⟩
theorem x_0 : EvX one other (tX0 C) σ H (C, []) := fun H1 e Q q a ha => q (.ref a) _ (Ex.new ha) ⟨a, rfl, .inl ⟨rfl, upd_same⟩⟩
/-- found = [..]; found = found + [..] -/
theorem q_xl {i : Nat} {tz : TS} {D : Ends} (h : EvXL one other te σ H cs) (k : ∀ p vs H1, H p = none → Ex H H1 → H1 p = some (.lst vs) → Errs one other H1 cs vs → tz D (σ.set i (some (.ref p))) H1) : tSeq (tAsg te (gName i)) tz D σ H := h H (Ex.refl H) _ fun p vs H1 hp e h1 hs => k p vs H1 hp e h1 hs
end
end Xk

set_option maxHeartbeats 4000000
/-! Defs called in an except suite that are told which exception is handled; isinstance of it. -/
namespace Xk
open PySem PySem.Spec PyProof.Rows L2 L2H
abbrev Pin : Type := Addr × Obj
/-- what a def promises in an except suite, p the exception that is handled -/
structure FnX (P : Program) (w : World) (K : PySem.W.Frag) (mg : Str → Option Value) (base : Heap) (k : Nat) (f : Addr) (fd : FuncData) (ps : List Str) (sp : Pin → Sp) : Prop where
  len : ∀ {p vs H Q E}, sp p vs H Q E → vs.length = ps.length
  run : ∀ (p : Pin) (A : Around) (out : List Env) (s : Shared) (H : Hp) (ar : Args) (us : List Value) (vs : List V) (Q : VK) (E : XK), sp p vs H Q E → RoomH k A → PinOk out H s p → Env0 P w K mg base A out s H →
    BindsTo s fd ar (ps.zip us) → Vals vs us → codeAny (model P w) A (.call (.ref f) ar) (CR CX0 out P w H s Q E) s
section
variable {P : Program} {w : World} {K : PySem.W.Frag} {mg : Str → Option Value} {base : Heap} {x qual : Str} {pr : Arguments} {body : List Stmt} {sc : Scope} {f : Addr} {fd : FuncData} {N ps : List Str} {k : Nat} {sp : Pin → Sp}
theorem FnX.of (F : FunD K x qual pr body sc [] [] f fd) (S : FnScope N ps sc) (hl : ∀ {p vs H Q E}, sp p vs H Q E → vs.length = ps.length)
    (hb : ∀ (cd : Value) (p : Pin) (A : Around) (out : List Env) (s : Shared) (H : Hp) (vs : List V) (Q : VK) (E : XK), RoomH k (A.deeper (envOfC qual sc s.heap.objs.size f cd)) → sp p vs H Q E →
      ∃ t, PSs (cxH CX0 P w K mg base N qual sc f cd A out s H E p) body t ∧ t { nx := fun _ H' => Q .non H', rt := Q } (L2.start N vs) H) : FnX P w K mg base (k + 1) f fd ps sp := by
  obtain ⟨oc, od, dV, kV, doc, pm, an, cd, ct, osl, rfl, lk, hcd, _, _⟩ := F.ex
  refine ⟨hl, fun p A out s H ar us vs Q E hsp hr hp e0 bd r => ?_⟩
  have kin : K.In s.heap := e0.mod.kin.keeps fun b o e => (e0.bs b o e).1
  have nl : s.heap.NoLimit := e0.mod.nolimit.keeps fun b o e => (e0.bs b o e).1
  refine codeAny_call_function hr.depth (kin _ _ lk) rfl S.co S.gen rfl (PySem.W.codeRec_of kin hcd) (bd _ _ _ _ ?_)
  refine wpAny_newFunctionEnv_cells S.kind (fun ⟨n, v⟩ hy => (S.par n (List.of_mem_zip hy).1).imp id fun q => ⟨q, PySem.W.cellsFrom_some _ _ _ (.inl q)⟩) fun env he s1 ic => ?_
  subst he
  refine ⟨nl.keeps ic.toInCall.keep, codeAny_func ?_⟩
  obtain ⟨t, ht, hq⟩ := hb cd p A out s H vs Q E (hr.deeper _) hsp
  refine wpAny_mono (ht.run [] s1 _ H _ (inv_startH S hp e0 (hl hsp) r ic) hq) (fun fl s' z => ?_) fun _ _ z => z
  cases fl with
  | brk =>
    obtain ⟨_, _, _, z⟩ := z
    exact False.elim z
  | cont =>
    obtain ⟨_, _, _, z⟩ := z
    exact False.elim z
  | next =>
    obtain ⟨_, H', J, q⟩ := z
    exact ⟨V.non, H', J.os, J.bare, J.base, J.hok, rfl, q⟩
  | ret u =>
    obtain ⟨v, _, H', J, rv, q⟩ := z
    exact ⟨v, H', J.os, J.bare, J.base, J.hok, rv, q⟩
end
section
variable {X : Cx} {p : Pin} {k : Nat} {f : Addr} {fd : FuncData} {ps : List Str} {sp : Pin → Sp} {x : Str} {e : Expr} {es : List Expr} {t : TA} {pos q : Pos}
theorem pe_calx (F : FnX X.prog X.w X.K X.mg X.base k f fd ps sp) (hp : p ∈ X.pn) (hr : RoomH k X.A) (hm : X.mg x = some (.ref f)) (kp : PySem.W.keepIn X.K (.ref f) = true) (bd : Binds X.K fd ps []) (ha : PA X (e :: es) t) (hg : Gl X x := by rfl)
    (hdb : (x == ("__debug__" : Str)) = false := by decide) (he : starEach (e :: es) X.env = (false, eval e X.env) :: starEach es X.env := by rfl) (hpl : (backTo pos (starEach es X.env)).any (·.1) = false := by rfl) :
    PE X (.Call (.Name x q) (e :: es) [] pos) (tCall (sp p) [] E0 t) := by
  refine ⟨fun pins s σ H Q I h => wpAny_Call_Name_kw (ld_glob I hg hm ?_ hdb)⟩
  refine PySem.W.callWith_K (h₀ := X.base) I.ok.mod.kin kp (thn (ha.run pos pins s σ H _ I h) fun us s1 z => ?_) he hpl
  obtain ⟨vs, H1, J, r, h1⟩ := z
  rw [List.append_nil] at h1
  refine ⟨J.kIn, wpAny_call ?_⟩
  have hl : us.length = ps.length := r.length.symm.trans (F.len h1)
  have b1 := bd s1 us J.kIn (by rw [List.append_nil]; exact hl)
  rw [List.append_nil] at b1
  obtain ⟨g1, g2, g3, g4, g5⟩ := J.pin p (List.mem_append_left _ hp)
  have ok : PinOk X.stack H1 s1 p := ⟨g1, g2, fun hm => (List.mem_cons.mp (J.stkSub p.1 hm)).elim g3 g4, g5⟩
  refine codeAny_mono (F.run p X.A X.stack s1 H1 ⟨us, []⟩ us vs Q E0 h1 hr ok J.env0 b1 r) fun rr s' hq => ?_
  cases rr with
  | error er => exact False.elim hq
  | ok fl =>
    cases fl with
    | ret u => exact J.after hq
    | next => exact False.elim hq
    | brk => exact False.elim hq
    | cont => exact False.elim hq
/-- isinstance(e, c) of the exception p, of the class at C, its dict at d -/
def rIsp (K : PySem.W.Frag) (a C : Addr) (d : Option Addr) : List V → Hp → VK → Prop := fun xs H Q => ∃ (c : V) (u : Value) (b : Bool), xs = [.ref a, c] ∧ ClsV c u ∧ (∀ dd, d = some dd → ∃ fs, H dd = some (.xd fs)) ∧ PySem.W.kitOne K (.ref C) u = some b ∧ Q (.bl b) H
theorem call_isp {C : Addr} {d : Option Addr} (T : ExcC X.K C) (hp : p ∈ X.pn) (hz : Zc (.ref C) d p.2) (hf : ∃ vs, p.2.data = .fields vs) : CallR X (.builtin "isinstance") (rIsp X.K p.1 C d) := by
  intro pins s σ H xs us Q I r h
  obtain ⟨c, u, b, rfl, k, hd, e, q⟩ := h
  obtain ⟨u1, u2, rfl, r1, r2⟩ := vals2 r
  have e2 := k.eq r2
  subst e2
  cases (show u1 = Value.ref p.1 from r1)
  have g := (I.pin p (List.mem_append_left _ hp)).1
  obtain ⟨fv, hv⟩ := hf
  have J : ∃ od, PySem.W.InstAt s.heap p.1 p.2 C od := by
    obtain ⟨a, ⟨oc, od, oda, osl⟩⟩ := p
    obtain ⟨h1, h2⟩ := hz
    dsimp only at h1 h2 hv g
    subst h1 h2 hv
    cases od with
    | none => exact ⟨none, g, rfl, rfl, trivial⟩
    | some dd =>
      obtain ⟨o, ho⟩ := hd dd rfl
      have z : ∃ mA, s.heap.Ns1 dd mA ∧ ∀ f, RelO (o.lookup f) (mA f) := I.hok dd _ ho
      obtain ⟨_, ⟨od2, _, _, h3, _⟩, _⟩ := z
      exact ⟨some od2, g, rfl, rfl, h3⟩
  obtain ⟨od, J⟩ := J
  exact PySem.W.kia_one (PySem.W.kitx_exc (excC_cls T) T.hg T.hk T.hs T.ha T.hn T.ht T.hm) I.kIn J e (fun z => nomatch z) fun tk => ⟨.bl b, H, I.tok tk, rfl, q⟩
/-- a suite that knows its exception's class -/
theorem pss_cls {cls : Value} {ss : List Stmt} {t : Addr → TS} (h : ∀ C, cls = .ref C → ExcC X.K C → PSs X ss (t C)) : PSs X ss (fun D σ H => ∃ C, cls = .ref C ∧ ExcC X.K C ∧ t C D σ H) :=
  ⟨fun pins s σ H D I ⟨C, e, T, q⟩ => (h C e T).run pins s σ H D I q⟩
end
end Xk

set_option maxHeartbeats 4000000
/-! ValueError() as a value, isinstance of it. -/
namespace Xk
open PySem PySem.Spec PyProof.Rows L2
def vex (a : Addr) : HO := .ext fun h => ∃ o : Obj, h.get? a = some o ∧ o.cls = .type "ValueError"
section
variable {X : Cx} {p pos : Pos}
/-- ValueError() -/
def tVE : TE := fun _ H Q => ∀ a, H a = none → Q (.ref a) (upd H a (vex a))
theorem pe_VE (hm : X.mg "ValueError" = none) (hg : Gl X "ValueError" := by rfl) : PE X (.Call (.Name "ValueError" p) [] [] pos) tVE := by
  refine ⟨fun pins s σ H Q I h => ?_⟩
  refine wpAny_Call_Name_kw (ld_blt I hg hm boot_ValueError ?_ (by decide) (by decide))
  obtain ⟨hp1, g1, d1, tk1, os1⟩ := s
  refine PyProof.Rows.callWith_type0 (wpAny_call_exc exb_ValueError.call (fun h' a mk => ?_) (Nat.zero_le _))
  have hn : H a = none := I.hok.gone mk.new
  obtain ⟨t, ht, _⟩ := mk.there
  exact ⟨.ref a, upd H a (vex a), I.laidN mk.keeps mk.new hn ⟨⟨_, ht, rfl⟩, ⟨_, ht⟩, fun _ _ ⟨o, q, c⟩ k => ⟨o, k _ q, c⟩⟩, rfl, h a hn⟩
/-- isinstance(e, c) of such -/
def rIsv (K : PySem.W.Frag) : List V → Hp → VK → Prop := fun xs H Q => ∃ (a : Addr) (c : V) (u : Value) (b : Bool), xs = [.ref a, c] ∧ H a = some (vex a) ∧ ClsV c u ∧ PySem.W.kitOne K (.type "ValueError") u = some b ∧ Q (.bl b) H
theorem call_isv : CallR X (.builtin "isinstance") (rIsv X.K) := by
  intro pins s σ H xs us Q I r h
  obtain ⟨a, c, u, b, rfl, ha, k, e, q⟩ := h
  obtain ⟨u1, u2, rfl, r1, r2⟩ := vals2 r
  have e2 := k.eq r2
  subst e2
  cases (show u1 = Value.ref a from r1)
  have z : ∃ o : Obj, s.heap.get? a = some o ∧ o.cls = .type "ValueError" := (show ObjOk X.prog X.w H s.heap a (.ext _) from I.hok a _ ha).1
  exact PySem.W.kia_one (PySem.W.kitx_bexc PySem.F.attr_ValueError (by kernel_rfl) (by kernel_rfl) rfl) I.kIn z e (fun z => nomatch z) fun tk => ⟨.bl b, H, I.tok tk, rfl, q⟩
end
end Xk

set_option maxHeartbeats 4000000
namespace Lw
open PySem PySem.Spec PyProof.Rows L2 Evl

def ecs : List Xk.AF := [(44, (["given"] : List Str)), (63, (["given"] : List Str)), (82, (["given"] : List Str)), (101, (["given"] : List Str)), (120, (["given"] : List Str)), (139, (["given"] : List Str)), (158, (["given"] : List Str)), (177, (["given"] : List Str)), (196, (["given"] : List Str)), (215, (["given"] : List Str)), (234, (["given"] : List Str)), (253, (["given"] : List Str)), (272, (["given"] : List Str)), (291, (["given"] : List Str)), (310, (["given"] : List Str)), (329, (["given"] : List Str)), (348, (["given"] : List Str)), (367, (["given"] : List Str)), (386, (["given"] : List Str)), (405, (["given"] : List Str)), (424, (["given"] : List Str)), (443, (["given"] : List Str)), (462, (["given"] : List Str)), (481, (["given"] : List Str)), (500, (["given"] : List Str)), (519, (["given"] : List Str)), (538, (["given"] : List Str)), (557, (["given"] : List Str)), (576, (["given"] : List Str)), (595, (["given"] : List Str)), (614, (["given"] : List Str)), (633, (["given"] : List Str)), (652, (["given"] : List Str)), (671, (["given"] : List Str)), (690, (["given"] : List Str)), (709, (["given"] : List Str)), (728, (["given"] : List Str)), (747, (["given"] : List Str)), (766, (["given"] : List Str)), (785, (["given"] : List Str)), (804, (["given"] : List Str)), (823, (["given"] : List Str)), (842, (["given"] : List Str)), (861, (["given"] : List Str)), (880, (["given"] : List Str)), (1175, (["given"] : List Str)), (899, (["change"] : List Str)), (911, ([] : List Str)), (930, (["index"] : List Str)), (949, (["index"] : List Str)), (968, (["circle"] : List Str)), (987, (["one", "other"] : List Str)), (1006, (["head"] : List Str)), (1025, (["one", "other"] : List Str)), (1044, (["node"] : List Str)), (1063, (["node"] : List Str)), (1082, (["one", "other"] : List Str)), (1094, ([] : List Str)), (1113, (["node"] : List Str)), (1132, (["node"] : List Str)), (1144, ([] : List Str)), (1156, ([] : List Str)), (1194, (["node"] : List Str)), (1213, (["count"] : List Str)), (1232, (["name"] : List Str)), (1251, (["node"] : List Str))]
structure XAll (P : Program) (w : World) (K : PySem.W.Frag) (mg : Str → Option Value) (base : Heap) : Prop where
  eF : Xk.XE P w K mg base "FlowError" 24 []
  e0 : Xk.XE P w K mg base "InvalidArc" 44 ["given"]
  e1 : Xk.XE P w K mg base "InvalidBodies" 63 ["given"]
  e2 : Xk.XE P w K mg base "InvalidBools" 82 ["given"]
  e3 : Xk.XE P w K mg base "InvalidBounds" 101 ["given"]
  e4 : Xk.XE P w K mg base "InvalidChances" 120 ["given"]
  e5 : Xk.XE P w K mg base "InvalidChange" 139 ["given"]
  e6 : Xk.XE P w K mg base "InvalidCopies" 158 ["given"]
  e7 : Xk.XE P w K mg base "InvalidCosts" 177 ["given"]
  e8 : Xk.XE P w K mg base "InvalidCounts" 196 ["given"]
  e9 : Xk.XE P w K mg base "InvalidDefinition" 215 ["given"]
  e10 : Xk.XE P w K mg base "InvalidElement" 234 ["given"]
  e11 : Xk.XE P w K mg base "InvalidExpression" 253 ["given"]
  e12 : Xk.XE P w K mg base "InvalidFunction" 272 ["given"]
  e13 : Xk.XE P w K mg base "InvalidImages" 291 ["given"]
  e14 : Xk.XE P w K mg base "InvalidIndex" 310 ["given"]
  e15 : Xk.XE P w K mg base "InvalidInputs" 329 ["given"]
  e16 : Xk.XE P w K mg base "InvalidInterval" 348 ["given"]
  e17 : Xk.XE P w K mg base "InvalidIntervals" 367 ["given"]
  e18 : Xk.XE P w K mg base "InvalidKind" 386 ["given"]
  e19 : Xk.XE P w K mg base "InvalidLattice" 405 ["given"]
  e20 : Xk.XE P w K mg base "InvalidLine" 424 ["given"]
  e21 : Xk.XE P w K mg base "InvalidMoves" 443 ["given"]
  e22 : Xk.XE P w K mg base "InvalidNexts" 462 ["given"]
  e23 : Xk.XE P w K mg base "InvalidNode" 481 ["given"]
  e24 : Xk.XE P w K mg base "InvalidNodes" 500 ["given"]
  e25 : Xk.XE P w K mg base "InvalidNumber" 519 ["given"]
  e26 : Xk.XE P w K mg base "InvalidOrder" 538 ["given"]
  e27 : Xk.XE P w K mg base "InvalidPairs" 557 ["given"]
  e28 : Xk.XE P w K mg base "InvalidPlace" 576 ["given"]
  e29 : Xk.XE P w K mg base "InvalidPointer" 595 ["given"]
  e30 : Xk.XE P w K mg base "InvalidPool" 614 ["given"]
  e31 : Xk.XE P w K mg base "InvalidProgram" 633 ["given"]
  e32 : Xk.XE P w K mg base "InvalidRow" 652 ["given"]
  e33 : Xk.XE P w K mg base "InvalidRows" 671 ["given"]
  e34 : Xk.XE P w K mg base "InvalidSigns" 690 ["given"]
  e35 : Xk.XE P w K mg base "InvalidStatements" 709 ["given"]
  e36 : Xk.XE P w K mg base "InvalidStep" 728 ["given"]
  e37 : Xk.XE P w K mg base "InvalidSteps" 747 ["given"]
  e38 : Xk.XE P w K mg base "InvalidTable" 766 ["given"]
  e39 : Xk.XE P w K mg base "InvalidTests" 785 ["given"]
  e40 : Xk.XE P w K mg base "InvalidText" 804 ["given"]
  e41 : Xk.XE P w K mg base "InvalidValues" 823 ["given"]
  e42 : Xk.XE P w K mg base "InvalidVariable" 842 ["given"]
  e43 : Xk.XE P w K mg base "InvalidWay" 861 ["given"]
  e44 : Xk.XE P w K mg base "InvalidWays" 880 ["given"]
  e45 : Xk.XE P w K mg base "Refused" 1175 ["given"]
  e46 : Xk.XE P w K mg base "CannotDo" 899 ["change"]
  e47 : Xk.XE P w K mg base "Ended" 911 []
  e48 : Xk.XE P w K mg base "InvalidClaim" 930 ["index"]
  e49 : Xk.XE P w K mg base "InvalidRecord" 949 ["index"]
  e50 : Xk.XE P w K mg base "Irreducible" 968 ["circle"]
  e51 : Xk.XE P w K mg base "NoJoin" 987 ["one", "other"]
  e52 : Xk.XE P w K mg base "NoLoop" 1006 ["head"]
  e53 : Xk.XE P w K mg base "NoMeet" 1025 ["one", "other"]
  e54 : Xk.XE P w K mg base "NoStop" 1044 ["node"]
  e55 : Xk.XE P w K mg base "NoWayOut" 1063 ["node"]
  e56 : Xk.XE P w K mg base "NotOrder" 1082 ["one", "other"]
  e57 : Xk.XE P w K mg base "NotRising" 1094 []
  e58 : Xk.XE P w K mg base "NotSkip" 1113 ["node"]
  e59 : Xk.XE P w K mg base "NotTest" 1132 ["node"]
  e60 : Xk.XE P w K mg base "NothingToRedo" 1144 []
  e61 : Xk.XE P w K mg base "NothingToUndo" 1156 []
  e62 : Xk.XE P w K mg base "StopThere" 1194 ["node"]
  e63 : Xk.XE P w K mg base "TooMany" 1213 ["count"]
  e64 : Xk.XE P w K mg base "UnknownName" 1232 ["name"]
  e65 : Xk.XE P w K mg base "Unreached" 1251 ["node"]
/-- all but the object at p is kept -/
def ExB (p : Addr) (H H' : Hp) : Prop := ∀ a o, a ≠ p → H a = some o → H' a = some o
theorem ExB.refl (p : Addr) (H : Hp) : ExB p H H := fun _ _ _ h => h
theorem ExB.trans {p : Addr} {H H1 H2 : Hp} (a : ExB p H H1) (b : ExB p H1 H2) : ExB p H H2 := fun x o n h => b x o n (a x o n h)
theorem ExB.of {p : Addr} {H H' : Hp} (e : Ex H H') : ExB p H H' := fun a o _ h => e a o h
theorem ExB.upd {p : Addr} {H : Hp} {o : HO} : ExB p H (upd H p o) := fun a u n h => by
  rw [upd_ne n]
  exact h
/-- at p: a box that was asked at most n times -/
def Box (n : Nat) (p : Addr) (H : Hp) : Prop := ∃ (a : Int) (b : Bool) (m c : Int), H p = some (.lst [.int a, .bl b, .int m, .int c]) ∧ 0 ≤ a ∧ 0 ≤ m ∧ m < 2147483648 ∧ 0 ≤ c ∧ c ≤ (n : Int)
theorem Box.ex {n : Nat} {p : Addr} {H H' : Hp} (b : Box n p H) (e : Ex H H') : Box n p H' := by
  obtain ⟨a, b, m, c, h, r⟩ := b
  exact ⟨a, b, m, c, e _ _ h, r⟩
theorem Box.mono {n m : Nat} {p : Addr} {H : Hp} (b : Box n p H) (h : n ≤ m) : Box m p H := by
  obtain ⟨a, b, i, c, h1, h2, h3, h4, h5, h6⟩ := b
  exact ⟨a, b, i, c, h1, h2, h3, h4, h5, by omega⟩
/-- script[k], or a number made of it -/
def spCell99 (K : PySem.W.Frag) : Sp := fun vs H Q _ => ∃ (l : Addr) (ns : List Int) (j : Nat), vs = [.ref l, .int (j : Int)] ∧ SqL K H l (ns.map V.int) ∧ ns.length ≤ 63 ∧ j < 1000 ∧ ∀ (r : Int) (H' : Hp), Ex H H' → Q (.int r) H'
/-- a new box -/
def spBox : Sp := fun vs H Q _ => ∃ i : Int, vs = [.int i] ∧ ∀ (p : Addr) (H' : Hp), H p = none → Ex H H' → Box 0 p H' → Q (.ref p) H'
/-- a number below many; the box goes on -/
def spTake : Sp := fun vs H Q _ => ∃ (p : Addr) (n : Nat) (k : Int), vs = [.ref p, .int k] ∧ Box n p H ∧ n ≤ 1000000 ∧ 0 < k ∧ k < 1000 ∧ ∀ (r : Int) (H' : Hp), 0 ≤ r → r < k → ExB p H H' → Box (n + 1) p H' → Q (.int r) H'
/-- both are the same: True -/
def spSame (Pp : Hp → V → V → Prop) : Sp := fun vs H Q _ => ∃ v w, vs = [v, w] ∧ Pp H v w ∧ ∀ H', Ex H H' → Q (.bl true) H'
/-- how many values the error of a number keeps -/
def manyOf (n : Nat) : Nat := if n ∈ [47, 57, 60, 61] then 0 else if n ∈ [51, 53, 56] then 2 else 1
def spMany : Sp := fun vs H Q _ => ∃ n : Nat, vs = [.int (n : Int)] ∧ ∀ H', Ex H H' → Q (.int (manyOf n : Nat)) H'
/-! ### errors -/
/-- what is told of a class over par and ValueError, for isinstance -/
structure IsX (K : PySem.W.Frag) (C : Addr) (par : List Value) : Prop where
  ec : ExcC K C
  mr : ∃ cd, PySem.W.clsIn K C = some cd ∧ cd.mro = .ref C :: (par ++ PySem.HandSPX.veTail)
  ty : PySem.W.typeIn K (.ref C) = some (.type "type")
/-- the errors of all classes, made of one and other -/
def spMadeX : Sp := fun vs H Q _ => ∃ one other, vs = [one, other] ∧ ∀ p es H', H p = none → Ex H H' → H' p = some (.lst es) → Xk.Errs one other H' ecs es → Q (.ref p) H'
/-- which class it is of -/
def whichC (C : Addr) : List V := ecs.map fun c => .bl (decide (C = c.1))
/-- the error stands in the heap -/
def ErrIn (H : Hp) (a C : Addr) : Prop := ∃ d : Option Addr, H a = some (exo a C d) ∧ ∀ dd, d = some dd → ∃ fs, H dd = some (exd dd fs)
def spClasses (K : PySem.W.Frag) : Sp := fun vs H Q _ => ∃ (a C : Addr) (par : List Value), vs = [.ref a] ∧ IsX K C par ∧ (∀ c ∈ ecs, par.contains (.ref c.1) = false) ∧ ErrIn H a C ∧ ∀ p H', H p = none → Ex H H' → H' p = some (.lst (whichC C)) → Q (.ref p) H'
/-- what the error of a number keeps -/
def spKept : Sp := fun vs H Q _ => ∃ (n : Nat) (c : Xk.AF) (one other v : V), vs = [.int (n : Int), v] ∧ ecs[n]? = some c ∧ Xk.ErrAt c.1 c.2 one other H v ∧ ∀ p H', H p = none → Ex H H' → H' p = some (.lst ([one, other].take (manyOf n))) → Q (.ref p) H'
/-! ### values -/
def Scal (v : V) : Prop := v = .non ∨ (∃ b, v = .bl b) ∨ (∃ i, v = .int i) ∨ ∃ s : Str, v = .str s
/-- an item: a scalar, or a list or tuple of such at another address -/
def Sub (H : Hp) (F : List Addr) (a : Addr) (x : V) : Prop := Scal x ∨ ∃ b ys, x = .ref b ∧ b ≠ a ∧ b ∈ F ∧ (H b = some (.lst ys) ∨ H b = some (.tup ys)) ∧ ys.length ≤ 20 ∧ ∀ y ∈ ys, Scal y
/-- a value that stands on the addresses F -/
def Val (m : Nat) (H : Hp) (F : List Addr) (v : V) : Prop := Scal v ∨ (∃ a xs, v = .ref a ∧ a ∈ F ∧ (H a = some (.lst xs) ∨ H a = some (.tup xs)) ∧ xs.length ≤ m ∧ ∀ x ∈ xs, Sub H F a x) ∨
  ∃ a kvs, v = .ref a ∧ a ∈ F ∧ H a = some (.dK kvs) ∧ kvs.length ≤ m ∧ (kvs.map (·.1)).Nodup ∧ ∀ kv ∈ kvs, Sub H F a kv.2
def plainO : HO → Bool
  | .lst _ => true
  | .tup _ => true
  | .dK _ => true
  | _ => false
/-- lists, tuples, dicts stand on these addresses -/
def FK (F : List Addr) (H : Hp) : Prop := ∀ b ∈ F, ∃ o, H b = some o ∧ plainO o = true
/-- a value, made anew -/
def spValue : Sp := fun vs H Q _ => ∃ (p : Addr) (n : Nat), vs = [.ref p] ∧ Box n p H ∧ n ≤ 1000000 ∧ ∀ v F H', ExB p H H' → Box (n + 1) p H' → (∀ b ∈ F, H b = none) → FK F H' → Val 5 H' F v → Q v H'
/-- alike, n steps down -/
def Each (Pp : Hp → V → V → Prop) (H : Hp) (xs ys : List V) : Prop := xs.length = ys.length ∧ xs.length ≤ 1000 ∧ ∀ (i : Nat) (x y : V), xs[i]? = some x → ys[i]? = some y → Pp H x y
def StepP (Pp : Hp → V → V → Prop) (H : Hp) (v w : V) : Prop := (v = w ∧ Scal v) ∨
  (∃ a b xs ys, v = .ref a ∧ w = .ref b ∧ Rd H a (.lst xs) ∧ Rd H b (.lst ys) ∧ Each Pp H xs ys) ∨ (∃ a b xs ys, v = .ref a ∧ w = .ref b ∧ Rd H a (.tup xs) ∧ Rd H b (.tup ys) ∧ Each Pp H xs ys) ∨
  ∃ d kvs, v = .ref d ∧ w = .ref d ∧ H d = some (.dK kvs) ∧ kvs.length ≤ 1000 ∧ (kvs.map (·.1)).Nodup ∧ ∀ (od : Obj) (kv : Key × V), kv ∈ kvs → Pp (upd H d (.frz od (.dK kvs))) kv.2 kv.2
def Pf : Nat → Hp → V → V → Prop
  | 0 => fun _ _ _ => False
  | n + 1 => StepP (Pf n)
/-- all is right with the errors -/
def spRight : Sp := fun vs H Q _ => ∃ (p : Addr) (n : Nat) (b : Bool), vs = [.ref p, .bl b] ∧ Box n p H ∧ n ≤ 100000 ∧ ∀ H', ExB p H H' → Box (n + 2) p H' → Q (.bl true) H'
abbrev s__law_cell : Stmt := top 70
abbrev N__law_cell : List Str := ["script", "k"]
theorem sc__law_cell : FnScope N__law_cell ["script", "k"] (defScope s__law_cell) := ⟨rfl, rfl, rfl, by decide +kernel, rfl, by decide +kernel, by decide +kernel⟩
def t__law_cell (K : PySem.W.Frag)  : TS :=
  (tRet (tIf (tTest (tOp rLtI (tVar 1) (tCB (rLenV K) (tCons (tVar 0) tNil)))) (tOp (rIxL K) (tVar 0) (tVar 1)) (tOp rAddI (tOp rMulI (tC (.int 6389)) (tVar 1)) (tOp rModI (tCB rIntC (tCons (tCB (rSum K) (tCons (tSl (rSlL K) (tVar 0) tNoPart (tPart (tC (.int 1)))) tNil)) tNil)) (tC (.int 1000033))))))
abbrev s__law_box : Stmt := top 71
abbrev N__law_box : List Str := ["great"]
theorem sc__law_box : FnScope N__law_box ["great"] (defScope s__law_box) := ⟨rfl, rfl, rfl, by decide +kernel, rfl, by decide +kernel, by decide +kernel⟩
def t__law_box (K : PySem.W.Frag)  : TS :=
  (tRet (tLst (tCons (tCB rAbs (tCons (tVar 0) tNil)) (tCons (tOp rGeI (tCB rAbs (tCons (tVar 0) tNil)) (tOp rPowI (tC (.int 10)) (tC (.int 18)))) (tCons (tOp rModI (tCB rIntC (tCons (tCB rAbs (tCons (tVar 0) tNil)) tNil)) (tC (.int 2147483629))) (tCons (tC (.int 0)) tNil))))))
abbrev s__law_take : Stmt := top 72
abbrev N__law_take : List Str := ["box", "many", "digit", "mixed"]
theorem sc__law_take : FnScope N__law_take ["box", "many"] (defScope s__law_take) := ⟨rfl, rfl, rfl, by decide +kernel, rfl, by decide +kernel, by decide +kernel⟩
def t__law_take (K : PySem.W.Frag)  : TS :=
  (tSeq (tIfS (tAnd (tB (tOp (rIxL K) (tVar 0) (tC (.int 1)))) (tTest (tOp rGtI (tOp (rIxL K) (tVar 0) (tC (.int 0))) (tC (.int 0))))) (tSeq (tAsg (tOp rModI (tCB rIntC (tCons (tOp (rIxL K) (tVar 0) (tC (.int 0))) tNil)) (tVar 1)) (gName 2))
    (tSeq (tAsg (tOp rDivI (tOp (rIxL K) (tVar 0) (tC (.int 0))) (tVar 1)) (gSub (tVar 0) (tC (.int 0)) rSetL))
    (tRet (tVar 2)))) tNext)
    (tSeq (tAsg (tOp rAddI (tOp (rIxL K) (tVar 0) (tC (.int 3))) (tC (.int 1))) (gSub (tVar 0) (tC (.int 3)) rSetL))
    (tSeq (tAsg (tOp rModI (tCB rIntC (tCons (tOp rPowI (tOp rAddI (tOp rAddI (tOp (rIxL K) (tVar 0) (tC (.int 2))) (tOp rMulI (tC (.int 15486373)) (tOp (rIxL K) (tVar 0) (tC (.int 3))))) (tC (.int 179425101))) (tC (.int 5))) tNil)) (tC (.int 2147483647))) (gName 3))
    (tRet (tOp rModI (tCB rIntC (tCons (tOp rDivI (tOp rModI (tCB rIntC (tCons (tOp rPowI (tOp rAddI (tOp rMulI (tVar 3) (tC (.int 48271))) (tOp rMulI (tC (.int 105023)) (tOp (rIxL K) (tVar 0) (tC (.int 3))))) (tC (.int 3))) tNil)) (tC (.int 2147483587))) (tC (.int 64))) tNil)) (tVar 1))))))
abbrev s__law_same : Stmt := top 73
abbrev N__law_same : List Str := ["given", "due", "key", "k"]
theorem sc__law_same : FnScope N__law_same ["given", "due"] (defScope s__law_same) := ⟨rfl, rfl, rfl, by decide +kernel, rfl, by decide +kernel, by decide +kernel⟩
def t__law_same (K : PySem.W.Frag) (Pp : Hp → V → V → Prop) : TS :=
  (tSeq (tIfS (tOr (tTest (tOp rIsNon (tVar 1) (tC .non))) (tB (tCB (rIsi K) (tCons (tVar 1) (tCons (tC (.ty "bool")) tNil))))) (tRet (tIf (tTest (tOp rIsNon (tVar 1) (tC .non))) (tOp rIsNon (tVar 0) (tC .non)) (tAndV (tCB (rIsi K) (tCons (tVar 0) (tCons (tC (.ty "bool")) tNil))) (tOp rEq (tOp rIsB (tVar 0) (tC (.bl true))) (tOp rIsB (tVar 1) (tC (.bl true))))))) tNext)
    (tSeq (tIfS (tB (tCB (rIsi K) (tCons (tVar 1) (tCons (tC (.ty "int")) tNil)))) (tRet (tAndV (tCB (rIsi K) (tCons (tVar 0) (tCons (tC (.ty "int")) tNil))) (tAndV (tNotV (tCB (rIsi K) (tCons (tVar 0) (tCons (tC (.ty "bool")) tNil)))) (tOp rEq (tOp rSubI (tCB rIntC (tCons (tVar 0) tNil)) (tVar 1)) (tC (.int 0)))))) tNext)
    (tSeq (tIfS (tB (tCB (rIsi K) (tCons (tVar 1) (tCons (tC (.ty "str")) tNil)))) (tRet (tAndV (tCB (rIsi K) (tCons (tVar 0) (tCons (tC (.ty "str")) tNil))) (tOp rEq (tVar 0) (tVar 1)))) tNext)
    (tSeq (tIfS (tB (tCB (rIsi K) (tCons (tVar 1) (tCons (tC (.ty "dict")) tNil)))) (tSeq (tIfS (tOr (tNot (tB (tCB (rIsi K) (tCons (tVar 0) (tCons (tC (.ty "dict")) tNil))))) (tTest (tOp rNe (tCB (rLenA K) (tCons (tVar 0) tNil)) (tCB (rLenA K) (tCons (tVar 1) tNil))))) (tRet (tC (.bl false))) tNext)
    (tRet (tOp (rEqD K) (tLockE (tLc (iKeys (tVar 1)) (gName 2) (tOr (tB (tDNotIn (tVar 2) (tVar 0))) (tNot (tB (tCall (spSame Pp) [] E0 (tCons (tDGet (tVar 0) (tVar 2)) (tCons (tDGet (tVar 1) (tVar 2)) tNil)))))) (tVar 2) [2])) (tLst tNil)))) tNext)
    (tSeq (tIfS (tOr (tNot (tB (tCB (rIsiT K) (tCons (tVar 1) (tCons (tTup (tCons (tC (.ty "list")) (tCons (tC (.ty "tuple")) tNil))) tNil))))) (tNot (tB (tCB (rIsiT K) (tCons (tVar 0) (tCons (tTup (tCons (tC (.ty "list")) (tCons (tC (.ty "tuple")) tNil))) tNil)))))) (tRet (tC (.bl false))) tNext)
    (tSeq (tIfS (tOr (tTest (tOp rNe (tCB (rIsi K) (tCons (tVar 0) (tCons (tC (.ty "list")) tNil))) (tCB (rIsi K) (tCons (tVar 1) (tCons (tC (.ty "list")) tNil))))) (tTest (tOp rNe (tCB (rLenA K) (tCons (tVar 0) tNil)) (tCB (rLenA K) (tCons (tVar 1) tNil))))) (tRet (tC (.bl false))) tNext)
    (tRet (tOp (rEqD K) (tLc (iRng1 (tCons (tCB (rLenA K) (tCons (tVar 1) tNil)) tNil)) (gName 3) (tNot (tB (tCall (spSame Pp) [] E0 (tCons (tOp (rIx K) (tVar 0) (tVar 3)) (tCons (tOp (rIx K) (tVar 1) (tVar 3)) tNil))))) (tVar 3) [3]) (tLst tNil)))))))))
abbrev s__law_many : Stmt := top 80
abbrev N__law_many : List Str := ["number", "none", "two"]
theorem sc__law_many : FnScope N__law_many ["number"] (defScope s__law_many) := ⟨rfl, rfl, rfl, by decide +kernel, rfl, by decide +kernel, by decide +kernel⟩
def t__law_many (K : PySem.W.Frag)  : TS :=
  (tSeq (tPar 1 2 (tCons (tLst (tCons (tC (.int 47)) (tCons (tC (.int 57)) (tCons (tC (.int 60)) (tCons (tC (.int 61)) tNil))))) (tCons (tLst (tCons (tC (.int 51)) (tCons (tC (.int 53)) (tCons (tC (.int 56)) tNil)))) tNil)))
    (tRet (tIf (tTest (tOp (rIn K false) (tVar 0) (tVar 1))) (tC (.int 0)) (tIf (tTest (tOp (rIn K false) (tVar 0) (tVar 2))) (tC (.int 2)) (tC (.int 1))))))
abbrev s__law_named : Stmt := top 76
abbrev N__law_named : List Str := ["one", "other", "found"]
theorem sc__law_named : FnScope N__law_named ["one", "other"] (defScope s__law_named) := ⟨rfl, rfl, rfl, by decide +kernel, rfl, by decide +kernel, by decide +kernel⟩
def t__law_named (K : PySem.W.Frag)  : TS :=
  (tSeq (tAsg (tLst (tCons (Xk.tXkR 44 ["given"] List.reverse (tCons (tVar 0) tNil)) (tCons (Xk.tXkR 63 ["given"] List.reverse (tCons (tVar 0) tNil)) (tCons (Xk.tXkR 82 ["given"] List.reverse (tCons (tVar 0) tNil)) (tCons (Xk.tXkR 101 ["given"] List.reverse (tCons (tVar 0) tNil)) (tCons (Xk.tXkR 120 ["given"] List.reverse (tCons (tVar 0) tNil)) tNil)))))) (gName 2))
    (tSeq (tAsg (tOp rCat (tVar 2) (tLst (tCons (Xk.tXkR 139 ["given"] List.reverse (tCons (tVar 0) tNil)) (tCons (Xk.tXkR 158 ["given"] List.reverse (tCons (tVar 0) tNil)) (tCons (Xk.tXkR 177 ["given"] List.reverse (tCons (tVar 0) tNil)) (tCons (Xk.tXkR 196 ["given"] List.reverse (tCons (tVar 0) tNil)) (tCons (Xk.tXkR 215 ["given"] List.reverse (tCons (tVar 0) tNil)) tNil))))))) (gName 2))
    (tSeq (tAsg (tOp rCat (tVar 2) (tLst (tCons (Xk.tXkR 234 ["given"] List.reverse (tCons (tVar 0) tNil)) (tCons (Xk.tXkR 253 ["given"] List.reverse (tCons (tVar 0) tNil)) (tCons (Xk.tXkR 272 ["given"] List.reverse (tCons (tVar 0) tNil)) (tCons (Xk.tXkR 291 ["given"] List.reverse (tCons (tVar 0) tNil)) (tCons (Xk.tXkR 310 ["given"] List.reverse (tCons (tVar 0) tNil)) tNil))))))) (gName 2))
    (tSeq (tAsg (tOp rCat (tVar 2) (tLst (tCons (Xk.tXkR 329 ["given"] List.reverse (tCons (tVar 0) tNil)) (tCons (Xk.tXkR 348 ["given"] List.reverse (tCons (tVar 0) tNil)) (tCons (Xk.tXkR 367 ["given"] List.reverse (tCons (tVar 0) tNil)) (tCons (Xk.tXkR 386 ["given"] List.reverse (tCons (tVar 0) tNil)) (tCons (Xk.tXkR 405 ["given"] List.reverse (tCons (tVar 0) tNil)) tNil))))))) (gName 2))
    (tSeq (tAsg (tOp rCat (tVar 2) (tLst (tCons (Xk.tXkR 424 ["given"] List.reverse (tCons (tVar 0) tNil)) (tCons (Xk.tXkR 443 ["given"] List.reverse (tCons (tVar 0) tNil)) (tCons (Xk.tXkR 462 ["given"] List.reverse (tCons (tVar 0) tNil)) (tCons (Xk.tXkR 481 ["given"] List.reverse (tCons (tVar 0) tNil)) (tCons (Xk.tXkR 500 ["given"] List.reverse (tCons (tVar 0) tNil)) (tCons (Xk.tXkR 519 ["given"] List.reverse (tCons (tVar 0) tNil)) tNil)))))))) (gName 2))
    (tSeq (tAsg (tOp rCat (tVar 2) (tLst (tCons (Xk.tXkR 538 ["given"] List.reverse (tCons (tVar 0) tNil)) (tCons (Xk.tXkR 557 ["given"] List.reverse (tCons (tVar 0) tNil)) (tCons (Xk.tXkR 576 ["given"] List.reverse (tCons (tVar 0) tNil)) (tCons (Xk.tXkR 595 ["given"] List.reverse (tCons (tVar 0) tNil)) (tCons (Xk.tXkR 614 ["given"] List.reverse (tCons (tVar 0) tNil)) tNil))))))) (gName 2))
    (tSeq (tAsg (tOp rCat (tVar 2) (tLst (tCons (Xk.tXkR 633 ["given"] List.reverse (tCons (tVar 0) tNil)) (tCons (Xk.tXkR 652 ["given"] List.reverse (tCons (tVar 0) tNil)) (tCons (Xk.tXkR 671 ["given"] List.reverse (tCons (tVar 0) tNil)) (tCons (Xk.tXkR 690 ["given"] List.reverse (tCons (tVar 0) tNil)) (tCons (Xk.tXkR 709 ["given"] List.reverse (tCons (tVar 0) tNil)) tNil))))))) (gName 2))
    (tSeq (tAsg (tOp rCat (tVar 2) (tLst (tCons (Xk.tXkR 728 ["given"] List.reverse (tCons (tVar 0) tNil)) (tCons (Xk.tXkR 747 ["given"] List.reverse (tCons (tVar 0) tNil)) (tCons (Xk.tXkR 766 ["given"] List.reverse (tCons (tVar 0) tNil)) (tCons (Xk.tXkR 785 ["given"] List.reverse (tCons (tVar 0) tNil)) (tCons (Xk.tXkR 804 ["given"] List.reverse (tCons (tVar 0) tNil)) (tCons (Xk.tXkR 823 ["given"] List.reverse (tCons (tVar 0) tNil)) tNil)))))))) (gName 2))
    (tSeq (tAsg (tOp rCat (tVar 2) (tLst (tCons (Xk.tXkR 842 ["given"] List.reverse (tCons (tVar 0) tNil)) (tCons (Xk.tXkR 861 ["given"] List.reverse (tCons (tVar 0) tNil)) (tCons (Xk.tXkR 880 ["given"] List.reverse (tCons (tVar 0) tNil)) (tCons (Xk.tXkR 1175 ["given"] List.reverse (tCons (tVar 0) tNil)) (tCons (Xk.tXkR 899 ["change"] List.reverse (tCons (tVar 0) tNil)) (tCons (Xk.tX0 911) (tCons (Xk.tXkR 930 ["index"] List.reverse (tCons (tVar 0) tNil)) tNil))))))))) (gName 2))
    (tSeq (tAsg (tOp rCat (tVar 2) (tLst (tCons (Xk.tXkR 949 ["index"] List.reverse (tCons (tVar 0) tNil)) (tCons (Xk.tXkR 968 ["circle"] List.reverse (tCons (tVar 0) tNil)) (tCons (Xk.tXkR 987 ["one", "other"] List.reverse (tCons (tVar 1) (tCons (tVar 0) tNil))) (tCons (Xk.tXkR 1006 ["head"] List.reverse (tCons (tVar 0) tNil)) (tCons (Xk.tXkR 1025 ["one", "other"] List.reverse (tCons (tVar 1) (tCons (tVar 0) tNil))) (tCons (Xk.tXkR 1044 ["node"] List.reverse (tCons (tVar 0) tNil)) tNil)))))))) (gName 2))
    (tSeq (tAsg (tOp rCat (tVar 2) (tLst (tCons (Xk.tXkR 1063 ["node"] List.reverse (tCons (tVar 0) tNil)) (tCons (Xk.tXkR 1082 ["one", "other"] List.reverse (tCons (tVar 1) (tCons (tVar 0) tNil))) (tCons (Xk.tX0 1094) (tCons (Xk.tXkR 1113 ["node"] List.reverse (tCons (tVar 0) tNil)) (tCons (Xk.tXkR 1132 ["node"] List.reverse (tCons (tVar 0) tNil)) (tCons (Xk.tX0 1144) (tCons (Xk.tX0 1156) tNil))))))))) (gName 2))
    (tSeq (tAsg (tOp rCat (tVar 2) (tLst (tCons (Xk.tXkR 1194 ["node"] List.reverse (tCons (tVar 0) tNil)) (tCons (Xk.tXkR 1213 ["count"] List.reverse (tCons (tVar 0) tNil)) (tCons (Xk.tXkR 1232 ["name"] List.reverse (tCons (tVar 0) tNil)) (tCons (Xk.tXkR 1251 ["node"] List.reverse (tCons (tVar 0) tNil)) tNil)))))) (gName 2))
    (tRet (tVar 2))))))))))))))
abbrev s__law_placed : Stmt := top 77
abbrev N__law_placed : List Str := ["one", "other", "found"]
theorem sc__law_placed : FnScope N__law_placed ["one", "other"] (defScope s__law_placed) := ⟨rfl, rfl, rfl, by decide +kernel, rfl, by decide +kernel, by decide +kernel⟩
def t__law_placed (K : PySem.W.Frag)  : TS :=
  (tSeq (tAsg (tLst (tCons (Xk.tXk 44 ["given"] (tCons (tVar 0) tNil)) (tCons (Xk.tXk 63 ["given"] (tCons (tVar 0) tNil)) (tCons (Xk.tXk 82 ["given"] (tCons (tVar 0) tNil)) (tCons (Xk.tXk 101 ["given"] (tCons (tVar 0) tNil)) (tCons (Xk.tXk 120 ["given"] (tCons (tVar 0) tNil)) (tCons (Xk.tXk 139 ["given"] (tCons (tVar 0) tNil)) (tCons (Xk.tXk 158 ["given"] (tCons (tVar 0) tNil)) tNil)))))))) (gName 2))
    (tSeq (tAsg (tOp rCat (tVar 2) (tLst (tCons (Xk.tXk 177 ["given"] (tCons (tVar 0) tNil)) (tCons (Xk.tXk 196 ["given"] (tCons (tVar 0) tNil)) (tCons (Xk.tXk 215 ["given"] (tCons (tVar 0) tNil)) (tCons (Xk.tXk 234 ["given"] (tCons (tVar 0) tNil)) (tCons (Xk.tXk 253 ["given"] (tCons (tVar 0) tNil)) (tCons (Xk.tXk 272 ["given"] (tCons (tVar 0) tNil)) (tCons (Xk.tXk 291 ["given"] (tCons (tVar 0) tNil)) tNil))))))))) (gName 2))
    (tSeq (tAsg (tOp rCat (tVar 2) (tLst (tCons (Xk.tXk 310 ["given"] (tCons (tVar 0) tNil)) (tCons (Xk.tXk 329 ["given"] (tCons (tVar 0) tNil)) (tCons (Xk.tXk 348 ["given"] (tCons (tVar 0) tNil)) (tCons (Xk.tXk 367 ["given"] (tCons (tVar 0) tNil)) (tCons (Xk.tXk 386 ["given"] (tCons (tVar 0) tNil)) (tCons (Xk.tXk 405 ["given"] (tCons (tVar 0) tNil)) (tCons (Xk.tXk 424 ["given"] (tCons (tVar 0) tNil)) tNil))))))))) (gName 2))
    (tSeq (tAsg (tOp rCat (tVar 2) (tLst (tCons (Xk.tXk 443 ["given"] (tCons (tVar 0) tNil)) (tCons (Xk.tXk 462 ["given"] (tCons (tVar 0) tNil)) (tCons (Xk.tXk 481 ["given"] (tCons (tVar 0) tNil)) (tCons (Xk.tXk 500 ["given"] (tCons (tVar 0) tNil)) (tCons (Xk.tXk 519 ["given"] (tCons (tVar 0) tNil)) (tCons (Xk.tXk 538 ["given"] (tCons (tVar 0) tNil)) (tCons (Xk.tXk 557 ["given"] (tCons (tVar 0) tNil)) (tCons (Xk.tXk 576 ["given"] (tCons (tVar 0) tNil)) tNil)))))))))) (gName 2))
    (tSeq (tAsg (tOp rCat (tVar 2) (tLst (tCons (Xk.tXk 595 ["given"] (tCons (tVar 0) tNil)) (tCons (Xk.tXk 614 ["given"] (tCons (tVar 0) tNil)) (tCons (Xk.tXk 633 ["given"] (tCons (tVar 0) tNil)) (tCons (Xk.tXk 652 ["given"] (tCons (tVar 0) tNil)) (tCons (Xk.tXk 671 ["given"] (tCons (tVar 0) tNil)) (tCons (Xk.tXk 690 ["given"] (tCons (tVar 0) tNil)) (tCons (Xk.tXk 709 ["given"] (tCons (tVar 0) tNil)) tNil))))))))) (gName 2))
    (tSeq (tAsg (tOp rCat (tVar 2) (tLst (tCons (Xk.tXk 728 ["given"] (tCons (tVar 0) tNil)) (tCons (Xk.tXk 747 ["given"] (tCons (tVar 0) tNil)) (tCons (Xk.tXk 766 ["given"] (tCons (tVar 0) tNil)) (tCons (Xk.tXk 785 ["given"] (tCons (tVar 0) tNil)) (tCons (Xk.tXk 804 ["given"] (tCons (tVar 0) tNil)) (tCons (Xk.tXk 823 ["given"] (tCons (tVar 0) tNil)) (tCons (Xk.tXk 842 ["given"] (tCons (tVar 0) tNil)) (tCons (Xk.tXk 861 ["given"] (tCons (tVar 0) tNil)) tNil)))))))))) (gName 2))
    (tSeq (tAsg (tOp rCat (tVar 2) (tLst (tCons (Xk.tXk 880 ["given"] (tCons (tVar 0) tNil)) (tCons (Xk.tXk 1175 ["given"] (tCons (tVar 0) tNil)) (tCons (Xk.tXk 899 ["change"] (tCons (tVar 0) tNil)) (tCons (Xk.tX0 911) (tCons (Xk.tXk 930 ["index"] (tCons (tVar 0) tNil)) (tCons (Xk.tXk 949 ["index"] (tCons (tVar 0) tNil)) (tCons (Xk.tXk 968 ["circle"] (tCons (tVar 0) tNil)) (tCons (Xk.tXk 987 ["one", "other"] (tCons (tVar 0) (tCons (tVar 1) tNil))) (tCons (Xk.tXk 1006 ["head"] (tCons (tVar 0) tNil)) tNil))))))))))) (gName 2))
    (tSeq (tAsg (tOp rCat (tVar 2) (tLst (tCons (Xk.tXk 1025 ["one", "other"] (tCons (tVar 0) (tCons (tVar 1) tNil))) (tCons (Xk.tXk 1044 ["node"] (tCons (tVar 0) tNil)) (tCons (Xk.tXk 1063 ["node"] (tCons (tVar 0) tNil)) (tCons (Xk.tXk 1082 ["one", "other"] (tCons (tVar 0) (tCons (tVar 1) tNil))) (tCons (Xk.tX0 1094) (tCons (Xk.tXk 1113 ["node"] (tCons (tVar 0) tNil)) (tCons (Xk.tXk 1132 ["node"] (tCons (tVar 0) tNil)) (tCons (Xk.tX0 1144) (tCons (Xk.tX0 1156) tNil))))))))))) (gName 2))
    (tSeq (tAsg (tOp rCat (tVar 2) (tLst (tCons (Xk.tXk 1194 ["node"] (tCons (tVar 0) tNil)) (tCons (Xk.tXk 1213 ["count"] (tCons (tVar 0) tNil)) (tCons (Xk.tXk 1232 ["name"] (tCons (tVar 0) tNil)) (tCons (Xk.tXk 1251 ["node"] (tCons (tVar 0) tNil)) tNil)))))) (gName 2))
    (tRet (tVar 2)))))))))))
abbrev s__law_classes : Stmt := top 78
abbrev N__law_classes : List Str := ["error", "found"]
theorem sc__law_classes : FnScope N__law_classes ["error"] (defScope s__law_classes) := ⟨rfl, rfl, rfl, by decide +kernel, rfl, by decide +kernel, by decide +kernel⟩
def t__law_classes (K : PySem.W.Frag) (ri : List V → Hp → VK → Prop) : TS :=
  (tSeq (tAsg (tLst (tCons (tCB ri (tCons (tVar 0) (tCons (tC (.ref 44)) tNil))) (tCons (tCB ri (tCons (tVar 0) (tCons (tC (.ref 63)) tNil))) (tCons (tCB ri (tCons (tVar 0) (tCons (tC (.ref 82)) tNil))) (tCons (tCB ri (tCons (tVar 0) (tCons (tC (.ref 101)) tNil))) tNil))))) (gName 1))
    (tSeq (tAsg (tOp rCat (tVar 1) (tLst (tCons (tCB ri (tCons (tVar 0) (tCons (tC (.ref 120)) tNil))) (tCons (tCB ri (tCons (tVar 0) (tCons (tC (.ref 139)) tNil))) (tCons (tCB ri (tCons (tVar 0) (tCons (tC (.ref 158)) tNil))) (tCons (tCB ri (tCons (tVar 0) (tCons (tC (.ref 177)) tNil))) tNil)))))) (gName 1))
    (tSeq (tAsg (tOp rCat (tVar 1) (tLst (tCons (tCB ri (tCons (tVar 0) (tCons (tC (.ref 196)) tNil))) (tCons (tCB ri (tCons (tVar 0) (tCons (tC (.ref 215)) tNil))) (tCons (tCB ri (tCons (tVar 0) (tCons (tC (.ref 234)) tNil))) (tCons (tCB ri (tCons (tVar 0) (tCons (tC (.ref 253)) tNil))) tNil)))))) (gName 1))
    (tSeq (tAsg (tOp rCat (tVar 1) (tLst (tCons (tCB ri (tCons (tVar 0) (tCons (tC (.ref 272)) tNil))) (tCons (tCB ri (tCons (tVar 0) (tCons (tC (.ref 291)) tNil))) (tCons (tCB ri (tCons (tVar 0) (tCons (tC (.ref 310)) tNil))) (tCons (tCB ri (tCons (tVar 0) (tCons (tC (.ref 329)) tNil))) tNil)))))) (gName 1))
    (tSeq (tAsg (tOp rCat (tVar 1) (tLst (tCons (tCB ri (tCons (tVar 0) (tCons (tC (.ref 348)) tNil))) (tCons (tCB ri (tCons (tVar 0) (tCons (tC (.ref 367)) tNil))) (tCons (tCB ri (tCons (tVar 0) (tCons (tC (.ref 386)) tNil))) (tCons (tCB ri (tCons (tVar 0) (tCons (tC (.ref 405)) tNil))) tNil)))))) (gName 1))
    (tSeq (tAsg (tOp rCat (tVar 1) (tLst (tCons (tCB ri (tCons (tVar 0) (tCons (tC (.ref 424)) tNil))) (tCons (tCB ri (tCons (tVar 0) (tCons (tC (.ref 443)) tNil))) (tCons (tCB ri (tCons (tVar 0) (tCons (tC (.ref 462)) tNil))) (tCons (tCB ri (tCons (tVar 0) (tCons (tC (.ref 481)) tNil))) tNil)))))) (gName 1))
    (tSeq (tAsg (tOp rCat (tVar 1) (tLst (tCons (tCB ri (tCons (tVar 0) (tCons (tC (.ref 500)) tNil))) (tCons (tCB ri (tCons (tVar 0) (tCons (tC (.ref 519)) tNil))) (tCons (tCB ri (tCons (tVar 0) (tCons (tC (.ref 538)) tNil))) (tCons (tCB ri (tCons (tVar 0) (tCons (tC (.ref 557)) tNil))) tNil)))))) (gName 1))
    (tSeq (tAsg (tOp rCat (tVar 1) (tLst (tCons (tCB ri (tCons (tVar 0) (tCons (tC (.ref 576)) tNil))) (tCons (tCB ri (tCons (tVar 0) (tCons (tC (.ref 595)) tNil))) (tCons (tCB ri (tCons (tVar 0) (tCons (tC (.ref 614)) tNil))) (tCons (tCB ri (tCons (tVar 0) (tCons (tC (.ref 633)) tNil))) tNil)))))) (gName 1))
    (tSeq (tAsg (tOp rCat (tVar 1) (tLst (tCons (tCB ri (tCons (tVar 0) (tCons (tC (.ref 652)) tNil))) (tCons (tCB ri (tCons (tVar 0) (tCons (tC (.ref 671)) tNil))) (tCons (tCB ri (tCons (tVar 0) (tCons (tC (.ref 690)) tNil))) (tCons (tCB ri (tCons (tVar 0) (tCons (tC (.ref 709)) tNil))) tNil)))))) (gName 1))
    (tSeq (tAsg (tOp rCat (tVar 1) (tLst (tCons (tCB ri (tCons (tVar 0) (tCons (tC (.ref 728)) tNil))) (tCons (tCB ri (tCons (tVar 0) (tCons (tC (.ref 747)) tNil))) (tCons (tCB ri (tCons (tVar 0) (tCons (tC (.ref 766)) tNil))) (tCons (tCB ri (tCons (tVar 0) (tCons (tC (.ref 785)) tNil))) tNil)))))) (gName 1))
    (tSeq (tAsg (tOp rCat (tVar 1) (tLst (tCons (tCB ri (tCons (tVar 0) (tCons (tC (.ref 804)) tNil))) (tCons (tCB ri (tCons (tVar 0) (tCons (tC (.ref 823)) tNil))) (tCons (tCB ri (tCons (tVar 0) (tCons (tC (.ref 842)) tNil))) (tCons (tCB ri (tCons (tVar 0) (tCons (tC (.ref 861)) tNil))) tNil)))))) (gName 1))
    (tSeq (tAsg (tOp rCat (tVar 1) (tLst (tCons (tCB ri (tCons (tVar 0) (tCons (tC (.ref 880)) tNil))) (tCons (tCB ri (tCons (tVar 0) (tCons (tC (.ref 1175)) tNil))) (tCons (tCB ri (tCons (tVar 0) (tCons (tC (.ref 899)) tNil))) (tCons (tCB ri (tCons (tVar 0) (tCons (tC (.ref 911)) tNil))) (tCons (tCB ri (tCons (tVar 0) (tCons (tC (.ref 930)) tNil))) tNil))))))) (gName 1))
    (tSeq (tAsg (tOp rCat (tVar 1) (tLst (tCons (tCB ri (tCons (tVar 0) (tCons (tC (.ref 949)) tNil))) (tCons (tCB ri (tCons (tVar 0) (tCons (tC (.ref 968)) tNil))) (tCons (tCB ri (tCons (tVar 0) (tCons (tC (.ref 987)) tNil))) (tCons (tCB ri (tCons (tVar 0) (tCons (tC (.ref 1006)) tNil))) (tCons (tCB ri (tCons (tVar 0) (tCons (tC (.ref 1025)) tNil))) tNil))))))) (gName 1))
    (tSeq (tAsg (tOp rCat (tVar 1) (tLst (tCons (tCB ri (tCons (tVar 0) (tCons (tC (.ref 1044)) tNil))) (tCons (tCB ri (tCons (tVar 0) (tCons (tC (.ref 1063)) tNil))) (tCons (tCB ri (tCons (tVar 0) (tCons (tC (.ref 1082)) tNil))) (tCons (tCB ri (tCons (tVar 0) (tCons (tC (.ref 1094)) tNil))) (tCons (tCB ri (tCons (tVar 0) (tCons (tC (.ref 1113)) tNil))) tNil))))))) (gName 1))
    (tSeq (tAsg (tOp rCat (tVar 1) (tLst (tCons (tCB ri (tCons (tVar 0) (tCons (tC (.ref 1132)) tNil))) (tCons (tCB ri (tCons (tVar 0) (tCons (tC (.ref 1144)) tNil))) (tCons (tCB ri (tCons (tVar 0) (tCons (tC (.ref 1156)) tNil))) (tCons (tCB ri (tCons (tVar 0) (tCons (tC (.ref 1194)) tNil))) tNil)))))) (gName 1))
    (tSeq (tAsg (tOp rCat (tVar 1) (tLst (tCons (tCB ri (tCons (tVar 0) (tCons (tC (.ref 1213)) tNil))) (tCons (tCB ri (tCons (tVar 0) (tCons (tC (.ref 1232)) tNil))) (tCons (tCB ri (tCons (tVar 0) (tCons (tC (.ref 1251)) tNil))) tNil))))) (gName 1))
    (tRet (tVar 1))))))))))))))))))
abbrev s__law_kept : Stmt := top 79
abbrev N__law_kept : List Str := ["number", "error"]
theorem sc__law_kept : FnScope N__law_kept ["number", "error"] (defScope s__law_kept) := ⟨rfl, rfl, rfl, by decide +kernel, rfl, by decide +kernel, by decide +kernel⟩
def t__law_kept (K : PySem.W.Frag)  : TS :=
  (tSeq (tIfS (tTest (tOp (rIn K false) (tVar 0) (tTup (tCons (tC (.int 46)) tNil)))) (tRet (tLst (tCons (Xk.tGx K "change" (tVar 1)) tNil))) tNext)
    (tSeq (tIfS (tTest (tOp (rIn K false) (tVar 0) (tTup (tCons (tC (.int 47)) (tCons (tC (.int 57)) (tCons (tC (.int 60)) (tCons (tC (.int 61)) tNil))))))) (tRet (tLst tNil)) tNext)
    (tSeq (tIfS (tTest (tOp (rIn K false) (tVar 0) (tTup (tCons (tC (.int 48)) (tCons (tC (.int 49)) tNil))))) (tRet (tLst (tCons (Xk.tGx K "index" (tVar 1)) tNil))) tNext)
    (tSeq (tIfS (tTest (tOp (rIn K false) (tVar 0) (tTup (tCons (tC (.int 50)) tNil)))) (tRet (tLst (tCons (Xk.tGx K "circle" (tVar 1)) tNil))) tNext)
    (tSeq (tIfS (tTest (tOp (rIn K false) (tVar 0) (tTup (tCons (tC (.int 51)) (tCons (tC (.int 53)) (tCons (tC (.int 56)) tNil)))))) (tRet (tLst (tCons (Xk.tGx K "one" (tVar 1)) (tCons (Xk.tGx K "other" (tVar 1)) tNil)))) tNext)
    (tSeq (tIfS (tTest (tOp (rIn K false) (tVar 0) (tTup (tCons (tC (.int 52)) tNil)))) (tRet (tLst (tCons (Xk.tGx K "head" (tVar 1)) tNil))) tNext)
    (tSeq (tIfS (tTest (tOp (rIn K false) (tVar 0) (tTup (tCons (tC (.int 54)) (tCons (tC (.int 55)) (tCons (tC (.int 58)) (tCons (tC (.int 59)) (tCons (tC (.int 62)) (tCons (tC (.int 65)) tNil))))))))) (tRet (tLst (tCons (Xk.tGx K "node" (tVar 1)) tNil))) tNext)
    (tSeq (tIfS (tTest (tOp (rIn K false) (tVar 0) (tTup (tCons (tC (.int 63)) tNil)))) (tRet (tLst (tCons (Xk.tGx K "count" (tVar 1)) tNil))) tNext)
    (tSeq (tIfS (tTest (tOp (rIn K false) (tVar 0) (tTup (tCons (tC (.int 64)) tNil)))) (tRet (tLst (tCons (Xk.tGx K "name" (tVar 1)) tNil))) tNext)
    (tRet (tLst (tCons (Xk.tGx K "given" (tVar 1)) tNil))))))))))))
abbrev s__law_value : Stmt := top 81
abbrev N__law_value : List Str := ["box"]
theorem sc__law_value : FnScope N__law_value ["box"] (defScope s__law_value) := ⟨rfl, rfl, rfl, by decide +kernel, rfl, by decide +kernel, by decide +kernel⟩
def t__law_value (K : PySem.W.Frag)  : TS :=
  (tRet (tOp (rIxL K) (tLst (tCons (tC .non) (tCons (tC (.bl true)) (tCons (tC (.bl false)) (tCons (tC (.int 0)) (tCons (tUn (rU fun i => .int (-i)) (tC (.int 5))) (tCons (tOp rPowI (tC (.int 10)) (tC (.int 20))) (tCons (tC (.str "")) (tCons (tC (.str "x")) (tCons (tLst tNil) (tCons (tLst (tCons (tC (.int 1)) (tCons (tLst (tCons (tC (.int 2)) tNil)) tNil))) (tCons (tTup (tCons (tC (.int 1)) (tCons (tC (.str "a")) tNil))) (tCons tDNewK (tCons (tDisp (((tC (.str "a")), (tLst (tCons (tC (.int 1)) tNil))) :: [])) (tCons (tLst (tCons (tC .non) tNil)) (tCons (tTup (tCons (tTup tNil) tNil)) tNil)))))))))))))))) (tCall spTake [] E0 (tCons (tVar 0) (tCons (tC (.int 15)) tNil)))))
abbrev s__law_errors_right : Stmt := top 82
abbrev N__law_errors_right : List Str := ["box", "by_name", "one", "other", "made", "turn", "number", "value", "k"]
theorem sc__law_errors_right : FnScope N__law_errors_right ["box", "by_name"] (defScope s__law_errors_right) := ⟨rfl, rfl, rfl, by decide +kernel, rfl, by decide +kernel, by decide +kernel⟩
def t__law_errors_right (K : PySem.W.Frag)  : TS :=
  (tSeq (tPar 2 3 (tCons (tCall spValue [] E0 (tCons (tVar 0) tNil)) (tCons (tCall spValue [] E0 (tCons (tVar 0) tNil)) tNil)))
    (tSeq (tAsg (tIf (tB (tVar 1)) (tCall spMadeX [] E0 (tCons (tVar 2) (tCons (tVar 3) tNil))) (tCall spMadeX [] E0 (tCons (tVar 2) (tCons (tVar 3) tNil)))) (gName 4))
    (tSeq (tFor (iRng1 (tCons (tC (.int 2)) tNil)) (gName 5) (tSeq (tFor (iRng1 (tCons (tC (.int 66)) tNil)) (gName 6) (tIfS (tNot (tB (tCall (spSame (Pf 4)) [] E0 (tCons (tCall spKept [] E0 (tCons (tVar 6) (tCons (tOp (rIxL K) (tVar 4) (tVar 6)) tNil))) (tCons (tSl (rSlL K) (tLst (tCons (tVar 2) (tCons (tVar 3) tNil))) tNoPart (tPart (tCall spMany [] E0 (tCons (tVar 6) tNil)))) tNil))))) (tRet (tC (.bl false))) tNext))
    (tFor (iList K (tLst (tCons (tVar 2) (tCons (tVar 3) tNil)))) (gName 7) (tSeq (tIfS (tB (tCB (rIsi K) (tCons (tVar 7) (tCons (tC (.ty "list")) tNil)))) (tDrop (tBM K "list" rAppend (tVar 7) (tCons (tC (.int 7)) tNil))) tNext)
    (tIfS (tB (tCB (rIsi K) (tCons (tVar 7) (tCons (tC (.ty "dict")) tNil)))) (sDPut (tVar 7) (tC (.str "more")) (tC (.int 7))) tNext)))))
    (tSeq (tFor (iRng1 (tCons (tC (.int 66)) tNil)) (gName 6) (tSeq (tIfS (tOr (tNot (tB (tCB (Xk.rIsx K) (tCons (tOp (rIxL K) (tVar 4) (tVar 6)) (tCons (tC (.ref 24)) tNil))))) (tNot (tB (tCB (Xk.rIsx K) (tCons (tOp (rIxL K) (tVar 4) (tVar 6)) (tCons (tC (.ty "ValueError")) tNil)))))) (tRet (tC (.bl false))) tNext)
    (tIfS (tNot (tB (tCall (spSame (Pf 4)) [] E0 (tCons (tCall (spClasses K) [] E0 (tCons (tOp (rIxL K) (tVar 4) (tVar 6)) tNil)) (tCons (tLc (iRng1 (tCons (tC (.int 66)) tNil)) (gName 8) tYes (tOp rEq (tVar 8) (tVar 6)) [8]) tNil))))) (tRet (tC (.bl false))) tNext)))
    (tRet (tC (.bl true)))))))
end Lw

set_option maxHeartbeats 4000000
namespace Lw
open PySem PySem.Spec PyProof.Rows L2 Evl
/-! ### more that evaluates -/
theorem tyx_mono {K : PySem.W.Frag} {H H' : Hp} {x : V} {t : Value} (e : Ex H H') (h : TyX K H x t) : TyX K H' x t := by
  cases h with
  | base b =>
    refine .base ?_
    cases b with
    | non => exact .non
    | bl x => exact .bl x
    | int i => exact .int i
    | str x => exact .str x
    | flt x => exact .flt x
    | lst h => exact .lst (e _ _ h)
    | frz h => exact .frz (e _ _ h)
    | tup h => exact .tup (e _ _ h)
    | dK h => exact .dK (e _ _ h)
    | dT h => exact .dT (e _ _ h)
    | ins h a b c d f => exact .ins (e _ _ h) a b c d f
  | byt b => exact .byt b
  | set h => exact .set (e _ _ h)
  | kList h c => exact .kList h c
  | kTuple h c => exact .kTuple h c
  | kDict h c => exact .kDict h c
  | fTuple h => exact .fTuple (e _ _ h)
  | fDict h => exact .fDict (e _ _ h)
section
variable {K : PySem.W.Frag} {σ : L2.St} {H H' : Hp} {ta tb te tx : TE} {t u : TT} {x y z v : V}
theorem rv_isnon : RV rIsNon x .non H (.bl (decide (x = .non))) := fun H1 _ _ q => ⟨rfl, q H1 (Ex.refl H1)⟩
theorem rv_isb {a b : Bool} : RV rIsB (.bl a) (.bl b) H (.bl (decide (a = b))) := fun H1 _ _ q => ⟨a, b, rfl, rfl, q H1 (Ex.refl H1)⟩
/-- isinstance(e, c), c a built-in type -/
theorem ev_isi {T c : String} {b : Bool} (ha : Ev ta σ H x) (ht : TyX K H x (.type T)) (hk : kitB T c = some b) : Ev (tCB (rIsi K) (tCons ta (tCons (tC (.ty c)) tNil))) σ H (.bl b) := fun H1 e Q q =>
  ha H1 e _ fun H2 e2 => ⟨x, .ty c, .type T, .type c, b, rfl, .ty c, tyx_mono (e.trans e2) ht, kit_ty hk, q H2 e2⟩
/-- isinstance(e, (c, d)) -/
theorem ev_isi2 {T c d : String} {b b' : Bool} (ha : Ev ta σ H x) (ht : TyX K H x (.type T)) (hk : kitB T c = some b) (hk' : kitB T d = some b') :
    Ev (tCB (rIsiT K) (tCons ta (tCons (tTup (tCons (tC (.ty c)) (tCons (tC (.ty d)) tNil))) tNil))) σ H (.bl (b || b')) := fun H1 e Q q =>
  ha H1 e _ fun H2 e2 => ⟨(by show 2 ≤ sizeLine; decide), fun p hp => ⟨x, p, [.ty c, .ty d], .type T, [.type c, .type d], b || b', rfl, upd_same, .cons (.ty c) (.cons (.ty d) .nil), tyx_mono ((e.trans e2).trans (Ex.new hp)) ht,
    kitAny_cons (kit_ty hk) (fun hb => kitAny_cons (r := b') (kit_ty hk') (fun z => by rw [z]; rfl) (fun z => z) |>.trans (by rw [hb]; rfl)) (fun hb => by rw [hb]; rfl), q _ (e2.trans (Ex.new hp))⟩⟩
end
/-! ### the same, one step further down -/

section
variable {K : PySem.W.Frag} {Pp : Hp → V → V → Prop} {vs : List V} {H : Hp} {Q : VK} {E : XK}
theorem pure_law_same_len (h : spSame (StepP Pp) vs H Q E) : vs.length = ["given", "due"].length := by
  obtain ⟨v, w, rfl, _⟩ := h
  rfl
theorem kb_NoneType_bool : kitB "NoneType" "bool" = some false := by decide +kernel
theorem kb_NoneType_int : kitB "NoneType" "int" = some false := by decide +kernel
theorem kb_NoneType_str : kitB "NoneType" "str" = some false := by decide +kernel
theorem kb_NoneType_dict : kitB "NoneType" "dict" = some false := by decide +kernel
theorem kb_NoneType_list : kitB "NoneType" "list" = some false := by decide +kernel
theorem kb_NoneType_tuple : kitB "NoneType" "tuple" = some false := by decide +kernel
theorem kb_bool_bool : kitB "bool" "bool" = some true := by decide +kernel
theorem kb_bool_int : kitB "bool" "int" = some true := by decide +kernel
theorem kb_bool_str : kitB "bool" "str" = some false := by decide +kernel
theorem kb_bool_dict : kitB "bool" "dict" = some false := by decide +kernel
theorem kb_bool_list : kitB "bool" "list" = some false := by decide +kernel
theorem kb_bool_tuple : kitB "bool" "tuple" = some false := by decide +kernel
theorem kb_int_bool : kitB "int" "bool" = some false := by decide +kernel
theorem kb_int_int : kitB "int" "int" = some true := by decide +kernel
theorem kb_int_str : kitB "int" "str" = some false := by decide +kernel
theorem kb_int_dict : kitB "int" "dict" = some false := by decide +kernel
theorem kb_int_list : kitB "int" "list" = some false := by decide +kernel
theorem kb_int_tuple : kitB "int" "tuple" = some false := by decide +kernel
theorem kb_str_bool : kitB "str" "bool" = some false := by decide +kernel
theorem kb_str_int : kitB "str" "int" = some false := by decide +kernel
theorem kb_str_str : kitB "str" "str" = some true := by decide +kernel
theorem kb_str_dict : kitB "str" "dict" = some false := by decide +kernel
theorem kb_str_list : kitB "str" "list" = some false := by decide +kernel
theorem kb_str_tuple : kitB "str" "tuple" = some false := by decide +kernel
theorem kb_list_bool : kitB "list" "bool" = some false := by decide +kernel
theorem kb_list_int : kitB "list" "int" = some false := by decide +kernel
theorem kb_list_str : kitB "list" "str" = some false := by decide +kernel
theorem kb_list_dict : kitB "list" "dict" = some false := by decide +kernel
theorem kb_list_list : kitB "list" "list" = some true := by decide +kernel
theorem kb_list_tuple : kitB "list" "tuple" = some false := by decide +kernel
theorem kb_tuple_bool : kitB "tuple" "bool" = some false := by decide +kernel
theorem kb_tuple_int : kitB "tuple" "int" = some false := by decide +kernel
theorem kb_tuple_str : kitB "tuple" "str" = some false := by decide +kernel
theorem kb_tuple_dict : kitB "tuple" "dict" = some false := by decide +kernel
theorem kb_tuple_list : kitB "tuple" "list" = some false := by decide +kernel
theorem kb_tuple_tuple : kitB "tuple" "tuple" = some true := by decide +kernel
theorem kb_dict_bool : kitB "dict" "bool" = some false := by decide +kernel
theorem kb_dict_int : kitB "dict" "int" = some false := by decide +kernel
theorem kb_dict_str : kitB "dict" "str" = some false := by decide +kernel
theorem kb_dict_dict : kitB "dict" "dict" = some true := by decide +kernel
theorem kb_dict_list : kitB "dict" "list" = some false := by decide +kernel
theorem kb_dict_tuple : kitB "dict" "tuple" = some false := by decide +kernel
theorem ev_int1 {σ : L2.St} {H : Hp} {ta : TE} {i : Int} (ha : Ev ta σ H (.int i)) : Ev (tCB rIntC (tCons ta tNil)) σ H (.int i) := fun H1 e Q q => ha H1 e _ fun H2 e2 => .inl ⟨i, rfl, q H2 e2⟩
section
variable {σ : L2.St} {v : V} {T : String} {i : Nat}
theorem et_is1 (hv : σ[i]? = some (some v)) : EvT (tTest (tOp rIsNon (tVar i) (tC .non))) σ H (decide (v = .non)) := et_test (ev_op (ev_var hv) ev_c rv_isnon)
theorem ev_is1 (hv : σ[i]? = some (some v)) : Ev (tOp rIsNon (tVar i) (tC .non)) σ H (.bl (decide (v = .non))) := ev_op (ev_var hv) ev_c rv_isnon
theorem et_ty (hv : σ[i]? = some (some v)) (hT : TyX K H v (.type T)) {c : String} {b : Bool} (k : kitB T c = some b) : EvT (tB (tCB (rIsi K) (tCons (tVar i) (tCons (tC (.ty c)) tNil)))) σ H b := et_B (ev_isi (ev_var hv) hT k)
theorem ev_ty (hv : σ[i]? = some (some v)) (hT : TyX K H v (.type T)) {c : String} {b : Bool} (k : kitB T c = some b) : Ev (tCB (rIsi K) (tCons (tVar i) (tCons (tC (.ty c)) tNil))) σ H (.bl b) := ev_isi (ev_var hv) hT k
theorem et_first {b : Bool} (hv : σ[i]? = some (some v)) (hT : TyX K H v (.type T)) (k : kitB T "bool" = some b) :
    EvT (tOr (tTest (tOp rIsNon (tVar i) (tC .non))) (tB (tCB (rIsi K) (tCons (tVar i) (tCons (tC (.ty "bool")) tNil))))) σ H (decide (v = .non) || b) := et_or (et_is1 hv) fun _ => et_ty hv hT k
end
section
variable (q : ∀ H', Ex H H' → Q (.bl true) H')
include q
theorem same_non {σ : L2.St} (hσ : σ = [some .non, some .non, none, none]) : t__law_same K Pp { nx := fun _ H' => Q .non H', rt := Q } σ H := by
  subst hσ
  have T : TyX K H .non (.type "NoneType") := .base .non
  refine q_when (b := true) (et_first rfl T kb_NoneType_bool) (fun _ H1 e1 => ?_) (fun z => by cases z)
  exact s_ret (v := .bl true) (Ev.mono e1 (ev_if (b := true) (et_is (et_is1 rfl) rfl) (fun _ => ev_is (ev_is1 rfl) rfl) (fun z => by cases z))) fun H2 e2 => q H2 (e1.trans e2)
theorem same_bl {b : Bool} {σ : L2.St} (hσ : σ = [some (.bl b), some (.bl b), none, none]) : t__law_same K Pp { nx := fun _ H' => Q .non H', rt := Q } σ H := by
  subst hσ
  have T : TyX K H (.bl b) (.type "bool") := .base (.bl b)
  refine q_when (b := true) (et_first rfl T kb_bool_bool) (fun _ H1 e1 => ?_) (fun z => by cases z)
  exact s_ret (v := .bl true) (Ev.mono e1 (ev_if (b := false) (et_is (et_is1 rfl) rfl) (fun z => by cases z) (fun _ => ev_is (ev_andV (ev_ty rfl T kb_bool_bool) fun _ => ev_op (ev_op (ev_var rfl) ev_c rv_isb) (ev_op (ev_var rfl) ev_c rv_isb) (rv_eq rfl)) (by simp)))) fun H2 e2 => q H2 (e1.trans e2)
theorem same_int {i : Int} {σ : L2.St} (hσ : σ = [some (.int i), some (.int i), none, none]) : t__law_same K Pp { nx := fun _ H' => Q .non H', rt := Q } σ H := by
  subst hσ
  have T : TyX K H (.int i) (.type "int") := .base (.int i)
  refine q_when (b := false) (et_first rfl T kb_int_bool) (fun z => by cases z) fun _ H1 e1 => ?_
  refine q_when (b := true) (EvT.mono e1 (et_ty rfl T kb_int_int)) (fun _ H2 e2 => ?_) (fun z => by cases z)
  refine s_ret (v := .bl true) (Ev.mono (e1.trans e2) ?_) fun H3 e3 => q H3 ((e1.trans e2).trans e3)
  refine ev_is (ev_andV (ev_ty rfl T kb_int_int) fun _ => ev_andV (ev_notV (ev_ty rfl T kb_int_bool)) fun _ => ev_op (ev_op (ev_int1 (ev_var rfl)) (ev_var rfl) rv_I0) ev_c (rv_eq rfl)) ?_
  have z : i - i = 0 := by omega
  simp [z]
theorem same_str {i : Str} {σ : L2.St} (hσ : σ = [some (.str i), some (.str i), none, none]) : t__law_same K Pp { nx := fun _ H' => Q .non H', rt := Q } σ H := by
  subst hσ
  have T : TyX K H (.str i) (.type "str") := .base (.str i)
  refine q_when (b := false) (et_first rfl T kb_str_bool) (fun z => by cases z) fun _ H1 e1 => ?_
  refine q_when (b := false) (EvT.mono e1 (et_ty rfl T kb_str_int)) (fun z => by cases z) fun _ H2 e2 => ?_
  refine q_when (b := true) (EvT.mono (e1.trans e2) (et_ty rfl T kb_str_str)) (fun _ H3 e3 => ?_) (fun z => by cases z)
  exact s_ret (v := .bl true) (Ev.mono ((e1.trans e2).trans e3) (ev_is (ev_andV (ev_ty rfl T kb_str_str) fun _ => ev_op (ev_var rfl) (ev_var rfl) (rv_eq rfl)) (by simp))) fun H4 e4 => q H4 (((e1.trans e2).trans e3).trans e4)
end
end
section
variable {K : PySem.W.Frag} {σ : L2.St} {H H' : Hp} {ta tb te tx : TE} {t u : TT} {x y z v : V}
theorem given_false (n : Nat) (v : Nat → V) : given n (fun _ => false) v = [] := by
  unfold given
  rw [List.filter_eq_nil_iff.mpr (by simp)]
  rfl
/-- e == [], the list empty -/
theorem ev_nileq (h : EvL ta σ H []) : Ev (tOp (rEqD K) ta (tLst tNil)) σ H (.bl true) :=
  ev_opLL h (el_lst ea_nil (by simp)) fun p q H1 hp hq _ => fun H2 e2 Q k =>
    ⟨.list [], .list [], .lst (SqL.of (e2 _ _ hp)) .nil, .lst (SqL.of (e2 _ _ hq)) .nil, by decide, by decide, by
      have z : PyData.eqv (.list []) (.list []) = true := SeqAt.eqv_refl _ (by decide)
      rw [z]
      exact k H2 (Ex.refl H2)⟩
theorem rd_mono {a : Addr} {o : HO} (e : Ex H H') (h : Rd H a o) : Rd H' a o := ex_rd e h
/-- a list or a tuple at a, of the items xs -/
def Sq (H : Hp) (a : Addr) (xs : List V) : Prop := Rd H a (.lst xs) ∨ Rd H a (.tup xs)
theorem Sq.mono {a : Addr} {xs : List V} (h : Sq H a xs) (e : Ex H H') : Sq H' a xs := h.elim (fun z => .inl (rd_mono e z)) fun z => .inr (rd_mono e z)
theorem ev_lenA {a : Addr} {xs : List V} (ha : Ev ta σ H (.ref a)) (h : Sq H a xs) : Ev (tCB (rLenA K) (tCons ta tNil)) σ H (.int (xs.length : Int)) := fun H1 e Q q =>
  ha H1 e _ fun H2 e2 => .inl ⟨.ref a, xs.length, rfl, by
    rcases h.mono (e.trans e2) with h | h
    · exact .inl ⟨xs, .inl h, rfl⟩
    · exact .inr ⟨xs, .inl h, rfl⟩, q H2 e2⟩
theorem ev_lenAD {d : Addr} {kvs : List (Key × V)} (ha : Ev ta σ H (.ref d)) (h : H d = some (.dK kvs)) : Ev (tCB (rLenA K) (tCons ta tNil)) σ H (.int (kvs.length : Int)) := fun H1 e Q q =>
  ha H1 e _ fun H2 e2 => .inr ⟨d, kvs, rfl, e2 _ _ (e _ _ h), q H2 e2⟩
theorem rv_ixA {a : Addr} {xs : List V} {i : Nat} (h : Sq H a xs) (hx : xs[i]? = some x) : RV (rIx K) (.ref a) (.int (i : Int)) H x := fun H1 e _ q => by
  rcases h.mono e with h | h
  · exact .inl ⟨a, xs, _, x, rfl, rfl, .inl h, atI_nat hx, q H1 (Ex.refl H1)⟩
  · exact .inr (.inl ⟨a, xs, _, x, rfl, rfl, .inl h, atI_nat hx, q H1 (Ex.refl H1)⟩)
theorem valV_get {kvs : List (Key × V)} (nd : (kvs.map (·.1)).Nodup) : ∀ {i : Nat} {k : Key} {v : V}, kvs[i]? = some (k, v) → valV kvs k = some v := by
  induction kvs with
  | nil =>
    intro i k v h
    simp at h
  | cons p r ih =>
    intro i k v h
    obtain ⟨n1, n2⟩ := List.nodup_cons.mp (show (p.1 :: r.map (·.1)).Nodup from nd)
    cases i with
    | zero =>
      have e : p = (k, v) := by simpa using h
      rw [e]
      exact valV_pos rfl
    | succ i =>
      have h2 : r[i]? = some (k, v) := by simpa using h
      have ne : ¬ p.1 = k := fun e => n1 (by
        rw [e]
        exact List.mem_map.mpr ⟨(k, v), List.mem_of_getElem? h2, rfl⟩)
      rw [valV_neg ne]
      exact ih n2 h2
end
section
variable {K : PySem.W.Frag} {Pp : Hp → V → V → Prop} {vs : List V} {H : Hp} {Q : VK} {E : XK}
/-- lists, tuples -/
theorem same_seq (hP : ∀ H H1 v w, Ex H H1 → Pp H v w → Pp H1 v w) (q : ∀ H', Ex H H' → Q (.bl true) H') {a b : Addr} {xs ys : List V} {T : String} {c : Bool} (ha : TyX K H (.ref a) (.type T)) (hb : TyX K H (.ref b) (.type T))
    (k1 : kitB T "bool" = some false) (k2 : kitB T "int" = some false) (k3 : kitB T "str" = some false) (k4 : kitB T "dict" = some false) (k5 : kitB T "list" = some c) (k6 : kitB T "tuple" = some (!c))
    (sa : Sq H a xs) (sb : Sq H b ys) (hE : Each Pp H xs ys) {σ : L2.St} (hσ : σ = [some (.ref a), some (.ref b), none, none]) : t__law_same K Pp { nx := fun _ H' => Q .non H', rt := Q } σ H := by
  subst hσ
  obtain ⟨hl, hz, he⟩ := hE
  have c1 : (c || !c) = true := by cases c <;> rfl
  refine q_when (b := false) (et_is (et_first rfl hb k1) rfl) (fun z => by cases z) fun _ H1 e1 => ?_
  refine q_when (b := false) (EvT.mono e1 (et_ty rfl hb k2)) (fun z => by cases z) fun _ H2 e2 => ?_
  refine q_when (b := false) (EvT.mono (e1.trans e2) (et_ty rfl hb k3)) (fun z => by cases z) fun _ H3 e3 => ?_
  refine q_when (b := false) (EvT.mono ((e1.trans e2).trans e3) (et_ty rfl hb k4)) (fun z => by cases z) fun _ H4 e4 => ?_
  have E4 : Ex H H4 := ((e1.trans e2).trans e3).trans e4
  refine q_when (b := false) (EvT.mono E4 (et_is (et_or (et_not (et_B (ev_isi2 (ev_var rfl) hb k5 k6))) fun _ => et_not (et_B (ev_isi2 (ev_var rfl) ha k5 k6))) (by rw [c1]; rfl))) (fun z => by cases z) fun _ H5 e5 => ?_
  refine q_when (b := false) (EvT.mono (E4.trans e5) (et_is (et_or (et_test (ev_op (ev_ty rfl ha k5) (ev_ty rfl hb k5) (rv_ne rfl))) fun _ => et_test (ev_op (ev_lenA (ev_var rfl) sa) (ev_lenA (ev_var rfl) sb) (rv_ne rfl))) (by simp [hl]))) (fun z => by cases z) fun _ H6 e6 => ?_
  have E6 : Ex H H6 := (E4.trans e5).trans e6
  refine s_ret (v := .bl true) (Ev.mono E6 (ev_nileq ?_)) fun H7 e7 => q H7 (E6.trans e7)
  have g := el_lcR1 (σ := [some (.ref a), some (.ref b), none, none]) (H := H) (ta := tCons (tCB (rLenA K) (tCons (tVar 1) tNil)) tNil) (te := tVar 3) (t := tNot (tB (tCall (spSame Pp) [] E0 (tCons (tOp (rIx K) (tVar 0) (tVar 3)) (tCons (tOp (rIx K) (tVar 1) (tVar 3)) tNil)))))
    (j := 3) (vs := [3]) (n := (ys.length : Int)) (fun _ => false) (fun _ => .non) (ea_cons (ev_lenA (ev_var rfl) sb) ea_nil) (by omega) (fun _ => rfl) (fun i H1 e1 hi => ?_) (fun _ _ _ _ z => by cases z)
  · rw [given_false] at g
    exact g
  · have h1 : i < ys.length := by omega
    have h2 : i < xs.length := by omega
    have x1 : xs[i]? = some xs[i] := by simp [h2]
    have y1 : ys[i]? = some ys[i] := by simp [h1]
    refine et_is (et_not (et_B (b := true) (ev_call (ea_cons (ev_op (ev_var rfl) (ev_var rfl) (rv_ixA (sa.mono e1) x1)) (ea_cons (ev_op (ev_var rfl) (ev_var rfl) (rv_ixA (sb.mono e1) y1)) ea_nil)) fun H2 e2 Q q E => ?_))) rfl
    exact ⟨_, _, rfl, hP _ _ _ _ (e1.trans e2) (he i _ _ x1 y1), q⟩
/-- a dict -/
theorem same_dict (hP : ∀ H H1 v w, Ex H H1 → Pp H v w → Pp H1 v w) (q : ∀ H', Ex H H' → Q (.bl true) H') {d : Addr} {kvs : List (Key × V)} (hd : H d = some (.dK kvs)) (hl : kvs.length ≤ 1000) (nd : (kvs.map (·.1)).Nodup)
    (hv : ∀ (od : Obj) (kv : Key × V), kv ∈ kvs → Pp (upd H d (.frz od (.dK kvs))) kv.2 kv.2) {σ : L2.St} (hσ : σ = [some (.ref d), some (.ref d), none, none]) : t__law_same K Pp { nx := fun _ H' => Q .non H', rt := Q } σ H := by
  subst hσ
  have T : TyX K H (.ref d) (.type "dict") := .base (.dK hd)
  refine q_when (b := false) (et_is (et_first rfl T kb_dict_bool) rfl) (fun z => by cases z) fun _ H1 e1 => ?_
  refine q_when (b := false) (EvT.mono e1 (et_ty rfl T kb_dict_int)) (fun z => by cases z) fun _ H2 e2 => ?_
  refine q_when (b := false) (EvT.mono (e1.trans e2) (et_ty rfl T kb_dict_str)) (fun z => by cases z) fun _ H3 e3 => ?_
  refine q_when (b := true) (EvT.mono ((e1.trans e2).trans e3) (et_ty rfl T kb_dict_dict)) (fun _ H4 e4 => ?_) fun z => by cases z
  have E4 : Ex H H4 := ((e1.trans e2).trans e3).trans e4
  refine q_when (b := false) (EvT.mono E4 (et_is (et_or (et_not (et_ty rfl T kb_dict_dict)) fun _ => et_test (ev_op (ev_lenAD (ev_var rfl) hd) (ev_lenAD (ev_var rfl) hd) (rv_ne rfl))) (by simp))) (fun z => by cases z) fun _ H5 e5 => ?_
  have E5 : Ex H H5 := E4.trans e5
  refine s_ret (v := .bl true) (Ev.mono E5 (ev_nileq ?_)) fun H7 e7 => q H7 (E5.trans e7)
  intro Ha ea Qa qa
  have hda := ea _ _ hd
  refine ⟨d, .dK kvs, hda, trivial, fun od => ?_⟩
  refine ⟨_, rfl, d, od, rfl, .inl ⟨kvs, upd_same, fun Dl hD => ?_⟩⟩
  have nD : Dl ≠ d := fun z => by
    rw [z, upd_same] at hD
    cases hD
  have hDa : Ha Dl = none := by
    rw [upd_ne nD] at hD
    exact hD
  refine ⟨fun i m H' => m = kvs.length - i ∧ i ≤ kvs.length ∧ Ex (upd Ha d (.frz od (.dK kvs))) H' ∧ H' Dl = some (.lst []), ⟨kvs.length, rfl, Nat.zero_le _, Ex.new hD, upd_same⟩, ?_⟩
  rintro i m H' ⟨rfl, hi, e', hl'⟩
  have hd' : H' d = some (.frz od (.dK kvs)) := e' _ _ upd_same
  by_cases hlt : i < kvs.length
  · refine .inr ⟨⟨hd', hlt⟩, fun H2 => i + 1 ≤ kvs.length ∧ Ex (upd Ha d (.frz od (.dK kvs))) H2 ∧ H2 Dl = some (.lst []), fun H2 ⟨a1, a2, a3⟩ => ⟨kvs.length - (i + 1), by omega, rfl, a1, a2, a3⟩, ?_⟩
    rintro x H2 ⟨rfl, k, v, hk, rfl⟩
    have hval : valV kvs k = some v := valV_get nd hk
    have dg : ∀ H3, Ex H2 H3 → DGet H3 d (kV k) (some v) := fun H3 e3 => .inl ⟨kvs, k, .inr ⟨od, e3 _ _ hd'⟩, rfl, hval.symm⟩
    have hp : Pp H2 v v := by
      have z := hv od (k, v) (List.mem_of_getElem? hk)
      refine hP _ _ _ _ (fun a o h => e' a o ?_) z
      by_cases ne : a = d
      · rw [ne, upd_same] at h ⊢
        exact h
      · rw [upd_ne ne] at h ⊢
        exact ea a o h
    refine ⟨rfl, ?_⟩
    refine ⟨_, rfl, _, rfl, d, some v, rfl, dg _ (Ex.refl _), _, rfl, ?_⟩
    refine iteF ?_
    refine ⟨_, rfl, _, rfl, d, v, rfl, dg _ (Ex.refl _), _, rfl, _, rfl, d, v, rfl, dg _ (Ex.refl _), v, v, rfl, hp, fun H3 e3 => ⟨true, rfl, ?_⟩⟩
    exact iteF ⟨by omega, e'.trans e3, e3 _ _ hl'⟩
  · have e : i = kvs.length := by omega
    refine .inl ⟨⟨hd', by omega⟩, hd', ?_⟩
    refine qa Dl _ hDa (fun a o h => ?_) (by rw [upd_ne nD]; exact hl')
    by_cases ne : a = d
    · rw [ne] at h ⊢
      rw [upd_same]
      rw [hda] at h
      exact h
    · rw [upd_ne ne]
      exact e' a o (by rw [upd_ne ne]; exact h)
theorem tyx_list {a : Addr} {xs : List V} (h : Rd H a (.lst xs)) : TyX K H (.ref a) (.type "list") := h.elim (fun z => .base (.lst z)) fun ⟨_, z⟩ => .base (.frz z)
theorem tyx_tup {a : Addr} {xs : List V} (h : Rd H a (.tup xs)) : TyX K H (.ref a) (.type "tuple") := h.elim (fun z => .base (.tup z)) fun ⟨_, z⟩ => .fTuple z
theorem pure_law_same (hP : ∀ H H1 v w, Ex H H1 → Pp H v w → Pp H1 v w) (h : spSame (StepP Pp) vs H Q E) : t__law_same K Pp { nx := fun _ H' => Q .non H', rt := Q } (start N__law_same vs) H := by
  obtain ⟨v, w, rfl, h, q⟩ := h
  rcases h with ⟨rfl, h⟩ | ⟨a, b, xs, ys, rfl, rfl, ha, hb, hE⟩ | ⟨a, b, xs, ys, rfl, rfl, ha, hb, hE⟩ | ⟨d, kvs, rfl, rfl, hd, hl, nd, hv⟩
  · rcases h with rfl | ⟨b, rfl⟩ | ⟨i, rfl⟩ | ⟨i, rfl⟩
    · exact same_non q rfl
    · exact same_bl q rfl
    · exact same_int q rfl
    · exact same_str q rfl
  · exact same_seq hP q (tyx_list ha) (tyx_list hb) kb_list_bool kb_list_int kb_list_str kb_list_dict kb_list_list kb_list_tuple (.inl ha) (.inl hb) hE rfl
  · exact same_seq hP q (tyx_tup ha) (tyx_tup hb) kb_tuple_bool kb_tuple_int kb_tuple_str kb_tuple_dict kb_tuple_list kb_tuple_tuple (.inr ha) (.inr hb) hE rfl
  · exact same_dict hP q hd hl nd hv rfl
end
section
variable {K : PySem.W.Frag} {vs : List V} {H : Hp} {Q : VK} {E : XK}
theorem pure_law_cell_len (h : spCell99 K vs H Q E) : vs.length = ["script", "k"].length := by
  obtain ⟨l, ns, j, rfl, _⟩ := h
  rfl
theorem ev_absI {σ : L2.St} {ta : TE} {i : Int} (ha : Ev ta σ H (.int i)) : Ev (tCB rAbs (tCons ta tNil)) σ H (.int (if i < 0 then -i else i)) := fun H1 e Q q => ha H1 e _ fun H2 e2 => ⟨i, rfl, q H2 e2⟩
theorem pure_law_cell (h : spCell99 K vs H Q E) : t__law_cell K { nx := fun _ H' => Q .non H', rt := Q } (start N__law_cell vs) H := by
  obtain ⟨l, ns, j, rfl, hs, hl, hj, q⟩ := h
  show tRet _ _ [some (.ref l), some (.int (j : Int))] H
  have el : Ev (tCB (rLenV K) (tCons (tVar 0) tNil)) [some (.ref l), some (.int (j : Int))] H (.int ((ns.map V.int).length : Nat)) := fun H1 e Q q => ⟨_, rfl, .ref l, (ns.map V.int).length, rfl, .inl ⟨_, ex_l e hs, rfl⟩, q H1 (Ex.refl H1)⟩
  by_cases hlt : j < ns.length
  · have hx : (ns.map V.int)[j]? = some (.int ns[j]) := by simp [hlt]
    exact s_ret (ev_if (b := true) (et_is (et_test (ev_op (ev_var rfl) el rv_I0)) (by simp [hlt])) (fun _ => ev_op (ev_var rfl) (ev_var rfl) (rv_ixL hs (atI_nat hx))) (fun z => by cases z)) fun H1 e1 => q _ H1 e1
  · have hcut : (cutV (ns.map V.int) none (some 1)) = ((ns.take 1).map V.int) := by
      cases ns <;> simp [cutV, HT.sIx]
    have es : Ev (tCB (rSum K) (tCons (tSl (rSlL K) (tVar 0) tNoPart (tPart (tC (.int 1)))) tNil)) [some (.ref l), some (.int (j : Int))] H (.int (ns.take 1).sum) := fun H1 e Q q =>
      el_sl (ev_var rfl) eo_none (eo_some ev_c) hs H1 e _ fun p H2 _ e2 h2 => ⟨p, ns.take 1, rfl, by rw [hcut] at h2; exact SqL.of h2, q H2 e2⟩
    refine s_ret (ev_if (b := false) (et_is (et_test (ev_op (ev_var rfl) el rv_I0)) (by simp; omega)) (fun z => by cases z) (fun _ => ev_op (ev_op ev_c (ev_var rfl) (rv_I (.inl ⟨by decide, by decide⟩))) (ev_op (ev_int1 es) ev_c (rv_I (by decide))) rv_I0)) fun H1 e1 => q _ H1 e1
theorem pure_law_box_len (h : spBox vs H Q E) : vs.length = ["great"].length := by
  obtain ⟨i, rfl, _⟩ := h
  rfl
theorem pure_law_box (h : spBox vs H Q E) : t__law_box K { nx := fun _ H' => Q .non H', rt := Q } (start N__law_box vs) H := by
  obtain ⟨i, rfl, q⟩ := h
  show tRet _ _ [some (.int i)] H
  have a0 : 0 ≤ (if i < 0 then -i else i) := by split <;> omega
  have ha : Ev (tCB rAbs (tCons (tVar 0) tNil)) [some (.int i)] H (.int (if i < 0 then -i else i)) := ev_absI (ev_var rfl)
  refine s_retL (el_lst (ea_cons ha (ea_cons (ev_op ha (ev_op ev_c ev_c (rv_I ⟨by decide, by decide, by decide⟩)) rv_I0) (ea_cons (ev_op (ev_int1 ha) ev_c (rv_I (by decide))) (ea_cons ev_c ea_nil)))) (by simp)) fun p H1 hp e1 h1 => ?_
  exact q p H1 hp e1 ⟨_, _, _, _, h1, a0, Int.emod_nonneg _ (by decide), Int.lt_trans (Int.emod_lt_of_pos _ (by decide)) (by decide), Int.le_refl _, Int.le_refl _⟩
theorem pure_law_take_len (h : spTake vs H Q E) : vs.length = ["box", "many"].length := by
  obtain ⟨p, n, k, rfl, _⟩ := h
  rfl
theorem pure_law_take (h : spTake vs H Q E) : t__law_take K { nx := fun _ H' => Q .non H', rt := Q } (start N__law_take vs) H := by
  obtain ⟨p, n, k, rfl, ⟨a, b, m, c, hp, a0, m0, m1, c0, c1⟩, hn, k0, k1, q⟩ := h
  have cd : CDiv a k := ⟨k0, by omega⟩
  have up : ∀ (a1 c1 : Int) (b1 : Bool), 0 ≤ a1 → 0 ≤ c1 → c1 ≤ ((n + 1 : Nat) : Int) → ∀ r : Int, 0 ≤ r → r < k → Q (.int r) (upd H p (.lst [.int a1, .bl b1, .int m, .int c1])) := fun a1 c1 b1 h1 h2 h3 r r0 r1 =>
    q r _ r0 r1 ExB.upd ⟨a1, b1, m, c1, upd_same, h1, m0, m1, h2, h3⟩
  have low : (tSeq (tAsg (tOp rAddI (tOp (rIxL K) (tVar 0) (tC (.int 3))) (tC (.int 1))) (gSub (tVar 0) (tC (.int 3)) rSetL))
      (tSeq (tAsg (tOp rModI (tCB rIntC (tCons (tOp rPowI (tOp rAddI (tOp rAddI (tOp (rIxL K) (tVar 0) (tC (.int 2))) (tOp rMulI (tC (.int 15486373)) (tOp (rIxL K) (tVar 0) (tC (.int 3))))) (tC (.int 179425101))) (tC (.int 5))) tNil)) (tC (.int 2147483647))) (gName 3))
      (tRet (tOp rModI (tCB rIntC (tCons (tOp rDivI (tOp rModI (tCB rIntC (tCons (tOp rPowI (tOp rAddI (tOp rMulI (tVar 3) (tC (.int 48271))) (tOp rMulI (tC (.int 105023)) (tOp (rIxL K) (tVar 0) (tC (.int 3))))) (tC (.int 3))) tNil)) (tC (.int 2147483587))) (tC (.int 64))) tNil)) (tVar 1)))))
      { nx := fun _ H' => Q .non H', rt := Q } [some (.ref p), some (.int k), none, none] H := by
    refine ⟨_, rfl, p, _, _, _, rfl, rfl, SqL.of hp, rfl, _, _, rfl, rfl, ?_⟩
    refine ⟨_, rfl, p, _, _, _, rfl, rfl, hp, rfl, ?_⟩
    have h1 : upd H p (.lst ([V.int a, V.bl b, V.int m, V.int c].set 3 (.int (c + 1)))) p = some (.lst [.int a, .bl b, .int m, .int (c + 1)]) := upd_same
    have B1 : (m + 15486373 * (c + 1) + 179425101).natAbs < 2 ^ 64 := by omega
    refine ⟨_, rfl, p, _, _, _, rfl, rfl, SqL.of h1, rfl, _, rfl, p, _, _, _, rfl, rfl, SqL.of h1, rfl, _, _, rfl, rfl, .inl ⟨by decide, by decide⟩, _, _, rfl, rfl, _, _, rfl, rfl, _, _, rfl, rfl, ⟨by decide, by decide, B1⟩, .inl ⟨_, rfl, _, _, rfl, rfl, (by show (0 : Int) < 2147483647; decide), ?_⟩⟩
    have q0 : 0 ≤ (m + 15486373 * (c + 1) + 179425101) ^ (5 : Int).toNat % 2147483647 := Int.emod_nonneg _ (by decide)
    have q1 : (m + 15486373 * (c + 1) + 179425101) ^ (5 : Int).toNat % 2147483647 < 2147483647 := Int.emod_lt_of_pos _ (by decide)
    have B2 : (((m + 15486373 * (c + 1) + 179425101) ^ (5 : Int).toNat % 2147483647) * 48271 + 105023 * (c + 1)).natAbs < 2 ^ 64 := by
      generalize (m + 15486373 * (c + 1) + 179425101) ^ (5 : Int).toNat % 2147483647 = z at q0 q1 ⊢
      omega
    refine ⟨_, rfl, _, _, rfl, rfl, .inr ⟨by decide, by decide⟩, _, rfl, p, _, _, _, rfl, rfl, SqL.of h1, rfl, _, _, rfl, rfl, .inl ⟨by decide, by decide⟩, _, _, rfl, rfl, _, _, rfl, rfl, ⟨by decide, by decide, B2⟩, .inl ⟨_, rfl, _, _, rfl, rfl, (by show (0 : Int) < 2147483587; decide), _, _, rfl, rfl, ⟨by decide, by decide⟩, .inl ⟨_, rfl, _, rfl, _, _, rfl, rfl, k0, ?_⟩⟩⟩
    exact up a (c + 1) b a0 (by omega) (by omega) _ (Int.emod_nonneg _ (by omega)) (Int.emod_lt_of_pos _ k0)
  refine ⟨_, rfl, p, _, _, _, rfl, rfl, SqL.of hp, rfl, b, rfl, ?_⟩
  cases b with
  | false =>
    refine iteF ?_
    exact iteF low
  | true =>
    refine iteT ?_
    refine ⟨_, rfl, p, _, _, _, rfl, rfl, SqL.of hp, rfl, _, _, rfl, rfl, _, rfl, ?_⟩
    by_cases ha : 0 < a
    · rw [decide_eq_true ha]
      refine iteT ?_
      refine ⟨_, rfl, p, _, _, _, rfl, rfl, SqL.of hp, rfl, .inl ⟨_, rfl, _, rfl, _, _, rfl, rfl, k0, ?_⟩⟩
      refine ⟨_, rfl, p, _, _, _, rfl, rfl, SqL.of hp, rfl, _, rfl, _, _, rfl, rfl, cd, _, rfl, p, _, _, _, rfl, rfl, hp, rfl, ?_⟩
      refine ⟨_, rfl, ?_⟩
      exact up (a / k) c true (Int.ediv_nonneg a0 (by omega)) c0 (by omega) _ (Int.emod_nonneg _ (by omega)) (Int.emod_lt_of_pos _ k0)
    · rw [decide_eq_false ha]
      exact iteF low
theorem pure_law_many_len (h : spMany vs H Q E) : vs.length = ["number"].length := by
  obtain ⟨n, rfl, _⟩ := h
  rfl
theorem inV_ints (n : Nat) (l : List Nat) : inV (.int (n : Int)) (l.map fun k => V.int ((k : Nat) : Int)) = decide (n ∈ l) := by
  induction l with
  | nil => rfl
  | cons a r ih =>
    unfold inV at ih ⊢
    rw [List.map_cons, List.any_cons, ih]
    simp only [eqV, List.mem_cons]
    by_cases e : n = a
    · subst e
      simp
    · have e2 : ¬ ((a : Nat) : Int) = (n : Int) := by omega
      simp [e, e2]
theorem pure_law_many (h : spMany vs H Q E) : t__law_many K { nx := fun _ H' => Q .non H', rt := Q } (start N__law_many vs) H := by
  obtain ⟨n, rfl, q⟩ := h
  refine ⟨(by show 4 ≤ sizeLine; decide), fun p hp => ⟨(by show 3 ≤ sizeLine; decide), fun r hr => ⟨_, _, rfl, ?_⟩⟩⟩
  have npr : p ≠ r := fun z => by
    rw [z, upd_same] at hr
    cases hr
  have e0 : Ex H (upd (upd H p (.lst [.int 47, .int 57, .int 60, .int 61])) r (.lst [.int 51, .int 53, .int 56])) := (Ex.new hp).trans (Ex.new hr)
  have h1 : (upd (upd H p (.lst [.int 47, .int 57, .int 60, .int 61])) r (.lst [.int 51, .int 53, .int 56])) p = some (.lst ([47, 57, 60, 61].map fun k : Nat => V.int ((k : Nat) : Int))) := by
    rw [upd_ne npr, upd_same]
    rfl
  have h2 : (upd (upd H p (.lst [.int 47, .int 57, .int 60, .int 61])) r (.lst [.int 51, .int 53, .int 56])) r = some (.lst ([51, 53, 56].map fun k : Nat => V.int ((k : Nat) : Int))) := upd_same
  have i1 := inV_ints n [47, 57, 60, 61]
  have i2 := inV_ints n [51, 53, 56]
  show tRet (tIf (tTest (tOp (rIn K false) (tVar 0) (tVar 1))) (tC (.int 0)) (tIf (tTest (tOp (rIn K false) (tVar 0) (tVar 2))) (tC (.int 2)) (tC (.int 1)))) { nx := fun _ H' => Q .non H', rt := Q } [some (.int (n : Int)), some (.ref p), some (.ref r)] (upd (upd H p (.lst [.int 47, .int 57, .int 60, .int 61])) r (.lst [.int 51, .int 53, .int 56]))
  refine s_ret (D := { nx := fun _ H' => Q .non H', rt := Q }) (σ := [some (.int (n : Int)), some (.ref p), some (.ref r)]) (v := .int (manyOf n : Nat)) ?_ fun H3 e3 => q H3 (e0.trans e3)
  have t1 := rv_isL (K := K) (x := .int (n : Int)) (SqL.of h1) rfl (by decide)
  have t2 := rv_isL (K := K) (x := .int (n : Int)) (SqL.of h2) rfl (by decide)
  rw [i1] at t1
  rw [i2] at t2
  unfold manyOf
  by_cases c1 : n ∈ [47, 57, 60, 61]
  · rw [if_pos c1]
    rw [decide_eq_true c1] at t1
    exact ev_if (b := true) (et_test (ev_op (ev_var rfl) (ev_var rfl) t1)) (fun _ => ev_c) fun z => by cases z
  · rw [if_neg c1]
    rw [decide_eq_false c1] at t1
    refine ev_if (b := false) (et_test (ev_op (ev_var rfl) (ev_var rfl) t1)) (fun z => by cases z) fun _ => ?_
    by_cases c2 : n ∈ [51, 53, 56]
    · rw [if_pos c2]
      rw [decide_eq_true c2] at t2
      exact ev_if (b := true) (et_test (ev_op (ev_var rfl) (ev_var rfl) t2)) (fun _ => ev_c) fun z => by cases z
    · rw [if_neg c2]
      rw [decide_eq_false c2] at t2
      exact ev_if (b := false) (et_test (ev_op (ev_var rfl) (ev_var rfl) t2)) (fun z => by cases z) fun _ => ev_c
end
end Lw

set_option maxHeartbeats 4000000
namespace Lw
open PySem PySem.Spec PyProof.Rows L2 Evl
section
variable {K : PySem.W.Frag} {vs : List V} {H : Hp} {Q : VK} {E : XK}
/-! ### isinstance of errors -/
theorem kit_cc {C D : Addr} {par par' : List Value} (h : IsX K C par) (h' : IsX K D par') : PySem.W.kitOne K (.ref C) (.ref D) = some (decide (C = D) || par.contains (.ref D)) := by
  obtain ⟨cd, hc, hm⟩ := h.mr
  obtain ⟨cd', hc', _⟩ := h'.mr
  unfold PySem.W.kitOne
  by_cases e : C = D
  · subst e
    simp
  · have e1 : ¬ ((Value.ref C == Value.ref D) = true) := by simpa using e
    rw [if_neg e1]
    have e2 : ((PySem.W.clsIn K D).isSome && PySem.W.typeIn K (.ref D) == some (.type "type")) = true := by rw [hc', h'.ty] <;> rfl
    show (if ((PySem.W.clsIn K D).isSome && PySem.W.typeIn K (.ref D) == some (.type "type")) = true then PySem.W.subIn K (.ref C) (.ref D) else none) = _
    rw [if_pos e2]
    show PySem.W.mroIn K C (.ref D) = _
    unfold PySem.W.mroIn
    rw [hc, Option.bind_some, hm]
    have e3 : ¬ D = C := fun z => e z.symm
    simp [e, e3, PySem.HandSPX.veTail]
theorem kit_cv {C : Addr} {par : List Value} (h : IsX K C par) : PySem.W.kitOne K (.ref C) (.type "ValueError") = some true := by
  obtain ⟨cd, hc, hm⟩ := h.mr
  unfold PySem.W.kitOne
  have e1 : ¬ ((Value.ref C == Value.type "ValueError") = true) := by simp
  rw [if_neg e1]
  show (if PySem.W.kitMeta "ValueError" = true then PySem.W.subIn K (.ref C) (.type "ValueError") else none) = _
  rw [if_pos (by decide +kernel)]
  show PySem.W.mroIn K C (.type "ValueError") = _
  unfold PySem.W.mroIn
  rw [hc, Option.bind_some, hm]
  simp [PySem.HandSPX.veTail]
theorem ErrIn.mono {H H' : Hp} {a C : Addr} (h : ErrIn H a C) (e : Ex H H') : ErrIn H' a C := by
  obtain ⟨d, h1, h2⟩ := h
  exact ⟨d, e _ _ h1, fun dd hd => let ⟨fs, h3⟩ := h2 dd hd; ⟨fs, e _ _ h3⟩⟩
theorem ErrIn.of {H : Hp} {C : Addr} {fs : List Str} {one other v : V} (h : Xk.ErrAt C fs one other H v) : ∃ a, v = .ref a ∧ ErrIn H a C := by
  obtain ⟨a, rfl, ⟨_, h1⟩ | ⟨_, d, h1, h2⟩⟩ := h
  · exact ⟨a, rfl, none, h1, fun dd z => by cases z⟩
  · exact ⟨a, rfl, some d, h1, fun dd z => by
      cases z
      exact ⟨_, h2⟩⟩
theorem rc_isx {a C D : Addr} {par par' : List Value} (h : IsX K C par) (h' : IsX K D par') (hp : par.contains (.ref D) = false) (he : ErrIn H a C) : Evl.RC (Xk.rIsx K) [.ref a, .ref D] H (.bl (decide (C = D))) := fun H1 e _ q => by
  obtain ⟨d, h1, h2⟩ := he.mono e
  refine ⟨a, C, d, .ref D, .ref D, decide (C = D), rfl, h.ec, h1, h2, .own D, ?_, q H1 (Ex.refl H1)⟩
  have z := kit_cc h h'
  rw [hp, Bool.or_false] at z
  exact z
theorem ev_which {ri : List V → Hp → VK → Prop} {σ : L2.St} {a C D : Addr} (hσ : σ[0]? = some (some (.ref a))) (h : Evl.RC ri [.ref a, .ref D] H (.bl (decide (C = D)))) : Ev (tCB ri (tCons (tVar 0) (tCons (tC (.ref D)) tNil))) σ H (.bl (decide (C = D))) :=
  ev_cb (ea_cons (ev_var hσ) (ea_cons ev_c ea_nil)) h
end
end Lw

set_option maxHeartbeats 8000000
namespace Lw
open PySem PySem.Spec PyProof.Rows L2 Evl
section
variable {K : PySem.W.Frag} {vs : List V} {H : Hp} {Q : VK} {E : XK}
theorem el_cat {σ : L2.St} {i : Nat} {l : Addr} {xs ys : List V} {tb : TE} (hσ : σ[i]? = some (some (.ref l))) (hl : H l = some (.lst xs)) (h : EvL tb σ H ys) (hz : xs.length + ys.length ≤ 1000) : EvL (tOp rCat (tVar i) tb) σ H (xs ++ ys) := fun H1 e Q q =>
  ⟨.ref l, hσ, h H1 e _ fun p H2 hp e2 h2 => ⟨l, p, xs, ys, rfl, rfl, e2 _ _ (e _ _ hl), h2, (by rw [sizeLine_eq]; omega), fun r hr => q r _ (fresh_back e2 hr) (e2.trans (Ex.new hr)) upd_same⟩⟩
theorem rc_mono {r : List V → Hp → VK → Prop} {xs : List V} {z : V} {H H' : Hp} (e : Ex H H') (h : Evl.RC r xs H z) : Evl.RC r xs H' z := fun H1 e1 => h H1 (e.trans e1)
/-- the bools of all classes -/
abbrev bC (C D : Addr) : V := .bl (decide (C = D))
def ads : List Addr := [44, 63, 82, 101, 120, 139, 158, 177, 196, 215, 234, 253, 272, 291, 310, 329, 348, 367, 386, 405, 424, 443, 462, 481, 500, 519, 538, 557, 576, 595, 614, 633, 652, 671, 690, 709, 728, 747, 766, 785, 804, 823, 842, 861, 880, 1175, 899, 911, 930, 949, 968, 987, 1006, 1025, 1044, 1063, 1082, 1094, 1113, 1132, 1144, 1156, 1194, 1213, 1232, 1251]
theorem ads_eq : ads = ecs.map (·.1) := rfl
theorem pure_classes {ri : List V → Hp → VK → Prop} {a C : Addr} (hri : ∀ D : Addr, D ∈ ads → Evl.RC ri [.ref a, .ref D] H (bC C D)) (q : ∀ p H', H p = none → Ex H H' → H' p = some (.lst (whichC C)) → Q (.ref p) H') :
    t__law_classes K ri { nx := fun _ H' => Q .non H', rt := Q } [some (.ref a), none] H := by
  have ew : ∀ (D : Addr), D ∈ ads → ∀ {σ : L2.St} {H1 : Hp}, Ex H H1 → σ[0]? = some (some (.ref a)) → Ev (tCB ri (tCons (tVar 0) (tCons (tC (.ref D)) tNil))) σ H1 (bC C D) := fun D hD σ H1 e hσ => ev_which hσ (rc_mono e (hri D hD))
  refine q_asgL (xs := [bC C 44, bC C 63, bC C 82, bC C 101]) (el_lst (ea_cons (ew 44 (by decide) (Ex.refl H) rfl) (ea_cons (ew 63 (by decide) (Ex.refl H) rfl) (ea_cons (ew 82 (by decide) (Ex.refl H) rfl) (ea_cons (ew 101 (by decide) (Ex.refl H) rfl) ea_nil)))) (by simp)) fun p0 H1 hp0 e1 h1 => ?_
  have E1 : Ex H H1 := e1
  refine q_asgL (xs := ([bC C 44, bC C 63, bC C 82, bC C 101]) ++ [bC C 120, bC C 139, bC C 158, bC C 177]) (el_cat rfl h1 (el_lst (ea_cons (ew 120 (by decide) E1 rfl) (ea_cons (ew 139 (by decide) E1 rfl) (ea_cons (ew 158 (by decide) E1 rfl) (ea_cons (ew 177 (by decide) E1 rfl) ea_nil)))) (by simp)) (by simp)) fun p1 H2 hp1 e2 h2 => ?_
  have E2 : Ex H H2 := E1.trans e2
  refine q_asgL (xs := (([bC C 44, bC C 63, bC C 82, bC C 101]) ++ [bC C 120, bC C 139, bC C 158, bC C 177]) ++ [bC C 196, bC C 215, bC C 234, bC C 253]) (el_cat rfl h2 (el_lst (ea_cons (ew 196 (by decide) E2 rfl) (ea_cons (ew 215 (by decide) E2 rfl) (ea_cons (ew 234 (by decide) E2 rfl) (ea_cons (ew 253 (by decide) E2 rfl) ea_nil)))) (by simp)) (by simp)) fun p2 H3 hp2 e3 h3 => ?_
  have E3 : Ex H H3 := E2.trans e3
  refine q_asgL (xs := ((([bC C 44, bC C 63, bC C 82, bC C 101]) ++ [bC C 120, bC C 139, bC C 158, bC C 177]) ++ [bC C 196, bC C 215, bC C 234, bC C 253]) ++ [bC C 272, bC C 291, bC C 310, bC C 329]) (el_cat rfl h3 (el_lst (ea_cons (ew 272 (by decide) E3 rfl) (ea_cons (ew 291 (by decide) E3 rfl) (ea_cons (ew 310 (by decide) E3 rfl) (ea_cons (ew 329 (by decide) E3 rfl) ea_nil)))) (by simp)) (by simp)) fun p3 H4 hp3 e4 h4 => ?_
  have E4 : Ex H H4 := E3.trans e4
  refine q_asgL (xs := (((([bC C 44, bC C 63, bC C 82, bC C 101]) ++ [bC C 120, bC C 139, bC C 158, bC C 177]) ++ [bC C 196, bC C 215, bC C 234, bC C 253]) ++ [bC C 272, bC C 291, bC C 310, bC C 329]) ++ [bC C 348, bC C 367, bC C 386, bC C 405]) (el_cat rfl h4 (el_lst (ea_cons (ew 348 (by decide) E4 rfl) (ea_cons (ew 367 (by decide) E4 rfl) (ea_cons (ew 386 (by decide) E4 rfl) (ea_cons (ew 405 (by decide) E4 rfl) ea_nil)))) (by simp)) (by simp)) fun p4 H5 hp4 e5 h5 => ?_
  have E5 : Ex H H5 := E4.trans e5
  refine q_asgL (xs := ((((([bC C 44, bC C 63, bC C 82, bC C 101]) ++ [bC C 120, bC C 139, bC C 158, bC C 177]) ++ [bC C 196, bC C 215, bC C 234, bC C 253]) ++ [bC C 272, bC C 291, bC C 310, bC C 329]) ++ [bC C 348, bC C 367, bC C 386, bC C 405]) ++ [bC C 424, bC C 443, bC C 462, bC C 481]) (el_cat rfl h5 (el_lst (ea_cons (ew 424 (by decide) E5 rfl) (ea_cons (ew 443 (by decide) E5 rfl) (ea_cons (ew 462 (by decide) E5 rfl) (ea_cons (ew 481 (by decide) E5 rfl) ea_nil)))) (by simp)) (by simp)) fun p5 H6 hp5 e6 h6 => ?_
  have E6 : Ex H H6 := E5.trans e6
  refine q_asgL (xs := (((((([bC C 44, bC C 63, bC C 82, bC C 101]) ++ [bC C 120, bC C 139, bC C 158, bC C 177]) ++ [bC C 196, bC C 215, bC C 234, bC C 253]) ++ [bC C 272, bC C 291, bC C 310, bC C 329]) ++ [bC C 348, bC C 367, bC C 386, bC C 405]) ++ [bC C 424, bC C 443, bC C 462, bC C 481]) ++ [bC C 500, bC C 519, bC C 538, bC C 557]) (el_cat rfl h6 (el_lst (ea_cons (ew 500 (by decide) E6 rfl) (ea_cons (ew 519 (by decide) E6 rfl) (ea_cons (ew 538 (by decide) E6 rfl) (ea_cons (ew 557 (by decide) E6 rfl) ea_nil)))) (by simp)) (by simp)) fun p6 H7 hp6 e7 h7 => ?_
  have E7 : Ex H H7 := E6.trans e7
  refine q_asgL (xs := ((((((([bC C 44, bC C 63, bC C 82, bC C 101]) ++ [bC C 120, bC C 139, bC C 158, bC C 177]) ++ [bC C 196, bC C 215, bC C 234, bC C 253]) ++ [bC C 272, bC C 291, bC C 310, bC C 329]) ++ [bC C 348, bC C 367, bC C 386, bC C 405]) ++ [bC C 424, bC C 443, bC C 462, bC C 481]) ++ [bC C 500, bC C 519, bC C 538, bC C 557]) ++ [bC C 576, bC C 595, bC C 614, bC C 633]) (el_cat rfl h7 (el_lst (ea_cons (ew 576 (by decide) E7 rfl) (ea_cons (ew 595 (by decide) E7 rfl) (ea_cons (ew 614 (by decide) E7 rfl) (ea_cons (ew 633 (by decide) E7 rfl) ea_nil)))) (by simp)) (by simp)) fun p7 H8 hp7 e8 h8 => ?_
  have E8 : Ex H H8 := E7.trans e8
  refine q_asgL (xs := (((((((([bC C 44, bC C 63, bC C 82, bC C 101]) ++ [bC C 120, bC C 139, bC C 158, bC C 177]) ++ [bC C 196, bC C 215, bC C 234, bC C 253]) ++ [bC C 272, bC C 291, bC C 310, bC C 329]) ++ [bC C 348, bC C 367, bC C 386, bC C 405]) ++ [bC C 424, bC C 443, bC C 462, bC C 481]) ++ [bC C 500, bC C 519, bC C 538, bC C 557]) ++ [bC C 576, bC C 595, bC C 614, bC C 633]) ++ [bC C 652, bC C 671, bC C 690, bC C 709]) (el_cat rfl h8 (el_lst (ea_cons (ew 652 (by decide) E8 rfl) (ea_cons (ew 671 (by decide) E8 rfl) (ea_cons (ew 690 (by decide) E8 rfl) (ea_cons (ew 709 (by decide) E8 rfl) ea_nil)))) (by simp)) (by simp)) fun p8 H9 hp8 e9 h9 => ?_
  have E9 : Ex H H9 := E8.trans e9
  refine q_asgL (xs := ((((((((([bC C 44, bC C 63, bC C 82, bC C 101]) ++ [bC C 120, bC C 139, bC C 158, bC C 177]) ++ [bC C 196, bC C 215, bC C 234, bC C 253]) ++ [bC C 272, bC C 291, bC C 310, bC C 329]) ++ [bC C 348, bC C 367, bC C 386, bC C 405]) ++ [bC C 424, bC C 443, bC C 462, bC C 481]) ++ [bC C 500, bC C 519, bC C 538, bC C 557]) ++ [bC C 576, bC C 595, bC C 614, bC C 633]) ++ [bC C 652, bC C 671, bC C 690, bC C 709]) ++ [bC C 728, bC C 747, bC C 766, bC C 785]) (el_cat rfl h9 (el_lst (ea_cons (ew 728 (by decide) E9 rfl) (ea_cons (ew 747 (by decide) E9 rfl) (ea_cons (ew 766 (by decide) E9 rfl) (ea_cons (ew 785 (by decide) E9 rfl) ea_nil)))) (by simp)) (by simp)) fun p9 H10 hp9 e10 h10 => ?_
  have E10 : Ex H H10 := E9.trans e10
  refine q_asgL (xs := (((((((((([bC C 44, bC C 63, bC C 82, bC C 101]) ++ [bC C 120, bC C 139, bC C 158, bC C 177]) ++ [bC C 196, bC C 215, bC C 234, bC C 253]) ++ [bC C 272, bC C 291, bC C 310, bC C 329]) ++ [bC C 348, bC C 367, bC C 386, bC C 405]) ++ [bC C 424, bC C 443, bC C 462, bC C 481]) ++ [bC C 500, bC C 519, bC C 538, bC C 557]) ++ [bC C 576, bC C 595, bC C 614, bC C 633]) ++ [bC C 652, bC C 671, bC C 690, bC C 709]) ++ [bC C 728, bC C 747, bC C 766, bC C 785]) ++ [bC C 804, bC C 823, bC C 842, bC C 861]) (el_cat rfl h10 (el_lst (ea_cons (ew 804 (by decide) E10 rfl) (ea_cons (ew 823 (by decide) E10 rfl) (ea_cons (ew 842 (by decide) E10 rfl) (ea_cons (ew 861 (by decide) E10 rfl) ea_nil)))) (by simp)) (by simp)) fun p10 H11 hp10 e11 h11 => ?_
  have E11 : Ex H H11 := E10.trans e11
  refine q_asgL (xs := ((((((((((([bC C 44, bC C 63, bC C 82, bC C 101]) ++ [bC C 120, bC C 139, bC C 158, bC C 177]) ++ [bC C 196, bC C 215, bC C 234, bC C 253]) ++ [bC C 272, bC C 291, bC C 310, bC C 329]) ++ [bC C 348, bC C 367, bC C 386, bC C 405]) ++ [bC C 424, bC C 443, bC C 462, bC C 481]) ++ [bC C 500, bC C 519, bC C 538, bC C 557]) ++ [bC C 576, bC C 595, bC C 614, bC C 633]) ++ [bC C 652, bC C 671, bC C 690, bC C 709]) ++ [bC C 728, bC C 747, bC C 766, bC C 785]) ++ [bC C 804, bC C 823, bC C 842, bC C 861]) ++ [bC C 880, bC C 1175, bC C 899, bC C 911, bC C 930]) (el_cat rfl h11 (el_lst (ea_cons (ew 880 (by decide) E11 rfl) (ea_cons (ew 1175 (by decide) E11 rfl) (ea_cons (ew 899 (by decide) E11 rfl) (ea_cons (ew 911 (by decide) E11 rfl) (ea_cons (ew 930 (by decide) E11 rfl) ea_nil))))) (by simp)) (by simp)) fun p11 H12 hp11 e12 h12 => ?_
  have E12 : Ex H H12 := E11.trans e12
  refine q_asgL (xs := (((((((((((([bC C 44, bC C 63, bC C 82, bC C 101]) ++ [bC C 120, bC C 139, bC C 158, bC C 177]) ++ [bC C 196, bC C 215, bC C 234, bC C 253]) ++ [bC C 272, bC C 291, bC C 310, bC C 329]) ++ [bC C 348, bC C 367, bC C 386, bC C 405]) ++ [bC C 424, bC C 443, bC C 462, bC C 481]) ++ [bC C 500, bC C 519, bC C 538, bC C 557]) ++ [bC C 576, bC C 595, bC C 614, bC C 633]) ++ [bC C 652, bC C 671, bC C 690, bC C 709]) ++ [bC C 728, bC C 747, bC C 766, bC C 785]) ++ [bC C 804, bC C 823, bC C 842, bC C 861]) ++ [bC C 880, bC C 1175, bC C 899, bC C 911, bC C 930]) ++ [bC C 949, bC C 968, bC C 987, bC C 1006, bC C 1025]) (el_cat rfl h12 (el_lst (ea_cons (ew 949 (by decide) E12 rfl) (ea_cons (ew 968 (by decide) E12 rfl) (ea_cons (ew 987 (by decide) E12 rfl) (ea_cons (ew 1006 (by decide) E12 rfl) (ea_cons (ew 1025 (by decide) E12 rfl) ea_nil))))) (by simp)) (by simp)) fun p12 H13 hp12 e13 h13 => ?_
  have E13 : Ex H H13 := E12.trans e13
  refine q_asgL (xs := ((((((((((((([bC C 44, bC C 63, bC C 82, bC C 101]) ++ [bC C 120, bC C 139, bC C 158, bC C 177]) ++ [bC C 196, bC C 215, bC C 234, bC C 253]) ++ [bC C 272, bC C 291, bC C 310, bC C 329]) ++ [bC C 348, bC C 367, bC C 386, bC C 405]) ++ [bC C 424, bC C 443, bC C 462, bC C 481]) ++ [bC C 500, bC C 519, bC C 538, bC C 557]) ++ [bC C 576, bC C 595, bC C 614, bC C 633]) ++ [bC C 652, bC C 671, bC C 690, bC C 709]) ++ [bC C 728, bC C 747, bC C 766, bC C 785]) ++ [bC C 804, bC C 823, bC C 842, bC C 861]) ++ [bC C 880, bC C 1175, bC C 899, bC C 911, bC C 930]) ++ [bC C 949, bC C 968, bC C 987, bC C 1006, bC C 1025]) ++ [bC C 1044, bC C 1063, bC C 1082, bC C 1094, bC C 1113]) (el_cat rfl h13 (el_lst (ea_cons (ew 1044 (by decide) E13 rfl) (ea_cons (ew 1063 (by decide) E13 rfl) (ea_cons (ew 1082 (by decide) E13 rfl) (ea_cons (ew 1094 (by decide) E13 rfl) (ea_cons (ew 1113 (by decide) E13 rfl) ea_nil))))) (by simp)) (by simp)) fun p13 H14 hp13 e14 h14 => ?_
  have E14 : Ex H H14 := E13.trans e14
  refine q_asgL (xs := (((((((((((((([bC C 44, bC C 63, bC C 82, bC C 101]) ++ [bC C 120, bC C 139, bC C 158, bC C 177]) ++ [bC C 196, bC C 215, bC C 234, bC C 253]) ++ [bC C 272, bC C 291, bC C 310, bC C 329]) ++ [bC C 348, bC C 367, bC C 386, bC C 405]) ++ [bC C 424, bC C 443, bC C 462, bC C 481]) ++ [bC C 500, bC C 519, bC C 538, bC C 557]) ++ [bC C 576, bC C 595, bC C 614, bC C 633]) ++ [bC C 652, bC C 671, bC C 690, bC C 709]) ++ [bC C 728, bC C 747, bC C 766, bC C 785]) ++ [bC C 804, bC C 823, bC C 842, bC C 861]) ++ [bC C 880, bC C 1175, bC C 899, bC C 911, bC C 930]) ++ [bC C 949, bC C 968, bC C 987, bC C 1006, bC C 1025]) ++ [bC C 1044, bC C 1063, bC C 1082, bC C 1094, bC C 1113]) ++ [bC C 1132, bC C 1144, bC C 1156, bC C 1194]) (el_cat rfl h14 (el_lst (ea_cons (ew 1132 (by decide) E14 rfl) (ea_cons (ew 1144 (by decide) E14 rfl) (ea_cons (ew 1156 (by decide) E14 rfl) (ea_cons (ew 1194 (by decide) E14 rfl) ea_nil)))) (by simp)) (by simp)) fun p14 H15 hp14 e15 h15 => ?_
  have E15 : Ex H H15 := E14.trans e15
  refine q_asgL (xs := ((((((((((((((([bC C 44, bC C 63, bC C 82, bC C 101]) ++ [bC C 120, bC C 139, bC C 158, bC C 177]) ++ [bC C 196, bC C 215, bC C 234, bC C 253]) ++ [bC C 272, bC C 291, bC C 310, bC C 329]) ++ [bC C 348, bC C 367, bC C 386, bC C 405]) ++ [bC C 424, bC C 443, bC C 462, bC C 481]) ++ [bC C 500, bC C 519, bC C 538, bC C 557]) ++ [bC C 576, bC C 595, bC C 614, bC C 633]) ++ [bC C 652, bC C 671, bC C 690, bC C 709]) ++ [bC C 728, bC C 747, bC C 766, bC C 785]) ++ [bC C 804, bC C 823, bC C 842, bC C 861]) ++ [bC C 880, bC C 1175, bC C 899, bC C 911, bC C 930]) ++ [bC C 949, bC C 968, bC C 987, bC C 1006, bC C 1025]) ++ [bC C 1044, bC C 1063, bC C 1082, bC C 1094, bC C 1113]) ++ [bC C 1132, bC C 1144, bC C 1156, bC C 1194]) ++ [bC C 1213, bC C 1232, bC C 1251]) (el_cat rfl h15 (el_lst (ea_cons (ew 1213 (by decide) E15 rfl) (ea_cons (ew 1232 (by decide) E15 rfl) (ea_cons (ew 1251 (by decide) E15 rfl) ea_nil))) (by simp)) (by simp)) fun p15 H16 hp15 e16 h16 => ?_
  have E16 : Ex H H16 := E15.trans e16
  exact ⟨_, rfl, q p15 H16 (fresh_back E15 hp15) E16 h16⟩
theorem pure_law_named_len (h : spMadeX vs H Q E) : vs.length = ["one", "other"].length := by
  obtain ⟨one, other, rfl, _⟩ := h
  rfl
theorem pure_law_named (h : spMadeX vs H Q E) : t__law_named K { nx := fun _ H' => Q .non H', rt := Q } (start N__law_named vs) H := by
  obtain ⟨one, other, rfl, q⟩ := h
  show t__law_named K _ [some one, some other, none] H
  refine Xk.q_xl (one := one) (other := other) (Xk.xl_lst (Xk.xa_cons (Xk.x_k1 rfl) (Xk.xa_cons (Xk.x_k1 rfl) (Xk.xa_cons (Xk.x_k1 rfl) (Xk.xa_cons (Xk.x_k1 rfl) (Xk.xa_cons (Xk.x_k1 rfl) Xk.xa_nil))))) (by simp)) fun p0 v0 H1 hp0 e1 h1 r1 => ?_
  have E1 : Ex H H1 := e1
  refine Xk.q_xl (one := one) (other := other) (Xk.xl_cat rfl h1 r1 (Xk.xl_lst (Xk.xa_cons (Xk.x_k1 rfl) (Xk.xa_cons (Xk.x_k1 rfl) (Xk.xa_cons (Xk.x_k1 rfl) (Xk.xa_cons (Xk.x_k1 rfl) (Xk.xa_cons (Xk.x_k1 rfl) Xk.xa_nil))))) (by simp)) (by simp)) fun p1 v1 H2 hp1 e2 h2 r2 => ?_
  have E2 : Ex H H2 := E1.trans e2
  refine Xk.q_xl (one := one) (other := other) (Xk.xl_cat rfl h2 r2 (Xk.xl_lst (Xk.xa_cons (Xk.x_k1 rfl) (Xk.xa_cons (Xk.x_k1 rfl) (Xk.xa_cons (Xk.x_k1 rfl) (Xk.xa_cons (Xk.x_k1 rfl) (Xk.xa_cons (Xk.x_k1 rfl) Xk.xa_nil))))) (by simp)) (by simp)) fun p2 v2 H3 hp2 e3 h3 r3 => ?_
  have E3 : Ex H H3 := E2.trans e3
  refine Xk.q_xl (one := one) (other := other) (Xk.xl_cat rfl h3 r3 (Xk.xl_lst (Xk.xa_cons (Xk.x_k1 rfl) (Xk.xa_cons (Xk.x_k1 rfl) (Xk.xa_cons (Xk.x_k1 rfl) (Xk.xa_cons (Xk.x_k1 rfl) (Xk.xa_cons (Xk.x_k1 rfl) Xk.xa_nil))))) (by simp)) (by simp)) fun p3 v3 H4 hp3 e4 h4 r4 => ?_
  have E4 : Ex H H4 := E3.trans e4
  refine Xk.q_xl (one := one) (other := other) (Xk.xl_cat rfl h4 r4 (Xk.xl_lst (Xk.xa_cons (Xk.x_k1 rfl) (Xk.xa_cons (Xk.x_k1 rfl) (Xk.xa_cons (Xk.x_k1 rfl) (Xk.xa_cons (Xk.x_k1 rfl) (Xk.xa_cons (Xk.x_k1 rfl) (Xk.xa_cons (Xk.x_k1 rfl) Xk.xa_nil)))))) (by simp)) (by simp)) fun p4 v4 H5 hp4 e5 h5 r5 => ?_
  have E5 : Ex H H5 := E4.trans e5
  refine Xk.q_xl (one := one) (other := other) (Xk.xl_cat rfl h5 r5 (Xk.xl_lst (Xk.xa_cons (Xk.x_k1 rfl) (Xk.xa_cons (Xk.x_k1 rfl) (Xk.xa_cons (Xk.x_k1 rfl) (Xk.xa_cons (Xk.x_k1 rfl) (Xk.xa_cons (Xk.x_k1 rfl) Xk.xa_nil))))) (by simp)) (by simp)) fun p5 v5 H6 hp5 e6 h6 r6 => ?_
  have E6 : Ex H H6 := E5.trans e6
  refine Xk.q_xl (one := one) (other := other) (Xk.xl_cat rfl h6 r6 (Xk.xl_lst (Xk.xa_cons (Xk.x_k1 rfl) (Xk.xa_cons (Xk.x_k1 rfl) (Xk.xa_cons (Xk.x_k1 rfl) (Xk.xa_cons (Xk.x_k1 rfl) (Xk.xa_cons (Xk.x_k1 rfl) Xk.xa_nil))))) (by simp)) (by simp)) fun p6 v6 H7 hp6 e7 h7 r7 => ?_
  have E7 : Ex H H7 := E6.trans e7
  refine Xk.q_xl (one := one) (other := other) (Xk.xl_cat rfl h7 r7 (Xk.xl_lst (Xk.xa_cons (Xk.x_k1 rfl) (Xk.xa_cons (Xk.x_k1 rfl) (Xk.xa_cons (Xk.x_k1 rfl) (Xk.xa_cons (Xk.x_k1 rfl) (Xk.xa_cons (Xk.x_k1 rfl) (Xk.xa_cons (Xk.x_k1 rfl) Xk.xa_nil)))))) (by simp)) (by simp)) fun p7 v7 H8 hp7 e8 h8 r8 => ?_
  have E8 : Ex H H8 := E7.trans e8
  refine Xk.q_xl (one := one) (other := other) (Xk.xl_cat rfl h8 r8 (Xk.xl_lst (Xk.xa_cons (Xk.x_k1 rfl) (Xk.xa_cons (Xk.x_k1 rfl) (Xk.xa_cons (Xk.x_k1 rfl) (Xk.xa_cons (Xk.x_k1 rfl) (Xk.xa_cons (Xk.x_k1 rfl) (Xk.xa_cons Xk.x_0 (Xk.xa_cons (Xk.x_k1 rfl) Xk.xa_nil))))))) (by simp)) (by simp)) fun p8 v8 H9 hp8 e9 h9 r9 => ?_
  have E9 : Ex H H9 := E8.trans e9
  refine Xk.q_xl (one := one) (other := other) (Xk.xl_cat rfl h9 r9 (Xk.xl_lst (Xk.xa_cons (Xk.x_k1 rfl) (Xk.xa_cons (Xk.x_k1 rfl) (Xk.xa_cons (Xk.x_k2 rfl rfl) (Xk.xa_cons (Xk.x_k1 rfl) (Xk.xa_cons (Xk.x_k2 rfl rfl) (Xk.xa_cons (Xk.x_k1 rfl) Xk.xa_nil)))))) (by simp)) (by simp)) fun p9 v9 H10 hp9 e10 h10 r10 => ?_
  have E10 : Ex H H10 := E9.trans e10
  refine Xk.q_xl (one := one) (other := other) (Xk.xl_cat rfl h10 r10 (Xk.xl_lst (Xk.xa_cons (Xk.x_k1 rfl) (Xk.xa_cons (Xk.x_k2 rfl rfl) (Xk.xa_cons Xk.x_0 (Xk.xa_cons (Xk.x_k1 rfl) (Xk.xa_cons (Xk.x_k1 rfl) (Xk.xa_cons Xk.x_0 (Xk.xa_cons Xk.x_0 Xk.xa_nil))))))) (by simp)) (by simp)) fun p10 v10 H11 hp10 e11 h11 r11 => ?_
  have E11 : Ex H H11 := E10.trans e11
  refine Xk.q_xl (one := one) (other := other) (Xk.xl_cat rfl h11 r11 (Xk.xl_lst (Xk.xa_cons (Xk.x_k1 rfl) (Xk.xa_cons (Xk.x_k1 rfl) (Xk.xa_cons (Xk.x_k1 rfl) (Xk.xa_cons (Xk.x_k1 rfl) Xk.xa_nil)))) (by simp)) (by simp)) fun p11 v11 H12 hp11 e12 h12 r12 => ?_
  have E12 : Ex H H12 := E11.trans e12
  exact ⟨_, rfl, q p11 v11 H12 (fresh_back E11 hp11) E12 h12 r12⟩
theorem pure_law_placed_len (h : spMadeX vs H Q E) : vs.length = ["one", "other"].length := by
  obtain ⟨one, other, rfl, _⟩ := h
  rfl
theorem pure_law_placed (h : spMadeX vs H Q E) : t__law_placed K { nx := fun _ H' => Q .non H', rt := Q } (start N__law_placed vs) H := by
  obtain ⟨one, other, rfl, q⟩ := h
  show t__law_placed K _ [some one, some other, none] H
  refine Xk.q_xl (one := one) (other := other) (Xk.xl_lst (Xk.xa_cons (Xk.x_p1 rfl) (Xk.xa_cons (Xk.x_p1 rfl) (Xk.xa_cons (Xk.x_p1 rfl) (Xk.xa_cons (Xk.x_p1 rfl) (Xk.xa_cons (Xk.x_p1 rfl) (Xk.xa_cons (Xk.x_p1 rfl) (Xk.xa_cons (Xk.x_p1 rfl) Xk.xa_nil))))))) (by simp)) fun p0 v0 H1 hp0 e1 h1 r1 => ?_
  have E1 : Ex H H1 := e1
  refine Xk.q_xl (one := one) (other := other) (Xk.xl_cat rfl h1 r1 (Xk.xl_lst (Xk.xa_cons (Xk.x_p1 rfl) (Xk.xa_cons (Xk.x_p1 rfl) (Xk.xa_cons (Xk.x_p1 rfl) (Xk.xa_cons (Xk.x_p1 rfl) (Xk.xa_cons (Xk.x_p1 rfl) (Xk.xa_cons (Xk.x_p1 rfl) (Xk.xa_cons (Xk.x_p1 rfl) Xk.xa_nil))))))) (by simp)) (by simp)) fun p1 v1 H2 hp1 e2 h2 r2 => ?_
  have E2 : Ex H H2 := E1.trans e2
  refine Xk.q_xl (one := one) (other := other) (Xk.xl_cat rfl h2 r2 (Xk.xl_lst (Xk.xa_cons (Xk.x_p1 rfl) (Xk.xa_cons (Xk.x_p1 rfl) (Xk.xa_cons (Xk.x_p1 rfl) (Xk.xa_cons (Xk.x_p1 rfl) (Xk.xa_cons (Xk.x_p1 rfl) (Xk.xa_cons (Xk.x_p1 rfl) (Xk.xa_cons (Xk.x_p1 rfl) Xk.xa_nil))))))) (by simp)) (by simp)) fun p2 v2 H3 hp2 e3 h3 r3 => ?_
  have E3 : Ex H H3 := E2.trans e3
  refine Xk.q_xl (one := one) (other := other) (Xk.xl_cat rfl h3 r3 (Xk.xl_lst (Xk.xa_cons (Xk.x_p1 rfl) (Xk.xa_cons (Xk.x_p1 rfl) (Xk.xa_cons (Xk.x_p1 rfl) (Xk.xa_cons (Xk.x_p1 rfl) (Xk.xa_cons (Xk.x_p1 rfl) (Xk.xa_cons (Xk.x_p1 rfl) (Xk.xa_cons (Xk.x_p1 rfl) (Xk.xa_cons (Xk.x_p1 rfl) Xk.xa_nil)))))))) (by simp)) (by simp)) fun p3 v3 H4 hp3 e4 h4 r4 => ?_
  have E4 : Ex H H4 := E3.trans e4
  refine Xk.q_xl (one := one) (other := other) (Xk.xl_cat rfl h4 r4 (Xk.xl_lst (Xk.xa_cons (Xk.x_p1 rfl) (Xk.xa_cons (Xk.x_p1 rfl) (Xk.xa_cons (Xk.x_p1 rfl) (Xk.xa_cons (Xk.x_p1 rfl) (Xk.xa_cons (Xk.x_p1 rfl) (Xk.xa_cons (Xk.x_p1 rfl) (Xk.xa_cons (Xk.x_p1 rfl) Xk.xa_nil))))))) (by simp)) (by simp)) fun p4 v4 H5 hp4 e5 h5 r5 => ?_
  have E5 : Ex H H5 := E4.trans e5
  refine Xk.q_xl (one := one) (other := other) (Xk.xl_cat rfl h5 r5 (Xk.xl_lst (Xk.xa_cons (Xk.x_p1 rfl) (Xk.xa_cons (Xk.x_p1 rfl) (Xk.xa_cons (Xk.x_p1 rfl) (Xk.xa_cons (Xk.x_p1 rfl) (Xk.xa_cons (Xk.x_p1 rfl) (Xk.xa_cons (Xk.x_p1 rfl) (Xk.xa_cons (Xk.x_p1 rfl) (Xk.xa_cons (Xk.x_p1 rfl) Xk.xa_nil)))))))) (by simp)) (by simp)) fun p5 v5 H6 hp5 e6 h6 r6 => ?_
  have E6 : Ex H H6 := E5.trans e6
  refine Xk.q_xl (one := one) (other := other) (Xk.xl_cat rfl h6 r6 (Xk.xl_lst (Xk.xa_cons (Xk.x_p1 rfl) (Xk.xa_cons (Xk.x_p1 rfl) (Xk.xa_cons (Xk.x_p1 rfl) (Xk.xa_cons Xk.x_0 (Xk.xa_cons (Xk.x_p1 rfl) (Xk.xa_cons (Xk.x_p1 rfl) (Xk.xa_cons (Xk.x_p1 rfl) (Xk.xa_cons (Xk.x_p2 rfl rfl) (Xk.xa_cons (Xk.x_p1 rfl) Xk.xa_nil))))))))) (by simp)) (by simp)) fun p6 v6 H7 hp6 e7 h7 r7 => ?_
  have E7 : Ex H H7 := E6.trans e7
  refine Xk.q_xl (one := one) (other := other) (Xk.xl_cat rfl h7 r7 (Xk.xl_lst (Xk.xa_cons (Xk.x_p2 rfl rfl) (Xk.xa_cons (Xk.x_p1 rfl) (Xk.xa_cons (Xk.x_p1 rfl) (Xk.xa_cons (Xk.x_p2 rfl rfl) (Xk.xa_cons Xk.x_0 (Xk.xa_cons (Xk.x_p1 rfl) (Xk.xa_cons (Xk.x_p1 rfl) (Xk.xa_cons Xk.x_0 (Xk.xa_cons Xk.x_0 Xk.xa_nil))))))))) (by simp)) (by simp)) fun p7 v7 H8 hp7 e8 h8 r8 => ?_
  have E8 : Ex H H8 := E7.trans e8
  refine Xk.q_xl (one := one) (other := other) (Xk.xl_cat rfl h8 r8 (Xk.xl_lst (Xk.xa_cons (Xk.x_p1 rfl) (Xk.xa_cons (Xk.x_p1 rfl) (Xk.xa_cons (Xk.x_p1 rfl) (Xk.xa_cons (Xk.x_p1 rfl) Xk.xa_nil)))) (by simp)) (by simp)) fun p8 v8 H9 hp8 e9 h9 r9 => ?_
  have E9 : Ex H H9 := E8.trans e9
  exact ⟨_, rfl, q p8 v8 H9 (fresh_back E8 hp8) E9 h9 r9⟩
end
end Lw

set_option maxHeartbeats 4000000
namespace Lw
open PySem PySem.Spec PyProof.Rows L2 Evl
section
variable {K : PySem.W.Frag} {vs : List V} {H : Hp} {Q : VK} {E : XK}
theorem pure_law_classes_len (h : spClasses K vs H Q E) : vs.length = ["error"].length := by
  obtain ⟨a, C, par, rfl, _⟩ := h
  rfl
/-! ### kept -/
theorem ev_gx {σ : L2.St} {i : Nat} {C : Addr} {fs : List Str} {f : Str} {one other v x : V} (hσ : σ[i]? = some (some v)) (he : Xk.ErrAt C fs one other H v) (h0 : fs ≠ []) (T : ExcC K C) (hno : PySem.W.findIn K (.ref C) f = some none) (hl : (fs.zip [one, other]).reverse.lookup f = some x) :
    Ev (Xk.tGx K f (tVar i)) σ H x := fun H1 e Q q => by
  obtain ⟨a, rfl, ⟨h, _⟩ | ⟨_, d, h1, h2⟩⟩ := he
  · exact absurd h h0
  · exact ⟨_, hσ, a, C, d, _, x, rfl, T, hno, e _ _ h1, e _ _ h2, hl, q H1 (Ex.refl H1)⟩
/-- the fields of a number -/
def fieldsOf (n : Nat) : List Str := if n ∈ [46] then ["change"] else if n ∈ [47, 57, 60, 61] then [] else if n ∈ [48, 49] then ["index"] else if n ∈ [50] then ["circle"] else if n ∈ [51, 53, 56] then ["one", "other"] else if n ∈ [52] then ["head"] else
  if n ∈ [54, 55, 58, 59, 62, 65] then ["node"] else if n ∈ [63] then ["count"] else if n ∈ [64] then ["name"] else ["given"]
theorem fieldsOf_ok : ∀ {n : Nat} {c : Xk.AF}, ecs[n]? = some c → c.2 = fieldsOf n := by
  have h : (List.range 66).all (fun n => decide ((ecs[n]?).map (·.2) = some (fieldsOf n))) = true := by decide +kernel
  have hl : ecs.length = 66 := by decide +kernel
  intro n c hc
  have hn : n < 66 := by
    have z := (List.getElem?_eq_some_iff.mp hc).1
    omega
  have z := of_decide_eq_true (List.all_eq_true.mp h n (List.mem_range.mpr hn))
  rw [hc] at z
  exact Option.some.inj z
/-- number in (k, ..) -/
theorem et_num {σ : L2.St} {n : Nat} {ta : TA} {l : List Nat} {b : Bool} (hσ : σ[0]? = some (some (.int (n : Int)))) (ha : EvA ta σ H (l.map fun k => V.int ((k : Nat) : Int))) (hz : l.length ≤ 100) (hb : decide (n ∈ l) = b) : EvT (tTest (tOp (rIn K false) (tVar 0) (tTup ta))) σ H b := by
  have z := inV_ints n l
  have hf : (l.map fun k => V.int ((k : Nat) : Int)).all flatV = true := by
    rw [List.all_map]
    exact List.all_eq_true.mpr fun x _ => rfl
  have h := et_test (ev_inU (K := K) (ev_var hσ) (eu_tup ha (by rw [List.length_map]; omega)) rfl hf)
  rw [z, hb] at h
  exact h
theorem ret_list {σ : L2.St} {ta : TA} {xs ys : List V} (ha : EvA ta σ H xs) (hz : xs.length ≤ 100) (e : xs = ys) (q : ∀ p H', H p = none → Ex H H' → H' p = some (.lst ys) → Q (.ref p) H') : tRet (tLst ta) { nx := fun _ H' => Q .non H', rt := Q } σ H := by
  subst e
  exact s_retL (el_lst ha (by omega)) q
theorem pure_law_kept_len (h : spKept vs H Q E) : vs.length = ["number", "error"].length := by
  obtain ⟨n, c, one, other, v, rfl, _⟩ := h
  rfl
theorem look1 {f : Str} {one other : V} : (([f] : List Str).zip [one, other]).reverse.lookup f = some one := by simp [List.lookup]
theorem look2 {one other : V} : ((["one", "other"] : List Str).zip [one, other]).reverse.lookup ("one" : Str) = some one := by
  show List.lookup ("one" : Str) [(("other" : Str), other), (("one" : Str), one)] = some one
  have e : (("one" : Str) == "other") = false := by decide +kernel
  simp [List.lookup, e]
theorem look3 {one other : V} : ((["one", "other"] : List Str).zip [one, other]).reverse.lookup ("other" : Str) = some other := by
  show List.lookup ("other" : Str) [(("other" : Str), other), (("one" : Str), one)] = some other
  simp [List.lookup]
theorem pure_law_kept (hx : ∀ (n : Nat) (c : Xk.AF), ecs[n]? = some c → ExcC K c.1 ∧ ∀ f ∈ c.2, PySem.W.findIn K (.ref c.1) f = some none) (h : spKept vs H Q E) : t__law_kept K { nx := fun _ H' => Q .non H', rt := Q } (start N__law_kept vs) H := by
  obtain ⟨n, c, one, other, v, rfl, hc, he, q⟩ := h
  obtain ⟨T, hno⟩ := hx n c hc
  have hf := fieldsOf_ok hc
  obtain ⟨C, fs⟩ := c
  dsimp only at he T hno hf
  subst hf
  show t__law_kept K _ [some (.int (n : Int)), some v] H
  by_cases c0 : n ∈ [46]
  · have f1 : fieldsOf n = (["change"] : List Str) := by unfold fieldsOf; rw [if_pos c0]
    have m1 : manyOf n = 1 := by
      simp only [List.mem_cons, List.not_mem_nil, or_false] at c0
      unfold manyOf
      rw [if_neg (by simp; omega), if_neg (by simp; omega)]
    rw [f1] at he hno
    rw [m1] at q
    refine q_when (b := true) (EvT.mono (Ex.refl H) (et_num (l := [46]) rfl (ea_cons ev_c ea_nil) (by decide) (decide_eq_true c0))) (fun _ Hz ez => ?_) (fun z => by cases z)
    have Ez : Ex H Hz := ez
    exact ret_list (ea_cons ((ev_gx rfl he (by simp) T (hno _ (by simp)) look1).mono Ez) ea_nil) (by simp) rfl fun p H2 hp e2 h2 => q p H2 (fresh_back Ez hp) (Ez.trans e2) h2
  by_cases c1 : n ∈ [47, 57, 60, 61]
  · have f1 : fieldsOf n = ([] : List Str) := by unfold fieldsOf; rw [if_neg c0, if_pos c1]
    have m1 : manyOf n = 0 := by
      simp only [List.mem_cons, List.not_mem_nil, or_false] at c1
      unfold manyOf
      rw [if_pos (by simpa using c1)]
    rw [f1] at he hno
    rw [m1] at q
    refine q_when (b := false) (EvT.mono (Ex.refl H) (et_num (l := [46]) rfl (ea_cons ev_c ea_nil) (by decide) (decide_eq_false c0))) (fun z => by cases z) fun _ H1 e1 => ?_
    have E1 : Ex H H1 := e1
    refine q_when (b := true) (EvT.mono E1 (et_num (l := [47, 57, 60, 61]) rfl (ea_cons ev_c (ea_cons ev_c (ea_cons ev_c (ea_cons ev_c ea_nil)))) (by decide) (decide_eq_true c1))) (fun _ Hz ez => ?_) (fun z => by cases z)
    have Ez : Ex H Hz := E1.trans ez
    exact ret_list ea_nil (by simp) rfl fun p H2 hp e2 h2 => q p H2 (fresh_back Ez hp) (Ez.trans e2) h2
  by_cases c2 : n ∈ [48, 49]
  · have f1 : fieldsOf n = (["index"] : List Str) := by unfold fieldsOf; rw [if_neg c0, if_neg c1, if_pos c2]
    have m1 : manyOf n = 1 := by
      simp only [List.mem_cons, List.not_mem_nil, or_false] at c2
      unfold manyOf
      rw [if_neg (by simp; omega), if_neg (by simp; omega)]
    rw [f1] at he hno
    rw [m1] at q
    refine q_when (b := false) (EvT.mono (Ex.refl H) (et_num (l := [46]) rfl (ea_cons ev_c ea_nil) (by decide) (decide_eq_false c0))) (fun z => by cases z) fun _ H1 e1 => ?_
    have E1 : Ex H H1 := e1
    refine q_when (b := false) (EvT.mono E1 (et_num (l := [47, 57, 60, 61]) rfl (ea_cons ev_c (ea_cons ev_c (ea_cons ev_c (ea_cons ev_c ea_nil)))) (by decide) (decide_eq_false c1))) (fun z => by cases z) fun _ H2 e2 => ?_
    have E2 : Ex H H2 := E1.trans e2
    refine q_when (b := true) (EvT.mono E2 (et_num (l := [48, 49]) rfl (ea_cons ev_c (ea_cons ev_c ea_nil)) (by decide) (decide_eq_true c2))) (fun _ Hz ez => ?_) (fun z => by cases z)
    have Ez : Ex H Hz := E2.trans ez
    exact ret_list (ea_cons ((ev_gx rfl he (by simp) T (hno _ (by simp)) look1).mono Ez) ea_nil) (by simp) rfl fun p H2 hp e2 h2 => q p H2 (fresh_back Ez hp) (Ez.trans e2) h2
  by_cases c3 : n ∈ [50]
  · have f1 : fieldsOf n = (["circle"] : List Str) := by unfold fieldsOf; rw [if_neg c0, if_neg c1, if_neg c2, if_pos c3]
    have m1 : manyOf n = 1 := by
      simp only [List.mem_cons, List.not_mem_nil, or_false] at c3
      unfold manyOf
      rw [if_neg (by simp; omega), if_neg (by simp; omega)]
    rw [f1] at he hno
    rw [m1] at q
    refine q_when (b := false) (EvT.mono (Ex.refl H) (et_num (l := [46]) rfl (ea_cons ev_c ea_nil) (by decide) (decide_eq_false c0))) (fun z => by cases z) fun _ H1 e1 => ?_
    have E1 : Ex H H1 := e1
    refine q_when (b := false) (EvT.mono E1 (et_num (l := [47, 57, 60, 61]) rfl (ea_cons ev_c (ea_cons ev_c (ea_cons ev_c (ea_cons ev_c ea_nil)))) (by decide) (decide_eq_false c1))) (fun z => by cases z) fun _ H2 e2 => ?_
    have E2 : Ex H H2 := E1.trans e2
    refine q_when (b := false) (EvT.mono E2 (et_num (l := [48, 49]) rfl (ea_cons ev_c (ea_cons ev_c ea_nil)) (by decide) (decide_eq_false c2))) (fun z => by cases z) fun _ H3 e3 => ?_
    have E3 : Ex H H3 := E2.trans e3
    refine q_when (b := true) (EvT.mono E3 (et_num (l := [50]) rfl (ea_cons ev_c ea_nil) (by decide) (decide_eq_true c3))) (fun _ Hz ez => ?_) (fun z => by cases z)
    have Ez : Ex H Hz := E3.trans ez
    exact ret_list (ea_cons ((ev_gx rfl he (by simp) T (hno _ (by simp)) look1).mono Ez) ea_nil) (by simp) rfl fun p H2 hp e2 h2 => q p H2 (fresh_back Ez hp) (Ez.trans e2) h2
  by_cases c4 : n ∈ [51, 53, 56]
  · have f1 : fieldsOf n = (["one", "other"] : List Str) := by unfold fieldsOf; rw [if_neg c0, if_neg c1, if_neg c2, if_neg c3, if_pos c4]
    have m1 : manyOf n = 2 := by
      simp only [List.mem_cons, List.not_mem_nil, or_false] at c4
      unfold manyOf
      rw [if_neg c1, if_pos (by simpa using c4)]
    rw [f1] at he hno
    rw [m1] at q
    refine q_when (b := false) (EvT.mono (Ex.refl H) (et_num (l := [46]) rfl (ea_cons ev_c ea_nil) (by decide) (decide_eq_false c0))) (fun z => by cases z) fun _ H1 e1 => ?_
    have E1 : Ex H H1 := e1
    refine q_when (b := false) (EvT.mono E1 (et_num (l := [47, 57, 60, 61]) rfl (ea_cons ev_c (ea_cons ev_c (ea_cons ev_c (ea_cons ev_c ea_nil)))) (by decide) (decide_eq_false c1))) (fun z => by cases z) fun _ H2 e2 => ?_
    have E2 : Ex H H2 := E1.trans e2
    refine q_when (b := false) (EvT.mono E2 (et_num (l := [48, 49]) rfl (ea_cons ev_c (ea_cons ev_c ea_nil)) (by decide) (decide_eq_false c2))) (fun z => by cases z) fun _ H3 e3 => ?_
    have E3 : Ex H H3 := E2.trans e3
    refine q_when (b := false) (EvT.mono E3 (et_num (l := [50]) rfl (ea_cons ev_c ea_nil) (by decide) (decide_eq_false c3))) (fun z => by cases z) fun _ H4 e4 => ?_
    have E4 : Ex H H4 := E3.trans e4
    refine q_when (b := true) (EvT.mono E4 (et_num (l := [51, 53, 56]) rfl (ea_cons ev_c (ea_cons ev_c (ea_cons ev_c ea_nil))) (by decide) (decide_eq_true c4))) (fun _ Hz ez => ?_) (fun z => by cases z)
    have Ez : Ex H Hz := E4.trans ez
    exact ret_list (ea_cons ((ev_gx rfl he (by simp) T (hno _ (by simp)) look2).mono Ez) (ea_cons ((ev_gx rfl he (by simp) T (hno _ (by simp)) look3).mono Ez) ea_nil)) (by simp) rfl fun p H2 hp e2 h2 => q p H2 (fresh_back Ez hp) (Ez.trans e2) h2
  by_cases c5 : n ∈ [52]
  · have f1 : fieldsOf n = (["head"] : List Str) := by unfold fieldsOf; rw [if_neg c0, if_neg c1, if_neg c2, if_neg c3, if_neg c4, if_pos c5]
    have m1 : manyOf n = 1 := by
      simp only [List.mem_cons, List.not_mem_nil, or_false] at c5
      unfold manyOf
      rw [if_neg (by simp; omega), if_neg (by simp; omega)]
    rw [f1] at he hno
    rw [m1] at q
    refine q_when (b := false) (EvT.mono (Ex.refl H) (et_num (l := [46]) rfl (ea_cons ev_c ea_nil) (by decide) (decide_eq_false c0))) (fun z => by cases z) fun _ H1 e1 => ?_
    have E1 : Ex H H1 := e1
    refine q_when (b := false) (EvT.mono E1 (et_num (l := [47, 57, 60, 61]) rfl (ea_cons ev_c (ea_cons ev_c (ea_cons ev_c (ea_cons ev_c ea_nil)))) (by decide) (decide_eq_false c1))) (fun z => by cases z) fun _ H2 e2 => ?_
    have E2 : Ex H H2 := E1.trans e2
    refine q_when (b := false) (EvT.mono E2 (et_num (l := [48, 49]) rfl (ea_cons ev_c (ea_cons ev_c ea_nil)) (by decide) (decide_eq_false c2))) (fun z => by cases z) fun _ H3 e3 => ?_
    have E3 : Ex H H3 := E2.trans e3
    refine q_when (b := false) (EvT.mono E3 (et_num (l := [50]) rfl (ea_cons ev_c ea_nil) (by decide) (decide_eq_false c3))) (fun z => by cases z) fun _ H4 e4 => ?_
    have E4 : Ex H H4 := E3.trans e4
    refine q_when (b := false) (EvT.mono E4 (et_num (l := [51, 53, 56]) rfl (ea_cons ev_c (ea_cons ev_c (ea_cons ev_c ea_nil))) (by decide) (decide_eq_false c4))) (fun z => by cases z) fun _ H5 e5 => ?_
    have E5 : Ex H H5 := E4.trans e5
    refine q_when (b := true) (EvT.mono E5 (et_num (l := [52]) rfl (ea_cons ev_c ea_nil) (by decide) (decide_eq_true c5))) (fun _ Hz ez => ?_) (fun z => by cases z)
    have Ez : Ex H Hz := E5.trans ez
    exact ret_list (ea_cons ((ev_gx rfl he (by simp) T (hno _ (by simp)) look1).mono Ez) ea_nil) (by simp) rfl fun p H2 hp e2 h2 => q p H2 (fresh_back Ez hp) (Ez.trans e2) h2
  by_cases c6 : n ∈ [54, 55, 58, 59, 62, 65]
  · have f1 : fieldsOf n = (["node"] : List Str) := by unfold fieldsOf; rw [if_neg c0, if_neg c1, if_neg c2, if_neg c3, if_neg c4, if_neg c5, if_pos c6]
    have m1 : manyOf n = 1 := by
      simp only [List.mem_cons, List.not_mem_nil, or_false] at c6
      unfold manyOf
      rw [if_neg (by simp; omega), if_neg (by simp; omega)]
    rw [f1] at he hno
    rw [m1] at q
    refine q_when (b := false) (EvT.mono (Ex.refl H) (et_num (l := [46]) rfl (ea_cons ev_c ea_nil) (by decide) (decide_eq_false c0))) (fun z => by cases z) fun _ H1 e1 => ?_
    have E1 : Ex H H1 := e1
    refine q_when (b := false) (EvT.mono E1 (et_num (l := [47, 57, 60, 61]) rfl (ea_cons ev_c (ea_cons ev_c (ea_cons ev_c (ea_cons ev_c ea_nil)))) (by decide) (decide_eq_false c1))) (fun z => by cases z) fun _ H2 e2 => ?_
    have E2 : Ex H H2 := E1.trans e2
    refine q_when (b := false) (EvT.mono E2 (et_num (l := [48, 49]) rfl (ea_cons ev_c (ea_cons ev_c ea_nil)) (by decide) (decide_eq_false c2))) (fun z => by cases z) fun _ H3 e3 => ?_
    have E3 : Ex H H3 := E2.trans e3
    refine q_when (b := false) (EvT.mono E3 (et_num (l := [50]) rfl (ea_cons ev_c ea_nil) (by decide) (decide_eq_false c3))) (fun z => by cases z) fun _ H4 e4 => ?_
    have E4 : Ex H H4 := E3.trans e4
    refine q_when (b := false) (EvT.mono E4 (et_num (l := [51, 53, 56]) rfl (ea_cons ev_c (ea_cons ev_c (ea_cons ev_c ea_nil))) (by decide) (decide_eq_false c4))) (fun z => by cases z) fun _ H5 e5 => ?_
    have E5 : Ex H H5 := E4.trans e5
    refine q_when (b := false) (EvT.mono E5 (et_num (l := [52]) rfl (ea_cons ev_c ea_nil) (by decide) (decide_eq_false c5))) (fun z => by cases z) fun _ H6 e6 => ?_
    have E6 : Ex H H6 := E5.trans e6
    refine q_when (b := true) (EvT.mono E6 (et_num (l := [54, 55, 58, 59, 62, 65]) rfl (ea_cons ev_c (ea_cons ev_c (ea_cons ev_c (ea_cons ev_c (ea_cons ev_c (ea_cons ev_c ea_nil)))))) (by decide) (decide_eq_true c6))) (fun _ Hz ez => ?_) (fun z => by cases z)
    have Ez : Ex H Hz := E6.trans ez
    exact ret_list (ea_cons ((ev_gx rfl he (by simp) T (hno _ (by simp)) look1).mono Ez) ea_nil) (by simp) rfl fun p H2 hp e2 h2 => q p H2 (fresh_back Ez hp) (Ez.trans e2) h2
  by_cases c7 : n ∈ [63]
  · have f1 : fieldsOf n = (["count"] : List Str) := by unfold fieldsOf; rw [if_neg c0, if_neg c1, if_neg c2, if_neg c3, if_neg c4, if_neg c5, if_neg c6, if_pos c7]
    have m1 : manyOf n = 1 := by
      simp only [List.mem_cons, List.not_mem_nil, or_false] at c7
      unfold manyOf
      rw [if_neg (by simp; omega), if_neg (by simp; omega)]
    rw [f1] at he hno
    rw [m1] at q
    refine q_when (b := false) (EvT.mono (Ex.refl H) (et_num (l := [46]) rfl (ea_cons ev_c ea_nil) (by decide) (decide_eq_false c0))) (fun z => by cases z) fun _ H1 e1 => ?_
    have E1 : Ex H H1 := e1
    refine q_when (b := false) (EvT.mono E1 (et_num (l := [47, 57, 60, 61]) rfl (ea_cons ev_c (ea_cons ev_c (ea_cons ev_c (ea_cons ev_c ea_nil)))) (by decide) (decide_eq_false c1))) (fun z => by cases z) fun _ H2 e2 => ?_
    have E2 : Ex H H2 := E1.trans e2
    refine q_when (b := false) (EvT.mono E2 (et_num (l := [48, 49]) rfl (ea_cons ev_c (ea_cons ev_c ea_nil)) (by decide) (decide_eq_false c2))) (fun z => by cases z) fun _ H3 e3 => ?_
    have E3 : Ex H H3 := E2.trans e3
    refine q_when (b := false) (EvT.mono E3 (et_num (l := [50]) rfl (ea_cons ev_c ea_nil) (by decide) (decide_eq_false c3))) (fun z => by cases z) fun _ H4 e4 => ?_
    have E4 : Ex H H4 := E3.trans e4
    refine q_when (b := false) (EvT.mono E4 (et_num (l := [51, 53, 56]) rfl (ea_cons ev_c (ea_cons ev_c (ea_cons ev_c ea_nil))) (by decide) (decide_eq_false c4))) (fun z => by cases z) fun _ H5 e5 => ?_
    have E5 : Ex H H5 := E4.trans e5
    refine q_when (b := false) (EvT.mono E5 (et_num (l := [52]) rfl (ea_cons ev_c ea_nil) (by decide) (decide_eq_false c5))) (fun z => by cases z) fun _ H6 e6 => ?_
    have E6 : Ex H H6 := E5.trans e6
    refine q_when (b := false) (EvT.mono E6 (et_num (l := [54, 55, 58, 59, 62, 65]) rfl (ea_cons ev_c (ea_cons ev_c (ea_cons ev_c (ea_cons ev_c (ea_cons ev_c (ea_cons ev_c ea_nil)))))) (by decide) (decide_eq_false c6))) (fun z => by cases z) fun _ H7 e7 => ?_
    have E7 : Ex H H7 := E6.trans e7
    refine q_when (b := true) (EvT.mono E7 (et_num (l := [63]) rfl (ea_cons ev_c ea_nil) (by decide) (decide_eq_true c7))) (fun _ Hz ez => ?_) (fun z => by cases z)
    have Ez : Ex H Hz := E7.trans ez
    exact ret_list (ea_cons ((ev_gx rfl he (by simp) T (hno _ (by simp)) look1).mono Ez) ea_nil) (by simp) rfl fun p H2 hp e2 h2 => q p H2 (fresh_back Ez hp) (Ez.trans e2) h2
  by_cases c8 : n ∈ [64]
  · have f1 : fieldsOf n = (["name"] : List Str) := by unfold fieldsOf; rw [if_neg c0, if_neg c1, if_neg c2, if_neg c3, if_neg c4, if_neg c5, if_neg c6, if_neg c7, if_pos c8]
    have m1 : manyOf n = 1 := by
      simp only [List.mem_cons, List.not_mem_nil, or_false] at c8
      unfold manyOf
      rw [if_neg (by simp; omega), if_neg (by simp; omega)]
    rw [f1] at he hno
    rw [m1] at q
    refine q_when (b := false) (EvT.mono (Ex.refl H) (et_num (l := [46]) rfl (ea_cons ev_c ea_nil) (by decide) (decide_eq_false c0))) (fun z => by cases z) fun _ H1 e1 => ?_
    have E1 : Ex H H1 := e1
    refine q_when (b := false) (EvT.mono E1 (et_num (l := [47, 57, 60, 61]) rfl (ea_cons ev_c (ea_cons ev_c (ea_cons ev_c (ea_cons ev_c ea_nil)))) (by decide) (decide_eq_false c1))) (fun z => by cases z) fun _ H2 e2 => ?_
    have E2 : Ex H H2 := E1.trans e2
    refine q_when (b := false) (EvT.mono E2 (et_num (l := [48, 49]) rfl (ea_cons ev_c (ea_cons ev_c ea_nil)) (by decide) (decide_eq_false c2))) (fun z => by cases z) fun _ H3 e3 => ?_
    have E3 : Ex H H3 := E2.trans e3
    refine q_when (b := false) (EvT.mono E3 (et_num (l := [50]) rfl (ea_cons ev_c ea_nil) (by decide) (decide_eq_false c3))) (fun z => by cases z) fun _ H4 e4 => ?_
    have E4 : Ex H H4 := E3.trans e4
    refine q_when (b := false) (EvT.mono E4 (et_num (l := [51, 53, 56]) rfl (ea_cons ev_c (ea_cons ev_c (ea_cons ev_c ea_nil))) (by decide) (decide_eq_false c4))) (fun z => by cases z) fun _ H5 e5 => ?_
    have E5 : Ex H H5 := E4.trans e5
    refine q_when (b := false) (EvT.mono E5 (et_num (l := [52]) rfl (ea_cons ev_c ea_nil) (by decide) (decide_eq_false c5))) (fun z => by cases z) fun _ H6 e6 => ?_
    have E6 : Ex H H6 := E5.trans e6
    refine q_when (b := false) (EvT.mono E6 (et_num (l := [54, 55, 58, 59, 62, 65]) rfl (ea_cons ev_c (ea_cons ev_c (ea_cons ev_c (ea_cons ev_c (ea_cons ev_c (ea_cons ev_c ea_nil)))))) (by decide) (decide_eq_false c6))) (fun z => by cases z) fun _ H7 e7 => ?_
    have E7 : Ex H H7 := E6.trans e7
    refine q_when (b := false) (EvT.mono E7 (et_num (l := [63]) rfl (ea_cons ev_c ea_nil) (by decide) (decide_eq_false c7))) (fun z => by cases z) fun _ H8 e8 => ?_
    have E8 : Ex H H8 := E7.trans e8
    refine q_when (b := true) (EvT.mono E8 (et_num (l := [64]) rfl (ea_cons ev_c ea_nil) (by decide) (decide_eq_true c8))) (fun _ Hz ez => ?_) (fun z => by cases z)
    have Ez : Ex H Hz := E8.trans ez
    exact ret_list (ea_cons ((ev_gx rfl he (by simp) T (hno _ (by simp)) look1).mono Ez) ea_nil) (by simp) rfl fun p H2 hp e2 h2 => q p H2 (fresh_back Ez hp) (Ez.trans e2) h2
  have f1 : fieldsOf n = (["given"] : List Str) := by unfold fieldsOf; rw [if_neg c0, if_neg c1, if_neg c2, if_neg c3, if_neg c4, if_neg c5, if_neg c6, if_neg c7, if_neg c8]
  have m1 : manyOf n = 1 := by
    unfold manyOf
    rw [if_neg c1, if_neg c4]
  rw [f1] at he hno
  rw [m1] at q
  refine q_when (b := false) (EvT.mono (Ex.refl H) (et_num (l := [46]) rfl (ea_cons ev_c ea_nil) (by decide) (decide_eq_false c0))) (fun z => by cases z) fun _ H1 e1 => ?_
  have E1 : Ex H H1 := e1
  refine q_when (b := false) (EvT.mono E1 (et_num (l := [47, 57, 60, 61]) rfl (ea_cons ev_c (ea_cons ev_c (ea_cons ev_c (ea_cons ev_c ea_nil)))) (by decide) (decide_eq_false c1))) (fun z => by cases z) fun _ H2 e2 => ?_
  have E2 : Ex H H2 := E1.trans e2
  refine q_when (b := false) (EvT.mono E2 (et_num (l := [48, 49]) rfl (ea_cons ev_c (ea_cons ev_c ea_nil)) (by decide) (decide_eq_false c2))) (fun z => by cases z) fun _ H3 e3 => ?_
  have E3 : Ex H H3 := E2.trans e3
  refine q_when (b := false) (EvT.mono E3 (et_num (l := [50]) rfl (ea_cons ev_c ea_nil) (by decide) (decide_eq_false c3))) (fun z => by cases z) fun _ H4 e4 => ?_
  have E4 : Ex H H4 := E3.trans e4
  refine q_when (b := false) (EvT.mono E4 (et_num (l := [51, 53, 56]) rfl (ea_cons ev_c (ea_cons ev_c (ea_cons ev_c ea_nil))) (by decide) (decide_eq_false c4))) (fun z => by cases z) fun _ H5 e5 => ?_
  have E5 : Ex H H5 := E4.trans e5
  refine q_when (b := false) (EvT.mono E5 (et_num (l := [52]) rfl (ea_cons ev_c ea_nil) (by decide) (decide_eq_false c5))) (fun z => by cases z) fun _ H6 e6 => ?_
  have E6 : Ex H H6 := E5.trans e6
  refine q_when (b := false) (EvT.mono E6 (et_num (l := [54, 55, 58, 59, 62, 65]) rfl (ea_cons ev_c (ea_cons ev_c (ea_cons ev_c (ea_cons ev_c (ea_cons ev_c (ea_cons ev_c ea_nil)))))) (by decide) (decide_eq_false c6))) (fun z => by cases z) fun _ H7 e7 => ?_
  have E7 : Ex H H7 := E6.trans e7
  refine q_when (b := false) (EvT.mono E7 (et_num (l := [63]) rfl (ea_cons ev_c ea_nil) (by decide) (decide_eq_false c7))) (fun z => by cases z) fun _ H8 e8 => ?_
  have E8 : Ex H H8 := E7.trans e8
  refine q_when (b := false) (EvT.mono E8 (et_num (l := [64]) rfl (ea_cons ev_c ea_nil) (by decide) (decide_eq_false c8))) (fun z => by cases z) fun _ H9 e9 => ?_
  have E9 : Ex H H9 := E8.trans e9
  have Ez : Ex H H9 := E9
  exact ret_list (ea_cons ((ev_gx rfl he (by simp) T (hno _ (by simp)) look1).mono Ez) ea_nil) (by simp) rfl fun p H2 hp e2 h2 => q p H2 (fresh_back Ez hp) (Ez.trans e2) h2
end
end Lw

set_option maxHeartbeats 8000000
namespace Lw
open PySem PySem.Spec PyProof.Rows L2 Evl
section
variable {K : PySem.W.Frag} {vs : List V} {H : Hp} {Q : VK} {E : XK}
theorem pure_law_value_len (h : spValue vs H Q E) : vs.length = ["box"].length := by
  obtain ⟨p, n, rfl, _⟩ := h
  rfl
theorem sz15 : 15 ≤ sizeLine := by rw [sizeLine_eq]; decide
theorem sz2 : 2 ≤ sizeLine := by rw [sizeLine_eq]; decide
theorem sz1 : 1 ≤ sizeLine := by rw [sizeLine_eq]; decide
theorem pure_law_value (h : spValue vs H Q E) : t__law_value K { nx := fun _ H' => Q .non H', rt := Q } (start N__law_value vs) H := by
  obtain ⟨p, n, rfl, hb, hn, q⟩ := h
  show t__law_value K _ [some (.ref p)] H
  refine ⟨5, rfl, _, _, rfl, rfl, ⟨by decide, by decide, by decide⟩, Nat.zero_le _, fun a8 h8 => ⟨sz1, fun b9 hb9 => ⟨sz2, fun a9 h9 => ⟨sz2, fun a10 h10 a11 h11 a12 h12 => ⟨sz1, fun b12 hb12 => ?_⟩⟩⟩⟩⟩
  have n12 : a12 ≠ b12 := ne_of_none upd_same hb12
  refine ⟨by rw [upd_ne n12, upd_same], [(Sum.inr "a", .ref b12)], rfl, (by show 1 ≤ 15; decide), sz1, fun a13 h13 => ⟨Nat.zero_le _, fun b14 hb14 => ⟨sz1, fun a14 h14 => ⟨sz15, fun L hL => ?_⟩⟩⟩⟩
  have e8 := Ex.new (o := .lst []) h8
  have eb9 := Ex.new (o := .lst [.int 2]) hb9
  have e9 := Ex.new (o := .lst [.int 1, .ref b9]) h9
  have e10 := Ex.new (o := .tup [.int 1, .str "a"]) h10
  have e11 := Ex.new (o := .dK []) h11
  have e12 := Ex.new (o := .dK []) h12
  have eb12 := Ex.new (o := .lst [.int 1]) hb12
  have e12' := Ex.mut (o := .dK (mergeK [] [(Sum.inr "a", V.ref b12)])) (e12.trans eb12) h12
  have e13 := Ex.new (o := .lst [.non]) h13
  have eb14 := Ex.new (o := .tup []) hb14
  have e14 := Ex.new (o := .tup [.ref b14]) h14
  have eL := Ex.new (o := .lst [.non, .bl true, .bl false, .int 0, .int (-5), .int (10 ^ (20 : Int).toNat), .str "", .str "x", .ref a8, .ref a9, .ref a10, .ref a11, .ref a12, .ref a13, .ref a14]) hL
  have f14 := e14.trans eL
  have fb14 := eb14.trans f14
  have f13 := e13.trans fb14
  have fb12 : Ex _ _ := f13
  have f11 := e12'.trans f13
  have f10 := e11.trans f11
  have f9 := e10.trans f10
  have fb9 := e9.trans f9
  have f8 := eb9.trans fb9
  have f0 := e8.trans f8
  refine ⟨_, rfl, p, n, 15, rfl, hb.ex f0, hn, by decide, by decide, fun r H' r0 r1 eB bx => ?_⟩
  have hp : ∃ o, H p = some o := by
    obtain ⟨a, b, m, c, h, _⟩ := hb
    exact ⟨_, h⟩
  obtain ⟨op, hp⟩ := hp
  have np : ∀ {a : Addr}, H a = none → a ≠ p := fun {a} h z => by
    rw [z, hp] at h
    cases h
  -- fresh at the entry
  have z8 : H a8 = none := h8
  have zb9 : H b9 = none := fresh_back e8 hb9
  have z9 : H a9 = none := fresh_back (e8.trans eb9) h9
  have z10 : H a10 = none := fresh_back ((e8.trans eb9).trans e9) h10
  have z11 : H a11 = none := fresh_back (((e8.trans eb9).trans e9).trans e10) h11
  have z12 : H a12 = none := fresh_back ((((e8.trans eb9).trans e9).trans e10).trans e11) h12
  have zb12 : H b12 = none := fresh_back (((((e8.trans eb9).trans e9).trans e10).trans e11).trans e12) hb12
  have E12 := ((((e8.trans eb9).trans e9).trans e10).trans e11).trans e12'
  have z13 : H a13 = none := fresh_back E12 h13
  have zb14 : H b14 = none := fresh_back (E12.trans e13) hb14
  have z14 : H a14 = none := fresh_back ((E12.trans e13).trans eb14) h14
  have zL : H L = none := fresh_back (((E12.trans e13).trans eb14).trans e14) hL
  -- what stands there now
  have k8 := eB _ _ (np z8) (f8 _ _ upd_same)
  have kb9 := eB _ _ (np zb9) (fb9 _ _ upd_same)
  have k9 := eB _ _ (np z9) (f9 _ _ upd_same)
  have k10 := eB _ _ (np z10) (f10 _ _ upd_same)
  have k11 := eB _ _ (np z11) (f11 _ _ upd_same)
  have k12 := eB _ _ (np z12) (f13 _ _ upd_same)
  have kb12 := eB _ _ (np zb12) (f13 b12 (.lst [.int 1]) (by rw [upd_ne (Ne.symm n12)]; exact upd_same))
  have k13 := eB _ _ (np z13) (fb14 _ _ upd_same)
  have kb14 := eB _ _ (np zb14) (f14 _ _ upd_same)
  have k14 := eB _ _ (np z14) (eL _ _ upd_same)
  have kL := eB _ _ (np zL) upd_same
  have n9 : b9 ≠ a9 := ne_of_none upd_same h9
  have n14 : b14 ≠ a14 := ne_of_none upd_same h14
  have fin : ∀ (j : Nat) (v : V) (F : List Addr), r = (j : Int) → ([V.non, .bl true, .bl false, .int 0, .int (-5), .int (10 ^ (20 : Int).toNat), .str "", .str "x", .ref a8, .ref a9, .ref a10, .ref a11, .ref a12, .ref a13, .ref a14])[j]? = some v → (∀ b ∈ F, H b = none) → FK F H' → Val 5 H' F v →
      rIxL K (.ref L) (.int r) H' fun x H2 => Q x H2 := fun j v F e hj hF hk hv => by
    subst e
    refine ⟨L, _, _, v, rfl, rfl, SqL.of kL, atI_nat hj, q v F H' (fun a o ha h => eB a o ha (f0 a o h)) bx hF hk hv⟩
  have sI : ∀ i : Int, Scal (.int i) := fun i => .inr (.inr (.inl ⟨i, rfl⟩))
  have sS : ∀ s : Str, Scal (.str s) := fun s => .inr (.inr (.inr ⟨s, rfl⟩))
  have sN : Scal .non := .inl rfl
  have sB : ∀ b, Scal (.bl b) := fun b => .inr (.inl ⟨b, rfl⟩)
  have cases15 : r = (0 : Nat) ∨ r = (1 : Nat) ∨ r = (2 : Nat) ∨ r = (3 : Nat) ∨ r = (4 : Nat) ∨ r = (5 : Nat) ∨ r = (6 : Nat) ∨ r = (7 : Nat) ∨ r = (8 : Nat) ∨ r = (9 : Nat) ∨ r = (10 : Nat) ∨ r = (11 : Nat) ∨ r = (12 : Nat) ∨ r = (13 : Nat) ∨ r = (14 : Nat) := by omega
  have no : ∀ b ∈ ([] : List Addr), H b = none := fun b h => by cases h
  have nk : FK [] H' := fun b h => by cases h
  have one1 : ∀ {a : Addr} {o : HO}, H' a = some o → plainO o = true → FK [a] H' := fun {a o} h z b hb => by
    rw [List.mem_singleton.mp hb]
    exact ⟨o, h, z⟩
  have two2 : ∀ {a b : Addr} {o u : HO}, H' a = some o → plainO o = true → H' b = some u → plainO u = true → FK [a, b] H' := fun {a b o u} h z h2 z2 c hc => by
    rcases List.mem_cons.mp hc with e | e
    · rw [e]
      exact ⟨o, h, z⟩
    · rw [List.mem_singleton.mp e]
      exact ⟨u, h2, z2⟩
  rcases cases15 with e | e | e | e | e | e | e | e | e | e | e | e | e | e | e
  · exact fin 0 _ [] e rfl no nk (.inl sN)
  · exact fin 1 _ [] e rfl no nk (.inl (sB _))
  · exact fin 2 _ [] e rfl no nk (.inl (sB _))
  · exact fin 3 _ [] e rfl no nk (.inl (sI _))
  · exact fin 4 _ [] e rfl no nk (.inl (sI _))
  · exact fin 5 _ [] e rfl no nk (.inl (sI _))
  · exact fin 6 _ [] e rfl no nk (.inl (sS _))
  · exact fin 7 _ [] e rfl no nk (.inl (sS _))
  · exact fin 8 _ [a8] e rfl (by simp [z8]) (one1 k8 rfl) (.inr (.inl ⟨a8, [], rfl, by simp, .inl k8, by simp, by simp⟩))
  · refine fin 9 _ [a9, b9] e rfl (by simp [z9, zb9]) (two2 k9 rfl kb9 rfl) (.inr (.inl ⟨a9, _, rfl, by simp, .inl k9, by simp, fun x hx => ?_⟩))
    rcases List.mem_cons.mp hx with rfl | hx
    · exact .inl (sI _)
    · have hx := List.mem_singleton.mp hx
      subst hx
      exact .inr ⟨b9, _, rfl, n9, by simp, .inl kb9, by simp, fun y hy => by rw [List.mem_singleton.mp hy]; exact sI _⟩
  · refine fin 10 _ [a10] e rfl (by simp [z10]) (one1 k10 rfl) (.inr (.inl ⟨a10, _, rfl, by simp, .inr k10, by simp, fun x hx => ?_⟩))
    rcases List.mem_cons.mp hx with rfl | hx
    · exact .inl (sI _)
    · rw [List.mem_singleton.mp hx]
      exact .inl (sS _)
  · exact fin 11 _ [a11] e rfl (by simp [z11]) (one1 k11 rfl) (.inr (.inr ⟨a11, [], rfl, by simp, k11, by simp, by simp, by simp⟩))
  · refine fin 12 _ [a12, b12] e rfl (by simp [z12, zb12]) (two2 k12 rfl kb12 rfl) (.inr (.inr ⟨a12, _, rfl, by simp, k12, (by show 1 ≤ 5; decide), (by show (([(Sum.inr "a", V.ref b12)] : List (Key × V)).map (·.1)).Nodup; simp), fun kv hkv => ?_⟩))
    have hkv := List.mem_singleton.mp (show kv ∈ [((Sum.inr "a" : Key), V.ref b12)] from hkv)
    subst hkv
    exact .inr ⟨b12, _, rfl, Ne.symm n12, by simp, .inl kb12, by simp, fun y hy => by rw [List.mem_singleton.mp hy]; exact sI _⟩
  · refine fin 13 _ [a13] e rfl (by simp [z13]) (one1 k13 rfl) (.inr (.inl ⟨a13, _, rfl, by simp, .inl k13, by simp, fun x hx => ?_⟩))
    rw [List.mem_singleton.mp hx]
    exact .inl sN
  · refine fin 14 _ [a14, b14] e rfl (by simp [z14, zb14]) (two2 k14 rfl kb14 rfl) (.inr (.inl ⟨a14, _, rfl, by simp, .inr k14, by simp, fun x hx => ?_⟩))
    rw [List.mem_singleton.mp hx]
    exact .inr ⟨b14, [], rfl, n14, by simp, .inr kb14, by simp, by simp⟩
end
end Lw

set_option maxHeartbeats 8000000
namespace Lw
open PySem PySem.Spec PyProof.Rows L2 Evl
section
variable {K : PySem.W.Frag} {vs : List V} {H H' : Hp} {Q : VK} {E : XK}
/-! ### which class -/
theorem pure_law_classes (hI : ∀ D ∈ ads, ∃ par, IsX K D par) (h : spClasses K vs H Q E) : t__law_classes K (Xk.rIsx K) { nx := fun _ H' => Q .non H', rt := Q } (start N__law_classes vs) H := by
  obtain ⟨a, C, par, rfl, hC, hp, he, q⟩ := h
  refine pure_classes (fun D hD => ?_) q
  obtain ⟨par', h'⟩ := hI D hD
  rw [ads_eq] at hD
  obtain ⟨c, hc, e⟩ := List.mem_map.mp hD
  have z := hp c hc
  rw [e] at z
  exact rc_isx hC h' z he
/-! ### alike -/
theorem pf_mono : ∀ (n : Nat) (H H1 : Hp) (v w : V), Ex H H1 → Pf n H v w → Pf n H1 v w
  | 0, _, _, _, _, _, h => h
  | n + 1, H, H1, v, w, e, h => by
    rcases h with h | ⟨a, b, xs, ys, rfl, rfl, ha, hb, h1, h2, h3⟩ | ⟨a, b, xs, ys, rfl, rfl, ha, hb, h1, h2, h3⟩ | ⟨d, kvs, rfl, rfl, hd, hl, nd, hv⟩
    · exact .inl h
    · exact .inr (.inl ⟨a, b, xs, ys, rfl, rfl, rd_mono e ha, rd_mono e hb, h1, h2, fun i x y hx hy => pf_mono n _ _ _ _ e (h3 i x y hx hy)⟩)
    · exact .inr (.inr (.inl ⟨a, b, xs, ys, rfl, rfl, rd_mono e ha, rd_mono e hb, h1, h2, fun i x y hx hy => pf_mono n _ _ _ _ e (h3 i x y hx hy)⟩))
    · refine .inr (.inr (.inr ⟨d, kvs, rfl, rfl, e _ _ hd, hl, nd, fun od kv hk => pf_mono n _ _ _ _ (fun a o h => ?_) (hv od kv hk)⟩))
      by_cases z : a = d
      · rw [z, upd_same] at h ⊢
        exact h
      · rw [upd_ne z] at h ⊢
        exact e a o h
theorem pf_scal {n : Nat} {v : V} (h : Scal v) : Pf (n + 1) H v v := .inl ⟨rfl, h⟩
theorem each_refl {P : Hp → V → V → Prop} {xs : List V} (hz : xs.length ≤ 1000) (h : ∀ x ∈ xs, P H x x) : Each P H xs xs := ⟨rfl, hz, fun i x y hx hy => by
  rw [hx] at hy
  have e := Option.some.inj hy
  subst e
  exact h x (List.mem_of_getElem? hx)⟩
theorem pf_sub {F : List Addr} {a : Addr} {x : V} (h : Sub H F a x) : Pf 2 H x x := by
  rcases h with h | ⟨b, ys, rfl, _, _, hb, hl, hs⟩
  · exact pf_scal h
  · have hE : Each (Pf 1) H ys ys := each_refl (by omega) fun y hy => pf_scal (hs y hy)
    rcases hb with hb | hb
    · exact .inr (.inl ⟨b, b, ys, ys, rfl, rfl, .inl hb, .inl hb, hE⟩)
    · exact .inr (.inr (.inl ⟨b, b, ys, ys, rfl, rfl, .inl hb, .inl hb, hE⟩))
theorem pf_val {m : Nat} {F : List Addr} {v : V} (hm : m ≤ 1000) (h : Val m H F v) : Pf 3 H v v := by
  rcases h with h | ⟨a, xs, rfl, _, ha, hl, hs⟩ | ⟨a, kvs, rfl, _, ha, hl, nd, hs⟩
  · exact pf_scal h
  · have hE : Each (Pf 2) H xs xs := each_refl (by omega) fun x hx => pf_sub (hs x hx)
    rcases ha with ha | ha
    · exact .inr (.inl ⟨a, a, xs, xs, rfl, rfl, .inl ha, .inl ha, hE⟩)
    · exact .inr (.inr (.inl ⟨a, a, xs, xs, rfl, rfl, .inl ha, .inl ha, hE⟩))
  · refine .inr (.inr (.inr ⟨a, kvs, rfl, rfl, ha, by omega, nd, fun od kv hk => pf_sub (F := F) (a := a) ?_⟩))
    rcases hs kv hk with h | ⟨b, ys, e, nb, hF, hb, hl2, h2⟩
    · exact .inl h
    · exact .inr ⟨b, ys, e, nb, hF, by rw [upd_ne nb]; exact hb, hl2, h2⟩
/-- two lists of the same values -/
theorem pf_list {p r : Addr} {xs : List V} (hp : H p = some (.lst xs)) (hr : H r = some (.lst xs)) (hz : xs.length ≤ 1000) (h : ∀ x ∈ xs, Pf 3 H x x) : Pf 4 H (.ref p) (.ref r) :=
  .inr (.inl ⟨p, r, xs, xs, rfl, rfl, .inl hp, .inl hr, each_refl hz h⟩)
/-! ### values that stay -/
theorem Sub.keep {F : List Addr} {a : Addr} {x : V} (h : Sub H F a x) (k : ∀ b ∈ F, b ≠ a → ∀ o, H b = some o → H' b = some o) : Sub H' F a x := by
  rcases h with h | ⟨b, ys, rfl, nb, hF, hb, hl, hs⟩
  · exact .inl h
  · exact .inr ⟨b, ys, rfl, nb, hF, hb.elim (fun z => .inl (k b hF nb _ z)) (fun z => .inr (k b hF nb _ z)), hl, hs⟩
theorem Val.keep {m : Nat} {F : List Addr} {v : V} (h : Val m H F v) (k : ∀ b ∈ F, ∀ o, H b = some o → H' b = some o) : Val m H' F v := by
  rcases h with h | ⟨a, xs, rfl, hF, ha, hl, hs⟩ | ⟨a, kvs, rfl, hF, ha, hl, nd, hs⟩
  · exact .inl h
  · exact .inr (.inl ⟨a, xs, rfl, hF, ha.elim (fun z => .inl (k a hF _ z)) (fun z => .inr (k a hF _ z)), hl, fun x hx => (hs x hx).keep fun b hb _ => k b hb⟩)
  · exact .inr (.inr ⟨a, kvs, rfl, hF, k a hF _ ha, hl, nd, fun kv hk => (hs kv hk).keep fun b hb _ => k b hb⟩)
theorem Val.mono {m m' : Nat} {F : List Addr} {v : V} (h : Val m H F v) (hm : m ≤ m') : Val m' H F v := by
  rcases h with h | ⟨a, xs, rfl, hF, ha, hl, hs⟩ | ⟨a, kvs, rfl, hF, ha, hl, nd, hs⟩
  · exact .inl h
  · exact .inr (.inl ⟨a, xs, rfl, hF, ha, by omega, hs⟩)
  · exact .inr (.inr ⟨a, kvs, rfl, hF, ha, by omega, nd, hs⟩)
theorem FK.keep {F : List Addr} (h : FK F H) (k : ∀ b ∈ F, ∀ o, H b = some o → H' b = some o) : FK F H' := fun b hb => by
  obtain ⟨o, h1, h2⟩ := h b hb
  exact ⟨o, k b hb o h1, h2⟩
theorem fk_upd {F : List Addr} {a : Addr} {o : HO} (h : FK F H) (ho : plainO o = true) : FK F (upd H a o) := fun b hb => by
  by_cases e : b = a
  · rw [e, upd_same]
    exact ⟨o, rfl, ho⟩
  · rw [upd_ne e]
    exact h b hb
theorem err_keep {F : List Addr} {C : Addr} {fs : List Str} {one other v : V} (h : Xk.ErrAt C fs one other H v) (hF : FK F H) (k : ∀ a o, a ∉ F → H a = some o → H' a = some o) : Xk.ErrAt C fs one other H' v := by
  have nx : ∀ {a C : Addr} {d : Option Addr}, H a = some (exo a C d) → a ∉ F := fun {a C d} h z => by
    obtain ⟨o, h1, h2⟩ := hF a z
    rw [h] at h1
    have e := Option.some.inj h1
    rw [← e] at h2
    cases (show false = true from h2)
  have nd : ∀ {a : Addr} {fs : List (Str × V)}, H a = some (exd a fs) → a ∉ F := fun {a fs} h z => by
    obtain ⟨o, h1, h2⟩ := hF a z
    rw [h] at h1
    have e := Option.some.inj h1
    rw [← e] at h2
    cases (show false = true from h2)
  obtain ⟨a, rfl, ⟨h0, h1⟩ | ⟨h0, d, h1, h2⟩⟩ := h
  · exact ⟨a, rfl, .inl ⟨h0, k _ _ (nx h1) h1⟩⟩
  · exact ⟨a, rfl, .inr ⟨h0, d, k _ _ (nx h1) h1, k _ _ (nd h2) h2⟩⟩
theorem errs_keep {F : List Addr} {one other : V} {cs : List Xk.AF} {ws : List V} (h : Xk.Errs one other H cs ws) (hF : FK F H) (k : ∀ a o, a ∉ F → H a = some o → H' a = some o) : Xk.Errs one other H' cs ws := by
  induction h with
  | nil => exact .nil
  | cons a _ ih => exact .cons (err_keep a hF k) ih
/-! ### a value grows -/
abbrev tGrow (K : PySem.W.Frag) : TS := tSeq (tIfS (tB (tCB (rIsi K) (tCons (tVar 7) (tCons (tC (.ty "list")) tNil)))) (tDrop (tBM K "list" rAppend (tVar 7) (tCons (tC (.int 7)) tNil))) tNext)
    (tIfS (tB (tCB (rIsi K) (tCons (tVar 7) (tCons (tC (.ty "dict")) tNil)))) (sDPut (tVar 7) (tC (.str "more")) (tC (.int 7))) tNext)
theorem grow_no {T : String} {D : Ends} {σ : L2.St} {v : V} (hσ : σ[7]? = some (some v)) (hT : TyX K H v (.type T)) (k1 : kitB T "list" = some false) (k2 : kitB T "dict" = some false) (k : ∀ H', Ex H H' → D.nx σ H') : tGrow K D σ H :=
  q_when (b := false) (et_ty hσ hT k1) (fun z => by cases z) fun _ H1 e1 => s_when (b := false) (EvT.mono e1 (et_ty hσ hT k2)) (fun z => by cases z) fun _ H2 e2 => k H2 (e1.trans e2)
theorem putK_nodup {kvs : List (Key × V)} {k : Key} {v : V} (nd : (kvs.map (·.1)).Nodup) : ((putK kvs k v).map (·.1)).Nodup := by
  unfold putK
  split
  · have e : (kvs.map fun kv => if kv.1 = k then (kv.1, v) else kv).map (·.1) = kvs.map (·.1) := by
      rw [List.map_map]
      refine List.map_congr_left fun p _ => ?_
      show (if p.1 = k then (p.1, v) else p).1 = p.1
      split <;> rfl
    first
      | (rw [e]; exact nd)
      | (simp only [List.map_map]; rw [List.map_map] at e; rw [e]; exact nd)
  · rename_i hn
    rw [List.map_append]
    refine List.nodup_append.mpr ⟨nd, by simp, fun a ha b hb => ?_⟩
    have hb := List.mem_singleton.mp (show b ∈ [k] from hb)
    subst hb
    rintro rfl
    obtain ⟨p, hp, e⟩ := List.mem_map.mp ha
    refine hn ?_
    rw [List.any_eq_true]
    exact ⟨p, hp, by simpa using e⟩
theorem putK_mem {kvs : List (Key × V)} {k : Key} {v : V} {kv : Key × V} (h : kv ∈ putK kvs k v) : kv ∈ kvs ∨ kv.2 = v := by
  unfold putK at h
  split at h
  · obtain ⟨p, hp, e⟩ := List.mem_map.mp h
    split at e
    · exact .inr (by rw [← e])
    · exact .inl (by rw [← e]; exact hp)
  · rcases List.mem_append.mp h with h | h
    · exact .inl h
    · exact .inr (by rw [List.mem_singleton.mp h])
theorem grow {m : Nat} {F : List Addr} {v : V} {D : Ends} {σ : L2.St} (hσ : σ[7]? = some (some v)) (hF : FK F H) (h : Val m H F v) (hm : m ≤ 900) (k : ∀ H', (∀ a o, a ∉ F → H a = some o → H' a = some o) → FK F H' → Val (m + 1) H' F v → D.nx σ H') : tGrow K D σ H := by
  have stay : ∀ H', Ex H H' → D.nx σ H' := fun H' e => k H' (fun a o _ z => e a o z) (hF.keep fun b _ => e b) ((h.keep fun b _ => e b).mono (Nat.le_succ m))
  have h' := h
  rcases h' with h1 | ⟨a, xs, rfl, ha, hx, hl, hs⟩ | ⟨a, kvs, rfl, ha, hx, hl, nd, hs⟩
  · rcases h1 with rfl | ⟨b, rfl⟩ | ⟨i, rfl⟩ | ⟨s, rfl⟩
    · exact grow_no hσ (.base .non) kb_NoneType_list kb_NoneType_dict stay
    · exact grow_no hσ (.base (.bl b)) kb_bool_list kb_bool_dict stay
    · exact grow_no hσ (.base (.int i)) kb_int_list kb_int_dict stay
    · exact grow_no hσ (.base (.str s)) kb_str_list kb_str_dict stay
  · rcases hx with hx | hx
    · have T : TyX K H (.ref a) (.type "list") := .base (.lst hx)
      refine q_when (b := true) (et_ty hσ T kb_list_list) (fun _ H1 e1 => ?_) (fun z => by cases z)
      refine s_app (e1 _ _ hx) (ev_var hσ) ev_c (by omega) fun H2 e2 => ?_
      have T2 : TyX K (upd H2 a (.lst (xs ++ [.int 7]))) (.ref a) (.type "list") := .base (.lst upd_same)
      refine s_when (b := false) (et_ty hσ T2 kb_list_dict) (fun z => by cases z) fun _ H3 e3 => ?_
      have c : ∀ b o, b ≠ a → H b = some o → H3 b = some o := fun b o nb z => e3 b o (by rw [upd_ne nb]; exact e2 b o (e1 b o z))
      have hn : H3 a = some (.lst (xs ++ [.int 7])) := e3 a _ upd_same
      refine k H3 (fun b o nb z => c b o (fun e => nb (e ▸ ha)) z) (fun b hb => ?_) (.inr (.inl ⟨a, xs ++ [.int 7], rfl, ha, .inl hn, by simp; omega, fun x hx' => ?_⟩))
      · by_cases e : b = a
        · rw [e]
          exact ⟨_, hn, rfl⟩
        · obtain ⟨o, z1, z2⟩ := hF b hb
          exact ⟨o, c b o e z1, z2⟩
      · rcases List.mem_append.mp hx' with hx' | hx'
        · exact (hs x hx').keep fun b _ nb o => c b o nb
        · rw [List.mem_singleton.mp hx']
          exact .inl (.inr (.inr (.inl ⟨7, rfl⟩)))
    · exact grow_no hσ (.base (.tup hx)) kb_tuple_list kb_tuple_dict stay
  · have T : TyX K H (.ref a) (.type "dict") := .base (.dK hx)
    refine q_when (b := false) (et_ty hσ T kb_dict_list) (fun z => by cases z) fun _ H1 e1 => ?_
    refine s_when (b := true) (EvT.mono e1 (et_ty hσ T kb_dict_dict)) (fun _ H2 e2 => ?_) (fun z => by cases z)
    have hx2 := e2 _ _ (e1 _ _ hx)
    refine ⟨_, hσ, a, _, rfl, DPut.k (k := Sum.inr "more") hx2 (by rw [sizeLine_eq]; omega), ?_⟩
    have c : ∀ b o, b ≠ a → H b = some o → (upd H2 a (.dK (putK kvs (Sum.inr "more") (.int 7)))) b = some o := fun b o nb z => by
      rw [upd_ne nb]
      exact e2 b o (e1 b o z)
    refine k _ (fun b o nb z => c b o (fun e => nb (e ▸ ha)) z) (fun b hb => ?_) (.inr (.inr ⟨a, _, rfl, ha, upd_same, ?_, putK_nodup nd, fun kv hk => ?_⟩))
    · by_cases e : b = a
      · rw [e, upd_same]
        exact ⟨_, rfl, rfl⟩
      · obtain ⟨o, z1, z2⟩ := hF b hb
        exact ⟨o, c b o e z1, z2⟩
    · have z := length_putK kvs (Sum.inr "more") (.int 7)
      omega
    · rcases putK_mem hk with hk | hk
      · exact (hs kv hk).keep fun b _ nb o => c b o nb
      · rw [hk]
        exact .inl (.inr (.inr (.inl ⟨7, rfl⟩)))
end
end Lw

set_option maxHeartbeats 8000000
namespace Lw
open PySem PySem.Spec PyProof.Rows L2 Evl
section
variable {K : PySem.W.Frag} {vs : List V} {H : Hp} {Q : VK} {E : XK}
theorem pure_law_errors_right_len (h : spRight vs H Q E) : vs.length = ["box", "by_name"].length := by
  obtain ⟨p, n, b, rfl, _⟩ := h
  rfl
theorem many_le (n : Nat) : manyOf n = 0 ∨ manyOf n = 1 ∨ manyOf n = 2 := by
  unfold manyOf
  split
  · exact .inl rfl
  · split
    · exact .inr (.inr rfl)
    · exact .inr (.inl rfl)
theorem cut_many (n : Nat) (one other : V) : cutV [one, other] none (some ((manyOf n : Nat) : Int)) = [one, other].take (manyOf n) := by
  rcases many_le n with e | e | e <;> rw [e] <;> simp [cutV, HT.sIx]
/-- how it stands with the errors: what was there at H0 is kept but the box -/
structure Jr (H0 : Hp) (p : Addr) (n : Nat) (F1 F2 : List Addr) (m1 m2 : Nat) (one other : V) (l : Addr) (es : List V) (H : Hp) : Prop where
  ex : ExB p H0 H
  box : Box n p H
  v1 : Val m1 H F1 one
  v2 : Val m2 H F2 other
  k1 : FK F1 H
  k2 : FK F2 H
  lst : H l = some (.lst es)
  er : Xk.Errs one other H ecs es
theorem Jr.mono {H0 : Hp} {p : Addr} {n : Nat} {F1 F2 : List Addr} {m1 m2 : Nat} {one other : V} {l : Addr} {es : List V} {H H' : Hp} (j : Jr H0 p n F1 F2 m1 m2 one other l es H) (e : Ex H H') : Jr H0 p n F1 F2 m1 m2 one other l es H' :=
  ⟨j.ex.trans (ExB.of e), j.box.ex e, j.v1.keep fun b _ => e b, j.v2.keep fun b _ => e b, j.k1.keep fun b _ => e b, j.k2.keep fun b _ => e b, e _ _ j.lst, j.er.mono e⟩
theorem ecs_len : ecs.length = 66 := by decide +kernel
/-- what was kept is the same -/
theorem kept_same {H0 : Hp} {p : Addr} {n : Nat} {F1 F2 : List Addr} {m1 m2 : Nat} {one other : V} {l : Addr} {es : List V} (j : Jr H0 p n F1 F2 m1 m2 one other l es H) (hm1 : m1 ≤ 900) (hm2 : m2 ≤ 900) {i : Nat} (hi : i < 66) {σ : L2.St} (s2 : σ[2]? = some (some one)) (s3 : σ[3]? = some (some other))
    (s4 : σ[4]? = some (some (.ref l))) (s6 : σ[6]? = some (some (.int (i : Int)))) :
    EvT (tNot (tB (tCall (spSame (Pf 4)) [] E0 (tCons (tCall spKept [] E0 (tCons (tVar 6) (tCons (tOp (rIxL K) (tVar 4) (tVar 6)) tNil))) (tCons (tSl (rSlL K) (tLst (tCons (tVar 2) (tCons (tVar 3) tNil))) tNoPart (tPart (tCall spMany [] E0 (tCons (tVar 6) tNil)))) tNil))))) σ H false := fun H1 e1 Q q => by
  have j1 := j.mono e1
  obtain ⟨c, hc⟩ : ∃ c, ecs[i]? = some c := ⟨ecs[i]'(by rw [ecs_len]; exact hi), by simp⟩
  obtain ⟨v, hv, he⟩ := j1.er.get hc
  refine ⟨_, s6, _, s4, _, s6, l, es, _, v, rfl, rfl, SqL.of j1.lst, atI_nat hv, i, c, one, other, v, rfl, hc, he, fun p1 H2 hp1 e2 h2 => ?_⟩
  refine ⟨_, s2, _, s3, (by show 2 ≤ sizeLine; rw [sizeLine_eq]; decide), fun p2 hp2 => ?_⟩
  have e3 := Ex.new (o := .lst [one, other]) hp2
  refine ⟨_, s6, i, rfl, fun H4 e4 => ⟨_, rfl, p2, _, rfl, SqL.of (e4 _ _ upd_same), fun p3 hp3 => ?_⟩⟩
  have e5 := Ex.new (o := .lst (cutV [one, other] none (some ((manyOf i : Nat) : Int)))) hp3
  have E5 := ((e2.trans e3).trans e4).trans e5
  have j5 := j1.mono E5
  have h5 : (upd H4 p3 (.lst (cutV [one, other] none (some ((manyOf i : Nat) : Int))))) p3 = some (.lst ([one, other].take (manyOf i))) := by
    rw [upd_same, cut_many]
  have h1 := ((e3.trans e4).trans e5) _ _ h2
  refine ⟨.ref p1, .ref p3, rfl, pf_list h1 h5 (by simp; omega) fun x hx => ?_, fun H6 e6 => ⟨true, rfl, q H6 (E5.trans e6)⟩⟩
  rcases List.mem_cons.mp (List.mem_of_mem_take hx) with rfl | hx2
  · exact pf_val (by omega) j5.v1
  · rw [List.mem_singleton.mp hx2]
    exact pf_val (by omega) j5.v2
theorem pure_law_errors_right (iF : IsX K 24 []) (hI : ∀ c ∈ ecs, IsX K c.1 [.ref 24]) (h : spRight vs H Q E) : t__law_errors_right K { nx := fun _ H' => Q .non H', rt := Q } (start N__law_errors_right vs) H := by
  obtain ⟨p, n, b, rfl, hb, hn, q⟩ := h
  show t__law_errors_right K _ [some (.ref p), some (.bl b), none, none, none, none, none, none, none] H
  have hp : ∃ o, H p = some o := by
    obtain ⟨a, b, m, c, h, _⟩ := hb
    exact ⟨_, h⟩
  obtain ⟨op, hp⟩ := hp
  refine ⟨_, rfl, p, n, rfl, hb, by omega, fun one F1 H1 x1 b1 f1 k1 v1 => ?_⟩
  refine ⟨_, rfl, p, n + 1, rfl, b1, by omega, fun other F2 H2 x2 b2 f2 k2 v2 => ⟨_, _, rfl, ?_⟩⟩
  have hp1 : ∃ o, H1 p = some o := by
    obtain ⟨a, b, m, c, h, _⟩ := b1
    exact ⟨_, h⟩
  obtain ⟨op1, hp1⟩ := hp1
  have np1 : ∀ c ∈ F1, c ≠ p := fun c hc z => by
    have w := f1 c hc
    rw [z, hp] at w
    cases w
  have np2 : ∀ c ∈ F2, c ≠ p := fun c hc z => by
    have w := f2 c hc
    rw [z, hp1] at w
    cases w
  have k1' : FK F1 H2 := k1.keep fun c hc o z => x2 c o (np1 c hc) z
  have v1' : Val 5 H2 F1 one := v1.keep fun c hc o z => x2 c o (np1 c hc) z
  have dis : ∀ c ∈ F1, c ∉ F2 := fun c hc hc2 => by
    obtain ⟨o, z, _⟩ := k1 c hc
    have w := f2 c hc2
    rw [z] at w
    cases w
  show tSeq (tAsg (tIf (tB (tVar 1)) (tCall spMadeX [] E0 (tCons (tVar 2) (tCons (tVar 3) tNil))) (tCall spMadeX [] E0 (tCons (tVar 2) (tCons (tVar 3) tNil)))) (gName 4)) _ { nx := fun _ H' => Q .non H', rt := Q } [some (.ref p), some (.bl b), some one, some other, none, none, none, none, none] H2
  have key : ∀ l es H3, H2 l = none → Ex H2 H3 → H3 l = some (.lst es) → Xk.Errs one other H3 ecs es → (tSeq (tFor (iRng1 (tCons (tC (.int 2)) tNil)) (gName 5) (tSeq (tFor (iRng1 (tCons (tC (.int 66)) tNil)) (gName 6) (tIfS (tNot (tB (tCall (spSame (Pf 4)) [] E0 (tCons (tCall spKept [] E0 (tCons (tVar 6) (tCons (tOp (rIxL K) (tVar 4) (tVar 6)) tNil))) (tCons (tSl (rSlL K) (tLst (tCons (tVar 2) (tCons (tVar 3) tNil))) tNoPart (tPart (tCall spMany [] E0 (tCons (tVar 6) tNil)))) tNil))))) (tRet (tC (.bl false))) tNext))
    (tFor (iList K (tLst (tCons (tVar 2) (tCons (tVar 3) tNil)))) (gName 7) (tGrow K))))
    (tSeq (tFor (iRng1 (tCons (tC (.int 66)) tNil)) (gName 6) (tSeq (tIfS (tOr (tNot (tB (tCB (Xk.rIsx K) (tCons (tOp (rIxL K) (tVar 4) (tVar 6)) (tCons (tC (.ref 24)) tNil))))) (tNot (tB (tCB (Xk.rIsx K) (tCons (tOp (rIxL K) (tVar 4) (tVar 6)) (tCons (tC (.ty "ValueError")) tNil)))))) (tRet (tC (.bl false))) tNext)
    (tIfS (tNot (tB (tCall (spSame (Pf 4)) [] E0 (tCons (tCall (spClasses K) [] E0 (tCons (tOp (rIxL K) (tVar 4) (tVar 6)) tNil)) (tCons (tLc (iRng1 (tCons (tC (.int 66)) tNil)) (gName 8) tYes (tOp rEq (tVar 8) (tVar 6)) [8]) tNil))))) (tRet (tC (.bl false))) tNext)))
    (tRet (tC (.bl true))))) { nx := fun _ H' => Q .non H', rt := Q } [some (.ref p), some (.bl b), some one, some other, some (.ref l), none, none, none, none] H3 := by
    intro l es H3 hl e3 h3 r3
    have j3 : Jr H p (n + 2) F1 F2 5 5 one other l es H3 := ⟨(x1.trans x2).trans (ExB.of e3), b2.ex e3, v1'.keep fun c _ => e3 c, v2.keep fun c _ => e3 c, k1'.keep fun c _ => e3 c, k2.keep fun c _ => e3 c, h3, r3⟩
    have nl : ∀ {F : List Addr}, FK F H2 → l ∉ F := fun {F} hF z => by
      obtain ⟨o, w, _⟩ := hF l z
      rw [hl] at w
      cases w
    have nl1 := nl k1'
    have nl2 := nl k2
    -- for turn in range(2)
    refine q_forR1 (ea_cons ev_c ea_nil) ⟨by decide, by decide⟩ (fun i σ' H' => ∃ t nm vl k : Option V, σ' = [some (.ref p), some (.bl b), some one, some other, some (.ref l), t, nm, vl, k] ∧ Jr H p (n + 2) F1 F2 (5 + i) (5 + i) one other l es H')
      (fun H4 e4 => ⟨none, none, none, none, rfl, j3.mono e4⟩) ?_ ?_
    · rintro i σ' H' hi ⟨t, nm, vl, k, rfl, j⟩
      have hi2 : i < 2 := by omega
      -- for number in range(66)
      refine q_forR1 (ea_cons ev_c ea_nil) ⟨by decide, by decide⟩ (fun i2 σ2 H2 => ∃ nm : Option V, σ2 = [some (.ref p), some (.bl b), some one, some other, some (.ref l), some (.int (i : Int)), nm, vl, k] ∧ Ex H' H2)
        (fun H4 e4 => ⟨nm, rfl, e4⟩) ?_ ?_
      · rintro i2 σ2 H4 hi2' ⟨nm2, rfl, e4⟩
        exact s_when (b := false) (kept_same (j.mono e4) (by omega) (by omega) (i := i2) (by omega) rfl rfl rfl rfl) (fun z => by cases z) fun _ H5 e5 => ⟨_, rfl, e4.trans e5⟩
      · rintro σ2 H4 ⟨nm2, rfl, e4⟩
        have j4 := j.mono e4
        -- for value in [one, other]
        refine s_forNL (g := gName 7) (xs := [one, other]) (el_lst (ea_cons (ev_var rfl) (ea_cons (ev_var rfl) ea_nil)) (by simp))
          (fun r i3 σ3 H5 => ∃ vl : Option V, σ3 = [some (.ref p), some (.bl b), some one, some other, some (.ref l), some (.int (i : Int)), nm2, vl, k] ∧ H5 r = some (.lst [one, other]) ∧ r ∉ F1 ∧ r ∉ F2 ∧ Jr H p (n + 2) F1 F2 (if 1 ≤ i3 then 5 + (i + 1) else 5 + i) (if 2 ≤ i3 then 5 + (i + 1) else 5 + i) one other l es H5)
          ?_ ?_ ?_ ?_
        · intro r H5 hr e5 h5
          have nr : ∀ {F : List Addr}, FK F H4 → r ∉ F := fun {F} hF z => by
            obtain ⟨o, w, _⟩ := hF r z
            rw [hr] at w
            cases w
          exact ⟨vl, rfl, h5, nr j4.k1, nr j4.k2, j4.mono e5⟩
        · rintro r i3 σ3 H5 _ ⟨vl3, rfl, h5, _, _, j5⟩
          exact .inl (.inl h5)
        · rintro r i3 x σ3 H5 hx ⟨vl3, rfl, h5, nr1, nr2, j5⟩
          show tGrow K _ [some (.ref p), some (.bl b), some one, some other, some (.ref l), some (.int (i : Int)), nm2, some x, k] H5
          have hi3 : i3 < 2 := by
            have z := (List.getElem?_eq_some_iff.mp hx).1
            simpa using z
          by_cases c0 : i3 = 0
          · subst c0
            have ex1 : one = x := Option.some.inj hx
            subst ex1
            refine grow (F := F1) (m := 5 + i) rfl j5.k1 j5.v1 (by omega) fun H6 c6 k6 v6 => ?_
            refine ⟨some one, rfl, c6 r _ nr1 h5, nr1, nr2, ⟨fun a o na z => c6 a o (fun hF => ?_) (j5.ex a o na z), ?_, v6, j5.v2.keep fun c hc o z => c6 c o (fun hF => dis c hF hc) z, k6, j5.k2.keep fun c hc o z => c6 c o (fun hF => dis c hF hc) z, c6 l _ nl1 j5.lst, errs_keep j5.er j5.k1 c6⟩⟩
            · have w := f1 a hF
              rw [z] at w
              cases w
            · obtain ⟨a0, bb, m0, c0, hbx, rest⟩ := j5.box
              exact ⟨a0, bb, m0, c0, c6 p _ (fun hF => np1 p hF rfl) hbx, rest⟩
          · have c1 : i3 = 1 := by omega
            subst c1
            have ex1 : other = x := Option.some.inj hx
            subst ex1
            refine grow (F := F2) (m := 5 + i) rfl j5.k2 j5.v2 (by omega) fun H6 c6 k6 v6 => ?_
            refine ⟨some other, rfl, c6 r _ nr2 h5, nr1, nr2, ⟨fun a o na z => c6 a o (fun hF => ?_) (j5.ex a o na z), ?_, j5.v1.keep fun c hc o z => c6 c o (fun hF => dis c hc hF) z, v6, j5.k1.keep fun c hc o z => c6 c o (fun hF => dis c hc hF) z, k6, c6 l _ nl2 j5.lst, errs_keep j5.er j5.k2 c6⟩⟩
            · have w := f2 a hF
              cases q1 : H1 a with
              | none =>
                have w2 := x1 a o na z
                rw [q1] at w2
                cases w2
              | some u =>
                rw [q1] at w
                cases w
            · obtain ⟨a0, bb, m0, c0, hbx, rest⟩ := j5.box
              exact ⟨a0, bb, m0, c0, c6 p _ (fun hF => np2 p hF rfl) hbx, rest⟩
        · rintro r σ3 H5 ⟨vl3, rfl, h5, _, _, j5⟩
          exact ⟨_, _, _, _, rfl, j5⟩
    · rintro σ' H' ⟨t, nm, vl, k, rfl, j⟩
      -- for number in range(66)
      refine q_forR1 (ea_cons ev_c ea_nil) ⟨by decide, by decide⟩ (fun i2 σ2 H2 => ∃ nm k : Option V, σ2 = [some (.ref p), some (.bl b), some one, some other, some (.ref l), t, nm, vl, k] ∧ Ex H' H2)
        (fun H4 e4 => ⟨nm, k, rfl, e4⟩) ?_ ?_
      · rintro i2 σ2 H4 hi2 ⟨nm2, k2', rfl, e4⟩
        have hi : i2 < 66 := by omega
        have j4 := j.mono e4
        obtain ⟨c, hc⟩ : ∃ c, ecs[i2]? = some c := ⟨ecs[i2]'(by rw [ecs_len]; exact hi), by simp⟩
        obtain ⟨v, hv, he⟩ := j4.er.get hc
        obtain ⟨a, rfl, hin⟩ := ErrIn.of he
        have hcI := hI c (List.mem_of_getElem? hc)
        show tSeq _ _ _ [some (.ref p), some (.bl b), some one, some other, some (.ref l), t, some (.int (i2 : Int)), vl, k2'] H4
        have eM : Ev (tOp (rIxL K) (tVar 4) (tVar 6)) [some (.ref p), some (.bl b), some one, some other, some (.ref l), t, some (.int (i2 : Int)), vl, k2'] H4 (.ref a) := ev_op (ev_var rfl) (ev_var rfl) (rv_ixL (SqL.of j4.lst) (atI_nat hv))
        have r1 : Evl.RC (Xk.rIsx K) [.ref a, .ref 24] H4 (.bl true) := fun H5 e5 _ q => by
          obtain ⟨d, h1, h2⟩ := hin.mono e5
          exact ⟨a, c.1, d, .ref 24, .ref 24, true, rfl, hcI.ec, h1, h2, .own 24, by rw [kit_cc hcI iF]; simp, q H5 (Ex.refl H5)⟩
        have r2 : Evl.RC (Xk.rIsx K) [.ref a, .ty "ValueError"] H4 (.bl true) := fun H5 e5 _ q => by
          obtain ⟨d, h1, h2⟩ := hin.mono e5
          exact ⟨a, c.1, d, .ty "ValueError", .type "ValueError", true, rfl, hcI.ec, h1, h2, .ty _, kit_cv hcI, q H5 (Ex.refl H5)⟩
        refine q_when (b := false) (et_is (et_or (et_not (et_B (ev_cb (ea_cons eM (ea_cons ev_c ea_nil)) r1))) fun _ => et_not (et_B (ev_cb (ea_cons eM (ea_cons ev_c ea_nil)) r2))) rfl) (fun z => by cases z) fun _ H5 e5 => ?_
        refine s_when (b := false) (EvT.mono e5 fun H6 e6 Q q => ?_) (fun z => by cases z) fun _ H6 e6 => ⟨_, _, rfl, (e4.trans e5).trans e6⟩
        have j6 := j4.mono e6
        refine ⟨_, rfl, _, rfl, l, es, _, .ref a, rfl, rfl, SqL.of j6.lst, atI_nat hv, a, c.1, [.ref 24], rfl, hcI, fun c' hc' => ?_, hin.mono e6, fun p1 H7 hp1 e7 h7 => ?_⟩
        · have z : (ecs.all fun c => !([Value.ref 24].contains (.ref c.1))) = true := by decide +kernel
          have w := List.all_eq_true.mp z c' hc'
          simpa using w
        · have g := el_lcR1 (σ := [some (.ref p), some (.bl b), some one, some other, some (.ref l), t, some (.int (i2 : Int)), vl, k2']) (H := H7) (ta := tCons (tC (.int 66)) tNil) (te := tOp rEq (tVar 8) (tVar 6)) (t := tYes) (j := 8) (vs := [8]) (n := 66)
            (fun _ => true) (fun k => .bl (decide (k = i2))) (ea_cons ev_c ea_nil) ⟨by decide, by decide⟩ (fun _ => rfl) (fun i H1 e1 hi => fun H2 e2 Q q => q H2 (Ex.refl H2))
            (fun i H1 e1 hi _ => ev_is (ev_op (ev_var rfl) (ev_var rfl) (rv_eq rfl)) (by rw [dec_int]; congr 1; by_cases z : i = i2 <;> simp [z] <;> omega))
          refine g H7 (Ex.refl H7) _ fun p2 H8 hp2 e8 h8 => ?_
          have hw : given (66 : Int).toNat (fun _ => true) (fun k => V.bl (decide (k = i2))) = whichC c.1 := by
            have key : (List.range 66).all (fun i => decide ((match ecs[i]? with | some c => whichC c.1 | none => []) = ((List.range 66).map fun k => V.bl (decide (k = i))))) = true := by decide +kernel
            have z := of_decide_eq_true (List.all_eq_true.mp key i2 (List.mem_range.mpr hi))
            rw [hc] at z
            rw [show whichC c.1 = _ from z]
            unfold given
            rw [List.filter_eq_self.mpr (fun _ _ => rfl)] <;> rfl
          rw [hw] at h8
          refine ⟨.ref p1, .ref p2, rfl, pf_list (e8 _ _ h7) h8 (by show (ecs.map _).length ≤ 1000; rw [List.length_map, ecs_len]; decide) fun x hx => ?_, fun H9 e9 => ⟨true, rfl, q H9 ((e7.trans e8).trans e9)⟩⟩
          obtain ⟨c', _, e⟩ := List.mem_map.mp (show x ∈ ecs.map _ from hx)
          rw [← e]
          exact pf_scal (.inr (.inl ⟨_, rfl⟩))
      · rintro σ2 H4 ⟨nm2, k2', rfl, e4⟩
        have j4 := j.mono e4
        exact q H4 j4.ex j4.box
  refine ⟨_, rfl, b, rfl, ?_⟩
  cases b with
  | true => exact iteT ⟨_, rfl, _, rfl, one, other, rfl, fun l es H3 hl e3 h3 r3 => key l es H3 hl e3 h3 r3⟩
  | false => exact iteF ⟨_, rfl, _, rfl, one, other, rfl, fun l es H3 hl e3 h3 r3 => key l es H3 hl e3 h3 r3⟩
end
end Lw

set_option maxHeartbeats 4000000
namespace Lw
open PySem PySem.Spec PyProof.Rows L2 Evl
section
variable {P : Program} {w : World} {K : PySem.W.Frag} {mg : Str → Option Value} {base : Heap} {f : Addr} {fd : FuncData}
abbrev FnP (K : PySem.W.Frag) (x : Str) (st : Stmt) (f : Addr) (fd : FuncData) : Prop := FunD K x x (defArgs st) (defBody st) (defScope st) [] [] f fd
theorem ok_law_cell  (F : FnP K "_law_cell" s__law_cell f fd) (m : Free mg) : FnOk P w K mg base CX0 (0 + 1) f fd ["script", "k"] (spCell99 K) := by
  refine F.ok (CX := CX0) sc__law_cell (fun vs H Q E h => pure_law_cell_len h) (fun cdv A outer s H vs Q E hr h => ?_)
  have hu := hu_of hr
  exact ⟨t__law_cell K, PSs.nox (pss_one (ps_ret (pe_ifExp (pt_cmpR op_lt (pv 1) (pe_callB call_len (by rfl) m.len b_len (pa_cons (pv 0) pa_nil)) (nomark _)) (pe_ix ix_list (pv 0) (pv 1) (fun _ _ => rfl)) (pe_op op_add (pe_op op_mul pe_int (pv 1)) (pe_op op_mod (pe_callTy call_int1 (by rfl) m.int b_int (pa_cons (pe_callB (cr_sum rfl) (by rfl) m.sum b_sum (pa_cons (pe_slice sl_list (pv 0) po_none (po_some pe_int)) pa_nil)) pa_nil)) pe_int))))), pure_law_cell h⟩
theorem ok_law_box  (F : FnP K "_law_box" s__law_box f fd) (m : Free mg) : FnOk P w K mg base CX0 (0 + 1) f fd ["great"] spBox := by
  refine F.ok (CX := CX0) sc__law_box (fun vs H Q E h => pure_law_box_len h) (fun cdv A outer s H vs Q E hr h => ?_)
  have hu := hu_of hr
  exact ⟨t__law_box K, PSs.nox (pss_one (ps_ret (pe_lst (pa_cons (pe_callB call_abs (by rfl) m.abs b_abs (pa_cons (pv 0) pa_nil)) (pa_cons (pe_cmpR op_ge (pe_callB call_abs (by rfl) m.abs b_abs (pa_cons (pv 0) pa_nil)) (pe_op op_pow pe_int pe_int) (nomark _)) (pa_cons (pe_op op_mod (pe_callTy call_int1 (by rfl) m.int b_int (pa_cons (pe_callB call_abs (by rfl) m.abs b_abs (pa_cons (pv 0) pa_nil)) pa_nil)) pe_int) (pa_cons pe_int pa_nil))))))), pure_law_box h⟩
theorem ok_law_take  (F : FnP K "_law_take" s__law_take f fd) (m : Free mg) : FnOk P w K mg base CX0 (0 + 1) f fd ["box", "many"] spTake := by
  refine F.ok (CX := CX0) sc__law_take (fun vs H Q E h => pure_law_take_len h) (fun cdv A outer s H vs Q E hr h => ?_)
  have hu := hu_of hr
  exact ⟨t__law_take K, PSs.nox (pss_cons (ps_if (PW.pt (pw_and (pt_val (pe_ix ix_list (pv 0) pe_int (fun _ _ => rfl))) (pw_and1 (pt_cmpR op_gt (pe_ix ix_list (pv 0) pe_int (fun _ _ => rfl)) pe_int (nomark _))))) (pss_cons (ps_set (i := 2) sc__law_take.nd rfl (by first | exact Or.inl rfl | exact Or.inr rfl) (pe_op op_mod (pe_callTy call_int1 (by rfl) m.int b_int (pa_cons (pe_ix ix_list (pv 0) pe_int (fun _ _ => rfl)) pa_nil)) (pv 1)))
      (pss_cons (ps_asg (pe_op op_fdiv (pe_ix ix_list (pv 0) pe_int (fun _ _ => rfl)) (pv 1)) (pg_sub (pv 0) pe_int set_list))
      (pss_one (ps_ret (pv 2))))) pss_nil)
      (pss_cons (ps_asg (pe_op op_add (pe_ix ix_list (pv 0) pe_int (fun _ _ => rfl)) pe_int) (pg_sub (pv 0) pe_int set_list))
      (pss_cons (ps_set (i := 3) sc__law_take.nd rfl (by first | exact Or.inl rfl | exact Or.inr rfl) (pe_op op_mod (pe_callTy call_int1 (by rfl) m.int b_int (pa_cons (pe_op op_pow (pe_op op_add (pe_op op_add (pe_ix ix_list (pv 0) pe_int (fun _ _ => rfl)) (pe_op op_mul pe_int (pe_ix ix_list (pv 0) pe_int (fun _ _ => rfl)))) pe_int) pe_int) pa_nil)) pe_int))
      (pss_one (ps_ret (pe_op op_mod (pe_callTy call_int1 (by rfl) m.int b_int (pa_cons (pe_op op_fdiv (pe_op op_mod (pe_callTy call_int1 (by rfl) m.int b_int (pa_cons (pe_op op_pow (pe_op op_add (pe_op op_mul (pv 3) pe_int) (pe_op op_mul pe_int (pe_ix ix_list (pv 0) pe_int (fun _ _ => rfl)))) pe_int) pa_nil)) pe_int) pe_int) pa_nil)) (pv 1))))))), pure_law_take h⟩
theorem ok_law_same {k : Nat} {Pp : Hp → V → V → Prop} (hP : ∀ H H1 v w, Ex H H1 → Pp H v w → Pp H1 v w) (cs : Cal P w K mg base "_law_same" ["given", "due"] k (spSame Pp)) (F : FnP K "_law_same" s__law_same f fd) (m : Free mg) : FnOk P w K mg base CX0 (k + 1) f fd ["given", "due"] (spSame (StepP Pp)) := by
  refine F.ok (CX := CX0) sc__law_same (fun vs H Q E h => pure_law_same_len h) (fun cdv A outer s H vs Q E hr h => ?_)
  have hu := hu_of hr
  exact ⟨t__law_same K Pp, PSs.nox (pss_cons (ps_if (PW.pt (pw_or (pt_cmpR op_isN (pv 1) pe_non (nomark _)) (pw_or1 (pt_val (pe_callB call_isi (by rfl) m.isi b_isi (pa_cons (pv 1) (pa_cons (n_bool m) pa_nil))))))) (pss_one (ps_ret (pe_ifExp (pt_cmpR op_isN (pv 1) pe_non (nomark _)) (pe_cmpR op_isN (pv 0) pe_non (nomark _)) (pe_and (pe_callB call_isi (by rfl) m.isi b_isi (pa_cons (pv 0) (pa_cons (n_bool m) pa_nil))) (pe_one (pe_cmpR op_eq (pe_cmpR op_isBl (pv 0) pe_bl (nomark _)) (pe_cmpR op_isBl (pv 1) pe_bl (nomark _)) (nomark _))))))) pss_nil)
      (pss_cons (ps_if (pt_val (pe_callB call_isi (by rfl) m.isi b_isi (pa_cons (pv 1) (pa_cons (n_int m) pa_nil)))) (pss_one (ps_ret (pe_and (pe_callB call_isi (by rfl) m.isi b_isi (pa_cons (pv 0) (pa_cons (n_int m) pa_nil))) (pe_and (pe_not (pe_callB call_isi (by rfl) m.isi b_isi (pa_cons (pv 0) (pa_cons (n_bool m) pa_nil)))) (pe_one (pe_cmpR op_eq (pe_op op_sub (pe_callTy call_int1 (by rfl) m.int b_int (pa_cons (pv 0) pa_nil)) (pv 1)) pe_int (nomark _))))))) pss_nil)
      (pss_cons (ps_if (pt_val (pe_callB call_isi (by rfl) m.isi b_isi (pa_cons (pv 1) (pa_cons (n_str m) pa_nil)))) (pss_one (ps_ret (pe_and (pe_callB call_isi (by rfl) m.isi b_isi (pa_cons (pv 0) (pa_cons (n_str m) pa_nil))) (pe_one (pe_cmpR op_eq (pv 0) (pv 1) (nomark _)))))) pss_nil)
      (pss_cons (ps_if (pt_val (pe_callB call_isi (by rfl) m.isi b_isi (pa_cons (pv 1) (pa_cons (n_dict m) pa_nil)))) (pss_cons (ps_if (PW.pt (pw_or (pt_not (pt_val (pe_callB call_isi (by rfl) m.isi b_isi (pa_cons (pv 0) (pa_cons (n_dict m) pa_nil))))) (pw_or1 (pt_cmpR op_ne (pe_callB (CallR.or call_len call_lenD) (by rfl) m.len b_len (pa_cons (pv 0) pa_nil)) (pe_callB (CallR.or call_len call_lenD) (by rfl) m.len b_len (pa_cons (pv 1) pa_nil)) (nomark _))))) (pss_one (ps_ret pe_bl)) pss_nil)
      (pss_one (ps_ret (pe_cmpR (op_eqD hr.units) (pe_lock (pe_lc (own := [("key", 2)]) (g := gName 2) (tt := (tOr (tB (tDNotIn (tVar 2) (tVar 0))) (tNot (tB (tCall (spSame Pp) [] E0 (tCons (tDGet (tVar 0) (tVar 2)) (tCons (tDGet (tVar 1) (tVar 2)) tNil))))))) (by rfl) sc__law_same.nd (pi_keys (pv 1)) (blkOk_by (own := [("key", 2)]) (N := N__law_same) (sc := defScope s__law_same) (by decide +kernel)) (fun _ _ _ _ _ => pg_name (i := 2) sc__law_same.nd rfl (Or.inl rfl)) (fun _ _ _ _ _ => pts_one (PW.pt (pw_or (pt_cmp (pc_dnotin hu (pv 2) (pv 0)) (by rfl)) (pw_or1 (pt_not (pt_val (pe_cal (hk := Nat.le_refl _) cs hr (pa_cons (pe_dget hu (pv 0) (pv 2) (fun _ _ => rfl)) (pa_cons (pe_dget hu (pv 1) (pv 2) (fun _ _ => rfl)) pa_nil))))))))) (fun _ _ _ _ _ => (pv 2)))) (pe_lst pa_nil) (nomark _))))) pss_nil)
      (pss_cons (ps_if (PW.pt (pw_or (pt_not (pt_val (pe_callB call_isiT (by rfl) m.isi b_isi (pa_cons (pv 1) (pa_cons (pe_tup (pa_cons (n_list m) (pa_cons (n_tuple m) pa_nil))) pa_nil))))) (pw_or1 (pt_not (pt_val (pe_callB call_isiT (by rfl) m.isi b_isi (pa_cons (pv 0) (pa_cons (pe_tup (pa_cons (n_list m) (pa_cons (n_tuple m) pa_nil))) pa_nil)))))))) (pss_one (ps_ret pe_bl)) pss_nil)
      (pss_cons (ps_if (PW.pt (pw_or (pt_cmpR op_ne (pe_callB call_isi (by rfl) m.isi b_isi (pa_cons (pv 0) (pa_cons (n_list m) pa_nil))) (pe_callB call_isi (by rfl) m.isi b_isi (pa_cons (pv 1) (pa_cons (n_list m) pa_nil))) (nomark _)) (pw_or1 (pt_cmpR op_ne (pe_callB (CallR.or call_len call_lenD) (by rfl) m.len b_len (pa_cons (pv 0) pa_nil)) (pe_callB (CallR.or call_len call_lenD) (by rfl) m.len b_len (pa_cons (pv 1) pa_nil)) (nomark _))))) (pss_one (ps_ret pe_bl)) pss_nil)
      (pss_one (ps_ret (pe_cmpR (op_eqD hr.units) (pe_lc (own := [("k", 3)]) (g := gName 3) (tt := (tNot (tB (tCall (spSame Pp) [] E0 (tCons (tOp (rIx K) (tVar 0) (tVar 3)) (tCons (tOp (rIx K) (tVar 1) (tVar 3)) tNil)))))) (by rfl) sc__law_same.nd (pi_range1 (by rfl) m.range (pa_cons (pe_callB (CallR.or call_len call_lenD) (by rfl) m.len b_len (pa_cons (pv 1) pa_nil)) pa_nil)) (blkOk_by (own := [("k", 3)]) (N := N__law_same) (sc := defScope s__law_same) (by decide +kernel)) (fun _ _ _ _ _ => pg_name (i := 3) sc__law_same.nd rfl (Or.inl rfl)) (fun _ _ _ _ _ => pts_one (pt_not (pt_val (pe_cal (hk := Nat.le_refl _) cs hr (pa_cons (pe_ix ix_seq (pv 0) (pv 3) (fun _ _ => rfl)) (pa_cons (pe_ix ix_seq (pv 1) (pv 3) (fun _ _ => rfl)) pa_nil)))))) (fun _ _ _ _ _ => (pv 3))) (pe_lst pa_nil) (nomark _)))))))))), pure_law_same hP h⟩
theorem ok_law_many  (F : FnP K "_law_many" s__law_many f fd) (m : Free mg) : FnOk P w K mg base CX0 (0 + 1) f fd ["number"] spMany := by
  refine F.ok (CX := CX0) sc__law_many (fun vs H Q E h => pure_law_many_len h) (fun cdv A outer s H vs Q E hr h => ?_)
  have hu := hu_of hr
  exact ⟨t__law_many K, PSs.nox (pss_cons (ps_par (by rfl) (i := 1) (j := 2) sc__law_many.nd rfl rfl (by decide) rfl rfl (pa_cons (pe_lst (pa_cons pe_int (pa_cons pe_int (pa_cons pe_int (pa_cons pe_int pa_nil))))) (pa_cons (pe_lst (pa_cons pe_int (pa_cons pe_int (pa_cons pe_int pa_nil)))) pa_nil)) (by rfl))
      (pss_one (ps_ret (pe_ifExp (pt_cmpR op_in_seq (pv 0) (pv 1) (by rfl)) pe_int (pe_ifExp (pt_cmpR op_in_seq (pv 0) (pv 2) (by rfl)) pe_int pe_int))))), pure_law_many h⟩
theorem ok_law_named (xa : XAll P w K mg base) (F : FnP K "_law_named" s__law_named f fd) (m : Free mg) : FnOk P w K mg base CX0 (2 + 1) f fd ["one", "other"] spMadeX := by
  refine F.ok (CX := CX0) sc__law_named (fun vs H Q E h => pure_law_named_len h) (fun cdv A outer s H vs Q E hr h => ?_)
  have hu := hu_of hr
  have hr2 := hr
  exact ⟨t__law_named K, PSs.nox (pss_cons (ps_set (i := 2) sc__law_named.nd rfl (by first | exact Or.inl rfl | exact Or.inr rfl) (pe_lst (pa_cons (Xk.pe_newK xa.e0 hr2 (pk_cons (pv 0) pk_nil)) (pa_cons (Xk.pe_newK xa.e1 hr2 (pk_cons (pv 0) pk_nil)) (pa_cons (Xk.pe_newK xa.e2 hr2 (pk_cons (pv 0) pk_nil)) (pa_cons (Xk.pe_newK xa.e3 hr2 (pk_cons (pv 0) pk_nil)) (pa_cons (Xk.pe_newK xa.e4 hr2 (pk_cons (pv 0) pk_nil)) pa_nil)))))))
      (pss_cons (ps_set (i := 2) sc__law_named.nd rfl (by first | exact Or.inl rfl | exact Or.inr rfl) (pe_op op_cat (pv 2) (pe_lst (pa_cons (Xk.pe_newK xa.e5 hr2 (pk_cons (pv 0) pk_nil)) (pa_cons (Xk.pe_newK xa.e6 hr2 (pk_cons (pv 0) pk_nil)) (pa_cons (Xk.pe_newK xa.e7 hr2 (pk_cons (pv 0) pk_nil)) (pa_cons (Xk.pe_newK xa.e8 hr2 (pk_cons (pv 0) pk_nil)) (pa_cons (Xk.pe_newK xa.e9 hr2 (pk_cons (pv 0) pk_nil)) pa_nil))))))))
      (pss_cons (ps_set (i := 2) sc__law_named.nd rfl (by first | exact Or.inl rfl | exact Or.inr rfl) (pe_op op_cat (pv 2) (pe_lst (pa_cons (Xk.pe_newK xa.e10 hr2 (pk_cons (pv 0) pk_nil)) (pa_cons (Xk.pe_newK xa.e11 hr2 (pk_cons (pv 0) pk_nil)) (pa_cons (Xk.pe_newK xa.e12 hr2 (pk_cons (pv 0) pk_nil)) (pa_cons (Xk.pe_newK xa.e13 hr2 (pk_cons (pv 0) pk_nil)) (pa_cons (Xk.pe_newK xa.e14 hr2 (pk_cons (pv 0) pk_nil)) pa_nil))))))))
      (pss_cons (ps_set (i := 2) sc__law_named.nd rfl (by first | exact Or.inl rfl | exact Or.inr rfl) (pe_op op_cat (pv 2) (pe_lst (pa_cons (Xk.pe_newK xa.e15 hr2 (pk_cons (pv 0) pk_nil)) (pa_cons (Xk.pe_newK xa.e16 hr2 (pk_cons (pv 0) pk_nil)) (pa_cons (Xk.pe_newK xa.e17 hr2 (pk_cons (pv 0) pk_nil)) (pa_cons (Xk.pe_newK xa.e18 hr2 (pk_cons (pv 0) pk_nil)) (pa_cons (Xk.pe_newK xa.e19 hr2 (pk_cons (pv 0) pk_nil)) pa_nil))))))))
      (pss_cons (ps_set (i := 2) sc__law_named.nd rfl (by first | exact Or.inl rfl | exact Or.inr rfl) (pe_op op_cat (pv 2) (pe_lst (pa_cons (Xk.pe_newK xa.e20 hr2 (pk_cons (pv 0) pk_nil)) (pa_cons (Xk.pe_newK xa.e21 hr2 (pk_cons (pv 0) pk_nil)) (pa_cons (Xk.pe_newK xa.e22 hr2 (pk_cons (pv 0) pk_nil)) (pa_cons (Xk.pe_newK xa.e23 hr2 (pk_cons (pv 0) pk_nil)) (pa_cons (Xk.pe_newK xa.e24 hr2 (pk_cons (pv 0) pk_nil)) (pa_cons (Xk.pe_newK xa.e25 hr2 (pk_cons (pv 0) pk_nil)) pa_nil)))))))))
      (pss_cons (ps_set (i := 2) sc__law_named.nd rfl (by first | exact Or.inl rfl | exact Or.inr rfl) (pe_op op_cat (pv 2) (pe_lst (pa_cons (Xk.pe_newK xa.e26 hr2 (pk_cons (pv 0) pk_nil)) (pa_cons (Xk.pe_newK xa.e27 hr2 (pk_cons (pv 0) pk_nil)) (pa_cons (Xk.pe_newK xa.e28 hr2 (pk_cons (pv 0) pk_nil)) (pa_cons (Xk.pe_newK xa.e29 hr2 (pk_cons (pv 0) pk_nil)) (pa_cons (Xk.pe_newK xa.e30 hr2 (pk_cons (pv 0) pk_nil)) pa_nil))))))))
      (pss_cons (ps_set (i := 2) sc__law_named.nd rfl (by first | exact Or.inl rfl | exact Or.inr rfl) (pe_op op_cat (pv 2) (pe_lst (pa_cons (Xk.pe_newK xa.e31 hr2 (pk_cons (pv 0) pk_nil)) (pa_cons (Xk.pe_newK xa.e32 hr2 (pk_cons (pv 0) pk_nil)) (pa_cons (Xk.pe_newK xa.e33 hr2 (pk_cons (pv 0) pk_nil)) (pa_cons (Xk.pe_newK xa.e34 hr2 (pk_cons (pv 0) pk_nil)) (pa_cons (Xk.pe_newK xa.e35 hr2 (pk_cons (pv 0) pk_nil)) pa_nil))))))))
      (pss_cons (ps_set (i := 2) sc__law_named.nd rfl (by first | exact Or.inl rfl | exact Or.inr rfl) (pe_op op_cat (pv 2) (pe_lst (pa_cons (Xk.pe_newK xa.e36 hr2 (pk_cons (pv 0) pk_nil)) (pa_cons (Xk.pe_newK xa.e37 hr2 (pk_cons (pv 0) pk_nil)) (pa_cons (Xk.pe_newK xa.e38 hr2 (pk_cons (pv 0) pk_nil)) (pa_cons (Xk.pe_newK xa.e39 hr2 (pk_cons (pv 0) pk_nil)) (pa_cons (Xk.pe_newK xa.e40 hr2 (pk_cons (pv 0) pk_nil)) (pa_cons (Xk.pe_newK xa.e41 hr2 (pk_cons (pv 0) pk_nil)) pa_nil)))))))))
      (pss_cons (ps_set (i := 2) sc__law_named.nd rfl (by first | exact Or.inl rfl | exact Or.inr rfl) (pe_op op_cat (pv 2) (pe_lst (pa_cons (Xk.pe_newK xa.e42 hr2 (pk_cons (pv 0) pk_nil)) (pa_cons (Xk.pe_newK xa.e43 hr2 (pk_cons (pv 0) pk_nil)) (pa_cons (Xk.pe_newK xa.e44 hr2 (pk_cons (pv 0) pk_nil)) (pa_cons (Xk.pe_newK xa.e45 hr2 (pk_cons (pv 0) pk_nil)) (pa_cons (Xk.pe_newK xa.e46 hr2 (pk_cons (pv 0) pk_nil)) (pa_cons (Xk.pe_new0 xa.e47) (pa_cons (Xk.pe_newK xa.e48 hr2 (pk_cons (pv 0) pk_nil)) pa_nil))))))))))
      (pss_cons (ps_set (i := 2) sc__law_named.nd rfl (by first | exact Or.inl rfl | exact Or.inr rfl) (pe_op op_cat (pv 2) (pe_lst (pa_cons (Xk.pe_newK xa.e49 hr2 (pk_cons (pv 0) pk_nil)) (pa_cons (Xk.pe_newK xa.e50 hr2 (pk_cons (pv 0) pk_nil)) (pa_cons (Xk.pe_newK xa.e51 hr2 (pk_cons (pv 1) (pk_cons (pv 0) pk_nil))) (pa_cons (Xk.pe_newK xa.e52 hr2 (pk_cons (pv 0) pk_nil)) (pa_cons (Xk.pe_newK xa.e53 hr2 (pk_cons (pv 1) (pk_cons (pv 0) pk_nil))) (pa_cons (Xk.pe_newK xa.e54 hr2 (pk_cons (pv 0) pk_nil)) pa_nil)))))))))
      (pss_cons (ps_set (i := 2) sc__law_named.nd rfl (by first | exact Or.inl rfl | exact Or.inr rfl) (pe_op op_cat (pv 2) (pe_lst (pa_cons (Xk.pe_newK xa.e55 hr2 (pk_cons (pv 0) pk_nil)) (pa_cons (Xk.pe_newK xa.e56 hr2 (pk_cons (pv 1) (pk_cons (pv 0) pk_nil))) (pa_cons (Xk.pe_new0 xa.e57) (pa_cons (Xk.pe_newK xa.e58 hr2 (pk_cons (pv 0) pk_nil)) (pa_cons (Xk.pe_newK xa.e59 hr2 (pk_cons (pv 0) pk_nil)) (pa_cons (Xk.pe_new0 xa.e60) (pa_cons (Xk.pe_new0 xa.e61) pa_nil))))))))))
      (pss_cons (ps_set (i := 2) sc__law_named.nd rfl (by first | exact Or.inl rfl | exact Or.inr rfl) (pe_op op_cat (pv 2) (pe_lst (pa_cons (Xk.pe_newK xa.e62 hr2 (pk_cons (pv 0) pk_nil)) (pa_cons (Xk.pe_newK xa.e63 hr2 (pk_cons (pv 0) pk_nil)) (pa_cons (Xk.pe_newK xa.e64 hr2 (pk_cons (pv 0) pk_nil)) (pa_cons (Xk.pe_newK xa.e65 hr2 (pk_cons (pv 0) pk_nil)) pa_nil)))))))
      (pss_one (ps_ret (pv 2))))))))))))))), pure_law_named h⟩
theorem ok_law_placed (xa : XAll P w K mg base) (F : FnP K "_law_placed" s__law_placed f fd) (m : Free mg) : FnOk P w K mg base CX0 (2 + 1) f fd ["one", "other"] spMadeX := by
  refine F.ok (CX := CX0) sc__law_placed (fun vs H Q E h => pure_law_placed_len h) (fun cdv A outer s H vs Q E hr h => ?_)
  have hu := hu_of hr
  have hr2 := hr
  exact ⟨t__law_placed K, PSs.nox (pss_cons (ps_set (i := 2) sc__law_placed.nd rfl (by first | exact Or.inl rfl | exact Or.inr rfl) (pe_lst (pa_cons (Xk.pe_new xa.e0 hr2 (pa_cons (pv 0) pa_nil)) (pa_cons (Xk.pe_new xa.e1 hr2 (pa_cons (pv 0) pa_nil)) (pa_cons (Xk.pe_new xa.e2 hr2 (pa_cons (pv 0) pa_nil)) (pa_cons (Xk.pe_new xa.e3 hr2 (pa_cons (pv 0) pa_nil)) (pa_cons (Xk.pe_new xa.e4 hr2 (pa_cons (pv 0) pa_nil)) (pa_cons (Xk.pe_new xa.e5 hr2 (pa_cons (pv 0) pa_nil)) (pa_cons (Xk.pe_new xa.e6 hr2 (pa_cons (pv 0) pa_nil)) pa_nil)))))))))
      (pss_cons (ps_set (i := 2) sc__law_placed.nd rfl (by first | exact Or.inl rfl | exact Or.inr rfl) (pe_op op_cat (pv 2) (pe_lst (pa_cons (Xk.pe_new xa.e7 hr2 (pa_cons (pv 0) pa_nil)) (pa_cons (Xk.pe_new xa.e8 hr2 (pa_cons (pv 0) pa_nil)) (pa_cons (Xk.pe_new xa.e9 hr2 (pa_cons (pv 0) pa_nil)) (pa_cons (Xk.pe_new xa.e10 hr2 (pa_cons (pv 0) pa_nil)) (pa_cons (Xk.pe_new xa.e11 hr2 (pa_cons (pv 0) pa_nil)) (pa_cons (Xk.pe_new xa.e12 hr2 (pa_cons (pv 0) pa_nil)) (pa_cons (Xk.pe_new xa.e13 hr2 (pa_cons (pv 0) pa_nil)) pa_nil))))))))))
      (pss_cons (ps_set (i := 2) sc__law_placed.nd rfl (by first | exact Or.inl rfl | exact Or.inr rfl) (pe_op op_cat (pv 2) (pe_lst (pa_cons (Xk.pe_new xa.e14 hr2 (pa_cons (pv 0) pa_nil)) (pa_cons (Xk.pe_new xa.e15 hr2 (pa_cons (pv 0) pa_nil)) (pa_cons (Xk.pe_new xa.e16 hr2 (pa_cons (pv 0) pa_nil)) (pa_cons (Xk.pe_new xa.e17 hr2 (pa_cons (pv 0) pa_nil)) (pa_cons (Xk.pe_new xa.e18 hr2 (pa_cons (pv 0) pa_nil)) (pa_cons (Xk.pe_new xa.e19 hr2 (pa_cons (pv 0) pa_nil)) (pa_cons (Xk.pe_new xa.e20 hr2 (pa_cons (pv 0) pa_nil)) pa_nil))))))))))
      (pss_cons (ps_set (i := 2) sc__law_placed.nd rfl (by first | exact Or.inl rfl | exact Or.inr rfl) (pe_op op_cat (pv 2) (pe_lst (pa_cons (Xk.pe_new xa.e21 hr2 (pa_cons (pv 0) pa_nil)) (pa_cons (Xk.pe_new xa.e22 hr2 (pa_cons (pv 0) pa_nil)) (pa_cons (Xk.pe_new xa.e23 hr2 (pa_cons (pv 0) pa_nil)) (pa_cons (Xk.pe_new xa.e24 hr2 (pa_cons (pv 0) pa_nil)) (pa_cons (Xk.pe_new xa.e25 hr2 (pa_cons (pv 0) pa_nil)) (pa_cons (Xk.pe_new xa.e26 hr2 (pa_cons (pv 0) pa_nil)) (pa_cons (Xk.pe_new xa.e27 hr2 (pa_cons (pv 0) pa_nil)) (pa_cons (Xk.pe_new xa.e28 hr2 (pa_cons (pv 0) pa_nil)) pa_nil)))))))))))
      (pss_cons (ps_set (i := 2) sc__law_placed.nd rfl (by first | exact Or.inl rfl | exact Or.inr rfl) (pe_op op_cat (pv 2) (pe_lst (pa_cons (Xk.pe_new xa.e29 hr2 (pa_cons (pv 0) pa_nil)) (pa_cons (Xk.pe_new xa.e30 hr2 (pa_cons (pv 0) pa_nil)) (pa_cons (Xk.pe_new xa.e31 hr2 (pa_cons (pv 0) pa_nil)) (pa_cons (Xk.pe_new xa.e32 hr2 (pa_cons (pv 0) pa_nil)) (pa_cons (Xk.pe_new xa.e33 hr2 (pa_cons (pv 0) pa_nil)) (pa_cons (Xk.pe_new xa.e34 hr2 (pa_cons (pv 0) pa_nil)) (pa_cons (Xk.pe_new xa.e35 hr2 (pa_cons (pv 0) pa_nil)) pa_nil))))))))))
      (pss_cons (ps_set (i := 2) sc__law_placed.nd rfl (by first | exact Or.inl rfl | exact Or.inr rfl) (pe_op op_cat (pv 2) (pe_lst (pa_cons (Xk.pe_new xa.e36 hr2 (pa_cons (pv 0) pa_nil)) (pa_cons (Xk.pe_new xa.e37 hr2 (pa_cons (pv 0) pa_nil)) (pa_cons (Xk.pe_new xa.e38 hr2 (pa_cons (pv 0) pa_nil)) (pa_cons (Xk.pe_new xa.e39 hr2 (pa_cons (pv 0) pa_nil)) (pa_cons (Xk.pe_new xa.e40 hr2 (pa_cons (pv 0) pa_nil)) (pa_cons (Xk.pe_new xa.e41 hr2 (pa_cons (pv 0) pa_nil)) (pa_cons (Xk.pe_new xa.e42 hr2 (pa_cons (pv 0) pa_nil)) (pa_cons (Xk.pe_new xa.e43 hr2 (pa_cons (pv 0) pa_nil)) pa_nil)))))))))))
      (pss_cons (ps_set (i := 2) sc__law_placed.nd rfl (by first | exact Or.inl rfl | exact Or.inr rfl) (pe_op op_cat (pv 2) (pe_lst (pa_cons (Xk.pe_new xa.e44 hr2 (pa_cons (pv 0) pa_nil)) (pa_cons (Xk.pe_new xa.e45 hr2 (pa_cons (pv 0) pa_nil)) (pa_cons (Xk.pe_new xa.e46 hr2 (pa_cons (pv 0) pa_nil)) (pa_cons (Xk.pe_new0 xa.e47) (pa_cons (Xk.pe_new xa.e48 hr2 (pa_cons (pv 0) pa_nil)) (pa_cons (Xk.pe_new xa.e49 hr2 (pa_cons (pv 0) pa_nil)) (pa_cons (Xk.pe_new xa.e50 hr2 (pa_cons (pv 0) pa_nil)) (pa_cons (Xk.pe_new xa.e51 hr2 (pa_cons (pv 0) (pa_cons (pv 1) pa_nil))) (pa_cons (Xk.pe_new xa.e52 hr2 (pa_cons (pv 0) pa_nil)) pa_nil))))))))))))
      (pss_cons (ps_set (i := 2) sc__law_placed.nd rfl (by first | exact Or.inl rfl | exact Or.inr rfl) (pe_op op_cat (pv 2) (pe_lst (pa_cons (Xk.pe_new xa.e53 hr2 (pa_cons (pv 0) (pa_cons (pv 1) pa_nil))) (pa_cons (Xk.pe_new xa.e54 hr2 (pa_cons (pv 0) pa_nil)) (pa_cons (Xk.pe_new xa.e55 hr2 (pa_cons (pv 0) pa_nil)) (pa_cons (Xk.pe_new xa.e56 hr2 (pa_cons (pv 0) (pa_cons (pv 1) pa_nil))) (pa_cons (Xk.pe_new0 xa.e57) (pa_cons (Xk.pe_new xa.e58 hr2 (pa_cons (pv 0) pa_nil)) (pa_cons (Xk.pe_new xa.e59 hr2 (pa_cons (pv 0) pa_nil)) (pa_cons (Xk.pe_new0 xa.e60) (pa_cons (Xk.pe_new0 xa.e61) pa_nil))))))))))))
      (pss_cons (ps_set (i := 2) sc__law_placed.nd rfl (by first | exact Or.inl rfl | exact Or.inr rfl) (pe_op op_cat (pv 2) (pe_lst (pa_cons (Xk.pe_new xa.e62 hr2 (pa_cons (pv 0) pa_nil)) (pa_cons (Xk.pe_new xa.e63 hr2 (pa_cons (pv 0) pa_nil)) (pa_cons (Xk.pe_new xa.e64 hr2 (pa_cons (pv 0) pa_nil)) (pa_cons (Xk.pe_new xa.e65 hr2 (pa_cons (pv 0) pa_nil)) pa_nil)))))))
      (pss_one (ps_ret (pv 2)))))))))))), pure_law_placed h⟩
theorem d_law_classes (xa : XAll P w K mg base) (m : Free mg) {ri : List V → Hp → VK → Prop} {cdv : Value} {A : Around} {outer : List Env} {s : Shared} {H : Hp} {E : XK} (c : Bool) (l : List (Addr × Obj)) (xe : Value → Shared → Prop) (ci : CallR { cxOf CX0 P w K mg base N__law_classes "_law_classes" (defScope s__law_classes) f cdv A outer s H E with calm := c, pn := l, xe := xe } (.builtin "isinstance") ri) :
    PSs { cxOf CX0 P w K mg base N__law_classes "_law_classes" (defScope s__law_classes) f cdv A outer s H E with calm := c, pn := l, xe := xe } (defBody s__law_classes) (t__law_classes K ri) :=
  (pss_cons (ps_set (i := 1) sc__law_classes.nd rfl (by first | exact Or.inl rfl | exact Or.inr rfl) (pe_lst (pa_cons (pe_callB ci (by rfl) m.isi b_isi (pa_cons (pv 0) (pa_cons (pe_glob (v := .ref 44) (by rfl) xa.e0.gC rfl) pa_nil))) (pa_cons (pe_callB ci (by rfl) m.isi b_isi (pa_cons (pv 0) (pa_cons (pe_glob (v := .ref 63) (by rfl) xa.e1.gC rfl) pa_nil))) (pa_cons (pe_callB ci (by rfl) m.isi b_isi (pa_cons (pv 0) (pa_cons (pe_glob (v := .ref 82) (by rfl) xa.e2.gC rfl) pa_nil))) (pa_cons (pe_callB ci (by rfl) m.isi b_isi (pa_cons (pv 0) (pa_cons (pe_glob (v := .ref 101) (by rfl) xa.e3.gC rfl) pa_nil))) pa_nil))))))
      (pss_cons (ps_set (i := 1) sc__law_classes.nd rfl (by first | exact Or.inl rfl | exact Or.inr rfl) (pe_op op_cat (pv 1) (pe_lst (pa_cons (pe_callB ci (by rfl) m.isi b_isi (pa_cons (pv 0) (pa_cons (pe_glob (v := .ref 120) (by rfl) xa.e4.gC rfl) pa_nil))) (pa_cons (pe_callB ci (by rfl) m.isi b_isi (pa_cons (pv 0) (pa_cons (pe_glob (v := .ref 139) (by rfl) xa.e5.gC rfl) pa_nil))) (pa_cons (pe_callB ci (by rfl) m.isi b_isi (pa_cons (pv 0) (pa_cons (pe_glob (v := .ref 158) (by rfl) xa.e6.gC rfl) pa_nil))) (pa_cons (pe_callB ci (by rfl) m.isi b_isi (pa_cons (pv 0) (pa_cons (pe_glob (v := .ref 177) (by rfl) xa.e7.gC rfl) pa_nil))) pa_nil)))))))
      (pss_cons (ps_set (i := 1) sc__law_classes.nd rfl (by first | exact Or.inl rfl | exact Or.inr rfl) (pe_op op_cat (pv 1) (pe_lst (pa_cons (pe_callB ci (by rfl) m.isi b_isi (pa_cons (pv 0) (pa_cons (pe_glob (v := .ref 196) (by rfl) xa.e8.gC rfl) pa_nil))) (pa_cons (pe_callB ci (by rfl) m.isi b_isi (pa_cons (pv 0) (pa_cons (pe_glob (v := .ref 215) (by rfl) xa.e9.gC rfl) pa_nil))) (pa_cons (pe_callB ci (by rfl) m.isi b_isi (pa_cons (pv 0) (pa_cons (pe_glob (v := .ref 234) (by rfl) xa.e10.gC rfl) pa_nil))) (pa_cons (pe_callB ci (by rfl) m.isi b_isi (pa_cons (pv 0) (pa_cons (pe_glob (v := .ref 253) (by rfl) xa.e11.gC rfl) pa_nil))) pa_nil)))))))
      (pss_cons (ps_set (i := 1) sc__law_classes.nd rfl (by first | exact Or.inl rfl | exact Or.inr rfl) (pe_op op_cat (pv 1) (pe_lst (pa_cons (pe_callB ci (by rfl) m.isi b_isi (pa_cons (pv 0) (pa_cons (pe_glob (v := .ref 272) (by rfl) xa.e12.gC rfl) pa_nil))) (pa_cons (pe_callB ci (by rfl) m.isi b_isi (pa_cons (pv 0) (pa_cons (pe_glob (v := .ref 291) (by rfl) xa.e13.gC rfl) pa_nil))) (pa_cons (pe_callB ci (by rfl) m.isi b_isi (pa_cons (pv 0) (pa_cons (pe_glob (v := .ref 310) (by rfl) xa.e14.gC rfl) pa_nil))) (pa_cons (pe_callB ci (by rfl) m.isi b_isi (pa_cons (pv 0) (pa_cons (pe_glob (v := .ref 329) (by rfl) xa.e15.gC rfl) pa_nil))) pa_nil)))))))
      (pss_cons (ps_set (i := 1) sc__law_classes.nd rfl (by first | exact Or.inl rfl | exact Or.inr rfl) (pe_op op_cat (pv 1) (pe_lst (pa_cons (pe_callB ci (by rfl) m.isi b_isi (pa_cons (pv 0) (pa_cons (pe_glob (v := .ref 348) (by rfl) xa.e16.gC rfl) pa_nil))) (pa_cons (pe_callB ci (by rfl) m.isi b_isi (pa_cons (pv 0) (pa_cons (pe_glob (v := .ref 367) (by rfl) xa.e17.gC rfl) pa_nil))) (pa_cons (pe_callB ci (by rfl) m.isi b_isi (pa_cons (pv 0) (pa_cons (pe_glob (v := .ref 386) (by rfl) xa.e18.gC rfl) pa_nil))) (pa_cons (pe_callB ci (by rfl) m.isi b_isi (pa_cons (pv 0) (pa_cons (pe_glob (v := .ref 405) (by rfl) xa.e19.gC rfl) pa_nil))) pa_nil)))))))
      (pss_cons (ps_set (i := 1) sc__law_classes.nd rfl (by first | exact Or.inl rfl | exact Or.inr rfl) (pe_op op_cat (pv 1) (pe_lst (pa_cons (pe_callB ci (by rfl) m.isi b_isi (pa_cons (pv 0) (pa_cons (pe_glob (v := .ref 424) (by rfl) xa.e20.gC rfl) pa_nil))) (pa_cons (pe_callB ci (by rfl) m.isi b_isi (pa_cons (pv 0) (pa_cons (pe_glob (v := .ref 443) (by rfl) xa.e21.gC rfl) pa_nil))) (pa_cons (pe_callB ci (by rfl) m.isi b_isi (pa_cons (pv 0) (pa_cons (pe_glob (v := .ref 462) (by rfl) xa.e22.gC rfl) pa_nil))) (pa_cons (pe_callB ci (by rfl) m.isi b_isi (pa_cons (pv 0) (pa_cons (pe_glob (v := .ref 481) (by rfl) xa.e23.gC rfl) pa_nil))) pa_nil)))))))
      (pss_cons (ps_set (i := 1) sc__law_classes.nd rfl (by first | exact Or.inl rfl | exact Or.inr rfl) (pe_op op_cat (pv 1) (pe_lst (pa_cons (pe_callB ci (by rfl) m.isi b_isi (pa_cons (pv 0) (pa_cons (pe_glob (v := .ref 500) (by rfl) xa.e24.gC rfl) pa_nil))) (pa_cons (pe_callB ci (by rfl) m.isi b_isi (pa_cons (pv 0) (pa_cons (pe_glob (v := .ref 519) (by rfl) xa.e25.gC rfl) pa_nil))) (pa_cons (pe_callB ci (by rfl) m.isi b_isi (pa_cons (pv 0) (pa_cons (pe_glob (v := .ref 538) (by rfl) xa.e26.gC rfl) pa_nil))) (pa_cons (pe_callB ci (by rfl) m.isi b_isi (pa_cons (pv 0) (pa_cons (pe_glob (v := .ref 557) (by rfl) xa.e27.gC rfl) pa_nil))) pa_nil)))))))
      (pss_cons (ps_set (i := 1) sc__law_classes.nd rfl (by first | exact Or.inl rfl | exact Or.inr rfl) (pe_op op_cat (pv 1) (pe_lst (pa_cons (pe_callB ci (by rfl) m.isi b_isi (pa_cons (pv 0) (pa_cons (pe_glob (v := .ref 576) (by rfl) xa.e28.gC rfl) pa_nil))) (pa_cons (pe_callB ci (by rfl) m.isi b_isi (pa_cons (pv 0) (pa_cons (pe_glob (v := .ref 595) (by rfl) xa.e29.gC rfl) pa_nil))) (pa_cons (pe_callB ci (by rfl) m.isi b_isi (pa_cons (pv 0) (pa_cons (pe_glob (v := .ref 614) (by rfl) xa.e30.gC rfl) pa_nil))) (pa_cons (pe_callB ci (by rfl) m.isi b_isi (pa_cons (pv 0) (pa_cons (pe_glob (v := .ref 633) (by rfl) xa.e31.gC rfl) pa_nil))) pa_nil)))))))
      (pss_cons (ps_set (i := 1) sc__law_classes.nd rfl (by first | exact Or.inl rfl | exact Or.inr rfl) (pe_op op_cat (pv 1) (pe_lst (pa_cons (pe_callB ci (by rfl) m.isi b_isi (pa_cons (pv 0) (pa_cons (pe_glob (v := .ref 652) (by rfl) xa.e32.gC rfl) pa_nil))) (pa_cons (pe_callB ci (by rfl) m.isi b_isi (pa_cons (pv 0) (pa_cons (pe_glob (v := .ref 671) (by rfl) xa.e33.gC rfl) pa_nil))) (pa_cons (pe_callB ci (by rfl) m.isi b_isi (pa_cons (pv 0) (pa_cons (pe_glob (v := .ref 690) (by rfl) xa.e34.gC rfl) pa_nil))) (pa_cons (pe_callB ci (by rfl) m.isi b_isi (pa_cons (pv 0) (pa_cons (pe_glob (v := .ref 709) (by rfl) xa.e35.gC rfl) pa_nil))) pa_nil)))))))
      (pss_cons (ps_set (i := 1) sc__law_classes.nd rfl (by first | exact Or.inl rfl | exact Or.inr rfl) (pe_op op_cat (pv 1) (pe_lst (pa_cons (pe_callB ci (by rfl) m.isi b_isi (pa_cons (pv 0) (pa_cons (pe_glob (v := .ref 728) (by rfl) xa.e36.gC rfl) pa_nil))) (pa_cons (pe_callB ci (by rfl) m.isi b_isi (pa_cons (pv 0) (pa_cons (pe_glob (v := .ref 747) (by rfl) xa.e37.gC rfl) pa_nil))) (pa_cons (pe_callB ci (by rfl) m.isi b_isi (pa_cons (pv 0) (pa_cons (pe_glob (v := .ref 766) (by rfl) xa.e38.gC rfl) pa_nil))) (pa_cons (pe_callB ci (by rfl) m.isi b_isi (pa_cons (pv 0) (pa_cons (pe_glob (v := .ref 785) (by rfl) xa.e39.gC rfl) pa_nil))) pa_nil)))))))
      (pss_cons (ps_set (i := 1) sc__law_classes.nd rfl (by first | exact Or.inl rfl | exact Or.inr rfl) (pe_op op_cat (pv 1) (pe_lst (pa_cons (pe_callB ci (by rfl) m.isi b_isi (pa_cons (pv 0) (pa_cons (pe_glob (v := .ref 804) (by rfl) xa.e40.gC rfl) pa_nil))) (pa_cons (pe_callB ci (by rfl) m.isi b_isi (pa_cons (pv 0) (pa_cons (pe_glob (v := .ref 823) (by rfl) xa.e41.gC rfl) pa_nil))) (pa_cons (pe_callB ci (by rfl) m.isi b_isi (pa_cons (pv 0) (pa_cons (pe_glob (v := .ref 842) (by rfl) xa.e42.gC rfl) pa_nil))) (pa_cons (pe_callB ci (by rfl) m.isi b_isi (pa_cons (pv 0) (pa_cons (pe_glob (v := .ref 861) (by rfl) xa.e43.gC rfl) pa_nil))) pa_nil)))))))
      (pss_cons (ps_set (i := 1) sc__law_classes.nd rfl (by first | exact Or.inl rfl | exact Or.inr rfl) (pe_op op_cat (pv 1) (pe_lst (pa_cons (pe_callB ci (by rfl) m.isi b_isi (pa_cons (pv 0) (pa_cons (pe_glob (v := .ref 880) (by rfl) xa.e44.gC rfl) pa_nil))) (pa_cons (pe_callB ci (by rfl) m.isi b_isi (pa_cons (pv 0) (pa_cons (pe_glob (v := .ref 1175) (by rfl) xa.e45.gC rfl) pa_nil))) (pa_cons (pe_callB ci (by rfl) m.isi b_isi (pa_cons (pv 0) (pa_cons (pe_glob (v := .ref 899) (by rfl) xa.e46.gC rfl) pa_nil))) (pa_cons (pe_callB ci (by rfl) m.isi b_isi (pa_cons (pv 0) (pa_cons (pe_glob (v := .ref 911) (by rfl) xa.e47.gC rfl) pa_nil))) (pa_cons (pe_callB ci (by rfl) m.isi b_isi (pa_cons (pv 0) (pa_cons (pe_glob (v := .ref 930) (by rfl) xa.e48.gC rfl) pa_nil))) pa_nil))))))))
      (pss_cons (ps_set (i := 1) sc__law_classes.nd rfl (by first | exact Or.inl rfl | exact Or.inr rfl) (pe_op op_cat (pv 1) (pe_lst (pa_cons (pe_callB ci (by rfl) m.isi b_isi (pa_cons (pv 0) (pa_cons (pe_glob (v := .ref 949) (by rfl) xa.e49.gC rfl) pa_nil))) (pa_cons (pe_callB ci (by rfl) m.isi b_isi (pa_cons (pv 0) (pa_cons (pe_glob (v := .ref 968) (by rfl) xa.e50.gC rfl) pa_nil))) (pa_cons (pe_callB ci (by rfl) m.isi b_isi (pa_cons (pv 0) (pa_cons (pe_glob (v := .ref 987) (by rfl) xa.e51.gC rfl) pa_nil))) (pa_cons (pe_callB ci (by rfl) m.isi b_isi (pa_cons (pv 0) (pa_cons (pe_glob (v := .ref 1006) (by rfl) xa.e52.gC rfl) pa_nil))) (pa_cons (pe_callB ci (by rfl) m.isi b_isi (pa_cons (pv 0) (pa_cons (pe_glob (v := .ref 1025) (by rfl) xa.e53.gC rfl) pa_nil))) pa_nil))))))))
      (pss_cons (ps_set (i := 1) sc__law_classes.nd rfl (by first | exact Or.inl rfl | exact Or.inr rfl) (pe_op op_cat (pv 1) (pe_lst (pa_cons (pe_callB ci (by rfl) m.isi b_isi (pa_cons (pv 0) (pa_cons (pe_glob (v := .ref 1044) (by rfl) xa.e54.gC rfl) pa_nil))) (pa_cons (pe_callB ci (by rfl) m.isi b_isi (pa_cons (pv 0) (pa_cons (pe_glob (v := .ref 1063) (by rfl) xa.e55.gC rfl) pa_nil))) (pa_cons (pe_callB ci (by rfl) m.isi b_isi (pa_cons (pv 0) (pa_cons (pe_glob (v := .ref 1082) (by rfl) xa.e56.gC rfl) pa_nil))) (pa_cons (pe_callB ci (by rfl) m.isi b_isi (pa_cons (pv 0) (pa_cons (pe_glob (v := .ref 1094) (by rfl) xa.e57.gC rfl) pa_nil))) (pa_cons (pe_callB ci (by rfl) m.isi b_isi (pa_cons (pv 0) (pa_cons (pe_glob (v := .ref 1113) (by rfl) xa.e58.gC rfl) pa_nil))) pa_nil))))))))
      (pss_cons (ps_set (i := 1) sc__law_classes.nd rfl (by first | exact Or.inl rfl | exact Or.inr rfl) (pe_op op_cat (pv 1) (pe_lst (pa_cons (pe_callB ci (by rfl) m.isi b_isi (pa_cons (pv 0) (pa_cons (pe_glob (v := .ref 1132) (by rfl) xa.e59.gC rfl) pa_nil))) (pa_cons (pe_callB ci (by rfl) m.isi b_isi (pa_cons (pv 0) (pa_cons (pe_glob (v := .ref 1144) (by rfl) xa.e60.gC rfl) pa_nil))) (pa_cons (pe_callB ci (by rfl) m.isi b_isi (pa_cons (pv 0) (pa_cons (pe_glob (v := .ref 1156) (by rfl) xa.e61.gC rfl) pa_nil))) (pa_cons (pe_callB ci (by rfl) m.isi b_isi (pa_cons (pv 0) (pa_cons (pe_glob (v := .ref 1194) (by rfl) xa.e62.gC rfl) pa_nil))) pa_nil)))))))
      (pss_cons (ps_set (i := 1) sc__law_classes.nd rfl (by first | exact Or.inl rfl | exact Or.inr rfl) (pe_op op_cat (pv 1) (pe_lst (pa_cons (pe_callB ci (by rfl) m.isi b_isi (pa_cons (pv 0) (pa_cons (pe_glob (v := .ref 1213) (by rfl) xa.e63.gC rfl) pa_nil))) (pa_cons (pe_callB ci (by rfl) m.isi b_isi (pa_cons (pv 0) (pa_cons (pe_glob (v := .ref 1232) (by rfl) xa.e64.gC rfl) pa_nil))) (pa_cons (pe_callB ci (by rfl) m.isi b_isi (pa_cons (pv 0) (pa_cons (pe_glob (v := .ref 1251) (by rfl) xa.e65.gC rfl) pa_nil))) pa_nil))))))
      (pss_one (ps_ret (pv 1)))))))))))))))))))
theorem ok_law_classes (xa : XAll P w K mg base) (hI : ∀ D ∈ ads, ∃ par, IsX K D par) (F : FnP K "_law_classes" s__law_classes f fd) (m : Free mg) : FnOk P w K mg base CX0 (0 + 1) f fd ["error"] (spClasses K) := by
  refine F.ok (CX := CX0) sc__law_classes (fun vs H Q E h => pure_law_classes_len h) (fun cdv A outer s H vs Q E hr h => ?_)
  have hu := hu_of hr
  exact ⟨t__law_classes K (Xk.rIsx K), PSs.nox (d_law_classes xa m true [] _ Xk.call_isx), pure_law_classes hI h⟩
theorem ok_law_kept (hx : ∀ (n : Nat) (c : Xk.AF), ecs[n]? = some c → ExcC K c.1 ∧ ∀ f ∈ c.2, PySem.W.findIn K (.ref c.1) f = some none) (F : FnP K "_law_kept" s__law_kept f fd) (m : Free mg) : FnOk P w K mg base CX0 (0 + 1) f fd ["number", "error"] spKept := by
  refine F.ok (CX := CX0) sc__law_kept (fun vs H Q E h => pure_law_kept_len h) (fun cdv A outer s H vs Q E hr h => ?_)
  have hu := hu_of hr
  exact ⟨t__law_kept K, PSs.nox (pss_cons (ps_if (pt_cmpR op_in_seq (pv 0) (pe_tup (pa_cons pe_int pa_nil)) (by rfl)) (pss_one (ps_ret (pe_lst (pa_cons (Xk.pe_gx (pv 1)) pa_nil)))) pss_nil)
      (pss_cons (ps_if (pt_cmpR op_in_seq (pv 0) (pe_tup (pa_cons pe_int (pa_cons pe_int (pa_cons pe_int (pa_cons pe_int pa_nil))))) (by rfl)) (pss_one (ps_ret (pe_lst pa_nil))) pss_nil)
      (pss_cons (ps_if (pt_cmpR op_in_seq (pv 0) (pe_tup (pa_cons pe_int (pa_cons pe_int pa_nil))) (by rfl)) (pss_one (ps_ret (pe_lst (pa_cons (Xk.pe_gx (pv 1)) pa_nil)))) pss_nil)
      (pss_cons (ps_if (pt_cmpR op_in_seq (pv 0) (pe_tup (pa_cons pe_int pa_nil)) (by rfl)) (pss_one (ps_ret (pe_lst (pa_cons (Xk.pe_gx (pv 1)) pa_nil)))) pss_nil)
      (pss_cons (ps_if (pt_cmpR op_in_seq (pv 0) (pe_tup (pa_cons pe_int (pa_cons pe_int (pa_cons pe_int pa_nil)))) (by rfl)) (pss_one (ps_ret (pe_lst (pa_cons (Xk.pe_gx (pv 1)) (pa_cons (Xk.pe_gx (pv 1)) pa_nil))))) pss_nil)
      (pss_cons (ps_if (pt_cmpR op_in_seq (pv 0) (pe_tup (pa_cons pe_int pa_nil)) (by rfl)) (pss_one (ps_ret (pe_lst (pa_cons (Xk.pe_gx (pv 1)) pa_nil)))) pss_nil)
      (pss_cons (ps_if (pt_cmpR op_in_seq (pv 0) (pe_tup (pa_cons pe_int (pa_cons pe_int (pa_cons pe_int (pa_cons pe_int (pa_cons pe_int (pa_cons pe_int pa_nil))))))) (by rfl)) (pss_one (ps_ret (pe_lst (pa_cons (Xk.pe_gx (pv 1)) pa_nil)))) pss_nil)
      (pss_cons (ps_if (pt_cmpR op_in_seq (pv 0) (pe_tup (pa_cons pe_int pa_nil)) (by rfl)) (pss_one (ps_ret (pe_lst (pa_cons (Xk.pe_gx (pv 1)) pa_nil)))) pss_nil)
      (pss_cons (ps_if (pt_cmpR op_in_seq (pv 0) (pe_tup (pa_cons pe_int pa_nil)) (by rfl)) (pss_one (ps_ret (pe_lst (pa_cons (Xk.pe_gx (pv 1)) pa_nil)))) pss_nil)
      (pss_one (ps_ret (pe_lst (pa_cons (Xk.pe_gx (pv 1)) pa_nil))))))))))))), pure_law_kept hx h⟩
theorem ok_law_value (ct : Cal P w K mg base "_law_take" ["box", "many"] 1 spTake) (F : FnP K "_law_value" s__law_value f fd) (m : Free mg) : FnOk P w K mg base CX0 (1 + 1) f fd ["box"] spValue := by
  refine F.ok (CX := CX0) sc__law_value (fun vs H Q E h => pure_law_value_len h) (fun cdv A outer s H vs Q E hr h => ?_)
  have hu := hu_of hr
  exact ⟨t__law_value K, PSs.nox (pss_one (ps_ret (pe_ix ix_list (pe_lst (pa_cons pe_non (pa_cons pe_bl (pa_cons pe_bl (pa_cons pe_int (pa_cons (pe_un un_neg pe_int) (pa_cons (pe_op op_pow pe_int pe_int) (pa_cons pe_str (pa_cons pe_str (pa_cons (pe_lst pa_nil) (pa_cons (pe_lst (pa_cons pe_int (pa_cons (pe_lst (pa_cons pe_int pa_nil)) pa_nil))) (pa_cons (pe_tup (pa_cons pe_int (pa_cons pe_str pa_nil))) (pa_cons pe_dnewK (pa_cons (pe_disp (pps_cons pe_str (pe_lst (pa_cons pe_int pa_nil)) pps_nil) (by rfl) (by rfl) (fun z => by cases z) (by decide)) (pa_cons (pe_lst (pa_cons pe_non pa_nil)) (pa_cons (pe_tup (pa_cons (pe_tup pa_nil) pa_nil)) pa_nil)))))))))))))))) (pe_cal ct hr (pa_cons (pv 0) (pa_cons pe_int pa_nil))) (fun _ _ => rfl)))), pure_law_value h⟩
theorem ok_law_errors_right (xa : XAll P w K mg base) (mV : mg "ValueError" = none) (iF : IsX K 24 []) (hI : ∀ c ∈ ecs, IsX K c.1 [.ref 24]) (cv : Cal P w K mg base "_law_value" ["box"] 2 spValue) (cn : Cal P w K mg base "_law_named" ["one", "other"] 3 spMadeX) (cp : Cal P w K mg base "_law_placed" ["one", "other"] 3 spMadeX) (cs : Cal P w K mg base "_law_same" ["given", "due"] 4 (spSame (Pf 4))) (ck : Cal P w K mg base "_law_kept" ["number", "error"] 1 spKept) (cm : Cal P w K mg base "_law_many" ["number"] 1 spMany) (cc : Cal P w K mg base "_law_classes" ["error"] 1 (spClasses K)) (F : FnP K "_law_errors_right" s__law_errors_right f fd) (m : Free mg) : FnOk P w K mg base CX0 (4 + 1) f fd ["box", "by_name"] spRight := by
  refine F.ok (CX := CX0) sc__law_errors_right (fun vs H Q E h => pure_law_errors_right_len h) (fun cdv A outer s H vs Q E hr h => ?_)
  have hu := hu_of hr
  exact ⟨t__law_errors_right K, PSs.nox (pss_cons (ps_par (by rfl) (i := 2) (j := 3) sc__law_errors_right.nd rfl rfl (by decide) rfl rfl (pa_cons (pe_cal cv hr (pa_cons (pv 0) pa_nil)) (pa_cons (pe_cal cv hr (pa_cons (pv 0) pa_nil)) pa_nil)) (by rfl))
      (pss_cons (ps_set (i := 4) sc__law_errors_right.nd rfl (by first | exact Or.inl rfl | exact Or.inr rfl) (pe_ifExp (pt_val (pv 1)) (pe_cal cn hr (pa_cons (pv 2) (pa_cons (pv 3) pa_nil))) (pe_cal cp hr (pa_cons (pv 2) (pa_cons (pv 3) pa_nil)))))
      (pss_cons (ps_for PassesOwn.never rfl (pi_range1 (by rfl) m.range (pa_cons pe_int pa_nil)) (pg_name (i := 5) sc__law_errors_right.nd rfl (by first | exact Or.inl rfl | exact Or.inr rfl)) (pss_cons (ps_for PassesOwn.never rfl (pi_range1 (by rfl) m.range (pa_cons pe_int pa_nil)) (pg_name (i := 6) sc__law_errors_right.nd rfl (by first | exact Or.inl rfl | exact Or.inr rfl)) (pss_one (ps_if (pt_not (pt_val (pe_cal cs hr (pa_cons (pe_cal ck hr (pa_cons (pv 6) (pa_cons (pe_ix ix_list (pv 4) (pv 6) (fun _ _ => rfl)) pa_nil))) (pa_cons (pe_slice sl_list (pe_lst (pa_cons (pv 2) (pa_cons (pv 3) pa_nil))) po_none (po_some (pe_cal cm hr (pa_cons (pv 6) pa_nil)))) pa_nil))))) (pss_one (ps_ret pe_bl)) pss_nil)))
      (pss_one (ps_for PassesOwn.never rfl (pi_list (pe_lst (pa_cons (pv 2) (pa_cons (pv 3) pa_nil)))) (pg_name (i := 7) sc__law_errors_right.nd rfl (by first | exact Or.inl rfl | exact Or.inr rfl)) (pss_cons (ps_if (pt_val (pe_callB call_isi (by rfl) m.isi b_isi (pa_cons (pv 7) (pa_cons (n_list m) pa_nil)))) (pss_one (ps_expr (pe_bm PySem.F.plainAttrs_list PySem.F.slot_list_append PySem.F.type_list_append mt_append (pv 7) (pa_cons pe_int pa_nil)))) pss_nil)
      (pss_one (ps_if (pt_val (pe_callB call_isi (by rfl) m.isi b_isi (pa_cons (pv 7) (pa_cons (n_dict m) pa_nil)))) (pss_one (ps_dput hu (pv 7) pe_str pe_int rfl)) pss_nil)))))))
      (pss_cons (ps_for PassesOwn.never rfl (pi_range1 (by rfl) m.range (pa_cons pe_int pa_nil)) (pg_name (i := 6) sc__law_errors_right.nd rfl (by first | exact Or.inl rfl | exact Or.inr rfl)) (pss_cons (ps_if (PW.pt (pw_or (pt_not (pt_val (pe_callB Xk.call_isx (by rfl) m.isi b_isi (pa_cons (pe_ix ix_list (pv 4) (pv 6) (fun _ _ => rfl)) (pa_cons (pe_glob (v := .ref 24) (by rfl) xa.eF.gC rfl) pa_nil))))) (pw_or1 (pt_not (pt_val (pe_callB Xk.call_isx (by rfl) m.isi b_isi (pa_cons (pe_ix ix_list (pv 4) (pv 6) (fun _ _ => rfl)) (pa_cons (pe_bltn (v := .ty "ValueError") (by rfl) mV b_VE rfl) pa_nil)))))))) (pss_one (ps_ret pe_bl)) pss_nil)
      (pss_one (ps_if (pt_not (pt_val (pe_cal cs hr (pa_cons (pe_cal cc hr (pa_cons (pe_ix ix_list (pv 4) (pv 6) (fun _ _ => rfl)) pa_nil)) (pa_cons (pe_lc (own := [("k", 8)]) (g := gName 8) (tt := tYes) (by rfl) sc__law_errors_right.nd (pi_range1 (by rfl) m.range (pa_cons pe_int pa_nil)) (blkOk_by (own := [("k", 8)]) (N := N__law_errors_right) (sc := defScope s__law_errors_right) (by decide +kernel)) (fun _ _ _ _ _ => pg_name (i := 8) sc__law_errors_right.nd rfl (Or.inl rfl)) (fun _ _ _ _ _ => pts_nil) (fun _ _ _ _ _ => (pe_cmpR op_eq (pv 8) (pv 6) (nomark _)))) pa_nil))))) (pss_one (ps_ret pe_bl)) pss_nil))))
      (pss_one (ps_ret pe_bl)))))), pure_law_errors_right iF hI h⟩
end
end Lw

set_option maxHeartbeats 8000000
/-! Errors raised and caught. -/
namespace Lw
open PySem PySem.Spec PyProof.Rows L2 Evl L2H
section
variable {P : Program} {w : World} {K : PySem.W.Frag} {mg : Str → Option Value} {base : Heap} {f : Addr} {fd : FuncData} {vs : List V} {H : Hp} {Q : VK} {E : XK}
/-- the classes of the exception that is handled, at a, of the class at C, its dict at d -/
def spClassesQ (K : PySem.W.Frag) (a C : Addr) (d : Option Addr) : Sp := fun vs H Q _ => ∃ par : List Value, vs = [.ref a] ∧ IsX K C par ∧ (∀ c ∈ ecs, par.contains (.ref c.1) = false) ∧ (∀ dd, d = some dd → ∃ fs, H dd = some (.xd fs)) ∧
  ∀ r H', H r = none → Ex H H' → H' r = some (.lst (whichC C)) → Q (.ref r) H'
def spClassesP (K : PySem.W.Frag) : Xk.Pin → Sp := fun p vs H Q E => ∃ (C : Addr) (d : Option Addr), Zc (.ref C) d p.2 ∧ (∃ fv, p.2.data = .fields fv) ∧ spClassesQ K p.1 C d vs H Q E
theorem kit_isx {C D : Addr} {par par' : List Value} (h : IsX K C par) (h' : IsX K D par') (hp : par.contains (.ref D) = false) : PySem.W.kitOne K (.ref C) (.ref D) = some (decide (C = D)) := by
  have z := kit_cc h h'
  rw [hp, Bool.or_false] at z
  exact z
theorem okx_law_classes (xa : XAll P w K mg base) (hI : ∀ D ∈ ads, ∃ par, IsX K D par) (F : FnP K "_law_classes" s__law_classes f fd) (m : Free mg) : Xk.FnX P w K mg base 1 f fd ["error"] (spClassesP K) := by
  refine Xk.FnX.of F sc__law_classes (fun h => ?_) (fun cd p A out s H vs Q E hr h => ?_)
  · obtain ⟨_, _, _, _, _, rfl, _⟩ := h
    rfl
  · obtain ⟨C, d, hz, hf, par, rfl, hC, hp, hd, q⟩ := h
    refine ⟨t__law_classes K (Xk.rIsp K p.1 C d), d_law_classes xa m false [p] _ (Xk.call_isp hC.ec (List.mem_cons_self ..) hz hf), ?_⟩
    refine pure_classes (a := p.1) (C := C) (fun D hD => ?_) q
    obtain ⟨par', h'⟩ := hI D hD
    rw [ads_eq] at hD
    obtain ⟨c, hc, e⟩ := List.mem_map.mp hD
    have z := hp c hc
    rw [e] at z
    exact fun H1 e1 Q q1 => ⟨.ref D, .ref D, decide (C = D), rfl, .own D, fun dd hdd => (hd dd hdd).imp fun fs h => e1 _ _ h, kit_isx hC h' z, q1 H1 (Ex.refl H1)⟩
/-! ### raised, caught -/
/-- an error is raised, it is caught as what it is -/
def spRaised : Sp := fun vs H Q _ => ∃ (p : Addr) (n : Nat), vs = [.ref p] ∧ Box n p H ∧ n ≤ 100000 ∧ ∀ H', ExB p H H' → Box (n + 2) p H' → Q (.bl true) H'
abbrev s__law_raised : Stmt := top 83
abbrev N__law_raised : List Str := ["box", "value", "e"]
theorem sc__law_raised : FnScope N__law_raised ["box"] (defScope s__law_raised) := ⟨rfl, rfl, rfl, by decide +kernel, rfl, by decide +kernel, by decide +kernel⟩
def tRz (W : WX) (C : Addr) (fs : List Str) : TS := fun _ σ H => tMkO C (Xk.spX C fs) [] (tCons (tVar 1) tNil) σ H fun cls d H' => W cls d σ H'
def tbR (W : WX) : TS := tSeq (tIfS (tTest (tOp rEq (tCall spTake [] E0 (tCons (tVar 0) (tCons (tC (.int 2)) tNil))) (tC (.int 0)))) (tRz W 481 ["given"]) tNext) (tRz W 1213 ["count"])
def tsC (K : PySem.W.Frag) (a : Addr) (d : Option Addr) (C : Addr) : TS :=
  tRet (tAndV (tCB (Xk.rIsp K a C d) (tCons (tVar 2) (tCons (tC (.ty "ValueError")) tNil))) (tOp (rIn K false) (tC (.bl true)) (tCall (spClassesQ K a C d) [] E0 (tCons (tVar 2) tNil))))
def tsR (K : PySem.W.Frag) (a : Addr) (cls : Value) (d : Option Addr) : TS := fun D σ H => ∃ C, cls = .ref C ∧ ExcC K C ∧ tsC K a d C D σ H
def t__law_raised (K : PySem.W.Frag) : TS := tSeq (tAsg (tCall spValue [] E0 (tCons (tVar 0) tNil)) (gName 1)) fun D σ H => tbR (wAs K (.ref 24) 2 (tsR K) (fun _ _ _ _ => False) D) D σ H
/-- C(e), that is raised -/
theorem pmk_xe {X : Cx} {C : Addr} {fs : List Str} {x : Str} {e : Expr} {es : List Expr} {ta : TA} {p pos : Pos} (T : Xk.XE X.prog X.w X.K X.mg X.base x C fs) (h0 : fs ≠ []) (hr : Room 2 X.A) (ha : PA X (e :: es) ta) (hg : Gl X x := by rfl)
    (hdb : (x == ("__debug__" : Str)) = false := by decide) (he : starEach (e :: es) X.env = (false, eval e X.env) :: starEach es X.env := by rfl) (hpl : (backTo pos (starEach es X.env)).any (·.1) = false := by rfl) :
    PMk X (.Call (.Name x p) (e :: es) [] pos) (tMkO C (Xk.spX C fs) [] ta) := by
  obtain ⟨fI, fd, c, b, _⟩ := T.ini h0
  exact pmk_oex (k := 1) (dvs := []) (ds := []) c.oc c.iC c.tI c.ok hr b .nil pass0 hg T.gC ha hdb he hpl
theorem pe_imp {X : Cx} {e : Expr} {t t' : TE} (h : PE X e t) (i : ∀ σ H Q, t' σ H Q → t σ H Q) : PE X e t' := ⟨fun pins s σ H Q I q => h.run pins s σ H Q I (i _ _ _ q)⟩
theorem cls_inj {C a : Addr} {oe : Obj} {d : Option Addr} (h : Zc (.ref C) d oe) (hf : ∃ fv, oe.data = .fields fv) {vs : List V} {H : Hp} {Q : VK} {E : XK} (q : spClassesQ K a C d vs H Q E) : spClassesP K (a, oe) vs H Q E := ⟨C, d, h, hf, q⟩
theorem pure_raised_with (W : WX) {p v : _} {σ : L2.St} {n : Nat} {H : Hp} {D : Ends} (h0 : σ[0]? = some (some (.ref p))) (h1 : σ[1]? = some (some v)) (hb : Box n p H) (hn : n ≤ 100001)
    (q : ∀ (C d : Addr) (fs : List (Str × V)) (H' : Hp), (C = 481 ∨ C = 1213) → ExB p H H' → Box (n + 1) p H' → H' d = some (.xd fs) → W (.ref C) (some d) σ H') : tbR W D σ H := by
  have rz : ∀ {C : Addr} {f : Str} {H1 : Hp} {D : Ends}, (C = 481 ∨ C = 1213) → ExB p H H1 → Box (n + 1) p H1 → tRz W C [f] D σ H1 := fun {C f H1 D} hC e1 b1 => by
    refine ⟨v, h1, (by show 1 ≤ 1000; decide), fun a ha => ?_⟩
    refine ⟨a, [v], rfl, rfl, upd_same, fun d hd => ⟨rfl, d, ([f].zip [v]).reverse, upd_same, ?_, ?_, ?_⟩⟩
    · have nd : d ≠ a := fun z => by
        rw [z, upd_same] at hd
        cases hd
      rw [upd_ne nd, upd_same]
    · have nd : d ≠ a := fun z => by
        rw [z, upd_same] at hd
        cases hd
      rw [upd_ne nd] at hd
      exact hd
    · have nd : d ≠ a := fun z => by
        rw [z, upd_same] at hd
        cases hd
      rw [upd_ne nd] at hd
      have ex : Ex H1 (upd (del (upd (upd (upd H1 a (exo a C none)) d (exd d ([f].zip [v]).reverse)) a (exo a C (some d))) a) d (.xd ([f].zip [v]).reverse)) := fun b o hbo => by
        have na : b ≠ a := fun z => by
          rw [z, ha] at hbo
          cases hbo
        have nb : b ≠ d := fun z => by
          rw [z, hd] at hbo
          cases hbo
        rw [upd_ne nb, del_ne na, upd_ne na, upd_ne nb, upd_ne na]
        exact hbo
      exact q C d _ _ hC (e1.trans (ExB.of ex)) (b1.ex ex) upd_same
  refine ⟨_, h0, p, n, 2, rfl, hb, by omega, by omega, by omega, fun r H1 hr0 hr2 e1 b1 => ⟨by show scal (V.int r) (V.int 0) = true; rfl, _, rfl, ?_⟩⟩
  show (if decide (V.int r = V.int 0) = true then tRz W 481 ["given"] _ σ H1 else tRz W 1213 ["count"] D σ H1)
  split
  · exact rz (.inl rfl) e1 b1
  · exact rz (.inr rfl) e1 b1
theorem caught {C d a : Addr} {fs : List (Str × V)} {σ : L2.St} {D : Ends} {par : List Value} (hC : IsX K C par) (hp : ∀ c ∈ ecs, par.contains (.ref c.1) = false) (hm : inV (.bl true) (whichC C) = true) (hd : H d = some (.xd fs))
    (h2 : σ[2]? = some (some (.ref a))) (q : ∀ H', Ex H H' → D.rt (.bl true) H') : tsR K a (.ref C) (some d) D σ H := by
  have hdd : ∀ {H1 : Hp}, Ex H H1 → ∀ dd, some d = some dd → ∃ fs, H1 dd = some (.xd fs) := fun e dd z => by
    cases z
    exact ⟨fs, e _ _ hd⟩
  refine ⟨C, rfl, hC.ec, ?_⟩
  refine ⟨_, h2, .ty "ValueError", .type "ValueError", true, rfl, .ty _, hdd (Ex.refl H), kit_cv hC, true, rfl, ?_⟩
  show tOp (rIn K false) (tC (.bl true)) (tCall (spClassesQ K a C (some d)) [] E0 (tCons (tVar 2) tNil)) σ H D.rt
  refine ⟨_, h2, par, rfl, hC, hp, hdd (Ex.refl H), fun r H1 hr e1 h1 => ?_⟩
  refine ⟨r, whichC C, rfl, .inl (SqL.of h1), rfl, ?_, ?_⟩
  · simp [whichC, flatV]
  · show D.rt (.bl (inV (.bl true) (whichC C))) H1
    rw [hm]
    exact q H1 e1
theorem pure_law_raised_len (h : spRaised vs H Q E) : vs.length = ["box"].length := by
  obtain ⟨p, n, rfl, _⟩ := h
  rfl
theorem par_no : ∀ c ∈ ecs, ([.ref 24] : List Value).contains (.ref c.1) = false := by decide +kernel
theorem pure_law_raised (hF : ∀ C : Addr, C = 481 ∨ C = 1213 → PySem.W.exmOne K (.ref C) (.ref 24) = some true) (hI : ∀ c ∈ ecs, IsX K c.1 [.ref 24]) (h : spRaised vs H Q E) : t__law_raised K { nx := fun _ H' => Q .non H', rt := Q } (start N__law_raised vs) H := by
  obtain ⟨p, n, rfl, hb, hn, q⟩ := h
  show t__law_raised K _ [some (.ref p), none, none] H
  refine ⟨_, rfl, p, n, rfl, hb, Nat.le_trans hn (by decide), fun v F H1 x1 b1 f1 k1 v1 => ?_⟩
  show tbR (wAs K (.ref 24) 2 (tsR K) (fun _ _ _ _ => False) { nx := fun _ H' => Q .non H', rt := Q }) { nx := fun _ H' => Q .non H', rt := Q } [some (.ref p), some v, none] H1
  refine pure_raised_with (n := n + 1) (H := H1) _ rfl rfl b1 (by omega) fun C d fs H2 hC e2 b2 hd => ?_
  have hc : ∃ c ∈ ecs, c.1 = C := by
    rcases hC with rfl | rfl
    · decide +kernel
    · decide +kernel
  have hw : inV (.bl true) (whichC C) = true := by
    rcases hC with rfl | rfl
    · decide +kernel
    · decide +kernel
  obtain ⟨c, hc, rfl⟩ := hc
  exact ⟨true, hF _ hC, fun _ a _ => caught (hI c hc) par_no hw hd rfl fun H3 e3 => q H3 ((x1.trans e2).trans (ExB.of e3)) (b2.ex e3), fun z => by cases z⟩
/-- the body's context may let the wish of the clause pass -/
theorem ok_law_raised (xa : XAll P w K mg base) (mV : mg "ValueError" = none) (hF : ∀ C : Addr, C = 481 ∨ C = 1213 → PySem.W.exmOne K (.ref C) (.ref 24) = some true) (hI : ∀ c ∈ ecs, IsX K c.1 [.ref 24]) (cv : Cal P w K mg base "_law_value" ["box"] 2 spValue) (ct : Cal P w K mg base "_law_take" ["box", "many"] 1 spTake)
    {fC : Addr} {fdC : FuncData} (gC : mg "_law_classes" = some (.ref fC)) (kC : PySem.W.keepIn K (.ref fC) = true) (bC : Binds K fdC ["error"] []) (FC : Xk.FnX P w K mg base 1 fC fdC ["error"] (spClassesP K))
    (F : FnP K "_law_raised" s__law_raised f fd) (m : Free mg) : FnOk P w K mg base CX0 (2 + 1) f fd ["box"] spRaised := by
  refine F.ok (CX := CX0) sc__law_raised (fun vs H Q E h => pure_law_raised_len h) (fun cdv A outer s H vs Q E hr h => ?_)
  refine ⟨t__law_raised K, PSs.nox ?_, pure_law_raised hF hI h⟩
  refine pss_cons (ps_set (i := 1) sc__law_raised.nd rfl (by first | exact Or.inl rfl | exact Or.inr rfl) (pe_cal cv hr (pa_cons (pv 0) pa_nil))) (pss_one ?_)
  refine ps_try_as (Wout := fun _ _ _ _ => False) rfl rfl sc__law_raised.nd rfl rfl ⟨rfl, by decide, .inl xa.eF.gC⟩ (fun u s' ⟨_, _, _, _, _, _, _, _, _, _, _, _, _, _, _, _, z⟩ => z.elim) (fun W pn xe tk po => ?_) (fun a oe cls d pn hz hf => ?_)
  · exact pss_cons (ps_if (pt_cmpR op_eq (pe_cal ct hr (pa_cons (pv 0) (pa_cons pe_int pa_nil))) pe_int (nomark _)) (pss_one (ps_raise rfl tk (pmk_xe xa.e23 (fun z => nomatch z) hr (pa_cons (pv 1) pa_nil)))) pss_nil)
      (pss_one (ps_raise rfl tk (pmk_xe xa.e63 (fun z => nomatch z) hr (pa_cons (pv 1) pa_nil))))
  · refine Xk.pss_cls fun C e T => ?_
    subst e
    refine pss_one (ps_ret (pe_and (pe_callB (Xk.call_isp (p := (a, oe)) T (List.mem_cons_self ..) hz hf) (by rfl) m.isi b_isi (pa_cons (pv 2) (pa_cons (pe_bltn (v := .ty "ValueError") (by rfl) mV b_VE rfl) pa_nil)))
      (pe_one (pe_cmpR op_in_seq pe_bl (pe_imp (Xk.pe_calx (p := (a, oe)) FC (List.mem_cons_self ..) ⟨(hr.mono (j := 1) (by decide)).dp, (hr.mono (j := 1) (by decide)).un⟩ gC kC bC (pa_cons (pv 2) pa_nil)) (fun σ H Q q => ?_)) (by rfl)))))
    obtain ⟨v, h2, q⟩ := q
    exact ⟨v, h2, cls_inj hz hf q⟩
end
end Lw

set_option maxHeartbeats 8000000
/-! The law. -/
namespace Lw
open PySem PySem.Spec PyProof.Rows L2 Evl
section
variable {P : Program} {w : World} {K : PySem.W.Frag} {mg : Str → Option Value} {base : Heap} {f : Addr} {fd : FuncData} {vs : List V} {H : Hp} {Q : VK} {E : XK}
abbrev s_law : Stmt := top 84
abbrev N_law : List Str := ["script", "k", "box", "turn"]
theorem sc_law : FnScope N_law ["script"] (defScope s_law) := ⟨rfl, rfl, rfl, by decide +kernel, rfl, by decide +kernel, by decide +kernel⟩
def t_law (K : PySem.W.Frag)  : TS :=
  (tSeq (tFor (iRng1 (tCons (tC (.int 2)) tNil)) (gName 1) (tSeq (tAsg (tCall spBox [] E0 (tCons (tCall (spCell99 K) [] E0 (tCons (tVar 0) (tCons (tVar 1) tNil))) tNil)) (gName 2))
    (tSeq (tFor (iRng1 (tCons (tC (.int 4)) tNil)) (gName 3) (tIfS (tOr (tNot (tB (tCall spRight [] E0 (tCons (tVar 2) (tCons (tOp rEq (tOp rAndI (tVar 3) (tC (.int 1))) (tC (.int 0))) tNil))))) (tNot (tB (tCall spRaised [] E0 (tCons (tVar 2) tNil))))) (tRet (tC (.bl false))) tNext))
    (tIfS (tOr (tTest (tOp (rIn K false) (tC (.bl true)) (tCall (spClasses K) [] E0 (tCons (Xk.tX0 24) tNil)))) (tOr (tNot (tB (tCB (Xk.rIsx K) (tCons (Xk.tX0 24) (tCons (tC (.ty "ValueError")) tNil))))) (tB (tCB (Xk.rIsv K) (tCons Xk.tVE (tCons (tC (.ref 24)) tNil)))))) (tRet (tC (.bl false))) tNext))))
    (tRet (tC (.bl true))))
def spLaw99 (K : PySem.W.Frag) : Sp := fun vs H Q _ => ∃ (a : Addr) (ns : List Int), vs = [.ref a] ∧ SqL K H a (ns.map V.int) ∧ ns.length ≤ 63 ∧ ∀ H', Q (.bl true) H'
theorem pure_law_len (h : spLaw99 K vs H Q E) : vs.length = ["script"].length := by
  obtain ⟨a, ns, rfl, _⟩ := h
  rfl
theorem exB_ex {p : Addr} {H H1 H2 : Hp} (hp : H p = none) (e : Ex H H1) (x : ExB p H1 H2) : Ex H H2 := fun b o h => x b o (fun z => by
  rw [z, hp] at h
  cases h) (e b o h)
theorem kit_vf (iF : IsX K 24 []) : PySem.W.kitOne K (.type "ValueError") (.ref 24) = some false := by
  obtain ⟨cd, hc, hm⟩ := iF.mr
  unfold PySem.W.kitOne
  rw [if_neg (show ¬ ((Value.type "ValueError" == Value.ref 24) = true) by simp)]
  have e2 : ((PySem.W.clsIn K 24).isSome && PySem.W.typeIn K (.ref 24) == some (.type "type")) = true := by rw [hc, iF.ty] <;> rfl
  show (if ((PySem.W.clsIn K 24).isSome && PySem.W.typeIn K (.ref 24) == some (.type "type")) = true then PySem.W.subIn K (.type "ValueError") (.ref 24) else none) = _
  rw [if_pos e2]
  kernel_rfl
theorem flow_no : inV (.bl true) (whichC 24) = false := by decide +kernel
theorem pure_law (iF : IsX K 24 []) (h : spLaw99 K vs H Q E) : t_law K { nx := fun _ H' => Q .non H', rt := Q } (start N_law vs) H := by
  obtain ⟨a, ns, rfl, hs, hn, q⟩ := h
  show t_law K _ [some (.ref a), none, none, none] H
  refine q_forR1 (ea_cons ev_c ea_nil) ⟨by decide, by decide⟩ (fun i σ' H' => ∃ k b t : Option V, σ' = [some (.ref a), k, b, t] ∧ Ex H H') (fun H1 e1 => ⟨none, none, none, rfl, e1⟩) ?_ ?_
  · rintro i σ' H1 hi ⟨k, b, t, rfl, e1⟩
    have hs1 : SqL K H1 a (ns.map V.int) := ex_l e1 hs
    refine ⟨_, rfl, _, rfl, a, ns, i, rfl, hs1, hn, by omega, fun r H2 e2 => ⟨r, rfl, fun p H3 hp e3 b3 => ?_⟩⟩
    have np : H p = none := fresh_back (e1.trans e2) hp
    have E3 : Ex H H3 := (e1.trans e2).trans e3
    show tSeq (tFor (iRng1 (tCons (tC (.int 4)) tNil)) (gName 3) _) _ _ [some (.ref a), some (.int (i : Int)), some (.ref p), t] H3
    refine q_forR1 (ea_cons ev_c ea_nil) ⟨by decide, by decide⟩ (fun j σ' H' => ∃ t : Option V, σ' = [some (.ref a), some (.int (i : Int)), some (.ref p), t] ∧ Ex H H' ∧ Box (4 * j) p H') (fun H4 e4 => ⟨t, rfl, E3.trans e4, b3.ex e4⟩) ?_ ?_
    · rintro j σ' H4 hj ⟨t, rfl, e4, b4⟩
      refine ⟨_, rfl, _, rfl, _, _, rfl, rfl, rfl, p, 4 * j, _, rfl, b4, by omega, fun H5 x5 b5 => ⟨true, rfl, iteF ?_⟩⟩
      refine ⟨_, rfl, p, 4 * j + 2, rfl, b5, by omega, fun H6 x6 b6 => ⟨true, rfl, iteF ?_⟩⟩
      exact ⟨_, rfl, exB_ex np e4 (x5.trans x6), b6⟩
    · rintro σ' H4 ⟨t, rfl, e4, b4⟩
      intro a1 h1
      have h24 : ErrIn (upd H4 a1 (exo a1 24 none)) a1 24 := ⟨none, upd_same, fun dd z => by cases z⟩
      refine ⟨a1, 24, [], rfl, iF, fun _ _ => rfl, h24, fun r H5 hr e5 h5 => ⟨r, whichC 24, rfl, .inl (SqL.of h5), rfl, by simp [whichC, flatV], _, rfl, ?_⟩⟩
      have E5 : Ex H H5 := (e4.trans (Ex.new h1)).trans e5
      rw [if_neg Bool.false_ne_true, flow_no]
      refine iteF ?_
      intro a2 h2
      refine ⟨a2, 24, none, .ty "ValueError", .type "ValueError", true, rfl, iF.ec, upd_same, (fun dd z => by cases z), .ty _, kit_cv iF, true, rfl, iteF ?_⟩
      intro a3 h3
      refine ⟨a3, .ref 24, .ref 24, false, rfl, upd_same, .own 24, kit_vf iF, false, rfl, iteF ?_⟩
      exact ⟨_, _, _, rfl, (E5.trans (Ex.new h2)).trans (Ex.new h3)⟩
  · rintro σ' H1 ⟨k, b, t, rfl, e1⟩
    exact q H1
theorem ok_law (xa : XAll P w K mg base) (mV : mg "ValueError" = none) (iF : IsX K 24 []) (cl : Cal P w K mg base "_law_cell" ["script", "k"] 1 (spCell99 K)) (cb : Cal P w K mg base "_law_box" ["great"] 1 spBox) (ce : Cal P w K mg base "_law_errors_right" ["box", "by_name"] 5 spRight)
    (cw : Cal P w K mg base "_law_raised" ["box"] 3 spRaised) (cc : Cal P w K mg base "_law_classes" ["error"] 1 (spClasses K)) (F : FnP K "law" s_law f fd) (m : Free mg) : FnOk P w K mg base CX0 (5 + 1) f fd ["script"] (spLaw99 K) := by
  refine F.ok (CX := CX0) sc_law (fun vs H Q E h => pure_law_len h) (fun cdv A outer s H vs Q E hr h => ?_)
  exact ⟨t_law K, PSs.nox (pss_cons (ps_for PassesOwn.never rfl (pi_range1 (by rfl) m.range (pa_cons pe_int pa_nil)) (pg_name (i := 1) sc_law.nd rfl (by first | exact Or.inl rfl | exact Or.inr rfl)) (pss_cons (ps_set (i := 2) sc_law.nd rfl (by first | exact Or.inl rfl | exact Or.inr rfl) (pe_cal cb hr (pa_cons (pe_cal cl hr (pa_cons (pv 0) (pa_cons (pv 1) pa_nil))) pa_nil)))
      (pss_cons (ps_for PassesOwn.never rfl (pi_range1 (by rfl) m.range (pa_cons pe_int pa_nil)) (pg_name (i := 3) sc_law.nd rfl (by first | exact Or.inl rfl | exact Or.inr rfl)) (pss_one (ps_if (PW.pt (pw_or (pt_not (pt_val (pe_cal ce hr (pa_cons (pv 2) (pa_cons (pe_cmpR op_eq (pe_op op_and (pv 3) pe_int) pe_int (nomark _)) pa_nil))))) (pw_or1 (pt_not (pt_val (pe_cal cw hr (pa_cons (pv 2) pa_nil))))))) (pss_one (ps_ret pe_bl)) pss_nil)))
      (pss_one (ps_if (PW.pt (pw_or (pt_cmpR op_in_seq pe_bl (pe_cal cc hr (pa_cons (Xk.pe_new0 xa.eF) pa_nil)) (by rfl)) (pw_or (pt_not (pt_val (pe_callB Xk.call_isx (by rfl) m.isi b_isi (pa_cons (Xk.pe_new0 xa.eF) (pa_cons (pe_bltn (v := .ty "ValueError") (by rfl) mV b_VE rfl) pa_nil))))) (pw_or1 (pt_val (pe_callB Xk.call_isv (by rfl) m.isi b_isi (pa_cons (Xk.pe_VE mV) (pa_cons (pe_glob (v := .ref 24) (by rfl) xa.eF.gC rfl) pa_nil)))))))) (pss_one (ps_ret pe_bl)) pss_nil)))))
      (pss_one (ps_ret pe_bl))), pure_law iF h⟩
end
end Lw

set_option maxHeartbeats 4000000
/-! What the head tells, in the words of the walk. -/
namespace K99
open PySem PySem.Spec PyProof.Rows L2 Lw
section
variable {g : Addr → Option Obj} {K K' : PySem.W.Frag}
theorem lk_frG : ∀ (as : List Addr) (a : Addr), a ∈ as → (He.frG g as).lookup a = g a
  | [], a, h => by cases h
  | b :: r, a, h => by
    unfold He.frG
    by_cases e : a = b
    · subst e
      cases q : g a with
      | none =>
        rw [List.filterMap_cons, q]
        show (He.frG g r).lookup a = none
        cases z : (He.frG g r).lookup a with
        | none => rfl
        | some o => rw [He.frG_at r z] at q; cases q
      | some o =>
        rw [List.filterMap_cons, q]
        show ((a, o) :: He.frG g r).lookup a = some o
        simp [List.lookup]
    · have hr : a ∈ r := by
        rcases List.mem_cons.mp h with z | z
        · exact absurd z e
        · exact z
      have ih := lk_frG r a hr
      cases q : g b with
      | none =>
        rw [List.filterMap_cons, q]
        exact ih
      | some o =>
        rw [List.filterMap_cons, q]
        show ((b, o) :: He.frG g r).lookup a = g a
        have e2 : (a == b) = false := by simpa using e
        simp only [List.lookup, e2]
        exact ih
theorem le_frG {as bs : List Addr} (h : ∀ a ∈ as, a ∈ bs) : Mo.Le (He.frG g as) (He.frG g bs) := fun a o e => by
  have z : a ∈ as := by
    by_cases z : a ∈ as
    · exact z
    · exfalso
      have : ∀ l : List Addr, a ∉ l → (He.frG g l).lookup a = none := by
        intro l
        induction l with
        | nil => intro _; rfl
        | cons b r ih =>
          intro hn
          have n1 : ¬ a = b := fun q => hn (by rw [q]; exact List.mem_cons_self ..)
          have ih := ih fun q => hn (List.mem_cons_of_mem _ q)
          unfold He.frG
          cases q : g b with
          | none =>
            rw [List.filterMap_cons, q]
            exact ih
          | some o =>
            rw [List.filterMap_cons, q]
            show ((b, o) :: He.frG g r).lookup a = none
            have e2 : (a == b) = false := by simpa using n1
            simp only [List.lookup, e2]
            exact ih
      rw [this as z] at e
      cases e
  rw [lk_frG bs a (h a z), ← lk_frG (g := g) as a z]
  exact e
theorem codeIn_le (h : Mo.Le K K') {cd : Value} {q : Str} (e : PySem.W.codeIn K cd q = true) : PySem.W.codeIn K' cd q = true := by
  unfold PySem.W.codeIn at e ⊢
  cases cd with
  | ref c =>
    show (match K'.lookup c with
      | some ⟨_, _, .fields vs, _⟩ => (match vs.toList with | _ :: .str n _ :: _ => n == q | _ => false)
      | _ => false) = true
    have e1 : (match K.lookup c with
      | some ⟨_, _, .fields vs, _⟩ => (match vs.toList with | _ :: .str n _ :: _ => n == q | _ => false)
      | _ => false) = true := e
    cases z : K.lookup c with
    | none =>
      rw [z] at e1
      cases e1
    | some o =>
      rw [z] at e1
      rw [h _ _ z]
      exact e1
  | _ => cases e
theorem at_map {α β : Type} {l : List α} {f k : α → β} (h : l.map f = l.map k) {i : Nat} {x : α} (e : l[i]? = some x) : f x = k x := by
  have z : (l.map f)[i]? = (l.map k)[i]? := by rw [h]
  rw [List.getElem?_map, List.getElem?_map, e] at z
  exact Option.some.inj z
/-- a def, from what is seen of it -/
theorem fun_of (h : Mo.Le K K') {f : Addr} {nm qual : Str} {pr : Arguments} {bd : List Stmt} {sc : Scope} (e1 : fnOkA K f qual = true) (e2 : fnA K f = some (nm, qual, pr, .stmts bd, sc, mainGlobals, [], builtinsNs)) :
    ∃ fd, FunD K' nm qual pr bd sc [] [] f fd := by
  unfold fnA at e2
  unfold fnOkA at e1
  cases q : K.lookup f with
  | none =>
    rw [q] at e1
    cases e1
  | some o =>
    obtain ⟨oc, od, dt, osl⟩ := o
    rw [q] at e1 e2
    cases dt with
    | func fd =>
      obtain ⟨n1, n2, n3, n4, n5, n6, n7, n8, n9, n10, n11, n12, n13, n14, n15⟩ := fd
      have e3 : (some (n1, n2, n3, n4, n5, n6, n7, n15) : He.FnW) = some (nm, qual, pr, .stmts bd, sc, mainGlobals, [], builtinsNs) := e2
      simp only [Option.some.injEq, Prod.mk.injEq] at e3
      obtain ⟨h1, h2, h3, h4, h5, h6, h7, h8⟩ := e3
      subst h1 h2 h3 h4 h5 h6 h7 h8
      have c3 : (PySem.W.codeIn K n13 n2 && (He.dflB K n8 [] && He.kwdB K n9 [])) = true := e1
      obtain ⟨k1, k2⟩ := He.ba c3
      obtain ⟨k3, k4⟩ := He.ba k2
      refine ⟨_, ⟨oc, od, n8, n9, n10, n11, n12, n13, n14, osl, rfl, h _ _ q, codeIn_le h k1, ?_, .inl rfl⟩, ?_⟩
      · refine .inl ⟨rfl, ?_⟩
        cases n8 with
        | none => rfl
        | _ => cases k3
      · unfold PySem.W.keepIn
        show (match K'.lookup f with
          | some ⟨_, _, .func _, _⟩ => true
          | some ⟨_, _, .cls _, _⟩ => PySem.W.specialIn K' (.ref f) "__call__" == some (some (.builtin "type.__call__"))
          | _ => false) = true
        rw [h _ _ q]
    | _ => cases e1
/-! ### the module's names -/
theorem key_is (k : Value) (x : Str) : (some x == keyS k) = k.isStr x := by
  cases k with
  | str n t =>
    show (some x == some n) = (n == x)
    by_cases e : x = n
    · subst e
      simp
    · have e2 : ¬ n = x := fun z => e z.symm
      rw [show (n == x) = false by simpa using e2]
      simpa using e
  | _ => rfl
theorem glo_find {x : Str} : ∀ (l : List DictEntry), (l.map naE).lookup (some x) = (l.find? (·.key.isStr x)).map fun e => refA e.val
  | [] => rfl
  | ⟨hs, k, v⟩ :: r => by
    show ((keyS k, refA v) :: r.map naE).lookup (some x) = _
    rw [List.find?_cons, ← key_is k x]
    cases q : (some x == keyS k) with
    | true => simp only [List.lookup, q, Option.map_some]
    | false =>
      simp only [List.lookup, q]
      exact glo_find r
theorem glo_some {x : Str} {a : Addr} (l : List DictEntry) (h : (l.map naE).lookup (some x) = some (some a)) : ∃ e, l.find? (·.key.isStr x) = some e ∧ e.val = .ref a := by
  rw [glo_find] at h
  obtain ⟨e, h1, h2⟩ := Option.map_eq_some_iff.mp h
  refine ⟨e, h1, ?_⟩
  obtain ⟨_, _, v⟩ := e
  cases v with
  | ref b =>
    cases h2
    rfl
  | _ => cases h2
theorem glo_none {x : Str} (l : List DictEntry) (h : (l.map naE).lookup (some x) = none) : l.find? (·.key.isStr x) = none := by
  rw [glo_find] at h
  exact Option.map_eq_none_iff.mp h
theorem glo_keys : ∀ (l : List DictEntry), (∀ p ∈ l.map naE, p.1 ≠ none) → l.any (·.refKey) = false
  | [], _ => rfl
  | ⟨hs, k, v⟩ :: r, h => by
    have h1 := h _ (List.mem_cons_self ..)
    have ih := glo_keys r fun p hp => h p (List.mem_cons_of_mem _ hp)
    rw [List.any_cons, ih]
    cases k with
    | ref b => exact absurd rfl h1
    | _ => rfl
theorem glo_at {L : List NA} (h : glo K = L) {x : Str} {a : Addr} (e : L.lookup (some x) = some (some a)) : PySem.W.nsIn K mainGlobals x = some (some (.ref a)) := by
  unfold glo at h
  unfold PySem.W.nsIn
  cases q : K.lookup mainGlobals with
  | none =>
    rw [q] at h
    subst h
    cases e
  | some o =>
    obtain ⟨oc, od, dt, osl⟩ := o
    rw [q] at h
    cases dt with
    | dict es n =>
      have h1 : es.toList.map naE = L := h
      subst h1
      obtain ⟨en, z, w⟩ := glo_some _ e
      show (match es.toList.find? (·.key.isStr x) with
        | some e => some (some e.val)
        | none => if es.toList.any (·.refKey) then none else some none) = _
      rw [z]
      show some (some en.val) = _
      rw [w]
    | _ =>
      subst h
      cases e
theorem glo_no {L : List NA} (h : glo K = L) (hl : L ≠ []) (hk : ∀ p ∈ L, p.1 ≠ none) {x : Str} (e : L.lookup (some x) = none) : PySem.W.nsIn K mainGlobals x = some none := by
  unfold glo at h
  unfold PySem.W.nsIn
  cases q : K.lookup mainGlobals with
  | none =>
    rw [q] at h
    exact absurd h.symm hl
  | some o =>
    obtain ⟨oc, od, dt, osl⟩ := o
    rw [q] at h
    cases dt with
    | dict es n =>
      have h1 : es.toList.map naE = L := h
      subst h1
      show (match es.toList.find? (·.key.isStr x) with
        | some e => some (some e.val)
        | none => if es.toList.any (·.refKey) then none else some none) = _
      rw [glo_none _ e]
      show (if es.toList.any (·.refKey) = true then none else some none) = _
      rw [if_neg (by rw [glo_keys _ hk]; decide)]
    | _ => exact absurd h.symm hl
end
end K99

set_option maxHeartbeats 8000000
/-! The head's facts: classes, defs. -/
namespace K99
open PySem PySem.Spec PyProof.Rows L2 Lw
section
variable {P : Program} {w : World} {K Ks : PySem.W.Frag} {mg : Str → Option Value} {base : Heap} {C fI : Addr} {par : List Value}
theorem xcB_ok (h : xcB Ks C par = true) : ∃ (dd : Option Addr) (nm : Str) (bs : List Value) (N : Addr) (q : Str) (sn : List Str) (sub : List Value) (ab : Bool) (col : Option Bool) (k0 k1 k2 k3 k5 : Option Value),
    Ks.lookup C = some (excClassObj nm q C N bs (par ++ PySem.HandSPX.veTail) true sn sub ab col dd k0 k1 k2 k3 k5 "ValueError.__new__") := by
  unfold xcB at h
  cases z : Ks.lookup C with
  | none =>
    rw [z] at h
    cases h
  | some o =>
    obtain ⟨oc, od, dt, sl⟩ := o
    rw [z] at h
    cases oc with
    | type t =>
      cases dt with
      | cls cd =>
        have h1 : (decide (t = "type") && (decide (cd.mro = .ref C :: (par ++ PySem.HandSPX.veTail)) && (cd.hasDict && (!cd.hasDel && (match sl.toList with
          | [_, _, _, _, some (.builtin n), _] => decide (n = "ValueError.__new__")
          | _ => false))))) = true := h
        obtain ⟨a1, h2⟩ := He.ba h1
        obtain ⟨a2, h3⟩ := He.ba h2
        obtain ⟨a3, h4⟩ := He.ba h3
        obtain ⟨a4, h5⟩ := He.ba h4
        clear h h1 h2 h3 h4
        obtain ⟨nm, bs, mro, ns, qn, hd, sn, sub, ab, col, del⟩ := cd
        obtain ⟨sl⟩ := sl
        have e1 := of_decide_eq_true a1
        have e2 := of_decide_eq_true a2
        dsimp only at e2 a3 a4
        subst e1 e2 a3
        have a5 : del = false := by simpa using a4
        subst a5
        split at h5
        · rename_i k0 k1 k2 k3 n k5 e
          have e3 := of_decide_eq_true h5
          subst e3
          dsimp only at e
          subst e
          exact ⟨od, nm, bs, ns, qn, sn, sub, ab, col, k0, k1, k2, k3, k5, rfl⟩
        · cases h5
      | _ => cases h
    | _ => cases h
theorem xtB_ok (h : xtB Ks C = true) : PySem.W.findIn Ks (.ref C) "__setattr__" = some (some (.builtin "object.__setattr__")) ∧ PySem.W.keepIn Ks (.ref C) = true ∧ PySem.W.findIn Ks (.ref C) "__getattribute__" = some (some (.builtin "BaseException.__getattribute__")) ∧
    PySem.W.findIn Ks (.ref C) "__getattr__" = some none ∧ PySem.W.findIn Ks (.ref C) "__class__" = some (some (.builtin "object.__class__")) := by
  obtain ⟨a1, h⟩ := He.ba h
  obtain ⟨a2, h⟩ := He.ba h
  obtain ⟨a3, h⟩ := He.ba h
  obtain ⟨a4, a5⟩ := He.ba h
  exact ⟨of_decide_eq_true a1, a2, of_decide_eq_true a3, of_decide_eq_true a4, of_decide_eq_true a5⟩
theorem isx_of (le : Mo.Le Ks K) (h1 : xcB Ks C par = true) (h2 : xtB Ks C = true) : IsX K C par := by
  obtain ⟨dd, nm, bs, N, q, sn, sub, ab, col, k0, k1, k2, k3, k5, hl⟩ := xcB_ok h1
  obtain ⟨t1, t2, t3, t4, t5⟩ := xtB_ok h2
  have hK := le _ _ hl
  have hc : PySem.W.clsIn K C = some { name := nm, bases := bs, mro := .ref C :: (par ++ PySem.HandSPX.veTail), ns := N, qualname := q, hasDict := true, slotNames := sn, subclasses := sub, abstract := ab, collection := col, hasDel := false } := by
    unfold PySem.W.clsIn
    rw [hK]
  have hm : ∀ x : String, x = "BaseException" ∨ x = "object" → PySem.W.mroIn K C (.type x) = some true := fun x hx => by
    unfold PySem.W.mroIn
    rw [hc, Option.bind_some]
    rcases hx with rfl | rfl
    · simp [PySem.HandSPX.veTail]
    · simp [PySem.HandSPX.veTail]
  have ty : PySem.W.typeIn K (.ref C) = some (.type "type") := by
    unfold PySem.W.typeIn
    show (K.lookup C).map _ = _
    rw [hK]
    rfl
  refine ⟨⟨Mo.findIn_le le t3, Mo.findIn_le le t4, hm _ (.inl rfl), ?_, Mo.findIn_le le t5, by kernel_rfl, by kernel_rfl, hm _ (.inr rfl)⟩, ⟨_, hc, rfl⟩, ty⟩
  unfold PySem.W.hasDictIn
  rw [hc]
  rfl
theorem oex_of (le : Mo.Le Ks K) (h1 : xcB Ks C par = true) (h2 : xtB Ks C = true) (hp : PySem.HandSPX.refsVE (par ++ PySem.HandSPX.veTail) = true) : OexC K C := by
  have I := isx_of le h1 h2
  obtain ⟨dd, nm, bs, N, q, sn, sub, ab, col, k0, k1, k2, k3, k5, hl⟩ := xcB_ok h1
  obtain ⟨t1, t2, t3, t4, t5⟩ := xtB_ok h2
  exact ⟨⟨nm, q, N, bs, _, sn, sub, ab, col, dd, k0, k1, k2, k3, k5, le _ _ hl, hp⟩, Mo.findIn_le le t1, I.ec.hs, I.ty, Mo.keepIn_le le t2⟩
/-! ### how the __init__s bind -/
structure Bd (K : PySem.W.Frag) (fd : FuncData) (fs : List Str) : Prop where
  ps : Binds K fd (("self" : Str) :: fs) []
  kw : ∀ (s' : Shared) (x : Value) (ws : List Value), ws.length = fs.length → BindsTo s' fd ⟨[x], fs.reverse.zip ws⟩ ((("self" : Str) :: fs).zip (x :: ws.reverse))
theorem kw_of {x qual : Str} {pr : Arguments} {bd : List Stmt} {sc : Scope} {kws : List (Str × V)} {f : Addr} {fd : FuncData} {fs : List Str} (F : FunD K x qual pr bd sc [] kws f fd)
    (h : ∀ (kV doc pm : Value) (an : Option Addr) (cdv ct : Value) (x' : Value) (ws : List Value), ws.length = fs.length → bindArgs (PySem.W.fnOf x qual pr bd sc .none kV doc pm an cdv ct) ⟨[x'], fs.reverse.zip ws⟩ = pure ((("self" : Str) :: fs).zip (x' :: ws.reverse)))
    (s' : Shared) (x' : Value) (ws : List Value) (hl : ws.length = fs.length) : BindsTo s' fd ⟨[x'], fs.reverse.zip ws⟩ ((("self" : Str) :: fs).zip (x' :: ws.reverse)) := by
  obtain ⟨oc, od, dV, kV, doc, pm, an, cdv, ct, osl, rfl, lk, hcd, hD, hK⟩ := F.ex
  rcases hD with ⟨_, rfl⟩ | ⟨e, _⟩
  · exact .of_eq (h kV doc pm an cdv ct x' ws hl)
  · exact absurd rfl e
def pa1 (f : Str) (p1 p2 : Pos) : Arguments := ⟨[], [⟨"self", none, p1⟩, ⟨f, none, p2⟩], none, [], [], none, []⟩
def pa2 (f g : Str) (p1 p2 p3 : Pos) : Arguments := ⟨[], [⟨"self", none, p1⟩, ⟨f, none, p2⟩, ⟨g, none, p3⟩], none, [], [], none, []⟩
theorem obs_fn {c : CD} {f : Str} {r : List Str} (o : c.obs Ks = c.val) (hf : c.fs = f :: r) : fnA Ks c.fI = (some ("__init__", c.qual, defArgs c.st, .stmts (defBody c.st), defScope c.st, mainGlobals, [], builtinsNs) : He.FnW) := by
  have z := congrArg Prod.snd o
  unfold CD.obs CD.val at z
  simp only [hf] at z
  exact z
/-- a class's facts -/
structure CF (K : PySem.W.Frag) (mg : Str → Option Value) (c : CD) : Prop where
  ks : ∃ Ks, Mo.Le Ks K ∧ c.obs Ks = c.val
  gC : mg c.nm = some (.ref c.ad)
theorem CF.isx {c : CD} (h : CF K mg c) : IsX K c.ad [.ref 24] := by
  obtain ⟨Ks, le, o⟩ := h.ks
  obtain ⟨a1, z⟩ := He.ba (congrArg Prod.fst o)
  obtain ⟨a2, z⟩ := He.ba z
  exact isx_of le a1 a2
theorem xe0 {c : CD} (h : CF K mg c) (hf : c.fs = ([] : List Str)) : Xk.XE P w K mg base c.nm c.ad [] := by
  have I := h.isx
  obtain ⟨Ks, le, o⟩ := h.ks
  obtain ⟨a1, z⟩ := He.ba (congrArg Prod.fst o)
  obtain ⟨a2, z⟩ := He.ba z
  obtain ⟨a3, _⟩ := He.ba z
  rw [hf] at a3
  exact ⟨h.gC, Mo.keepIn_le le (xtB_ok a2).2.1, I.ec, (fun _ z => by cases z), fun z => absurd rfl z, fun _ => ⟨Ks, le, a3⟩⟩
/-- a class whose __init__ stores fs -/
theorem xeN {c : CD} {f : Str} {r : List Str} (h : CF K mg c) (hf : c.fs = f :: r)
    (ok : ∀ fd : FuncData, FunD K "__init__" c.qual (defArgs c.st) (defBody c.st) (defScope c.st) [] [] c.fI fd → OexC K c.ad → (∀ x ∈ f :: r, PySem.W.findIn K (.ref c.ad) x = some none) → FnOk P w K mg base CX0 1 c.fI fd (("self" : Str) :: f :: r) (Xk.spX c.ad (f :: r)) ∧ Bd K fd (f :: r)) :
    Xk.XE P w K mg base c.nm c.ad (f :: r) := by
  have I := h.isx
  obtain ⟨Ks, le, o⟩ := h.ks
  have hfn := obs_fn o hf
  obtain ⟨a1, z⟩ := He.ba (congrArg Prod.fst o)
  obtain ⟨a2, z⟩ := He.ba z
  obtain ⟨a3, a4⟩ := He.ba z
  rw [hf] at a3
  simp only [hf] at a4
  obtain ⟨b1, z⟩ := He.ba a3
  obtain ⟨b2, b3⟩ := He.ba z
  have no : ∀ x ∈ f :: r, PySem.W.findIn K (.ref c.ad) x = some none := fun x hx => Mo.findIn_le le (of_decide_eq_true (List.all_eq_true.mp b3 x hx))
  have ox := oex_of le a1 a2 (by decide)
  obtain ⟨fd, F⟩ := fun_of le a4 hfn
  obtain ⟨k1, k2⟩ := ok fd F ox no
  exact ⟨h.gC, Mo.keepIn_le le (xtB_ok a2).2.1, I.ec, no, fun _ => ⟨c.fI, fd, ⟨ox, Mo.findIn_le le (of_decide_eq_true b1), Mo.typeIn_le le (beq_iff_eq.mp b2), k1⟩, k2.ps, k2.kw⟩, fun z => by cases z⟩

def sc_given : Scope := defScope (inClass (top 2) 0)
theorem S_given : FnScope ["self", "given"] ["self", "given"] sc_given := ⟨rfl, rfl, rfl, by decide +kernel, rfl, by decide +kernel, by decide +kernel⟩
theorem bd_given {qual : Str} {bd : List Stmt} {sc : Scope} {f : Addr} {fd : FuncData} {p1 p2 : Pos} (F : FunD K "__init__" qual (pa1 "given" p1 p2) bd sc [] [] f fd) : Bd K fd ["given"] :=
  ⟨F.bindsN fun _ _ _ _ _ _ us hl => match us, hl with | [_, _], _ => rfl, kw_of F fun _ _ _ _ _ _ _ ws hl => match ws, hl with | [_], _ => rfl⟩
theorem xe_given {c : CD} {p1 p2 : Pos} {q1 q2 q3 q4 : Pos} (h : CF K mg c) (hf : c.fs = (["given"] : List Str)) (ha : defArgs c.st = pa1 "given" p1 p2) (hb : defBody c.st = Xk.body1 "given" q1 q2 q3 q4) (hs : defScope c.st = sc_given) : Xk.XE P w K mg base c.nm c.ad ["given"] :=
  xeN h hf fun fd F ox no => ⟨Xk.ok_init1 F hb (hs ▸ S_given) ox (no _ (by simp)) (by decide) (by decide), bd_given (ha ▸ F)⟩
def sc_change : Scope := defScope (inClass (top 48) 0)
theorem S_change : FnScope ["self", "change"] ["self", "change"] sc_change := ⟨rfl, rfl, rfl, by decide +kernel, rfl, by decide +kernel, by decide +kernel⟩
theorem bd_change {qual : Str} {bd : List Stmt} {sc : Scope} {f : Addr} {fd : FuncData} {p1 p2 : Pos} (F : FunD K "__init__" qual (pa1 "change" p1 p2) bd sc [] [] f fd) : Bd K fd ["change"] :=
  ⟨F.bindsN fun _ _ _ _ _ _ us hl => match us, hl with | [_, _], _ => rfl, kw_of F fun _ _ _ _ _ _ _ ws hl => match ws, hl with | [_], _ => rfl⟩
theorem xe_change {c : CD} {p1 p2 : Pos} {q1 q2 q3 q4 : Pos} (h : CF K mg c) (hf : c.fs = (["change"] : List Str)) (ha : defArgs c.st = pa1 "change" p1 p2) (hb : defBody c.st = Xk.body1 "change" q1 q2 q3 q4) (hs : defScope c.st = sc_change) : Xk.XE P w K mg base c.nm c.ad ["change"] :=
  xeN h hf fun fd F ox no => ⟨Xk.ok_init1 F hb (hs ▸ S_change) ox (no _ (by simp)) (by decide) (by decide), bd_change (ha ▸ F)⟩
def sc_index : Scope := defScope (inClass (top 50) 0)
theorem S_index : FnScope ["self", "index"] ["self", "index"] sc_index := ⟨rfl, rfl, rfl, by decide +kernel, rfl, by decide +kernel, by decide +kernel⟩
theorem bd_index {qual : Str} {bd : List Stmt} {sc : Scope} {f : Addr} {fd : FuncData} {p1 p2 : Pos} (F : FunD K "__init__" qual (pa1 "index" p1 p2) bd sc [] [] f fd) : Bd K fd ["index"] :=
  ⟨F.bindsN fun _ _ _ _ _ _ us hl => match us, hl with | [_, _], _ => rfl, kw_of F fun _ _ _ _ _ _ _ ws hl => match ws, hl with | [_], _ => rfl⟩
theorem xe_index {c : CD} {p1 p2 : Pos} {q1 q2 q3 q4 : Pos} (h : CF K mg c) (hf : c.fs = (["index"] : List Str)) (ha : defArgs c.st = pa1 "index" p1 p2) (hb : defBody c.st = Xk.body1 "index" q1 q2 q3 q4) (hs : defScope c.st = sc_index) : Xk.XE P w K mg base c.nm c.ad ["index"] :=
  xeN h hf fun fd F ox no => ⟨Xk.ok_init1 F hb (hs ▸ S_index) ox (no _ (by simp)) (by decide) (by decide), bd_index (ha ▸ F)⟩
def sc_circle : Scope := defScope (inClass (top 52) 0)
theorem S_circle : FnScope ["self", "circle"] ["self", "circle"] sc_circle := ⟨rfl, rfl, rfl, by decide +kernel, rfl, by decide +kernel, by decide +kernel⟩
theorem bd_circle {qual : Str} {bd : List Stmt} {sc : Scope} {f : Addr} {fd : FuncData} {p1 p2 : Pos} (F : FunD K "__init__" qual (pa1 "circle" p1 p2) bd sc [] [] f fd) : Bd K fd ["circle"] :=
  ⟨F.bindsN fun _ _ _ _ _ _ us hl => match us, hl with | [_, _], _ => rfl, kw_of F fun _ _ _ _ _ _ _ ws hl => match ws, hl with | [_], _ => rfl⟩
theorem xe_circle {c : CD} {p1 p2 : Pos} {q1 q2 q3 q4 : Pos} (h : CF K mg c) (hf : c.fs = (["circle"] : List Str)) (ha : defArgs c.st = pa1 "circle" p1 p2) (hb : defBody c.st = Xk.body1 "circle" q1 q2 q3 q4) (hs : defScope c.st = sc_circle) : Xk.XE P w K mg base c.nm c.ad ["circle"] :=
  xeN h hf fun fd F ox no => ⟨Xk.ok_init1 F hb (hs ▸ S_circle) ox (no _ (by simp)) (by decide) (by decide), bd_circle (ha ▸ F)⟩
def sc_one_other : Scope := defScope (inClass (top 53) 0)
theorem S_one_other : FnScope ["self", "one", "other"] ["self", "one", "other"] sc_one_other := ⟨rfl, rfl, rfl, by decide +kernel, rfl, by decide +kernel, by decide +kernel⟩
theorem bd_one_other {qual : Str} {bd : List Stmt} {sc : Scope} {f : Addr} {fd : FuncData} {p1 p2 p3 : Pos} (F : FunD K "__init__" qual (pa2 "one" "other" p1 p2 p3) bd sc [] [] f fd) : Bd K fd ["one", "other"] :=
  ⟨F.bindsN fun _ _ _ _ _ _ us hl => match us, hl with | [_, _, _], _ => rfl, kw_of F fun _ _ _ _ _ _ _ ws hl => match ws, hl with | [_, _], _ => rfl⟩
theorem xe_one_other {c : CD} {p1 p2 p3 : Pos} {q1 q2 q3 q4 q5 q6 q7 q8 : Pos} (h : CF K mg c) (hf : c.fs = (["one", "other"] : List Str)) (ha : defArgs c.st = pa2 "one" "other" p1 p2 p3) (hb : defBody c.st = Xk.body2 "one" "other" q1 q2 q3 q4 q5 q6 q7 q8) (hs : defScope c.st = sc_one_other) : Xk.XE P w K mg base c.nm c.ad ["one", "other"] :=
  xeN h hf fun fd F ox no => ⟨Xk.ok_init2 F hb (hs ▸ S_one_other) ox (no _ (by simp)) (no _ (by simp)) (by decide) (by decide) (by decide) (by decide), bd_one_other (ha ▸ F)⟩
def sc_head : Scope := defScope (inClass (top 54) 0)
theorem S_head : FnScope ["self", "head"] ["self", "head"] sc_head := ⟨rfl, rfl, rfl, by decide +kernel, rfl, by decide +kernel, by decide +kernel⟩
theorem bd_head {qual : Str} {bd : List Stmt} {sc : Scope} {f : Addr} {fd : FuncData} {p1 p2 : Pos} (F : FunD K "__init__" qual (pa1 "head" p1 p2) bd sc [] [] f fd) : Bd K fd ["head"] :=
  ⟨F.bindsN fun _ _ _ _ _ _ us hl => match us, hl with | [_, _], _ => rfl, kw_of F fun _ _ _ _ _ _ _ ws hl => match ws, hl with | [_], _ => rfl⟩
theorem xe_head {c : CD} {p1 p2 : Pos} {q1 q2 q3 q4 : Pos} (h : CF K mg c) (hf : c.fs = (["head"] : List Str)) (ha : defArgs c.st = pa1 "head" p1 p2) (hb : defBody c.st = Xk.body1 "head" q1 q2 q3 q4) (hs : defScope c.st = sc_head) : Xk.XE P w K mg base c.nm c.ad ["head"] :=
  xeN h hf fun fd F ox no => ⟨Xk.ok_init1 F hb (hs ▸ S_head) ox (no _ (by simp)) (by decide) (by decide), bd_head (ha ▸ F)⟩
def sc_node : Scope := defScope (inClass (top 56) 0)
theorem S_node : FnScope ["self", "node"] ["self", "node"] sc_node := ⟨rfl, rfl, rfl, by decide +kernel, rfl, by decide +kernel, by decide +kernel⟩
theorem bd_node {qual : Str} {bd : List Stmt} {sc : Scope} {f : Addr} {fd : FuncData} {p1 p2 : Pos} (F : FunD K "__init__" qual (pa1 "node" p1 p2) bd sc [] [] f fd) : Bd K fd ["node"] :=
  ⟨F.bindsN fun _ _ _ _ _ _ us hl => match us, hl with | [_, _], _ => rfl, kw_of F fun _ _ _ _ _ _ _ ws hl => match ws, hl with | [_], _ => rfl⟩
theorem xe_node {c : CD} {p1 p2 : Pos} {q1 q2 q3 q4 : Pos} (h : CF K mg c) (hf : c.fs = (["node"] : List Str)) (ha : defArgs c.st = pa1 "node" p1 p2) (hb : defBody c.st = Xk.body1 "node" q1 q2 q3 q4) (hs : defScope c.st = sc_node) : Xk.XE P w K mg base c.nm c.ad ["node"] :=
  xeN h hf fun fd F ox no => ⟨Xk.ok_init1 F hb (hs ▸ S_node) ox (no _ (by simp)) (by decide) (by decide), bd_node (ha ▸ F)⟩
def sc_count : Scope := defScope (inClass (top 66) 0)
theorem S_count : FnScope ["self", "count"] ["self", "count"] sc_count := ⟨rfl, rfl, rfl, by decide +kernel, rfl, by decide +kernel, by decide +kernel⟩
theorem bd_count {qual : Str} {bd : List Stmt} {sc : Scope} {f : Addr} {fd : FuncData} {p1 p2 : Pos} (F : FunD K "__init__" qual (pa1 "count" p1 p2) bd sc [] [] f fd) : Bd K fd ["count"] :=
  ⟨F.bindsN fun _ _ _ _ _ _ us hl => match us, hl with | [_, _], _ => rfl, kw_of F fun _ _ _ _ _ _ _ ws hl => match ws, hl with | [_], _ => rfl⟩
theorem xe_count {c : CD} {p1 p2 : Pos} {q1 q2 q3 q4 : Pos} (h : CF K mg c) (hf : c.fs = (["count"] : List Str)) (ha : defArgs c.st = pa1 "count" p1 p2) (hb : defBody c.st = Xk.body1 "count" q1 q2 q3 q4) (hs : defScope c.st = sc_count) : Xk.XE P w K mg base c.nm c.ad ["count"] :=
  xeN h hf fun fd F ox no => ⟨Xk.ok_init1 F hb (hs ▸ S_count) ox (no _ (by simp)) (by decide) (by decide), bd_count (ha ▸ F)⟩
def sc_name : Scope := defScope (inClass (top 67) 0)
theorem S_name : FnScope ["self", "name"] ["self", "name"] sc_name := ⟨rfl, rfl, rfl, by decide +kernel, rfl, by decide +kernel, by decide +kernel⟩
theorem bd_name {qual : Str} {bd : List Stmt} {sc : Scope} {f : Addr} {fd : FuncData} {p1 p2 : Pos} (F : FunD K "__init__" qual (pa1 "name" p1 p2) bd sc [] [] f fd) : Bd K fd ["name"] :=
  ⟨F.bindsN fun _ _ _ _ _ _ us hl => match us, hl with | [_, _], _ => rfl, kw_of F fun _ _ _ _ _ _ _ ws hl => match ws, hl with | [_], _ => rfl⟩
theorem xe_name {c : CD} {p1 p2 : Pos} {q1 q2 q3 q4 : Pos} (h : CF K mg c) (hf : c.fs = (["name"] : List Str)) (ha : defArgs c.st = pa1 "name" p1 p2) (hb : defBody c.st = Xk.body1 "name" q1 q2 q3 q4) (hs : defScope c.st = sc_name) : Xk.XE P w K mg base c.nm c.ad ["name"] :=
  xeN h hf fun fd F ox no => ⟨Xk.ok_init1 F hb (hs ▸ S_name) ox (no _ (by simp)) (by decide) (by decide), bd_name (ha ▸ F)⟩
theorem xall (eF : Xk.XE P w K mg base "FlowError" 24 []) (h : ∀ c ∈ cds, CF K mg c) : XAll P w K mg base where
  eF := eF
  e0 := xe_given (c := ⟨2, "InvalidArc", ["given"], 44⟩) (h _ (List.mem_of_getElem? (l := cds) (i := 0) rfl)) rfl rfl rfl rfl
  e1 := xe_given (c := ⟨3, "InvalidBodies", ["given"], 63⟩) (h _ (List.mem_of_getElem? (l := cds) (i := 1) rfl)) rfl rfl rfl rfl
  e2 := xe_given (c := ⟨4, "InvalidBools", ["given"], 82⟩) (h _ (List.mem_of_getElem? (l := cds) (i := 2) rfl)) rfl rfl rfl rfl
  e3 := xe_given (c := ⟨5, "InvalidBounds", ["given"], 101⟩) (h _ (List.mem_of_getElem? (l := cds) (i := 3) rfl)) rfl rfl rfl rfl
  e4 := xe_given (c := ⟨6, "InvalidChances", ["given"], 120⟩) (h _ (List.mem_of_getElem? (l := cds) (i := 4) rfl)) rfl rfl rfl rfl
  e5 := xe_given (c := ⟨7, "InvalidChange", ["given"], 139⟩) (h _ (List.mem_of_getElem? (l := cds) (i := 5) rfl)) rfl rfl rfl rfl
  e6 := xe_given (c := ⟨8, "InvalidCopies", ["given"], 158⟩) (h _ (List.mem_of_getElem? (l := cds) (i := 6) rfl)) rfl rfl rfl rfl
  e7 := xe_given (c := ⟨9, "InvalidCosts", ["given"], 177⟩) (h _ (List.mem_of_getElem? (l := cds) (i := 7) rfl)) rfl rfl rfl rfl
  e8 := xe_given (c := ⟨10, "InvalidCounts", ["given"], 196⟩) (h _ (List.mem_of_getElem? (l := cds) (i := 8) rfl)) rfl rfl rfl rfl
  e9 := xe_given (c := ⟨11, "InvalidDefinition", ["given"], 215⟩) (h _ (List.mem_of_getElem? (l := cds) (i := 9) rfl)) rfl rfl rfl rfl
  e10 := xe_given (c := ⟨12, "InvalidElement", ["given"], 234⟩) (h _ (List.mem_of_getElem? (l := cds) (i := 10) rfl)) rfl rfl rfl rfl
  e11 := xe_given (c := ⟨13, "InvalidExpression", ["given"], 253⟩) (h _ (List.mem_of_getElem? (l := cds) (i := 11) rfl)) rfl rfl rfl rfl
  e12 := xe_given (c := ⟨14, "InvalidFunction", ["given"], 272⟩) (h _ (List.mem_of_getElem? (l := cds) (i := 12) rfl)) rfl rfl rfl rfl
  e13 := xe_given (c := ⟨15, "InvalidImages", ["given"], 291⟩) (h _ (List.mem_of_getElem? (l := cds) (i := 13) rfl)) rfl rfl rfl rfl
  e14 := xe_given (c := ⟨16, "InvalidIndex", ["given"], 310⟩) (h _ (List.mem_of_getElem? (l := cds) (i := 14) rfl)) rfl rfl rfl rfl
  e15 := xe_given (c := ⟨17, "InvalidInputs", ["given"], 329⟩) (h _ (List.mem_of_getElem? (l := cds) (i := 15) rfl)) rfl rfl rfl rfl
  e16 := xe_given (c := ⟨18, "InvalidInterval", ["given"], 348⟩) (h _ (List.mem_of_getElem? (l := cds) (i := 16) rfl)) rfl rfl rfl rfl
  e17 := xe_given (c := ⟨19, "InvalidIntervals", ["given"], 367⟩) (h _ (List.mem_of_getElem? (l := cds) (i := 17) rfl)) rfl rfl rfl rfl
  e18 := xe_given (c := ⟨20, "InvalidKind", ["given"], 386⟩) (h _ (List.mem_of_getElem? (l := cds) (i := 18) rfl)) rfl rfl rfl rfl
  e19 := xe_given (c := ⟨21, "InvalidLattice", ["given"], 405⟩) (h _ (List.mem_of_getElem? (l := cds) (i := 19) rfl)) rfl rfl rfl rfl
  e20 := xe_given (c := ⟨22, "InvalidLine", ["given"], 424⟩) (h _ (List.mem_of_getElem? (l := cds) (i := 20) rfl)) rfl rfl rfl rfl
  e21 := xe_given (c := ⟨23, "InvalidMoves", ["given"], 443⟩) (h _ (List.mem_of_getElem? (l := cds) (i := 21) rfl)) rfl rfl rfl rfl
  e22 := xe_given (c := ⟨24, "InvalidNexts", ["given"], 462⟩) (h _ (List.mem_of_getElem? (l := cds) (i := 22) rfl)) rfl rfl rfl rfl
  e23 := xe_given (c := ⟨25, "InvalidNode", ["given"], 481⟩) (h _ (List.mem_of_getElem? (l := cds) (i := 23) rfl)) rfl rfl rfl rfl
  e24 := xe_given (c := ⟨26, "InvalidNodes", ["given"], 500⟩) (h _ (List.mem_of_getElem? (l := cds) (i := 24) rfl)) rfl rfl rfl rfl
  e25 := xe_given (c := ⟨27, "InvalidNumber", ["given"], 519⟩) (h _ (List.mem_of_getElem? (l := cds) (i := 25) rfl)) rfl rfl rfl rfl
  e26 := xe_given (c := ⟨28, "InvalidOrder", ["given"], 538⟩) (h _ (List.mem_of_getElem? (l := cds) (i := 26) rfl)) rfl rfl rfl rfl
  e27 := xe_given (c := ⟨29, "InvalidPairs", ["given"], 557⟩) (h _ (List.mem_of_getElem? (l := cds) (i := 27) rfl)) rfl rfl rfl rfl
  e28 := xe_given (c := ⟨30, "InvalidPlace", ["given"], 576⟩) (h _ (List.mem_of_getElem? (l := cds) (i := 28) rfl)) rfl rfl rfl rfl
  e29 := xe_given (c := ⟨31, "InvalidPointer", ["given"], 595⟩) (h _ (List.mem_of_getElem? (l := cds) (i := 29) rfl)) rfl rfl rfl rfl
  e30 := xe_given (c := ⟨32, "InvalidPool", ["given"], 614⟩) (h _ (List.mem_of_getElem? (l := cds) (i := 30) rfl)) rfl rfl rfl rfl
  e31 := xe_given (c := ⟨33, "InvalidProgram", ["given"], 633⟩) (h _ (List.mem_of_getElem? (l := cds) (i := 31) rfl)) rfl rfl rfl rfl
  e32 := xe_given (c := ⟨34, "InvalidRow", ["given"], 652⟩) (h _ (List.mem_of_getElem? (l := cds) (i := 32) rfl)) rfl rfl rfl rfl
  e33 := xe_given (c := ⟨35, "InvalidRows", ["given"], 671⟩) (h _ (List.mem_of_getElem? (l := cds) (i := 33) rfl)) rfl rfl rfl rfl
  e34 := xe_given (c := ⟨36, "InvalidSigns", ["given"], 690⟩) (h _ (List.mem_of_getElem? (l := cds) (i := 34) rfl)) rfl rfl rfl rfl
  e35 := xe_given (c := ⟨37, "InvalidStatements", ["given"], 709⟩) (h _ (List.mem_of_getElem? (l := cds) (i := 35) rfl)) rfl rfl rfl rfl
  e36 := xe_given (c := ⟨38, "InvalidStep", ["given"], 728⟩) (h _ (List.mem_of_getElem? (l := cds) (i := 36) rfl)) rfl rfl rfl rfl
  e37 := xe_given (c := ⟨39, "InvalidSteps", ["given"], 747⟩) (h _ (List.mem_of_getElem? (l := cds) (i := 37) rfl)) rfl rfl rfl rfl
  e38 := xe_given (c := ⟨40, "InvalidTable", ["given"], 766⟩) (h _ (List.mem_of_getElem? (l := cds) (i := 38) rfl)) rfl rfl rfl rfl
  e39 := xe_given (c := ⟨41, "InvalidTests", ["given"], 785⟩) (h _ (List.mem_of_getElem? (l := cds) (i := 39) rfl)) rfl rfl rfl rfl
  e40 := xe_given (c := ⟨42, "InvalidText", ["given"], 804⟩) (h _ (List.mem_of_getElem? (l := cds) (i := 40) rfl)) rfl rfl rfl rfl
  e41 := xe_given (c := ⟨43, "InvalidValues", ["given"], 823⟩) (h _ (List.mem_of_getElem? (l := cds) (i := 41) rfl)) rfl rfl rfl rfl
  e42 := xe_given (c := ⟨44, "InvalidVariable", ["given"], 842⟩) (h _ (List.mem_of_getElem? (l := cds) (i := 42) rfl)) rfl rfl rfl rfl
  e43 := xe_given (c := ⟨45, "InvalidWay", ["given"], 861⟩) (h _ (List.mem_of_getElem? (l := cds) (i := 43) rfl)) rfl rfl rfl rfl
  e44 := xe_given (c := ⟨46, "InvalidWays", ["given"], 880⟩) (h _ (List.mem_of_getElem? (l := cds) (i := 44) rfl)) rfl rfl rfl rfl
  e45 := xe_given (c := ⟨64, "Refused", ["given"], 1175⟩) (h _ (List.mem_of_getElem? (l := cds) (i := 45) rfl)) rfl rfl rfl rfl
  e46 := xe_change (c := ⟨48, "CannotDo", ["change"], 899⟩) (h _ (List.mem_of_getElem? (l := cds) (i := 46) rfl)) rfl rfl rfl rfl
  e47 := xe0 (c := ⟨49, "Ended", [], 911⟩) (h _ (List.mem_of_getElem? (l := cds) (i := 47) rfl)) rfl
  e48 := xe_index (c := ⟨50, "InvalidClaim", ["index"], 930⟩) (h _ (List.mem_of_getElem? (l := cds) (i := 48) rfl)) rfl rfl rfl rfl
  e49 := xe_index (c := ⟨51, "InvalidRecord", ["index"], 949⟩) (h _ (List.mem_of_getElem? (l := cds) (i := 49) rfl)) rfl rfl rfl rfl
  e50 := xe_circle (c := ⟨52, "Irreducible", ["circle"], 968⟩) (h _ (List.mem_of_getElem? (l := cds) (i := 50) rfl)) rfl rfl rfl rfl
  e51 := xe_one_other (c := ⟨53, "NoJoin", ["one", "other"], 987⟩) (h _ (List.mem_of_getElem? (l := cds) (i := 51) rfl)) rfl rfl rfl rfl
  e52 := xe_head (c := ⟨54, "NoLoop", ["head"], 1006⟩) (h _ (List.mem_of_getElem? (l := cds) (i := 52) rfl)) rfl rfl rfl rfl
  e53 := xe_one_other (c := ⟨55, "NoMeet", ["one", "other"], 1025⟩) (h _ (List.mem_of_getElem? (l := cds) (i := 53) rfl)) rfl rfl rfl rfl
  e54 := xe_node (c := ⟨56, "NoStop", ["node"], 1044⟩) (h _ (List.mem_of_getElem? (l := cds) (i := 54) rfl)) rfl rfl rfl rfl
  e55 := xe_node (c := ⟨57, "NoWayOut", ["node"], 1063⟩) (h _ (List.mem_of_getElem? (l := cds) (i := 55) rfl)) rfl rfl rfl rfl
  e56 := xe_one_other (c := ⟨58, "NotOrder", ["one", "other"], 1082⟩) (h _ (List.mem_of_getElem? (l := cds) (i := 56) rfl)) rfl rfl rfl rfl
  e57 := xe0 (c := ⟨59, "NotRising", [], 1094⟩) (h _ (List.mem_of_getElem? (l := cds) (i := 57) rfl)) rfl
  e58 := xe_node (c := ⟨60, "NotSkip", ["node"], 1113⟩) (h _ (List.mem_of_getElem? (l := cds) (i := 58) rfl)) rfl rfl rfl rfl
  e59 := xe_node (c := ⟨61, "NotTest", ["node"], 1132⟩) (h _ (List.mem_of_getElem? (l := cds) (i := 59) rfl)) rfl rfl rfl rfl
  e60 := xe0 (c := ⟨62, "NothingToRedo", [], 1144⟩) (h _ (List.mem_of_getElem? (l := cds) (i := 60) rfl)) rfl
  e61 := xe0 (c := ⟨63, "NothingToUndo", [], 1156⟩) (h _ (List.mem_of_getElem? (l := cds) (i := 61) rfl)) rfl
  e62 := xe_node (c := ⟨65, "StopThere", ["node"], 1194⟩) (h _ (List.mem_of_getElem? (l := cds) (i := 62) rfl)) rfl rfl rfl rfl
  e63 := xe_count (c := ⟨66, "TooMany", ["count"], 1213⟩) (h _ (List.mem_of_getElem? (l := cds) (i := 63) rfl)) rfl rfl rfl rfl
  e64 := xe_name (c := ⟨67, "UnknownName", ["name"], 1232⟩) (h _ (List.mem_of_getElem? (l := cds) (i := 64) rfl)) rfl rfl rfl rfl
  e65 := xe_node (c := ⟨68, "Unreached", ["node"], 1251⟩) (h _ (List.mem_of_getElem? (l := cds) (i := 65) rfl)) rfl rfl rfl rfl
end
end K99

set_option maxHeartbeats 8000000
/-! From the head to the law. -/
namespace K99
open PySem PySem.Spec PyProof.Rows L2 Lw
section
variable {P : Program} {w : World} {g : Addr → Option Obj} {mg : Str → Option Value} {base h : Heap}
theorem gl_c : cds.all (fun c => decide (gloL.lookup (some c.nm) = some (some c.ad))) = true := by decide +kernel
theorem gl_f : fds.all (fun c => decide (gloL.lookup (some c.nm) = some (some c.ad))) = true := by decide +kernel
theorem gl_k : ∀ p ∈ gloL, p.1 ≠ none := by decide +kernel
theorem gl_n : gloL ≠ [] := by decide +kernel
abbrev KK (g : Addr → Option Obj) : PySem.W.Frag := He.frG g asK
/-- what the head tells -/
structure Tells (g : Addr → Option Obj) (h : Heap) (mg : Str → Option Value) : Prop where
  obs : obsH g = vals
  inh : (KK g).In h
  ns : h.Ns mainGlobals mg
section
variable (T : Tells g h mg)
include T
theorem Tells.gl : glo (He.frG g [mainGlobals]) = gloL := congrArg (fun z : Al => z.1.1.1) T.obs
theorem Tells.leG : Mo.Le (He.frG g [mainGlobals]) (KK g) := le_frG fun a ha => by
  rw [List.mem_singleton.mp ha]
  exact List.mem_cons_self ..
theorem Tells.at_ {x : Str} {a : Addr} (e : gloL.lookup (some x) = some (some a)) : mg x = some (.ref a) := PySem.W.mg_of T.inh T.ns (Mo.nsIn_le T.leG (glo_at T.gl e))
theorem Tells.no {x : Str} (e : gloL.lookup (some x) = none) : mg x = none := PySem.W.mg_none_of T.inh T.ns (Mo.nsIn_le T.leG (glo_no T.gl gl_n gl_k e))
theorem Tells.cls : ∀ c ∈ cds, c.obs (He.frG g c.as) = c.val := fun c hc => by
  have h0 : cds0.map (fun c => c.obs (He.frG g c.as)) = cds0.map CD.val := congrArg (fun z : Al => z.2.1) T.obs
  have h1 : cds1.map (fun c => c.obs (He.frG g c.as)) = cds1.map CD.val := congrArg (fun z : Al => z.2.2) T.obs
  rcases List.mem_append.mp hc with z | z
  · exact List.map_inj_left.mp h0 c z
  · exact List.map_inj_left.mp h1 c z
theorem Tells.fn_ : ∀ d ∈ fds, d.obs (He.frG g d.as) = d.val := fun d hd => List.map_inj_left.mp (congrArg (fun z : Al => z.1.2) T.obs) d hd
theorem Tells.cf : ∀ c ∈ cds, CF (KK g) mg c := fun c hc => ⟨⟨_, le_frG fun a ha => List.mem_cons_of_mem _ (List.mem_append_left _ (List.mem_flatMap.mpr ⟨c, hc, ha⟩)), T.cls c hc⟩, T.at_ (of_decide_eq_true (List.all_eq_true.mp gl_c c hc))⟩
theorem Tells.fd {d : FD} (hd : d ∈ fds) : ∃ fd, FunD (KK g) d.nm d.nm (defArgs d.st) (defBody d.st) (defScope d.st) [] [] d.ad fd :=
  have z := T.fn_ d hd
  fun_of (le_frG fun a ha => List.mem_cons_of_mem _ (List.mem_append_right _ (List.mem_flatMap.mpr ⟨d, hd, ha⟩))) (congrArg Prod.fst z) (congrArg Prod.snd z)
theorem Tells.fg {d : FD} (hd : d ∈ fds) : mg d.nm = some (.ref d.ad) := T.at_ (of_decide_eq_true (List.all_eq_true.mp gl_f d hd))
theorem Tells.flow : ∃ Ks, Mo.Le Ks (KK g) ∧ flowB Ks = true := ⟨_, le_frG (as := [24, 23]) (by decide +kernel), congrArg (fun z : Al => z.1.1.2) T.obs⟩
theorem Tells.iF : IsX (KK g) 24 [] := by
  obtain ⟨Ks, le, z⟩ := T.flow
  obtain ⟨a1, z⟩ := He.ba z
  obtain ⟨a2, z⟩ := He.ba z
  exact isx_of le a1 a2
theorem Tells.eF : Xk.XE P w (KK g) mg base "FlowError" 24 [] := by
  have I := T.iF
  obtain ⟨Ks, le, z⟩ := T.flow
  obtain ⟨a1, z⟩ := He.ba z
  obtain ⟨a2, z⟩ := He.ba z
  exact ⟨T.at_ (by decide +kernel), Mo.keepIn_le le (xtB_ok a2).2.1, I.ec, (fun _ z => by cases z), fun z => absurd rfl z, fun _ => ⟨Ks, le, z⟩⟩
theorem Tells.xa : XAll P w (KK g) mg base := xall T.eF T.cf
omit T in
theorem ecs_cds : ecs = cds.map fun c => (c.ad, c.fs) := by decide +kernel
theorem Tells.hI : ∀ c ∈ ecs, IsX (KK g) c.1 [.ref 24] := fun c hc => by
  rw [ecs_cds] at hc
  obtain ⟨d, hd, rfl⟩ := List.mem_map.mp hc
  exact (T.cf d hd).isx
theorem Tells.hA : ∀ D ∈ ads, ∃ par, IsX (KK g) D par := fun D hD => by
  rw [ads_eq] at hD
  obtain ⟨c, hc, rfl⟩ := List.mem_map.mp hD
  exact ⟨_, T.hI c hc⟩
theorem Tells.hx (n : Nat) (c : Xk.AF) (hc : ecs[n]? = some c) : ExcC (KK g) c.1 ∧ ∀ f ∈ c.2, PySem.W.findIn (KK g) (.ref c.1) f = some none := by
  have hm := List.mem_of_getElem? hc
  refine ⟨(T.hI c hm).ec, fun f hf => ?_⟩
  rw [ecs_cds] at hm
  obtain ⟨d, hd, rfl⟩ := List.mem_map.mp hm
  obtain ⟨Ks, le, o⟩ := (T.cf d hd).ks
  obtain ⟨a1, z⟩ := He.ba (congrArg Prod.fst o)
  obtain ⟨a2, z⟩ := He.ba z
  obtain ⟨a3, a4⟩ := He.ba z
  cases hfs : d.fs with
  | nil =>
    have hf' : f ∈ d.fs := hf
    rw [hfs] at hf'
    cases hf'
  | cons x r =>
    rw [hfs] at a3
    obtain ⟨b1, z⟩ := He.ba a3
    obtain ⟨b2, b3⟩ := He.ba z
    have hf' : f ∈ d.fs := hf
    rw [hfs] at hf'
    exact Mo.findIn_le le (of_decide_eq_true (List.all_eq_true.mp b3 f hf'))
theorem Tells.hF (C : Addr) (hC : C = 481 ∨ C = 1213) : PySem.W.exmOne (KK g) (.ref C) (.ref 24) = some true := by
  have iF := T.iF
  have hc : ∃ c ∈ ecs, c.1 = C := by
    rcases hC with rfl | rfl
    · decide +kernel
    · decide +kernel
  obtain ⟨c, hc, rfl⟩ := hc
  obtain ⟨cd, h1, h2⟩ := (T.hI c hc).mr
  refine PySem.W.exm_ref iF.ec.hs iF.ec.hd iF.ty ?_
  show PySem.W.mroIn _ c.1 (.ref 24) = some true
  unfold PySem.W.mroIn
  rw [h1, Option.bind_some, h2]
  simp
theorem Tells.mV : mg "ValueError" = none := T.no (by decide +kernel)
theorem Tells.free : Free mg := ⟨T.no (by decide +kernel), T.no (by decide +kernel), T.no (by decide +kernel), T.no (by decide +kernel), T.no (by decide +kernel), T.no (by decide +kernel), T.no (by decide +kernel), T.no (by decide +kernel), T.no (by decide +kernel), T.no (by decide +kernel), T.no (by decide +kernel)⟩
/-- a def by its name, with its promise -/
theorem Tells.cal {d : FD} {ps : List Str} {k : Nat} {sp : Sp} (hd : d ∈ fds)
    (b : ∀ fd, FunD (KK g) d.nm d.nm (defArgs d.st) (defBody d.st) (defScope d.st) [] [] d.ad fd → Binds (KK g) fd ps [])
    (ok : ∀ fd, FunD (KK g) d.nm d.nm (defArgs d.st) (defBody d.st) (defScope d.st) [] [] d.ad fd → FnOk P w (KK g) mg base CX0 k d.ad fd ps sp) : Cal P w (KK g) mg base d.nm ps k sp := by
  obtain ⟨fd, F⟩ := T.fd hd
  exact ⟨d.ad, fd, T.fg hd, F.kp, b fd F, ok fd F⟩
omit T in
theorem fd_at (i : Nat) {d : FD} (e : fds[i]? = some d) : d ∈ fds := List.mem_of_getElem? e
theorem Tells.cell : Cal P w (KK g) mg base "_law_cell" ["script", "k"] 1 (spCell99 (KK g)) := T.cal (d := ⟨"_law_cell", 70, 1260⟩) (fd_at 0 rfl) (fun fd F => F.bindsN fun _ _ _ _ _ _ us hl => match us, hl with | [_, _], _ => rfl) fun fd F => ok_law_cell F T.free
theorem Tells.box : Cal P w (KK g) mg base "_law_box" ["great"] 1 spBox := T.cal (d := ⟨"_law_box", 71, 1267⟩) (fd_at 1 rfl) (fun fd F => F.bindsN fun _ _ _ _ _ _ us hl => match us, hl with | [_], _ => rfl) fun fd F => ok_law_box F T.free
theorem Tells.take : Cal P w (KK g) mg base "_law_take" ["box", "many"] 1 spTake := T.cal (d := ⟨"_law_take", 72, 1274⟩) (fd_at 2 rfl) (fun fd F => F.bindsN fun _ _ _ _ _ _ us hl => match us, hl with | [_, _], _ => rfl) fun fd F => ok_law_take F T.free
theorem Tells.same : ∀ n : Nat, Cal P w (KK g) mg base "_law_same" ["given", "due"] n (spSame (Pf n))
  | 0 => T.cal (d := ⟨"_law_same", 73, 1279⟩) (fd_at 3 rfl) (fun fd F => F.bindsN fun _ _ _ _ _ _ us hl => match us, hl with | [_, _], _ => rfl) fun fd F => ⟨fun _ _ _ _ ⟨_, _, _, z, _⟩ => z.elim, fun _ _ _ _ _ _ _ _ _ _ _ _ _ ⟨_, _, _, z, _⟩ => z.elim⟩
  | n + 1 => T.cal (d := ⟨"_law_same", 73, 1279⟩) (fd_at 3 rfl) (fun fd F => F.bindsN fun _ _ _ _ _ _ us hl => match us, hl with | [_, _], _ => rfl) fun fd F => ok_law_same (pf_mono n) (Tells.same n) F T.free
theorem Tells.named : Cal P w (KK g) mg base "_law_named" ["one", "other"] 3 spMadeX := T.cal (d := ⟨"_law_named", 76, 1298⟩) (fd_at 4 rfl) (fun fd F => F.bindsN fun _ _ _ _ _ _ us hl => match us, hl with | [_, _], _ => rfl) fun fd F => ok_law_named T.xa F T.free
theorem Tells.placed : Cal P w (KK g) mg base "_law_placed" ["one", "other"] 3 spMadeX := T.cal (d := ⟨"_law_placed", 77, 1305⟩) (fd_at 5 rfl) (fun fd F => F.bindsN fun _ _ _ _ _ _ us hl => match us, hl with | [_, _], _ => rfl) fun fd F => ok_law_placed T.xa F T.free
theorem Tells.classes : Cal P w (KK g) mg base "_law_classes" ["error"] 1 (spClasses (KK g)) := T.cal (d := ⟨"_law_classes", 78, 1312⟩) (fd_at 6 rfl) (fun fd F => F.bindsN fun _ _ _ _ _ _ us hl => match us, hl with | [_], _ => rfl) fun fd F => ok_law_classes T.xa T.hA F T.free
theorem Tells.kept : Cal P w (KK g) mg base "_law_kept" ["number", "error"] 1 spKept := T.cal (d := ⟨"_law_kept", 79, 1319⟩) (fd_at 7 rfl) (fun fd F => F.bindsN fun _ _ _ _ _ _ us hl => match us, hl with | [_, _], _ => rfl) fun fd F => ok_law_kept T.hx F T.free
theorem Tells.many : Cal P w (KK g) mg base "_law_many" ["number"] 1 spMany := T.cal (d := ⟨"_law_many", 80, 1326⟩) (fd_at 8 rfl) (fun fd F => F.bindsN fun _ _ _ _ _ _ us hl => match us, hl with | [_], _ => rfl) fun fd F => ok_law_many F T.free
theorem Tells.value : Cal P w (KK g) mg base "_law_value" ["box"] 2 spValue := T.cal (d := ⟨"_law_value", 81, 1333⟩) (fd_at 9 rfl) (fun fd F => F.bindsN fun _ _ _ _ _ _ us hl => match us, hl with | [_], _ => rfl) fun fd F => ok_law_value T.take F T.free
theorem Tells.right : Cal P w (KK g) mg base "_law_errors_right" ["box", "by_name"] 5 spRight := T.cal (d := ⟨"_law_errors_right", 82, 1338⟩) (fd_at 10 rfl) (fun fd F => F.bindsN fun _ _ _ _ _ _ us hl => match us, hl with | [_, _], _ => rfl) fun fd F =>
  ok_law_errors_right T.xa T.mV T.iF T.hI T.value T.named T.placed (T.same 4) T.kept T.many T.classes F T.free
theorem Tells.raised : Cal P w (KK g) mg base "_law_raised" ["box"] 3 spRaised := T.cal (d := ⟨"_law_raised", 83, 1345⟩) (fd_at 11 rfl) (fun fd F => F.bindsN fun _ _ _ _ _ _ us hl => match us, hl with | [_], _ => rfl) fun fd F => by
  obtain ⟨fc, Fc⟩ := T.fd (d := ⟨"_law_classes", 78, 1312⟩) (fd_at 6 rfl)
  exact ok_law_raised T.xa T.mV T.hF T.hI T.value T.take (T.fg (d := ⟨"_law_classes", 78, 1312⟩) (fd_at 6 rfl)) Fc.kp (Fc.bindsN fun _ _ _ _ _ _ us hl => match us, hl with | [_], _ => rfl) (okx_law_classes T.xa T.hA Fc T.free) F T.free
theorem Tells.law {f : Addr} (hf : mg "law" = some (.ref f)) : ∃ fd : FuncData, (∀ (s : Shared) (v : Value), BindsTo s fd ⟨[v], []⟩ [("script", v)]) ∧ ∀ (P : Program) (w : World) (base : Heap), FnOk P w (KK g) mg base CX0 6 f fd ["script"] (spLaw99 (KK g)) := by
  obtain ⟨fd, F⟩ := T.fd (d := ⟨"law", 84, 1352⟩) (fd_at 12 rfl)
  have e := hf.symm.trans (T.fg (d := ⟨"law", 84, 1352⟩) (fd_at 12 rfl))
  cases e
  have b := FunD.bindsA (ps := ["script"]) F fun _ _ _ _ _ _ us hl => match us, hl with | [_], _ => rfl
  exact ⟨fd, fun s v => b s [v] rfl, fun P w base => ok_law T.xa T.mV T.iF T.cell T.box T.right T.raised T.classes F T.free⟩
end
end
end K99

set_option maxHeartbeats 0
namespace K99
open PySem PySem.Spec PyProof.Rows L2 Lw
theorem join3 {α β γ δ : Type} {o : Option α} {f : α → β} {g : α → γ} {l : α → δ} {x : β} {y : γ} {z : δ} (h : o.map (fun s => (f s, g s)) = some (x, y)) (k : o.map l = some z) : o.map (fun s => (f s, g s, l s)) = some (x, y, z) := by
  cases o with
  | none => cases k
  | some s =>
    cases k
    injection h with h
    injection h with h1 h2
    rw [← h1, ← h2]
    rfl
theorem run (w : World) : HandSHeadRun.RunEq R Vw hk ob 20000 loose w := fun os =>
  join3 (runA w os) (join2 (runB w os) (join2 (runC w os) (runD w os)))
end K99
open PySem PySem.W PySem.Calls PyProof.Rows
theorem PySem.Challenge.cw_flowbench_k99_errors_holds : PySem.Challenge.rw_flowbench_k99_errors.Holds := by
  w_on; o_law
  refine HandSHeadRun.head_any (r := OpenLaw.row PySem.Challenge.rw_flowbench_k99_errors) (q := K99.Vw) (H := K99.hk) (ob := K99.ob) (M := 20000) (loose := K99.loose) (d := HandSHeadRun.topDef (OpenLaw.row PySem.Challenge.rw_flowbench_k99_errors).prog 84) (kwd := []) K99.ob_eq
    (by kernel_rfl) (fun s => by kernel_rfl) K99.run (by kernel_rfl) (by kernel_rfl) (by kernel_rfl) (by rfl) (by first | assumption | decide +kernel) (by decide +kernel) ⟨rfl, rfl, rfl, rfl, rfl, by decide +kernel⟩ ?hw ?hc
  case hw => w_witness2
  case hc =>
    refine L2.walk_ofE (l := PySem.Challenge.rw_flowbench_k99_errors) (n := 63) (k := 6) (x := "script") (CX := L2.CX0) rfl (by decide) (by kernel_rfl) ⟨rfl, by decide, by decide⟩ ?F (fun _ _ _ _ z => z)
    intro w mg fa h Y G hmg0
    obtain ⟨g, hg, c⟩ := Y
    have hmg : mg ("law" : PySem.Str) = some (.ref fa) := by
      have e : (HandSHeadRun.topDef (OpenLaw.row PySem.Challenge.rw_flowbench_k99_errors).prog 84).name = ("law" : PySem.Str) := by kernel_rfl
      rw [← e]
      exact hmg0
    have T : K99.Tells g h mg := ⟨c, fun a o e => hg a o (He.frG_at _ e), G⟩
    obtain ⟨fd, hb, hF⟩ := T.law hmg
    exact ⟨K99.KK g, fd, Lw.spLaw99 (K99.KK g), T.inh, hb, fun H a ns hl _ hS => ⟨a, ns, rfl, hS, hl, fun _ => rfl⟩, fun base _ _ => hF _ w base⟩

