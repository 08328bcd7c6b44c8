import PyProof.Rows.All
import Wide.All
import OpenK.AllK
import Wide.FinOn
import HandS.ForMost
import HandS.IsInst
import HandS.Defaults
import HandS.Deep
import HandS.Conv
import HandS.ExcInit
import HandS.ExcValue
import HandS.ExcField
import HandS.ExcIs
import KE.KExcIs
import HandS.DictComp
import HandS.SetFor
import PyProof.ReprRoads
import KE.KStateDown
import HandS.Head0
import HandS.Head1
import HandS.Head2
import HandS.HeadEnd
import HandS.HeadHook1
import HandS.HeadHook2
import PySem.Challenge.RW_closedground_k00_exceptions_and_their_fi
import HandS.NoneIn
set_option Elab.async false
set_option linter.all false
set_option maxRecDepth 100000
set_option maxHeartbeats 4000000
namespace Kx
open PySem PySem.Spec PyProof.Rows L2
abbrev gGE : Str := "GroundError"
abbrev PW : Program := PySem.Challenge.pw_closedground_k00_exceptions_and_their_fi
def topD (p : Program) (x : Str) (i : Nat) : He.DefD := ⟨(x, none), x, x, defArgs (p.main.body.getD i (.Pass ⟨0, 0, 0, 0⟩)), defBody (p.main.body.getD i (.Pass ⟨0, 0, 0, 0⟩)), defScope (p.main.body.getD i (.Pass ⟨0, 0, 0, 0⟩)), [], []⟩
def mthD (p : Program) (x m q : Str) (i j : Nat) : He.DefD := ⟨(x, some m), m, q, defArgs (inClass (p.main.body.getD i (.Pass ⟨0, 0, 0, 0⟩)) j), defBody (inClass (p.main.body.getD i (.Pass ⟨0, 0, 0, 0⟩)) j), defScope (inClass (p.main.body.getD i (.Pass ⟨0, 0, 0, 0⟩)) j), [], []⟩
end Kx
set_option Elab.async false
set_option linter.all false
set_option maxRecDepth 100000
set_option maxHeartbeats 4000000
namespace Kx
open PySem PySem.Spec PyProof.Rows L2
open HandSHeadRun (frNat frNat_eq)
/-! ### the head's facts off the heap itself: the whole heap as the written part -/
theorem frG_mem {g : Addr → Option Obj} {a : Addr} {o : Obj} (h : g a = some o) : ∀ as : List Addr, a ∈ as → (He.frG g as).lookup a = some o
  | b :: r, m => by
    unfold He.frG
    by_cases e : a = b
    · subst e
      rw [List.filterMap_cons, h]
      simp
    · have hr := frG_mem h r ((List.mem_cons.mp m).resolve_left e)
      rw [List.filterMap_cons]
      cases hb : g b with
      | none => simpa [He.frG] using hr
      | some ob =>
        have e2 : (a == b) = false := by simpa using e
        show (match a == b with
          | true => some ob
          | false => (He.frG g r).lookup a) = some o
        rw [e2]
        exact hr
def whole (h : Heap) : PySem.W.Frag := He.frG h.get? (List.range h.objs.size)
theorem whole_at (h : Heap) : (fun a => (whole h).lookup a) = h.get? := by
  funext a
  show (whole h).lookup a = h.get? a
  cases e : h.get? a with
  | none =>
    cases e2 : (whole h).lookup a with
    | none => rfl
    | some o =>
      have := He.frG_at _ e2
      rw [e] at this
      cases this
  | some o => exact frG_mem e _ (List.mem_range.mpr (Heap.lt_size e))
/-- what is looked at, of any part of a heap -/
def hookL {α : Type} (ob : (Addr → Option Obj) → α) (val : α) : PySem.W.Hook where
  α := α
  obs := fun s => ob s.heap.get?
  val := fun _ => val
  says := fun _ h => ∃ K : PySem.W.Frag, K.In h ∧ ob (fun a => K.lookup a) = val
  of := fun _ s e => ⟨whole s.heap, He.frG_in, by rw [whole_at]; exact e⟩
  keeps := fun _ _ _ ⟨K, hK, c⟩ k => ⟨K, PySem.W.Frag.In.keeps hK k, c⟩
/-! ### the looks -/
def frEnt {β : Type} : List DictEntry → (List DictEntry → β) → β
  | [], k => k []
  | e :: r, k => frEnt r fun r => k (e :: r)
theorem frEnt_eq {β : Type} : ∀ (l : List DictEntry) (k : List DictEntry → β), frEnt l k = k l
  | [], _ => rfl
  | e :: r, k => by
    unfold frEnt
    rw [frEnt_eq r]
def valL (l : List DictEntry) (x : Str) : Option Value := (l.find? (·.key.isStr x)).map (·.val)
def freeL (l : List DictEntry) (xs : List Str) : Bool := xs.all fun x => (l.find? (·.key.isStr x)).isNone
def strL (l : List DictEntry) : Bool := l.all fun e => match e.key with
  | .str _ _ => true
  | _ => false
theorem strL_ref {l : List DictEntry} (h : strL l = true) : l.any (·.refKey) = false := by
  rw [List.any_eq_false]
  intro e he
  have := List.all_eq_true.mp h e he
  unfold DictEntry.refKey
  cases q : e.key <;> simp_all
def fnL1 (g : Addr → Option Obj) (q : Str) (m : Addr) : Bool × He.FnW := match g m with
  | some ⟨.type t, _, .func fd, _⟩ => (decide (t = "function") && ((match fd.defaults with
      | .none => true
      | _ => false) && (match fd.code with
      | .ref c => frNat c fun c => (match g c with
        | some ⟨_, _, .fields vs, _⟩ => (match vs.toList with
          | _ :: .str n _ :: _ => n == q
          | _ => false)
        | _ => false)
      | _ => false)), some (fd.name, fd.qualname, fd.params, fd.body, fd.scope, fd.globals, fd.closure, fd.builtins))
  | _ => (false, none)
/-- a class object under G, its dict's entries -/
def clsL {β : Type} (g : Addr → Option Obj) (G : Addr) (c : Str) (a : Addr) (z : β) (k : Bool → List DictEntry → β) : β := match g a with
  | some ⟨.type t, _, .cls cd, sl⟩ => (match sl.toList with
    | [_, _, _, _, some (.builtin n), _] => frNat cd.ns fun N => (match g N with
      | some ⟨_, _, .dict d _, _⟩ => frEnt d.toList fun l => k (decide (cd.name = c) && (decide (t = "type") && (decide (cd.mro = .ref a :: .ref G :: PySem.HandSPX.veTail) && (decide (n = "ValueError.__new__") && (!cd.hasDel && (cd.hasDict && strL l)))))) l
      | _ => z)
    | _ => z)
  | _ => z
def names4 : List Str := ["__setattr__", "__getattribute__", "__getattr__", "__class__"]
def rowI (g : Addr → Option Obj) (G : Addr) (es : List DictEntry) (c : Str) (fs : List Str) (q : Str) : Bool × He.FnW := match valL es c with
  | some (.ref a0) => frNat a0 fun a => clsL g G c a (false, none) fun b l => (match valL l "__init__" with
    | some (.ref m0) => frNat m0 fun m => (match fnL1 g q m with
      | (b2, v) => (b2 && (b && (freeL l names4 && freeL l fs)), v))
    | _ => (false, none))
  | _ => (false, none)
def row0 (g : Addr → Option Obj) (G : Addr) (es : List DictEntry) (c : Str) : Bool := match valL es c with
  | some (.ref a0) => frNat a0 fun a => clsL g G c a false fun b l => b && (freeL l names4 && freeL l ["__init__"])
  | _ => false
def rowT (g : Addr → Option Obj) (es : List DictEntry) (x : Str) : Bool × He.FnW := match valL es x with
  | some (.ref a0) => frNat a0 fun a => fnL1 g x a
  | _ => (false, none)
/-- the root class -/
def rowR (g : Addr → Option Obj) (G : Addr) (xs : List Str) : Bool := match g G with
  | some ⟨.type t, _, .cls cd, _⟩ => frNat cd.ns fun N => (match g N with
    | some ⟨_, _, .dict d _, _⟩ => frEnt d.toList fun l => decide (t = "type") && (decide (cd.name = gGE) && (strL l && (freeL l names4 && (freeL l ["__init__"] && freeL l xs))))
    | _ => false)
  | _ => false
/-! ### what they say -/
section
variable {K : PySem.W.Frag}
theorem ns_val {N : Addr} {oc : Value} {od : Option Addr} {d : Array DictEntry} {ep : Nat} {sl : Array (Option Value)} {x : Str} {v : Value} (h : K.lookup N = some ⟨oc, od, .dict d ep, sl⟩) (k : valL d.toList x = some v) : PySem.W.nsIn K N x = some (some v) := by
  obtain ⟨e, h1, h2⟩ := Option.map_eq_some_iff.mp k
  unfold PySem.W.nsIn
  rw [h]
  dsimp only
  rw [h1, ← h2]
theorem ns_free {N : Addr} {oc : Value} {od : Option Addr} {d : Array DictEntry} {ep : Nat} {sl : Array (Option Value)} {x : Str} (h : K.lookup N = some ⟨oc, od, .dict d ep, sl⟩) (r : d.toList.any (·.refKey) = false) (k : (d.toList.find? (·.key.isStr x)).isNone = true) : PySem.W.nsIn K N x = some none := by
  unfold PySem.W.nsIn
  rw [h]
  dsimp only
  rw [Option.isNone_iff_eq_none.mp k]
  dsimp only
  rw [r]
  rfl
theorem free_at {l : List DictEntry} {xs : List Str} {x : Str} (h : freeL l xs = true) (hx : x ∈ xs) : (l.find? (·.key.isStr x)).isNone = true := List.all_eq_true.mp h x hx
end
end Kx

set_option Elab.async false
set_option linter.all false
set_option maxRecDepth 100000
set_option maxHeartbeats 4000000
namespace Kx
open PySem PySem.Spec PyProof.Rows L2
open HandSHeadRun (frNat frNat_eq)
def tabA0 : List (Str × List Str × Str × Nat) := [("InvalidPerson", ["given"], "InvalidPerson.__init__", 7), ("InvalidNumber", ["given"], "InvalidNumber.__init__", 8), ("InvalidSeen", ["given"], "InvalidSeen.__init__", 9), ("InvalidDeed", ["given"], "InvalidDeed.__init__", 10), ("InvalidChange", ["given"], "InvalidChange.__init__", 11), ("InvalidHistory", ["given"], "InvalidHistory.__init__", 12), ("InvalidVector", ["given"], "InvalidVector.__init__", 13), ("InvalidText", ["given"], "InvalidText.__init__", 14), ("InvalidRight", ["given"], "InvalidRight.__init__", 15), ("InvalidRights", ["given"], "InvalidRights.__init__", 16), ("InvalidFlag", ["given"], "InvalidFlag.__init__", 17), ("InvalidIds", ["given"], "InvalidIds.__init__", 18), ("Forked", ["key"], "Forked.__init__", 19), ("Stranger", ["person"], "Stranger.__init__", 20), ("Missing", ["key"], "Missing.__init__", 21), ("Blind", ["key"], "Blind.__init__", 22), ("NotAsked", ["person"], "NotAsked.__init__", 23), ("NotRight", ["right"], "NotRight.__init__", 24), ("RoomTaken", ["room"], "RoomTaken.__init__", 25), ("UnknownRoom", ["room"], "UnknownRoom.__init__", 26)]
def tabA1 : List (Str × List Str × Str × Nat) := [("UnknownChange", ["key"], "UnknownChange.__init__", 27), ("NotStruck", ["key"], "NotStruck.__init__", 28), ("Old", ["key"], "Old.__init__", 29), ("Lacking", ["parts"], "Lacking.__init__", 30), ("Forgotten", ["key"], "Forgotten.__init__", 31), ("Beside", ["key"], "Beside.__init__", 32), ("Short", ["key"], "Short.__init__", 33), ("NotGround", ["given"], "NotGround.__init__", 34), ("InvalidName", ["given"], "InvalidName.__init__", 35), ("InvalidSheet", ["given"], "InvalidSheet.__init__", 36), ("InvalidWish", ["given"], "InvalidWish.__init__", 37), ("InvalidReading", ["given"], "InvalidReading.__init__", 38), ("InvalidLine", ["given"], "InvalidLine.__init__", 39), ("InvalidPlan", ["given"], "InvalidPlan.__init__", 40)]
def tabA : List (Str × List Str × Str × Nat) := tabA0 ++ tabA1
def tabB0 : List (Str × List Str × Str × Nat) := [("NoLine", ["line"], "NoLine.__init__", 41), ("NoKnot", ["number"], "NoKnot.__init__", 42), ("NoReading", ["number"], "NoReading.__init__", 43), ("RingThere", ["number"], "RingThere.__init__", 44), ("NoThing", ["given"], "NoThing.__init__", 45), ("UnknownColumn", ["given"], "UnknownColumn.__init__", 46), ("KeptTable", ["given"], "KeptTable.__init__", 47), ("NotClosed", ["given"], "NotClosed.__init__", 48), ("NoPurse", ["given"], "NoPurse.__init__", 49), ("CutPurse", ["given"], "CutPurse.__init__", 50), ("TooMuch", ["given"], "TooMuch.__init__", 51), ("InvalidCount", ["given"], "InvalidCount.__init__", 52), ("InvalidGoal", ["given"], "InvalidGoal.__init__", 53), ("InvalidCrowd", ["given"], "InvalidCrowd.__init__", 54), ("InvalidJournal", ["given"], "InvalidJournal.__init__", 55), ("NotKept", ["given"], "NotKept.__init__", 56), ("NotBroken", ["given"], "NotBroken.__init__", 57), ("TooMany", ["count"], "TooMany.__init__", 58), ("NotHidden", ["given"], "NotHidden.__init__", 59), ("InvalidRooms", ["given"], "InvalidRooms.__init__", 60)]
def tabB1 : List (Str × List Str × Str × Nat) := [("InvalidStrokes", ["given"], "InvalidStrokes.__init__", 61), ("InvalidHistories", ["given"], "InvalidHistories.__init__", 62), ("Unfit", ["difference"], "Unfit.__init__", 63), ("InvalidView", ["given"], "InvalidView.__init__", 64), ("InvalidVariable", ["given"], "InvalidVariable.__init__", 65), ("InvalidGiven", ["given"], "InvalidGiven.__init__", 66), ("NotPlain", ["given"], "NotPlain.__init__", 67), ("UnknownView", ["given"], "UnknownView.__init__", 68), ("HasCopy", ["person"], "HasCopy.__init__", 69), ("NoPerson", ["person"], "NoPerson.__init__", 70), ("InvalidLines", ["given"], "InvalidLines.__init__", 71), ("NotAhead", ["first", "second"], "NotAhead.__init__", 72), ("Against", ["first", "second"], "Against.__init__", 73), ("NotWithin", ["start", "goal"], "NotWithin.__init__", 74)]
def tabB : List (Str × List Str × Str × Nat) := tabB0 ++ tabB1
def tabN0 : List Str := ["UnlikeShown", "NoShowing", "NoParting", "NothingToUndo", "NothingToRedo"]
def tabN : List Str := tabN0
def frees0 : List Str := ["len", "abs", "int", "isinstance", "repr", "bool", "list", "range", "ValueError"]
def frees : List Str := frees0
def tabT0 : List (Str × Nat) := [("_law_cell", 76), ("_law_box", 77), ("_law_take", 78), ("_law_kinds_one", 79), ("_law_kinds_two", 80), ("_law_kinds_three", 81), ("_law_givens", 82), ("_law_keys", 83), ("_law_persons", 84), ("_law_numbers", 85), ("_law_named", 86), ("_law_named_keys", 87), ("_law_named_persons", 88), ("_law_named_numbers", 89), ("_law_lone", 90), ("_law_pairs", 91), ("_law_same", 92), ("_law_all", 93), ("_law_fields_right", 94), ("_law_objects_right", 95)]
def tabT1 : List (Str × Nat) := [("_law_kinds_right", 96), ("law", 97)]
def tabT : List (Str × Nat) := tabT0 ++ tabT1
def flds : List Str := ["given", "key", "person", "right", "room", "parts", "line", "number", "count", "difference", "first", "second", "start", "goal"]
def valI (p : (Str × List Str × Str × Nat)) : Bool × He.FnW := (true, (mthD PW p.1 "__init__" p.2.2.1 p.2.2.2 0).val)
def valT (p : Str × Nat) : Bool × He.FnW := (true, (topD PW p.1 p.2).val)
def withEs {β : Type} (g : Addr → Option Obj) (z : β) (k : Addr → List DictEntry → β) : β := match g mainGlobals with
  | some ⟨_, _, .dict d _, _⟩ => frEnt d.toList fun es => (match valL es gGE with
    | some (.ref G0) => frNat G0 fun G => k G es
    | _ => z)
  | _ => z
def ob1 (g : Addr → Option Obj) : Bool × List (Bool × He.FnW) := withEs g (false, []) fun G es => (strL es && (rowR g G flds && (freeL es frees && tabN.all (row0 g G es))), tabT.map fun p => rowT g es p.1)
def ob3 (tab : List (Str × List Str × Str × Nat)) (g : Addr → Option Obj) : List (Bool × He.FnW) := withEs g [] fun G es => tab.map fun p => rowI g G es p.1 p.2.1 p.2.2.1
def obAll (g : Addr → Option Obj) := (ob1 g, ob3 tabA g, ob3 tabB g)
def vlAll : (Bool × List (Bool × He.FnW)) × List (Bool × He.FnW) × List (Bool × He.FnW) := ((true, tabT.map valT), tabA.map valI, tabB.map valI)
def looseN0 : List Str := ["GroundError", "UnlikeShown", "NoShowing", "NoParting", "NothingToUndo", "NothingToRedo", "InvalidPerson", "InvalidNumber", "InvalidSeen", "InvalidDeed", "InvalidChange", "InvalidHistory", "InvalidVector", "InvalidText", "InvalidRight", "InvalidRights", "InvalidFlag", "InvalidIds", "Forked", "Stranger", "Missing", "Blind", "NotAsked", "NotRight", "RoomTaken", "UnknownRoom", "UnknownChange", "NotStruck", "Old", "Lacking"]
def looseN1 : List Str := ["Forgotten", "Beside", "Short", "NotGround", "InvalidName", "InvalidSheet", "InvalidWish", "InvalidReading", "InvalidLine", "InvalidPlan", "NoLine", "NoKnot", "NoReading", "RingThere", "NoThing", "UnknownColumn", "KeptTable", "NotClosed", "NoPurse", "CutPurse", "TooMuch", "InvalidCount", "InvalidGoal", "InvalidCrowd", "InvalidJournal", "NotKept", "NotBroken", "TooMany", "NotHidden", "InvalidRooms"]
def looseN2 : List Str := ["InvalidStrokes", "InvalidHistories", "Unfit", "InvalidView", "InvalidVariable", "InvalidGiven", "NotPlain", "UnknownView", "HasCopy", "NoPerson", "InvalidLines", "NotAhead", "Against", "NotWithin", "_law_cell", "_law_box", "_law_take", "_law_kinds_one", "_law_kinds_two", "_law_kinds_three", "_law_givens", "_law_keys", "_law_persons", "_law_numbers", "_law_named", "_law_named_keys", "_law_named_persons", "_law_named_numbers", "_law_lone", "_law_pairs"]
def looseN3 : List Str := ["_law_same", "_law_all", "_law_fields_right", "_law_objects_right", "_law_kinds_right"]
def looseN : List Str := looseN0 ++ looseN1 ++ looseN2 ++ looseN3
abbrev RR : PySem.W.OpenRow := PySem.W.OpenLaw.row PySem.Challenge.rw_closedground_k00_exceptions_and_their_fi
abbrev qvw : Program := PySem.W.view RR.prog [97]
abbrev hkL : PySem.W.Hook := hookL obAll vlAll
def wB (b : Bool) (w : World) : World := w.withFollow "special-get-raises" b
noncomputable abbrev runW (b : Bool) (w : World) (os : OsState) : Option PySem.W.SharedT := HandSHeadRun.endF (HandSHeadRun.stepQ (HandSHeadRun.denQ HandSHeadRun.tabQ) RR.prog (w.withFollow "special-get-raises" b)) 40000 RR.prog (w.withFollow "special-get-raises" b) os
end Kx

set_option Elab.async false
set_option linter.all false
set_option maxRecDepth 100000
set_option maxHeartbeats 0
namespace Kx
open PySem PySem.Spec PyProof.Rows L2 PySem.W
theorem run_seen_f (w : World) (os : OsState) : (runW false w os).map (fun s => HandSHeadRun.seenQ qvw looseN (importedModules RR.prog.main.body) (fun s => PySem.W.xlAt qvw [] s && PySem.W.recOk RR.toRowW.records s) s.abs) = some (PySem.W.openGood qvw looseN) := by
  kernel_rfl
end Kx

set_option Elab.async false
set_option linter.all false
set_option maxRecDepth 100000
set_option maxHeartbeats 0
namespace Kx
open PySem PySem.Spec PyProof.Rows L2 PySem.W
theorem run_seen_t (w : World) (os : OsState) : (runW true w os).map (fun s => HandSHeadRun.seenQ qvw looseN (importedModules RR.prog.main.body) (fun s => PySem.W.xlAt qvw [] s && PySem.W.recOk RR.toRowW.records s) s.abs) = some (PySem.W.openGood qvw looseN) := by
  kernel_rfl
end Kx

set_option Elab.async false
set_option linter.all false
set_option maxRecDepth 100000
set_option maxHeartbeats 0
namespace Kx
open PySem PySem.Spec PyProof.Rows L2 PySem.W
theorem run_looks_f (w : World) (os : OsState) : (runW false w os).map (fun s => HandSHeadRun.looksF RR.prog (PySem.W.boot_heap (w.withFollow "special-get-raises" false).params) s.abs) = some true := by
  kernel_rfl
end Kx

set_option Elab.async false
set_option linter.all false
set_option maxRecDepth 100000
set_option maxHeartbeats 0
namespace Kx
open PySem PySem.Spec PyProof.Rows L2 PySem.W
theorem run_looks_t (w : World) (os : OsState) : (runW true w os).map (fun s => HandSHeadRun.looksF RR.prog (PySem.W.boot_heap (w.withFollow "special-get-raises" true).params) s.abs) = some true := by
  kernel_rfl
end Kx

set_option Elab.async false
set_option linter.all false
set_option maxRecDepth 100000
set_option maxHeartbeats 0
namespace Kx
open PySem PySem.Spec PyProof.Rows L2 PySem.W
theorem run_obB_f (w : World) (os : OsState) : (runW false w os).map (fun s => ob3 tabB (HandSHeadRun.getT s)) = some (tabB.map valI) := by
  kernel_rfl
end Kx

set_option Elab.async false
set_option linter.all false
set_option maxRecDepth 100000
set_option maxHeartbeats 0
namespace Kx
open PySem PySem.Spec PyProof.Rows L2 PySem.W
theorem run_obB_t (w : World) (os : OsState) : (runW true w os).map (fun s => ob3 tabB (HandSHeadRun.getT s)) = some (tabB.map valI) := by
  kernel_rfl
end Kx

set_option Elab.async false
set_option linter.all false
set_option maxRecDepth 100000
set_option maxHeartbeats 0
namespace Kx
open PySem PySem.Spec PyProof.Rows L2 PySem.W
theorem run_obA_f (w : World) (os : OsState) : (runW false w os).map (fun s => ob3 tabA (HandSHeadRun.getT s)) = some (tabA.map valI) := by
  kernel_rfl
end Kx

set_option Elab.async false
set_option linter.all false
set_option maxRecDepth 100000
set_option maxHeartbeats 0
namespace Kx
open PySem PySem.Spec PyProof.Rows L2 PySem.W
theorem run_obA_t (w : World) (os : OsState) : (runW true w os).map (fun s => ob3 tabA (HandSHeadRun.getT s)) = some (tabA.map valI) := by
  kernel_rfl
end Kx

set_option Elab.async false
set_option linter.all false
set_option maxRecDepth 100000
set_option maxHeartbeats 0
namespace Kx
open PySem PySem.Spec PyProof.Rows L2 PySem.W
theorem run_ob1_f (w : World) (os : OsState) : (runW false w os).map (fun s => ob1 (HandSHeadRun.getT s)) = some (true, tabT.map valT) := by
  kernel_rfl
end Kx

set_option Elab.async false
set_option linter.all false
set_option maxRecDepth 100000
set_option maxHeartbeats 0
namespace Kx
open PySem PySem.Spec PyProof.Rows L2 PySem.W
theorem run_ob1_t (w : World) (os : OsState) : (runW true w os).map (fun s => ob1 (HandSHeadRun.getT s)) = some (true, tabT.map valT) := by
  kernel_rfl
end Kx

set_option Elab.async false
set_option linter.all false
set_option maxRecDepth 100000
set_option maxHeartbeats 4000000
namespace Kx
open PySem PySem.Spec PyProof.Rows L2

/-! ### f(k = v, ..) without positional values -/
section
variable {X : Cx} {CX : CXT} {k : Nat} {f : Addr} {fd : FuncData} {ps ks : List Str} {sp : Sp} {E : XK} {x : Str} {p pos : Pos} {kws : List Keyword} {tk : TA} {g : List Value → List Value → List Value} {gV : List V → List V → List V}
theorem pe_callN0 (F : FnOk X.prog X.w X.K X.mg X.base CX k f fd ps sp) (hr : Room k X.A) (hg : Gl X x) (hm : X.mg x = some (.ref f)) (hk : PySem.W.keepIn X.K (.ref f) = true) (hb : KBn X.K fd ps 0 ks g gV) (hx : Passes CX X E)
    (hkw : PK X kws tk) (hall : (backToKw pos (keywordEach kws X.env)).all (·.1.isSome) = true := by rfl) (hks : (backToKw pos (keywordEach kws X.env)).filterMap (·.1) = ks := by rfl)
    (hdb : (x == ("__debug__" : Str)) = false := by decide)
    (hpl : ((backTo pos (starEach [] X.env)).any (·.1) || (backToKw pos (keywordEach kws X.env)).any (·.1.isNone)) = false := by rfl) :
    PE X (.Call (.Name x p) [] kws pos) (tCallN 0 ks.length sp gV E tNil tk) := by
  refine ⟨fun pins s σ H Q I h => ?_⟩
  refine wpAny_Call_Name_kw (ld_glob I hg hm ?_ hdb)
  refine PySem.W.callWith_KW0 (h₀ := X.base) I.ok.mod.kin hk hall ?_ hpl
  refine thn (hkw.run pos pins s σ H _ I h) fun ws s2 ⟨zs, H2, I2, rz, l1, l2, q2⟩ => ⟨I2.kIn, ?_⟩
  rw [hks]
  exact run_fnN (us := []) (vs := []) F hr hb hx I2 .nil rz rfl l2 q2
end
/-- one parameter, called by its name -/
theorem kbn1 {K : PySem.W.Frag} {x qual a : Str} {st : Stmt} {f : Addr} {fd : FuncData} (F : Fun K x qual st f fd)
    (h : ∀ (kV doc pm : Value) (an : Option Addr) (cdv ct : Value) (u : Value), bindArgs (PySem.W.fnOf x qual (defArgs st) (defBody st) (defScope st) .none kV doc pm an cdv ct) ⟨[], [(a, u)]⟩ = pure [(a, u)]) :
    KBn K fd [a] 0 [a] (fun _ ws => ws) (fun _ zs => zs) := by
  obtain ⟨oc, od, kV, doc, pm, an, cdv, ct, osl, rfl, lk, hcd⟩ := F.ex
  refine ⟨fun s us ws _ h1 h2 => ?_, fun _ r => r⟩
  match us, ws, h1, h2 with
  | [], [u], _, _ => exact .of_eq (h kV doc pm an cdv ct u)

/-! ### text * int -/
section
variable {X : Cx}
theorem op_mul_str : OpR X (binaryOp .Mult) (fun x y H Q => ∃ z n, x = .str z ∧ y = .int n ∧ MulOk z n ∧ Q (.str (Txt.mul z n)) H) := by
  intro pins s σ H x y v u Q I rx ry h
  obtain ⟨z, n, rfl, rfl, hok, q⟩ := h
  obtain ⟨t, rfl⟩ := rx
  obtain ⟨t', rfl⟩ := ry
  exact SB.mul hok fun t' k => ⟨.str _, H, I.tok k, ⟨t', rfl⟩, q⟩
end

/-! ### heaps -/
theorem same_upd {H : Hp} {p : Addr} {o : HO} (h : H p = none) : Same H (upd H p o) := fun b x e => by
  rw [upd_ne (ne_of_none e h)]
  exact e
theorem Same.mut {H H' : Hp} {p : Addr} {o : HO} (e : Same H H') (h : H p = none) : Same H (upd H' p o) := fun b x q => by
  rw [upd_ne (ne_of_none q h)]
  exact e b x q
theorem fresh_back {H H' : Hp} {p : Addr} (e : Same H H') (h : H' p = none) : H p = none := e.free h

/-! ### data -/
def kD : Key → PyData
  | .inl i => .int i
  | .inr x => .str x
mutual
/-- the value v stands for the data d -/
inductive Rp (H : Hp) : V → PyData → Prop
  | non : Rp H .non .none
  | bl (b : Bool) : Rp H (.bl b) (.bool b)
  | int (i : Int) : Rp H (.int i) (.int i)
  | str (x : Str) : Rp H (.str x) (.str x)
  | lst {a : Addr} {xs : List V} {ds : List PyData} : H a = some (.lst xs) → RpL H xs ds → Rp H (.ref a) (.list ds)
  | tup {a : Addr} {xs : List V} {ds : List PyData} : H a = some (.tup xs) → RpL H xs ds → Rp H (.ref a) (.tuple ds)
  | dct {a : Addr} {kvs : List (Key × V)} {es : List (PyData × PyData)} : H a = some (.dK kvs) → RpD H kvs es → Rp H (.ref a) (.dict es)
inductive RpL (H : Hp) : List V → List PyData → Prop
  | nil : RpL H [] []
  | cons {v : V} {vs : List V} {d : PyData} {ds : List PyData} : Rp H v d → RpL H vs ds → RpL H (v :: vs) (d :: ds)
inductive RpD (H : Hp) : List (Key × V) → List (PyData × PyData) → Prop
  | nil : RpD H [] []
  | cons {k : Key} {v : V} {vs : List (Key × V)} {d : PyData} {ds : List (PyData × PyData)} : Rp H v d → RpD H vs ds → RpD H ((k, v) :: vs) ((kD k, d) :: ds)
end
section
variable {H H' : Hp} (e : Same H H')
include e
mutual
theorem Rp.mono : ∀ {v : V} {d : PyData}, Rp H v d → Rp H' v d
  | _, _, .non => .non
  | _, _, .bl b => .bl b
  | _, _, .int i => .int i
  | _, _, .str x => .str x
  | _, _, .lst h r => .lst (e _ _ h) (RpL.mono r)
  | _, _, .tup h r => .tup (e _ _ h) (RpL.mono r)
  | _, _, .dct h r => .dct (e _ _ h) (RpD.mono r)
theorem RpL.mono : ∀ {v : List V} {d : List PyData}, RpL H v d → RpL H' v d
  | _, _, .nil => .nil
  | _, _, .cons a r => .cons (Rp.mono a) (RpL.mono r)
theorem RpD.mono : ∀ {v : List (Key × V)} {d : List (PyData × PyData)}, RpD H v d → RpD H' v d
  | _, _, .nil => .nil
  | _, _, .cons a r => .cons (Rp.mono a) (RpD.mono r)
end
end
theorem RpL.length {H : Hp} : ∀ {v : List V} {d : List PyData}, RpL H v d → v.length = d.length
  | _, _, .nil => rfl
  | _, _, .cons _ r => congrArg Nat.succ (RpL.length r)
theorem RpL.get {H : Hp} : ∀ {vs : List V} {ds : List PyData} {i : Nat} {d : PyData}, RpL H vs ds → ds[i]? = some d → ∃ v, vs[i]? = some v ∧ Rp H v d
  | _, _, _, _, .nil, h => by simp at h
  | _, _, 0, _, .cons a _, h => by
    simp at h
    subst h
    exact ⟨_, rfl, a⟩
  | _, _, i + 1, d, .cons _ r, h => by
    obtain ⟨v, h1, h2⟩ := RpL.get (i := i) (d := d) r (by simpa using h)
    exact ⟨v, by simpa using h1, h2⟩
theorem RpL.strs {H : Hp} : ∀ ys : List Str, RpL H (ys.map V.str) (ys.map PyData.str)
  | [] => .nil
  | y :: r => .cons (.str y) (RpL.strs r)
theorem RpL.append {H : Hp} : ∀ {v w : List V} {d e : List PyData}, RpL H v d → RpL H w e → RpL H (v ++ w) (d ++ e)
  | _, _, _, _, .nil, s => s
  | _, _, _, _, .cons a r, s => .cons a (RpL.append r s)

/-! ### isinstance by data -/
def tyD : PyData → String
  | .none => "NoneType"
  | .bool _ => "bool"
  | .int _ => "int"
  | .str _ => "str"
  | .list _ => "list"
  | .tuple _ => "tuple"
  | .dict _ => "dict"
theorem Rp.ty {K : PySem.W.Frag} {H : Hp} {v : V} {d : PyData} (h : Rp H v d) : TyX K H v (.type (tyD d)) := by
  cases h with
  | non => exact .base .non
  | bl b => exact .base (.bl b)
  | int i => exact .base (.int i)
  | str x => exact .base (.str x)
  | lst h _ => exact .base (.lst h)
  | tup h _ => exact .base (.tup h)
  | dct h _ => exact .base (.dK h)
def isTy (s T : String) : Bool := s == T || (T == "int" && s == "bool")
def tys : List String := ["NoneType", "bool", "int", "str", "list", "tuple", "dict"]
theorem tyD_mem (d : PyData) : tyD d ∈ tys := by cases d <;> simp [tyD, tys]
theorem kit_tys : (tys.all fun s => ["str", "int", "bool", "tuple", "list", "dict"].all fun T => decide (kitB s T = some (isTy s T))) = true := by decide +kernel
theorem kit_isTy {s T : String} (hs : s ∈ tys) (hT : T ∈ ["str", "int", "bool", "tuple", "list", "dict"]) : kitB s T = some (isTy s T) :=
  of_decide_eq_true (List.all_eq_true.mp (List.all_eq_true.mp kit_tys s hs) T hT)
theorem isi_rp {K : PySem.W.Frag} {H : Hp} {v : V} {d : PyData} {T : String} {Q : VK} (h : Rp H v d) (hT : T ∈ ["str", "int", "bool", "tuple", "list", "dict"]) (q : Q (.bl (isTy (tyD d) T)) H) : rIsi K [v, .ty T] H Q :=
  ⟨v, .ty T, _, _, _, rfl, .ty T, h.ty, kit_ty (kit_isTy (tyD_mem d) hT), q⟩

def isStrD : PyData → Bool
  | .str _ => true
  | _ => false
def isIntD : PyData → Bool
  | .int _ => true
  | .bool _ => true
  | _ => false
def isBoolD : PyData → Bool
  | .bool _ => true
  | _ => false
def isTupD : PyData → Bool
  | .tuple _ => true
  | _ => false
def isLstD : PyData → Bool
  | .list _ => true
  | _ => false
def isDctD : PyData → Bool
  | .dict _ => true
  | _ => false
theorem isi_of {K : PySem.W.Frag} {H : Hp} {v : V} {d : PyData} {T : String} {b : Bool} {Q : VK} (h : Rp H v d) (hT : T ∈ ["str", "int", "bool", "tuple", "list", "dict"]) (e : isTy (tyD d) T = b) (q : Q (.bl b) H) : rIsi K [v, .ty T] H Q :=
  isi_rp h hT (by rw [e]; exact q)
theorem kit_of_ty {K : PySem.W.Frag} (d : PyData) {T : String} {b : Bool} (hT : T ∈ ["str", "int", "bool", "tuple", "list", "dict"]) (e : isTy (tyD d) T = b) : PySem.W.kitOne K (.type (tyD d)) (.type T) = some b := by
  rw [← e]
  exact kit_ty (kit_isTy (tyD_mem d) hT)
section
variable {K : PySem.W.Frag}
theorem kit_str (d : PyData) : PySem.W.kitOne K (.type (tyD d)) (.type "str") = some (isStrD d) := kit_of_ty d (by decide) (by cases d <;> simp [isTy, tyD, isStrD])
theorem kit_int (d : PyData) : PySem.W.kitOne K (.type (tyD d)) (.type "int") = some (isIntD d) := kit_of_ty d (by decide) (by cases d <;> simp [isTy, tyD, isIntD])
theorem kit_bool (d : PyData) : PySem.W.kitOne K (.type (tyD d)) (.type "bool") = some (isBoolD d) := kit_of_ty d (by decide) (by cases d <;> simp [isTy, tyD, isBoolD])
theorem kit_tup (d : PyData) : PySem.W.kitOne K (.type (tyD d)) (.type "tuple") = some (isTupD d) := kit_of_ty d (by decide) (by cases d <;> simp [isTy, tyD, isTupD])
theorem kit_lst (d : PyData) : PySem.W.kitOne K (.type (tyD d)) (.type "list") = some (isLstD d) := kit_of_ty d (by decide) (by cases d <;> simp [isTy, tyD, isLstD])
theorem kit_dct (d : PyData) : PySem.W.kitOne K (.type (tyD d)) (.type "dict") = some (isDctD d) := kit_of_ty d (by decide) (by cases d <;> simp [isTy, tyD, isDctD])
end

/-! ### data without dicts, as the library has them -/
mutual
theorem Rp.dp {K : PySem.W.Frag} {H : Hp} : ∀ {v : V} {d : PyData}, Rp H v d → d.canLay0 = true → Dp K H v d
  | _, _, .non, _ => .non
  | _, _, .bl b, _ => .bl b
  | _, _, .int i, _ => .int i
  | _, _, .str x, _ => .str x
  | _, .list ds, .lst h r, c => .lst (.inl (.inl h)) (RpL.dp r (by simpa [PyData.canLay0] using c))
  | _, .tuple ds, .tup h r, c => .tup (.inl (.inl h)) (RpL.dp r (by simpa [PyData.canLay0] using c))
  | _, .dict es, .dct h r, c => by simp [PyData.canLay0] at c
theorem RpL.dp {K : PySem.W.Frag} {H : Hp} : ∀ {v : List V} {d : List PyData}, RpL H v d → PyData.canLayAll0 d = true → DpAll K H v d
  | _, _, .nil, _ => .nil
  | _, d :: ds, .cons a r, c => by
    simp [PyData.canLayAll0] at c
    exact .cons (Rp.dp a c.1) (RpL.dp r c.2)
end

/-! ### a text is no dict -/
theorem str_eq_declines_dict (b : Str) (u : Tok) (l : Addr) (o : Obj) (hc : o.cls = .type "dict") {es : Array DictEntry} {ep : Nat} (hd : o.data = .dict es ep) :
    Meets (Builtin.«str.__eq__» ⟨[.str b u, .ref l], []⟩) (fun _ R s => s.heap.get? l = some o ∧ R (.ok (.ret .notImplemented)) s) :=
  .of_wp fun prog w A R s h => by
    obtain ⟨cls, dd, data, sl⟩ := o
    simp only at hc hd
    subst hc hd
    obtain ⟨hp, g, d, tk, os⟩ := s; obtain ⟨hl, h⟩ := h; wp_walk using wpAny_loadPart' hl, wpAny_load hl; exact ⟨_, rfl, h⟩
theorem dict_eq_declines_str (l : Addr) (o : Obj) (hc : o.cls = .type "dict") (b : Str) (u : Tok) :
    Meets (Builtin.«dict.__eq__» ⟨[.ref l, .str b u], []⟩) (fun _ R s => s.heap.get? l = some o ∧ R (.ok (.ret .notImplemented)) s) :=
  .of_wp fun prog w A R s h => by
    obtain ⟨cls, dd, data, sl⟩ := o
    simp only at hc
    subst hc
    obtain ⟨hp, g, d, tk, os⟩ := s; obtain ⟨hl, h⟩ := h; have f1 := F.sub_str_dict; wp_walk using wpAny_loadPart' hl; exact ⟨_, rfl, h⟩
theorem eqAt_str_dict {A : Around} {s : Shared} {l : Addr} {o : Obj} (b : Str) (u : Tok) (ho : s.heap.get? l = some o) (hc : o.cls = .type "dict") {es : Array DictEntry} {ep : Nat} (hd : o.data = .dict es ep) (hu : A.units < cLine) : SeqAt.EqAt A s (.str b u) (.ref l) false := fun prog w E Q h => by
  unfold eqBool
  refine wpAny_holding ?_
  refine wpAny_ite_split (fun hab => absurd (eq_of_beq hab) nofun) (fun _ => ?_)
  refine wpAny_bind (SeqAt.rc_eq_decline_or (k := false) (typeIs_str s b u) ⟨_, ho, hc⟩ (by decide) F.sub_dict_str F.slot_str_eq F.slot_dict_eq_refl
    (fun _ hq => call_meets F.slot_str_eq (typeIs_str s b u) F.entry_str_eq (F.args_str_eq_2 _ _) (str_eq_declines_dict b u l o hc hd) ⟨ho, hq⟩)
    (fun _ hq => call_meets F.slot_dict_eq_refl ⟨_, ho, hc⟩ F.entry_dict_eq (F.args_dict_eq_2 _ _) (dict_eq_declines_str l o hc b u) ⟨ho, hq⟩)
    (fun _ hq => wpAny_of_eq (rfl : isSame (.str b u) (.ref l) = pure false) hq) (.inr hu) (wpAny_truthy_bool h))

/-! ### x in a list or tuple of texts, x any data -/
def strIs (w : Str) : PyData → Bool
  | .str x => w == x
  | _ => false
section
variable {X : Cx} {pins : List (Addr × Obj)} {σ : L2.St} {H : Hp} {s : Shared}
theorem eqAt_strIs (I : Inv X pins σ H s) {v : V} {d : PyData} {u : Value} (h : Rp H v d) (r : RelV v u) (hu : X.A.units + 1 < cLine) (b : Str) (t : Tok) : SeqAt.EqAt X.A.in1 s (.str b t) u (strIs b d) := by
  have hu1 : X.A.in1.units < cLine := hu
  cases h with
  | non => cases r; exact SeqAt.EqAt.str_none b t
  | bl k => cases r; exact SeqAt.EqAt.str_bool b t k
  | int i => obtain ⟨t', rfl⟩ := r; exact SeqAt.EqAt.str_int b t i t'
  | str x => obtain ⟨t', rfl⟩ := r; exact SeqAt.EqAt.str_str b t x t'
  | lst h _ =>
    cases r
    obtain ⟨its, _, pl, _⟩ := I.list (.inl (.inl h))
    exact SeqAt.EqAt.str_list b t pl.isList hu1
  | tup h _ =>
    cases r
    obtain ⟨its, _, pl, _⟩ := I.tuple (.inl (.inl h))
    exact SeqAt.EqAt.str_tuple b t pl hu1
  | @dct a kvs es h _ =>
    cases r
    obtain ⟨_, _, vs, _, o, es, ep, h1, h2, h3, _⟩ := (show ObjOk X.prog X.w H s.heap a (.dK kvs) from I.hok a _ h)
    exact eqAt_str_dict b t h1 h2.1 h3 hu1
def eqW (d : PyData) : Value → Bool
  | .str z _ => strIs z d
  | _ => false
theorem any_eqW (d : PyData) : ∀ {ws : List Str} {us : List Value}, Vals (ws.map V.str) us → us.any (eqW d) = ws.any (strIs · d)
  | [], _, .nil => rfl
  | w :: ws, _, .cons r t => by
    obtain ⟨k, rfl⟩ := r
    rw [List.any_cons, List.any_cons, any_eqW d t]
    rfl
theorem mem_eqW (I : Inv X pins σ H s) {v : V} {d : PyData} {u : Value} (h : Rp H v d) (r : RelV v u) (hu : X.A.units + 1 < cLine) : ∀ {ws : List Str} {us : List Value}, Vals (ws.map V.str) us → ∀ z ∈ us, SeqAt.EqAt X.A.in1 s z u (eqW d z)
  | [], _, .nil => fun z hz => by cases hz
  | w :: ws, _, .cons q t => fun z hz => by
    obtain ⟨k, rfl⟩ := q
    rcases List.mem_cons.mp hz with rfl | hz
    · exact eqAt_strIs I h r hu w k
    · exact mem_eqW I h r hu t z hz
def rInAny (K : PySem.W.Frag) : R2 := fun x y H Q => ∃ (p : Addr) (ws : List Str) (d : PyData), y = .ref p ∧ (SqL K H p (ws.map V.str) ∨ SqT K H p (ws.map V.str)) ∧ Rp H x d ∧ Q (.bl (ws.any (strIs · d))) H
theorem op_in_any (hu : X.A.units + 1 < cLine) : OpR X (compareOp .In) (rInAny X.K) := by
  intro pins s σ H x y v u Q I rx ry h
  obtain ⟨p, ws, d, rfl, hq, hx, q⟩ := h
  cases ry
  rcases hq with hq | hq
  · obtain ⟨its, r, pl, hz⟩ := I.list hq
    refine SeqAt.in_listAt (eqW d) pl.isList (fun w hw => mem_eqW I hx rx hu r w (by simpa using hw)) ⟨.bl _, H, I, rfl, ?_⟩
    rw [show its.toArray.any (eqW d) = its.any (eqW d) by simp, any_eqW d r]
    exact q
  · obtain ⟨its, r, pl, hz⟩ := I.tuple hq
    refine SeqAt.in_tupleAt (eqW d) pl (fun w hw => mem_eqW I hx rx hu r w (by simpa using hw)) ⟨.bl _, H, I, rfl, ?_⟩
    rw [show its.toArray.any (eqW d) = its.any (eqW d) by simp, any_eqW d r]
    exact q
end

/-! ### comprehensions whose steps only add to the heap -/
/-- what the i-th turn gives: none (left out), or a value -/
def outs (n : Nat) (o : Nat → Option V) : List V := (List.range n).filterMap o
theorem outs_succ (n : Nat) (o : Nat → Option V) : outs (n + 1) o = outs n o ++ (o n).toList := by
  unfold outs
  rw [List.range_succ, List.filterMap_append]
  cases h : o n <;> simp [h]
theorem outs_len (n : Nat) (o : Nat → Option V) : (outs n o).length ≤ n := by
  unfold outs
  exact Nat.le_trans (List.length_filterMap_le _ _) (by simp)
theorem range_get {α : Type} (l : List α) : (List.range l.length).filterMap (fun i => l[i]?) = l := by
  induction l with
  | nil => rfl
  | cons a r ih =>
    rw [List.length_cons, List.range_succ_eq_map, List.filterMap_cons]
    simp only [List.getElem?_cons_zero, List.filterMap_map]
    congr 1
theorem outs_list {α : Type} (l : List α) (f : α → Option V) : outs l.length (fun i => (l[i]?).bind f) = l.filterMap f := by
  unfold outs
  rw [← List.filterMap_filterMap, range_get]
theorem outs_arr {α : Type} (l : Array α) (f : α → Option V) : outs l.size (fun i => (l[i]?).bind f) = l.toList.filterMap f := by
  rw [← outs_list]
  simp
section
variable {g : TG} {tt : TT} {te : TE} {vs : List Nat} {σ : L2.St} {H1 : Hp} {D : Addr} {Qd : Hp → Prop}
theorem lc_str {x : Str} (Pv : Nat → Hp → Prop) (h0 : Pv 0 (upd H1 D (.lst [])))
    (hs : ∀ i c H, x.cps[i]? = some c → Pv i H → g (.str ⟨#[c]⟩) (wipe σ vs) H fun σ2 H2 => wipe σ2 vs = wipe σ vs ∧ tt σ2 H2 fun b H3 =>
      if b = true then te σ2 H3 fun y H4 => ∃ acc, H4 D = some (.lst acc) ∧ acc.length < sizeLine ∧ Pv (i + 1) (upd H4 D (.lst (acc ++ [y]))) else Pv (i + 1) H3) (hd : ∀ H, Pv x.cps.size H → Qd H) :
    ∃ W : Nat → Nat → Hp → Prop, (∃ m, W 0 m (upd H1 D (.lst []))) ∧ ∀ i m H, W i m H →
      ((Its x).stop i H ∧ Qd H) ∨ ((Its x).go i H ∧ ∃ Nx : Hp → Prop, (∀ H', Nx H' → ∃ m', m' < m ∧ W (i + 1) m' H') ∧ ∀ y H', (Its x).yld i H y H' → g y (wipe σ vs) H' fun σ2 H2 => wipe σ2 vs = wipe σ vs ∧ tt σ2 H2 fun b H3 =>
        if b = true then te σ2 H3 fun y H4 => ∃ acc, H4 D = some (.lst acc) ∧ acc.length < sizeLine ∧ Nx (upd H4 D (.lst (acc ++ [y]))) else Nx H3) := by
  refine ⟨fun i m H => m = x.cps.size - i ∧ i ≤ x.cps.size ∧ Pv i H, ⟨x.cps.size, by simp, Nat.zero_le _, h0⟩, ?_⟩
  rintro i m H ⟨rfl, hi, p⟩
  by_cases hlt : i < x.cps.size
  · refine .inr ⟨hlt, Pv (i + 1), fun H' p' => ⟨x.cps.size - (i + 1), by omega, rfl, hlt, p'⟩, fun y H' z => ?_⟩
    obtain ⟨e, c, hc, rfl⟩ := z
    subst e
    exact hs i c _ hc p
  · have e : i = x.cps.size := by omega
    subst e
    exact .inl ⟨Nat.le_refl _, hd _ p⟩
/-- the invariant of a comprehension that only adds -/
def Adds (H1 : Hp) (D : Addr) (o : Nat → Option V) (i : Nat) (H : Hp) : Prop := Same H1 H ∧ H D = some (.lst (outs i o))
theorem adds0 {o : Nat → Option V} (hD : H1 D = none) : Adds H1 D o 0 (upd H1 D (.lst [])) := ⟨same_upd hD, upd_same⟩
theorem adds_some {o : Nat → Option V} {i : Nat} {H H4 : Hp} {y : V} (hD : H1 D = none) (a : Adds H1 D o i H) (hi : i < 100000) (e : Same H H4) (ho : o i = some y) :
    ∃ acc, H4 D = some (.lst acc) ∧ acc.length < sizeLine ∧ Adds H1 D o (i + 1) (upd H4 D (.lst (acc ++ [y]))) := by
  refine ⟨outs i o, e _ _ a.2, Nat.lt_of_le_of_lt (outs_len i o) (Nat.lt_of_lt_of_le hi (by decide)), Kx.Same.mut (a.1.trans e) hD, ?_⟩
  rw [upd_same, outs_succ, ho]
  rfl
theorem adds_none {o : Nat → Option V} {i : Nat} {H H4 : Hp} (a : Adds H1 D o i H) (e : Same H H4) (ho : o i = none) : Adds H1 D o (i + 1) H4 := by
  refine ⟨a.1.trans e, ?_⟩
  rw [e _ _ a.2, outs_succ, ho]
  simp
end
/-! ### the rules with the written part by its own name -/
section
variable {X : Cx} {K : PySem.W.Frag}
theorem ix_listK (e : X.K = K := by rfl) : IxR X (rIxL K) := by subst e; exact ix_list
theorem ix_tupK (e : X.K = K := by rfl) : IxR X (rIxT K) := by subst e; exact ix_tup
theorem sl_listK (e : X.K = K := by rfl) : SlR X (rSlL K) := by subst e; exact sl_list
theorem sl_tupK (e : X.K = K := by rfl) : SlR X (rSlT K) := by subst e; exact sl_tup
def rLenK (K : PySem.W.Frag) : List V → Hp → VK → Prop := fun xs H Q => ∃ x n, xs = [x] ∧ LenV K x H n ∧ Q (.int (n : Nat)) H
theorem call_lenK (e : X.K = K := by rfl) : CallR X (.builtin "len") (rLenK K) := by subst e; exact call_len
theorem cr_allK (hc : X.calm = true) (e : X.K = K := by rfl) : CallR X (.builtin "all") (rAll K) := by subst e; exact cr_all hc
theorem cr_anyK (hc : X.calm = true) (e : X.K = K := by rfl) : CallR X (.builtin "any") (rAny K) := by subst e; exact cr_any hc
theorem call_isiK1 (e : X.K = K := by rfl) : CallR X (.builtin "isinstance") (rIsi K) := by subst e; exact call_isi
theorem call_isiTK (e : X.K = K := by rfl) : CallR X (.builtin "isinstance") (rIsiT K) := by subst e; exact call_isiT
theorem op_eqDK (hu : X.A.units + 64 < cLine) (e : X.K = K := by rfl) : OpR X (compareOp .Eq) (rEqD K) := by subst e; exact op_eqD hu
theorem op_neDK (hu : X.A.units + 64 < cLine) (e : X.K = K := by rfl) : OpR X (compareOp .NotEq) (rNeD K) := by subst e; exact op_neD hu
theorem op_in_seqK (e : X.K = K := by rfl) : OpR X (compareOp .In) (rIn K false) := by subst e; exact op_in_seq
theorem op_notIn_seqK (e : X.K = K := by rfl) : OpR X (compareOp .NotIn) (rIn K true) := by subst e; exact op_notIn_seq
theorem op_in_anyK (hu : X.A.units + 1 < cLine) (e : X.K = K := by rfl) : OpR X (compareOp .In) (rInAny K) := by subst e; exact op_in_any hu
def rListK (K : PySem.W.Frag) : List V → Hp → VK → Prop := fun xs H Q => ∃ p ys, xs = [.ref p] ∧ (SqL K H p ys ∨ SqT K H p ys) ∧ ∀ l, H l = none → Q (.ref l) (upd H l (.lst ys))
theorem call_list_ofK (e : X.K = K := by rfl) : CallR X (.type "list") (rListK K) := by subst e; exact call_list_of
def rTupleK (K : PySem.W.Frag) : List V → Hp → VK → Prop := fun xs H Q => ∃ p ys, xs = [.ref p] ∧ ((SqL K H p ys ∧ ∀ l, H l = none → Q (.ref l) (upd H l (.tup ys))) ∨ (SqT K H p ys ∧ Q (.ref p) H))
theorem call_tuple_ofK (e : X.K = K := by rfl) : CallR X (.type "tuple") (rTupleK K) := by subst e; exact call_tuple_of
theorem pi_listK {tg l : Expr} {tl : TE} (hl : PE X l tl) (e : X.K = K := by rfl) : PI X tg l (iList K tl) := by subst e; exact pi_list hl
theorem pi_tupK {tg l : Expr} {tl : TE} (hl : PE X l tl) (e : X.K = K := by rfl) : PI X tg l (iTup K tl) := by subst e; exact pi_tup hl
def rJoinK (K : PySem.W.Frag) : V → List V → Hp → VK → Prop := fun x xs H Q => ∃ a p, ∃ ys : List Str, x = .str a ∧ xs = [.ref p] ∧ (SqL K H p (ys.map V.str) ∨ SqT K H p (ys.map V.str)) ∧
    (ys.map (·.length)).sum + ys.length * a.length ≤ 16777216 ∧ Q (.str (Txt.join a ys)) H
theorem mt_joinK (e : X.K = K := by rfl) : MtR X "str.join" (rJoinK K) := by subst e; exact mt_join
theorem pe_joinK {o e1 : Expr} {to te : TE} {apos pos : Pos} (ho : PE X o to) (he : PE X e1 te) (e : X.K = K := by rfl) (hs : starEach [e1] X.env = [(false, eval e1 X.env)] := by rfl) (hbase : attributeBase o "join" X.env (eval o X.env) = eval o X.env := by rfl) (hline : (apos.endLine == pos.line) = true := by rfl) :
    PE X (.Call (.Attribute o "join" apos) [e1] [] pos) (tM1 (rJoinK K) to te) := pe_m1 F.slot_str_join F.type_str_join (mt_joinK e) ho he hs hbase hline
end
end Kx

set_option Elab.async false
set_option linter.all false
set_option maxRecDepth 100000
set_option maxHeartbeats 4000000
namespace Kx
open PySem PySem.Spec PyProof.Rows L2
/-! ### an own exception as a value: C(e, ..), its __init__ walked -/
def tExV (C : Addr) (sp : Sp) (ta : TA) : TE := fun σ H Q => ta σ H fun vs H1 => vs.length ≤ 1000 ∧ ∀ a, H1 a = none → sp (.ref a :: vs) (upd H1 a (exo a C none)) (fun v H2 => v = .non ∧ Q (.ref a) H2) E0
section
variable {X : Cx} {e : Expr} {es : List Expr} {ta : TA} {p pos : Pos}
theorem pe_exv {x : Str} {C fI : Addr} {k : Nat} {fd : FuncData} {ps : List Str} {sp : Sp} (T : OexC X.K C) (iC : PySem.W.findIn X.K (.ref C) "__init__" = some (some (.ref fI))) (tI : PySem.W.typeIn X.K (.ref fI) = some (.type "function"))
    (F1 : FnOk X.prog X.w X.K X.mg X.base CX0 k fI fd ps sp) (hr : Room (k + 1) X.A) (hb : Binds X.K fd ps []) (hg : Gl X x) (hm : X.mg x = some (.ref C)) (ha : PA X (e :: es) ta)
    (hdb : (x == ("__debug__" : Str)) = false := by decide) (he : starEach (e :: es) X.env = (false, eval e X.env) :: starEach es X.env := by rfl) (hpl : (backTo pos (starEach es X.env)).any (·.1) = false := by rfl) :
    PE X (.Call (.Name x p) (e :: es) [] pos) (tExV C sp ta) := by
  refine ⟨fun pins s σ H Q I h => ?_⟩
  obtain ⟨nm, q, N, bs, bm, sn, sub, ab, col, dd, k0, k1, k2, k3, k5, hC, hbm⟩ := T.cls
  refine wpAny_Call_Name_kw (ld_glob I hg hm ?_ hdb)
  refine PySem.W.callWith_K (h₀ := X.base) I.ok.mod.kin T.kC (thn (ha.run pos pins s σ H _ I h) fun us s1 ⟨vs, H1, I1, r1, hz, q1⟩ => ⟨I1.kIn, ?_⟩) he hpl
  show wpAny _ _ (call (.ref C) us) _ _ _
  obtain ⟨hp, g, dr, tk, os⟩ := s1
  have hsz : hp.objs.size ≤ hp.objs.size + 1 := Nat.le_succ _
  have hn : H1 (hp.objs.size + 1) = none := I1.hok.fresh hsz
  have hq := q1 (hp.objs.size + 1) hn
  have kk : ∀ b o, hp.get? b = some o → ((hp.push (PySem.W.kdv_tup us)).push (PySem.HandSPX.excO C hp.objs.size)).get? b = some o := fun b o e => Heap.get?_push_of_some _ (Heap.get?_push_of_some _ e)
  have hget : ((hp.push (PySem.W.kdv_tup us)).push (PySem.HandSPX.excO C hp.objs.size)).get? (hp.objs.size + 1) = some (PySem.HandSPX.excO C hp.objs.size) := by heap_get
  have I2 : Inv X pins σ (upd H1 (hp.objs.size + 1) (exo (hp.objs.size + 1) C none)) ⟨(hp.push (PySem.W.kdv_tup us)).push (PySem.HandSPX.excO C hp.objs.size), g, dr, tk, os⟩ :=
    I1.laid (t' := tk) (a := hp.objs.size + 1) (o := exo (hp.objs.size + 1) C none) (h' := (hp.push (PySem.W.kdv_tup us)).push (PySem.HandSPX.excO C hp.objs.size)) kk hsz (exo_ok hget)
  have r2 : Vals (V.ref (hp.objs.size + 1) :: vs) (Value.ref (hp.objs.size + 1) :: us) := .cons rfl r1
  have hl : (Value.ref (hp.objs.size + 1) :: us ++ []).length = ps.length := by
    have e := r2.length
    rw [F1.len _ _ _ _ hq] at e
    rw [List.append_nil]
    exact e.symm
  have hus : us.length ≤ sizeLine := by
    rw [← Paired.length r1, sizeLine_eq]
    omega
  refine wpAny_call (PySem.HandSPX.call_own F.excBase_ValueError (fun Y => PySem.HandSPX.refsVE_contains Y bm hbm) (I1.kIn _ _ hC) (PySem.W.looks_findIn I1.kIn iC) (fun self => PySem.W.bind_fn I1.kIn self tI) hus
    (codeAny_mono (F1.run _ X.stack _ _ ⟨Value.ref (hp.objs.size + 1) :: us, []⟩ (Value.ref (hp.objs.size + 1) :: us ++ []) _ _ E0 (hr.make C us []) (I2.env0.make C us []) (hb _ (Value.ref (hp.objs.size + 1) :: us) I2.kIn hl) (by rw [List.append_nil]; exact r2) hq) fun r s' hq' => ?_))
  cases r with
  | error er => exact hq'.elim
  | ok fl =>
    cases fl with
    | ret u =>
      obtain ⟨v, H', I3, rv, ev, q3⟩ := I2.after hq'
      subst ev
      exact ⟨rv, V.ref (hp.objs.size + 1), H', I3, rfl, q3⟩
    | next => exact False.elim hq'
    | brk => exact False.elim hq'
    | cont => exact False.elim hq'
end
/-! ### its field -/
def tExF (K : PySem.W.Frag) (f : Str) (te : TE) : TE := fun σ H Q => te σ H fun x H1 => ∃ (a C d : Addr) (fs : List (Str × V)) (v : V), x = .ref a ∧ H1 a = some (exo a C (some d)) ∧ H1 d = some (exd d fs) ∧ XfC K C ∧ PySem.W.findIn K (.ref C) f = some none ∧ fs.lookup f = some v ∧ Q v H1
theorem pe_exf {X : Cx} {K : PySem.W.Frag} {e : Expr} {te : TE} {pos : Pos} {n : Str} (he : PE X e te) (eK : X.K = K := by rfl) (hb : attributeBase e n X.env (eval e X.env) = eval e X.env := by rfl) : PE X (.Attribute e n pos) (tExF K n te) := by
  subst eK
  refine ⟨fun pins s σ H Q I h => ?_⟩
  refine attr_of hb (thn (he.run pins s σ H _ I h) fun u s1 hh => ?_)
  obtain ⟨x, H1, I1, rx, a, C, d, fs, v, ex, ea, ed, T, hno, l, q⟩ := hh
  subst ex
  obtain rfl : u = Value.ref a := rx
  obtain ⟨t1, ha⟩ := exo_at I1.hok ea
  obtain ⟨mA, hns, hr⟩ := exd_at I1.hok ed
  obtain ⟨od, ho, hl⟩ := lookIn_ns hns
  obtain ⟨u, hu, ru⟩ := RelO.some_of (v := v) (o := mA n) (by rw [← l]; exact hr n)
  have J : PySem.W.InstAt s1.heap a _ C (some od) := ⟨ha, rfl, rfl, ho⟩
  exact HandSPX.exc_get I1.kIn J T.ga T.gg T.exC (PySem.W.findObj_own T.hdC hno rfl (by rw [hl, hu])) (handed_of ru) ⟨v, H1, I1.tok _, ru, q⟩
/-! ### isinstance of it -/
/-- what isinstance asks of a class -/
def rIsX (K : PySem.W.Frag) : List V → Hp → VK → Prop := fun xs H Q => ∃ (a D : Addr) (d : Option Addr) (c : V) (cv : Value) (b : Bool), xs = [.ref a, c] ∧ H a = some (exo a D d) ∧ (∀ dd, d = some dd → ∃ fs, H dd = some (exd dd fs)) ∧ ExcC K D ∧ ClsV c cv ∧ PySem.W.kitOne K (.ref D) cv = some b ∧ Q (.bl b) H
theorem call_isX {X : Cx} {K : PySem.W.Frag} (eK : X.K = K := by rfl) : CallR X (.builtin "isinstance") (rIsX K) := by
  subst eK
  intro pins s σ H xs us Q I r h
  obtain ⟨a, D, d, c, cv, b, rfl, ha, hd, T, hc, e, q⟩ := h
  obtain ⟨u1, u2, rfl, r1, r2⟩ := vals2 r
  cases (show u1 = Value.ref a from r1)
  have e2 := hc.eq r2
  subst e2
  obtain ⟨t1, ho⟩ := exo_at I.hok ha
  have hcl : (PySem.W.clsIn X.K D).isSome = true := by
    obtain ⟨cd, hc, _⟩ := PySem.W.any_some T.hd
    rw [hc]
    rfl
  cases d with
  | none => exact PySem.W.kia_one (PySem.W.kitx_exc (od := none) hcl T.hg T.hk T.hs T.ha T.hn T.ht T.hm) I.kIn ⟨ho, rfl, rfl, trivial⟩ e (fun z => nomatch z) fun tk => ⟨.bl b, H, I.tok tk, rfl, q⟩
  | some dd =>
    obtain ⟨fs, hdd⟩ := hd dd rfl
    obtain ⟨mA, hns, hr⟩ := exd_at I.hok hdd
    obtain ⟨od, hod, _⟩ := lookIn_ns hns
    exact PySem.W.kia_one (PySem.W.kitx_exc (od := some od) hcl T.hg T.hk T.hs T.ha T.hn T.ht T.hm) I.kIn ⟨ho, rfl, rfl, hod⟩ e (fun z => nomatch z) fun tk => ⟨.bl b, H, I.tok tk, rfl, q⟩
end Kx
/-! ### C(k = v, ..): BaseException's __new__ takes keywords and leaves them -/
namespace PySem
namespace KxE
open HandSPX Builtin Builtin.ObjectAttr
section
variable {M : Model} {A : Around} {E : Value → Shared → Prop} {h : Heap} {g : Array GenState} {d : Drawn} {t : Nat} {os : OsState}
variable {nm q : Str} {C N : Addr} {bs bm bmB : List Value} {hdct : Bool} {sn : List Str} {sub : List Value} {ab : Bool} {col : Option Bool} {dd : Option Addr} {k0 k1 k2 k3 k5 : Option Value} {B newId initId : String}
theorem check_new_kw (F : ExcBaseFacts B newId initId bmB) (hT : ∀ X : String, bm.contains (.type X) = bmB.contains (.type X)) {kws : List (Str × Value)} {Q : Unit → Shared → Prop}
    (hC : h.get? C = some (excClassObj nm q C N bs bm hdct sn sub ab col dd k0 k1 k2 k3 k5 newId)) (hq : Q () ⟨h, g, d, t, os⟩) : wpAny M A (checkBuiltinCall newId ⟨[.ref C], kws⟩) Q E ⟨h, g, d, t, os⟩ := by
  have hcont : (Value.ref C :: bm).contains (.type B) = true := by rw [List.contains_cons, hT, F.hasB, Bool.or_true]
  have hstar := F.noStar
  simp only [checkBuiltinCall, F.newKind, F.newSplit, F.newRow]
  repeat (first | refine wpAny_loadPart_at hC ?_ | (refine wpAny_isSubtype_exc hC ?_; rw [hcont]) | refine wpAny_staticBase_exc hC ?_ | refine wpAny_madeBy_exc hC ?_ | simp only [bne_self_eq_false, Bool.false_eq_true, if_false] | wp_step)
  exact hq
end
section
variable {prog : Program} {w : World} {A : Around} {E : Value → Shared → Prop} {R : Result → Shared → Prop} {h : Heap} {g : Array GenState} {d : Drawn} {t : Nat} {os : OsState}
variable {nm q : Str} {C N : Addr} {bs bm bmB : List Value} {hdct : Bool} {sn : List Str} {sub : List Value} {ab : Bool} {col : Option Bool} {dd : Option Addr} {k0 k1 k2 k3 k5 : Option Value} {B newId initId : String}
theorem new_kw (F : ExcBaseFacts B newId initId bmB) (hT : ∀ X : String, bm.contains (.type X) = bmB.contains (.type X)) {kws : List (Str × Value)}
    (hC : h.get? C = some (excClassObj nm q C N bs bm hdct sn sub ab col dd k0 k1 k2 k3 k5 newId))
    (hq : R (.ok (.ret (.ref (h.objs.size + 1)))) ⟨(h.push (W.kdv_tup [])).push (excO C h.objs.size), g, d, t, os⟩) :
    codeAny (model prog w) A (.builtin newId ⟨[.ref C], kws⟩) R ⟨h, g, d, t, os⟩ := by
  have hends := F.ends
  have hcB : (Value.ref C :: bm).contains (.type B) = true := by rw [List.contains_cons, hT, F.hasB, Bool.or_true]
  have hcA : (Value.ref C :: bm).contains (.type "AttributeError") = false := by rw [List.contains_cons, hT, F.noAttr]; rfl
  have hcN : (Value.ref C :: bm).contains (.type "NameError") = false := by rw [List.contains_cons, hT, F.noName]; rfl
  refine codeAny_builtinAt F.entry ?_
  unfold Builtin.«BaseException.__new__»
  refine wpAt_bind ?_
  show wpAt _ _ _ (stack >>= _) _ _ _
  refine wpAt_bind (wpAt_stack fun p below => wpAt_of_wpAny ?_)
  wp_walk
  refine wpAt_of_wpAny ?_
  rw [F.owner]
  repeat (first | with_reducible refine wpAny_madeHere_exc F.canon hC ?_ | with_reducible refine wpAny_loadPart_at hC ?_ | (with_reducible refine wpAny_isSubtype_exc hC ?_; first | rw [hcB] | rw [hcA] | rw [hcN]) | wp_step)
  show R _ _
  rw [Heap.size_push]
  exact hq
theorem type_call_kw (F : ExcBaseFacts B newId initId bmB) (hT : ∀ X : String, bm.contains (.type X) = bmB.contains (.type X)) {kws : List (Str × Value)} {fI : Addr} {Q : Fin → Shared → Prop}
    (hC : h.get? C = some (excClassObj nm q C N bs bm hdct sn sub ab col dd k0 k1 k2 k3 k5 newId))
    (hi : W.Looks (model prog w) h (typeLookup (.ref C) "__init__") (some (.ref fI))) (hb : ∀ self, W.Looks (model prog w) h (bindSpecial (.ref fI) self) (.ref fI, [self]))
    (hq : codeAny (model prog w) A (.call (.ref fI) ⟨[.ref (h.objs.size + 1)], kws⟩)
      (fun r s' => match r with | .ok (.ret v) => v = .none ∧ Q (.done (.ret (.ref (h.objs.size + 1)))) s' | .ok _ => False | .error e => E e s')
      ⟨(h.push (W.kdv_tup [])).push (excO C h.objs.size), g, d, t, os⟩) :
    wpAny (model prog w) A (Builtin.«type.__call__» ⟨[.ref C], kws⟩) Q E ⟨h, g, d, t, os⟩ := by
  repeat (first | with_reducible refine wpAny_loadPart_at hC ?_ | with_reducible refine wpAny_madeBy_exc hC ?_ | wp_step)
  refine codeAny_call_builtin_code (Code.quiet_builtin _ F.quiet) (check_new_kw F hT hC ?_)
  refine new_kw F hT hC ?_
  show wpAny _ _ _ _ _ _
  have k : ∀ b o, h.get? b = some o → ((h.push (W.kdv_tup [])).push (excO C h.objs.size)).get? b = some o := fun b o e => Heap.get?_push_of_some _ (Heap.get?_push_of_some _ e)
  have hC₁ := k _ _ hC
  have hget : ((h.push (W.kdv_tup [])).push (excO C h.objs.size)).get? (h.objs.size + 1) = some (excO C h.objs.size) := by heap_get
  have hcC : (Value.ref C :: bm).contains (.ref C) = true := by simp
  have i1 := hi.keeps k
  have b1 := (hb (.ref (h.objs.size + 1))).keeps k
  unfold isInstance
  repeat (first | with_reducible refine wpAny_loadPart_at hget ?_ | (with_reducible refine wpAny_isSubtype_exc hC₁ ?_; rw [hcC]) | wp_step)
  show wpAny _ _ (typeLookup (.ref C) _) _ _ _
  refine i1.at ?_
  refine wpAny_holding (wpAny_bind (b1.at ?_))
  refine wpAny_bind (wpAny_call (codeAny_mono hq fun r s' z => ?_))
  rcases r with e | (v | _ | _ | _) <;> first | exact z | exact z.elim | skip
  obtain ⟨rfl, z⟩ := z
  first
    | exact wpAny_pure (wpAny_pure z)
    | (wp_walk; exact z)
theorem call_own_kw (F : ExcBaseFacts B newId initId bmB) (hT : ∀ X : String, bm.contains (.type X) = bmB.contains (.type X)) {kws : List (Str × Value)} {fI : Addr}
    (hC : h.get? C = some (excClassObj nm q C N bs bm hdct sn sub ab col dd k0 k1 k2 k3 k5 newId))
    (hi : W.Looks (model prog w) h (typeLookup (.ref C) "__init__") (some (.ref fI))) (hb : ∀ self, W.Looks (model prog w) h (bindSpecial (.ref fI) self) (.ref fI, [self]))
    (hq : codeAny (model prog w) (A.under (.builtin "type.__call__" ⟨[.ref C], kws⟩)) (.call (.ref fI) ⟨[.ref (h.objs.size + 1)], kws⟩) (W.InitBack (h.objs.size + 1) R)
      ⟨(h.push (W.kdv_tup [])).push (excO C h.objs.size), g, d, t, os⟩) :
    codeAny (model prog w) A (.call (.ref C) ⟨[], kws⟩) R ⟨h, g, d, t, os⟩ := by
  have f1 := tc_lookup
  have f2 := tc_bind (.ref C)
  have hTy : (⟨h, g, d, t, os⟩ : Shared).TypeIs (.ref C) "type" := ⟨_, hC, rfl⟩
  refine codeAny_of_tree ?_
  show wpAny _ _ (callAny (.ref C) _) _ _ _
  repeat (any_goals (first | assumption | with_reducible refine wpAny_loadPart_at hC ?_ | wp_step))
  refine ⟨rfl, ?_⟩
  refine codeAny_call_builtin_at (Code.quiet_builtin _ (by decide +kernel)) entry_typeCall (wpAny_check_type_call_sub hC (type_call_kw F hT hC hi hb ?_))
  refine codeAny_mono hq fun r s' z => ?_
  rcases r with e | (v | _ | _ | _) <;> exact z
end
end KxE
end PySem
namespace Kx
open PySem PySem.Spec PyProof.Rows L2
def tExK (C : Addr) (m : Nat) (sp : Sp) (gV : List V → List V) (tk : TA) : TE := fun σ H Q => tk σ H fun zs H1 => zs.length = m ∧ ∀ a, H1 a = none → sp (.ref a :: gV zs) (upd H1 a (exo a C none)) (fun v H2 => v = .non ∧ Q (.ref a) H2) E0
section
variable {X : Cx} {tk : TA} {p pos : Pos} {kws : List Keyword} {ks : List Str} {g : List Value → List Value} {gV : List V → List V}
/-- how the keywords bind: self, then g of the keywords' values -/
structure KB1 (K : PySem.W.Frag) (fd : FuncData) (ps ks : List Str) (g : List Value → List Value) (gV : List V → List V) : Prop where
  to : ∀ (s : Shared) (u : Value) (ws : List Value), K.In s.heap → ws.length = ks.length → BindsTo s fd ⟨[u], ks.zip ws⟩ (ps.zip (u :: g ws))
  rel : ∀ {zs : List V} {ws : List Value}, Vals zs ws → Vals (gV zs) (g ws)
theorem pe_exK {x : Str} {C fI : Addr} {k : Nat} {fd : FuncData} {ps : List Str} {sp : Sp} (T : OexC X.K C) (iC : PySem.W.findIn X.K (.ref C) "__init__" = some (some (.ref fI))) (tI : PySem.W.typeIn X.K (.ref fI) = some (.type "function"))
    (F1 : FnOk X.prog X.w X.K X.mg X.base CX0 k fI fd ps sp) (hr : Room (k + 1) X.A) (hb : KB1 X.K fd ps ks g gV) (hg : Gl X x) (hm : X.mg x = some (.ref C)) (hkw : PK X kws tk)
    (hall : (backToKw pos (keywordEach kws X.env)).all (·.1.isSome) = true := by rfl) (hks : (backToKw pos (keywordEach kws X.env)).filterMap (·.1) = ks := by rfl) (hdb : (x == ("__debug__" : Str)) = false := by decide)
    (hpl : ((backTo pos (starEach [] X.env)).any (·.1) || (backToKw pos (keywordEach kws X.env)).any (·.1.isNone)) = false := by rfl) :
    PE X (.Call (.Name x p) [] kws pos) (tExK C ks.length sp gV tk) := by
  refine ⟨fun pins s σ H Q I h => ?_⟩
  obtain ⟨nm, q, N, bs, bm, sn, sub, ab, col, dd, k0, k1, k2, k3, k5, hC, hbm⟩ := T.cls
  refine wpAny_Call_Name_kw (ld_glob I hg hm ?_ hdb)
  refine PySem.W.callWith_KW0 (h₀ := X.base) I.ok.mod.kin T.kC hall ?_ hpl
  refine thn (hkw.run pos pins s σ H _ I h) fun ws s1 ⟨zs, H1, I1, rz, hz, q1⟩ => ⟨I1.kIn, ?_⟩
  rw [hks]
  show wpAny _ _ (call (.ref C) [] (ks.zip ws)) _ _ _
  obtain ⟨hp, gs, dr, tk', os⟩ := s1
  have hsz : hp.objs.size ≤ hp.objs.size + 1 := Nat.le_succ _
  have hn : H1 (hp.objs.size + 1) = none := I1.hok.fresh hsz
  have hq := q1 (hp.objs.size + 1) hn
  have kk : ∀ b o, hp.get? b = some o → ((hp.push (PySem.W.kdv_tup [])).push (PySem.HandSPX.excO C hp.objs.size)).get? b = some o := fun b o e => Heap.get?_push_of_some _ (Heap.get?_push_of_some _ e)
  have hget : ((hp.push (PySem.W.kdv_tup [])).push (PySem.HandSPX.excO C hp.objs.size)).get? (hp.objs.size + 1) = some (PySem.HandSPX.excO C hp.objs.size) := by heap_get
  have I2 : Inv X pins σ (upd H1 (hp.objs.size + 1) (exo (hp.objs.size + 1) C none)) ⟨(hp.push (PySem.W.kdv_tup [])).push (PySem.HandSPX.excO C hp.objs.size), gs, dr, tk', os⟩ :=
    I1.laid (t' := tk') (a := hp.objs.size + 1) (o := exo (hp.objs.size + 1) C none) (h' := (hp.push (PySem.W.kdv_tup [])).push (PySem.HandSPX.excO C hp.objs.size)) kk hsz (exo_ok hget)
  have r2 : Vals (V.ref (hp.objs.size + 1) :: gV zs) (Value.ref (hp.objs.size + 1) :: g ws) := .cons rfl (hb.rel rz)
  refine wpAny_call (PySem.KxE.call_own_kw F.excBase_ValueError (fun Y => PySem.HandSPX.refsVE_contains Y bm hbm) (I1.kIn _ _ hC) (PySem.W.looks_findIn I1.kIn iC) (fun self => PySem.W.bind_fn I1.kIn self tI)
    (codeAny_mono (F1.run _ X.stack _ _ ⟨[Value.ref (hp.objs.size + 1)], ks.zip ws⟩ (Value.ref (hp.objs.size + 1) :: g ws) _ _ E0 (hr.make C [] (ks.zip ws)) (I2.env0.make C [] (ks.zip ws)) (hb.to _ _ ws I2.kIn (rz.length.symm.trans hz)) r2 hq) fun r s' hq' => ?_))
  cases r with
  | error er => exact hq'.elim
  | ok fl =>
    cases fl with
    | ret u =>
      obtain ⟨v, H', I3, rv, ev, q3⟩ := I2.after hq'
      subst ev
      exact ⟨rv, V.ref (hp.objs.size + 1), H', I3, rfl, q3⟩
    | next => exact False.elim hq'
    | brk => exact False.elim hq'
    | cont => exact False.elim hq'
end
end Kx

set_option Elab.async false
set_option linter.all false
set_option maxRecDepth 100000
set_option maxHeartbeats 4000000
namespace Kx
open PySem PySem.Spec PyProof.Rows L2
/-! ### defs that are called where no list or dict is being shown (repr asks that) -/
structure FnG (P : Program) (w : World) (K : PySem.W.Frag) (mg : Str → Option Value) (base : Heap) (CX : CXT) (k : Nat) (f : Addr) (fd : FuncData) (ps : List Str) (sp : Sp) : Prop where
  len : ∀ vs H Q E, sp vs H Q E → vs.length = ps.length
  run : ∀ (A : Around) (outer : List Env) (s : Shared) (H : Hp) (args : Args) (us : List Value) (vs : List V) (Q : VK) (E : XK), A.guards = some [] → Room k A → Env0 P w K mg base A outer s H → BindsTo s fd args (ps.zip us) → Vals vs us → sp vs H Q E →
    codeAny (model P w) A (.call (.ref f) args) (CR CX outer P w H s Q E) s
section
variable {P : Program} {w : World} {K : PySem.W.Frag} {mg : Str → Option Value} {base : Heap} {CX : CXT} {k : Nat} {f : Addr} {fd : FuncData} {ps : List Str} {sp : Sp}
theorem FnG.of (F : FnOk P w K mg base CX k f fd ps sp) : FnG P w K mg base CX k f fd ps sp := ⟨F.len, fun A outer s H args us vs Q E _ => F.run A outer s H args us vs Q E⟩
theorem FnG.mono {j : Nat} (F : FnG P w K mg base CX j f fd ps sp) (h : j ≤ k) : FnG P w K mg base CX k f fd ps sp := ⟨F.len, fun A outer s H args us vs Q E hg hr => F.run A outer s H args us vs Q E hg (hr.mono h)⟩
theorem fnG_of {name qual : Str} {params : Arguments} {body : List Stmt} {scope : Scope} {dV kV doc pm cdv ct oc : Value} {an od : Option Addr} {osl : Array (Option Value)} {N : List Str}
    (lk : K.lookup f = some ⟨oc, od, .func (PySem.W.fnOf name qual params body scope dV kV doc pm an cdv ct), osl⟩) (hcd : PySem.W.codeIn K cdv qual = true) (S : FnScope N ps scope)
    (len : ∀ vs H Q E, sp vs H Q E → vs.length = ps.length)
    (hbody : ∀ (A : Around) (outer : List Env) (s : Shared) (H : Hp) (vs : List V) (Q : VK) (E : XK), (A.deeper (envOfC qual scope s.heap.objs.size f cdv)).guards = some [] → Room k (A.deeper (envOfC qual scope s.heap.objs.size f cdv)) → sp vs H Q E →
      ∃ t, PSs (cxOf CX P w K mg base N qual scope f cdv A outer s H E) body t ∧ t { nx := fun _ H' => Q .non H', rt := Q } (L2.start N vs) H) :
    FnG P w K mg base CX (k + 1) f (PySem.W.fnOf name qual params body scope dV kV doc pm an cdv ct) ps sp := by
  refine ⟨len, fun A outer s H args us vs Q E hgd hr e0 hb r hsp => ?_⟩
  have hl := len _ _ _ _ hsp
  have keep0 : ∀ b o, base.get? b = some o → s.heap.get? b = some o := fun b o e => (e0.bs b o e).1
  have KX : K.In s.heap := e0.mod.kin.keeps keep0
  have hkind : ∀ y ∈ ps.zip us, scope.names.lookup y.1 = some .local ∨ (scope.names.lookup y.1 = some .cell ∧ ((cellsFrom (s.heap.objs.size + 1) scope.names []).lookup y.1).isSome = true) := fun y hy => by
    rcases S.par y.1 (List.of_mem_zip hy).1 with q | q
    · exact .inl q
    · exact .inr ⟨q, PySem.W.cellsFrom_some _ _ _ (.inl q)⟩
  refine codeAny_call_function hr.depth (KX _ _ lk) rfl S.co S.gen rfl (PySem.W.codeRec_of KX hcd) (hb _ _ _ _ ?_)
  refine wpAny_newFunctionEnv_cells S.kind hkind fun env he s1 x => ?_
  subst he
  refine ⟨(e0.mod.nolimit.keeps keep0).keeps x.toInCall.keep, codeAny_func ?_⟩
  obtain ⟨t, ht, hq⟩ := hbody A outer s H vs Q E hgd (hr.deeper _) hsp
  have I := inv_start (CX := CX) (E := E) S hr.hd e0 hl r x
  refine wpAny_mono (ht.run [] s1 (L2.start N vs) H _ I hq) (fun fl s' hs => ?_) fun e s' hs => hs
  cases fl with
  | ret u =>
    obtain ⟨v, σ', H', J, rv, q⟩ := hs
    exact ⟨v, H', J.os, J.bare, J.base, J.hok, rv, q⟩
  | next =>
    obtain ⟨σ', H', J, q⟩ := hs
    exact ⟨.non, H', J.os, J.bare, J.base, J.hok, rfl, q⟩
  | brk =>
    obtain ⟨_, _, _, q⟩ := hs
    exact False.elim q
  | cont =>
    obtain ⟨_, _, _, q⟩ := hs
    exact False.elim q
theorem Fun.okG {x qual : Str} {st : Stmt} {N : List Str} (F : Fun K x qual st f fd) (S : FnScope N ps (defScope st)) (len : ∀ vs H Q E, sp vs H Q E → vs.length = ps.length)
    (hbody : ∀ (cdv : Value) (A : Around) (outer : List Env) (s : Shared) (H : Hp) (vs : List V) (Q : VK) (E : XK), (A.deeper (envOfC qual (defScope st) s.heap.objs.size f cdv)).guards = some [] → Room k (A.deeper (envOfC qual (defScope st) s.heap.objs.size f cdv)) → sp vs H Q E →
      ∃ t, PSs (cxOf CX0 P w K mg base N qual (defScope st) f cdv A outer s H E).nox (defBody st) t ∧ t { nx := fun _ H' => Q .non H', rt := Q } (L2.start N vs) H) : FnG P w K mg base CX0 (k + 1) f fd ps sp := by
  obtain ⟨oc, od, kV, doc, pm, an, cdv, ct, osl, rfl, lk, hcd⟩ := F.ex
  refine fnG_of lk hcd S len fun A outer s H vs Q E hg hr hsp => ?_
  obtain ⟨t, h, q⟩ := hbody cdv A outer s H vs Q E hg hr hsp
  exact ⟨t, h.nox, q⟩
end
section
variable {X : Cx} {CX : CXT} {k : Nat} {f : Addr} {fd : FuncData} {ps : List Str} {sp : Sp} {ds : List Value} {dvs : List V} {E : XK} {x : Str} {p pos : Pos} {e : Expr} {es : List Expr} {t : TA}
theorem run_fnG {pins : List (Addr × Obj)} {σ : L2.St} {H : Hp} {s : Shared} {Q : VK} {us : List Value} {vs : List V} (F : FnG X.prog X.w X.K X.mg X.base CX k f fd ps sp) (hgd : X.A.guards = some []) (hr : Room k X.A) (hb : Binds X.K fd ps ds) (hd : Vals dvs ds) (hx : Passes CX X E)
    (I : Inv X pins σ H s) (r : Vals vs us) (h : sp (vs ++ dvs) H Q E) : wpAny (model X.prog X.w) X.A (call (.ref f) us) (EP X pins σ Q) X.xe s := by
  have r2 : Vals (vs ++ dvs) (us ++ ds) := r.append hd
  have hl : (us ++ ds).length = ps.length := by rw [← r2.length]; exact F.len _ _ _ _ h
  refine wpAny_call (codeAny_mono (F.run X.A X.stack s H ⟨us, []⟩ (us ++ ds) (vs ++ dvs) Q E hgd hr I.env0 (hb s us I.kIn hl) r2 h) fun r s' hq => ?_)
  cases r with
  | error e => exact hx pins σ H s e s' I hq
  | ok fl =>
    cases fl with
    | ret u => exact I.after hq
    | next => exact False.elim hq
    | brk => exact False.elim hq
    | cont => exact False.elim hq
theorem pe_callG (F : FnG X.prog X.w X.K X.mg X.base CX k f fd ps sp) (hgd : X.A.guards = some []) (hr : Room k X.A) (hg : Gl X x) (hm : X.mg x = some (.ref f)) (hk : PySem.W.keepIn X.K (.ref f) = true) (hb : Binds X.K fd ps ds) (hd : Vals dvs ds) (hx : Passes CX X E)
    (ha : PA X (e :: es) t) (hdb : (x == ("__debug__" : Str)) = false := by decide) (he : starEach (e :: es) X.env = (false, eval e X.env) :: starEach es X.env := by rfl) (hpl : (backTo pos (starEach es X.env)).any (·.1) = false := by rfl) :
    PE X (.Call (.Name x p) (e :: es) [] pos) (tCall sp dvs E t) := by
  refine ⟨fun pins s σ H Q I h => ?_⟩
  refine wpAny_Call_Name_kw (ld_glob I hg hm ?_ hdb)
  refine PySem.W.callWith_K (h₀ := X.base) I.ok.mod.kin hk (thn (ha.run pos pins s σ H _ I h) fun us s1 ⟨vs, H1, I1, r, q⟩ => ⟨I1.kIn, ?_⟩) he hpl
  exact run_fnG F hgd hr hb hd hx I1 r q
end
/-! ### the law's end over such a def -/
theorem law_callG {P : Program} {w : World} {K : PySem.W.Frag} {mg mb : Str → Option Value} {k : Nat} {fa a : Addr} {fd : FuncData} {x : Str} {sp : Sp} {s₁ : Shared} {vs : List Value} {ns : List Int}
    (KX : K.In s₁.heap) (hns : s₁.heap.Ns mainGlobals mg) (hb : s₁.heap.Ns builtinsNs mb) (hbb : ∀ x : Str, x ≠ "__name__" → mb x = bootBuiltins x) (hlim : s₁.heap.NoLimit) (hg : s₁.gens = #[])
    (ha : s₁.heap.get? a = some { cls := .type "list", data := .seq vs.toArray }) (hi : IntsAre vs ns) (hl : ns.length ≤ sizeLine) (hr : Room k callerA)
    (F : ∀ base : Heap, K.In base → base.Ns mainGlobals mg → FnG P w K mg base CX0 k fa fd [x] sp) (hbind : ∀ (s : Shared) (u : Value), BindsTo s fd ⟨[u], []⟩ [(x, u)])
    (hsp : ∀ H : Hp, Only H → SqL K H a (ns.map V.int) → sp [.ref a] H (fun v _ => v = .bl true) fun _ _ _ => False) :
    codeAny (model P w) callerA (.call (.ref fa) ⟨[.ref a], []⟩) (fun r s' => r = .ok (.ret (.bool true)) ∧ OldK s₁.heap s'.heap ∧ s'.os = s₁.os ∧ AllBare s'.gens) s₁ := by
  have rv := vals_ints hi
  have lenV := hi.length
  have core : ∀ H : Hp, Only H → SqL K H a (ns.map V.int) → HOk P w H s₁.heap → (∀ b, H b ≠ none → b = a) → (H a ≠ none → K.lookup a = none) →
      codeAny (model P w) callerA (.call (.ref fa) ⟨[.ref a], []⟩) (fun r s' => r = .ok (.ret (.bool true)) ∧ OldK s₁.heap s'.heap ∧ s'.os = s₁.os ∧ AllBare s'.gens) s₁ := by
    intro H hO hS hok hA hK
    have one : ∀ {b : Addr}, (b = a → False) → H b = none := fun {b} n => by
      cases q : H b with
      | none => rfl
      | some u => exact (n (hA b (by rw [q]; simp))).elim
    have nsK : ∀ {b : Addr} {m : Str → Option Value}, s₁.heap.Ns b m → (hidT s₁.heap H).Ns b m := fun {b m} ⟨o, es, ep, e, d, r⟩ => ⟨o, es, ep, hidT_get e (one fun z => by
      subst z
      rw [ha] at e
      cases e
      cases (show Data.seq vs.toArray _ = Data.dict es ep from d)), d, r⟩
    have hKb : K.In (hidT s₁.heap H) := fun b o e => hidT_get (KX b o e) (by
      cases q : H b with
      | none => rfl
      | some u =>
        have e' : b = a := hA b (by rw [q]; simp)
        subst e'
        rw [hK (by rw [q]; simp)] at e
        cases e)
    have hM : Mod K mg (hidT s₁.heap H) := ⟨hKb, nsK hns, ⟨mb, nsK hb, hbb⟩, let ⟨mc, h1, h2⟩ := hlim; ⟨mc, nsK h1, h2⟩⟩
    have e0 : Env0 P w K mg (hidT s₁.heap H) callerA [] s₁ H := ⟨rfl, hM, fun b o e => of_hidT e, Nat.le_of_eq (hidT_size _ _), trivial, fun b hb => absurd (show b ∈ ([] : List Addr) from hb) (by simp), hok, .of_eq hg⟩
    refine codeAny_mono ((F _ hKb (nsK hns)).run callerA [] s₁ H ⟨[.ref a], []⟩ [.ref a] [.ref a] _ _ rfl hr e0 (hbind s₁ (.ref a)) (.cons rfl .nil) (hsp H hO hS)) fun r s' h => ?_
    cases r with
    | error e => exact h.elim
    | ok fl =>
      cases fl with
      | next => exact False.elim h
      | brk => exact False.elim h
      | cont => exact False.elim h
      | ret u =>
        obtain ⟨v, H', os, bare, un, hok', r', q⟩ := h
        obtain rfl : v = .bl true := q
        obtain rfl : u = Value.bool true := r'
        refine ⟨rfl, OldK.of_keep fun b o e => ?_, os, bare⟩
        cases q : H b with
        | none => exact un.keep b o e q (by intro z; exact absurd (show b ∈ ([] : List Addr) from z) (by simp)) (by simp)
        | some u =>
          rcases hO b with z | ⟨ob, xs, z⟩
          · rw [q] at z; cases z
          · obtain ⟨e1, _⟩ := hok b _ z
            obtain ⟨e2, _⟩ := hok' b _ (un.frzs b ob _ z)
            rw [e] at e1; cases e1
            exact e2
  cases hk : K.lookup a with
  | some o =>
    have e := KX a o hk
    rw [ha] at e
    cases e
    exact core (fun _ => none) (fun _ => .inl rfl) (.inr ⟨_, vs.toArray, _, hk, rfl, rfl, rfl, by rw [List.size_toArray, lenV]; exact hl, by simpa using rv⟩) (fun b u z => nomatch z) (fun b z => absurd rfl z) fun z => absurd rfl z
  | none =>
    refine core (fun b => if b = a then some (.frz { cls := .type "list", data := .seq vs.toArray } (.lst (ns.map V.int))) else none) (fun b => ?_) (.inl (.inr ⟨{ cls := .type "list", data := .seq vs.toArray }, if_pos rfl⟩)) (fun b u z => ?_) (fun b z => ?_) fun _ => hk
    · by_cases hb : b = a
      · exact .inr ⟨_, _, if_pos hb⟩
      · exact .inl (if_neg hb)
    · by_cases hb : b = a
      · have z' := (if_pos hb).symm.trans z
        cases z'
        subst hb
        exact ⟨ha, by rw [List.length_map]; exact hl, vs, _, rv, ha⟩
      · have z' := (if_neg hb).symm.trans z
        cases z'
    · by_cases hb : b = a
      · exact hb
      · exact absurd (if_neg hb) z
theorem walk_ofG {l : PySem.W.OpenLaw} {n k : Nat} {q : Program} {loose : List Str} {XP : (Str → Option Value) → Heap → Prop} {YP : World → Heap → Prop} {d : DefRec} {K : Params → PySem.W.Frag} {sp : PySem.W.Frag → Sp} {x : Str}
    (hn : l.most = some n) (hn2 : n ≤ sizeLine) (hdf : d.params.defaults = []) (hr : Room k callerA)
    (hY : ∀ (w : World) (h : Heap), YP w h → (K w.params).In h)
    (F : ∀ (w : World) (mg : Str → Option Value) (fa : Addr) (h : Heap), (K w.params).In h → h.Ns mainGlobals mg → mg d.name = some (.ref fa) →
      ∃ fd : FuncData, (∀ (s : Shared) (u : Value), BindsTo s fd ⟨[u], []⟩ [(x, u)]) ∧
        ∀ base : Heap, (K w.params).In base → base.Ns mainGlobals mg → FnG l.prog w (K w.params) mg base CX0 k fa fd [x] (sp (K w.params)))
    (hsp : ∀ (K : PySem.W.Frag) (H : Hp) (a : Addr) (ns : List Int), ns.length ≤ n → Only H → SqL K H a (ns.map V.int) → sp K [.ref a] H (fun v _ => v = .bl true) fun _ _ _ => False) :
    PySem.W.WalkO q loose XP YP l.row.toRowW d [] (fun f vs => PySem.call f vs) := by
  refine Att.attach_call hn hdf fun w s₀ s₁ mg mb fa o pm cd doc a vs ns G Y ho hd hcd hmg hobj hints hlen hg => ?_
  obtain ⟨fd, hb, hF⟩ := F w mg fa _ (hY w _ Y) G.T.g hmg
  exact law_callG (hY w _ Y) G.T.g G.T.b G.T.builtins G.T.nolimit hg hobj hints (Nat.le_trans hlen hn2) hr hF hb fun H hO hS => hsp _ H a ns hlen hO hS
end Kx

set_option Elab.async false
set_option linter.all false
set_option maxRecDepth 100000
set_option maxHeartbeats 4000000
namespace Kx
open PySem PySem.Spec PyProof.Rows L2
/-! ### a list display whose place is not that of sys.modules -/
def tLstB (t : TA) : TE := fun σ H Q => t σ H fun xs H1 => xs.length ≤ sizeLine ∧ ∀ p, H1 p = none → p ≠ sysModules → Q (.ref p) (upd H1 p (.lst xs))
theorem pe_lstB {X : Cx} {es : List Expr} {t : TA} {pos : Pos} (h : PA X es t) : PE X (.List es pos) (tLstB t) := by
  refine ⟨fun pins s σ H Q I hq => ?_⟩
  refine wpAny_List_spliced (thn (h.run pos pins s σ H _ I hq) fun us s1 ⟨xs, H1, I1, r, z, q⟩ => ⟨by rw [← r.length]; exact z, ?_⟩)
  have hf : H1 s1.heap.objs.size = none := I1.hok.fresh (Nat.le_refl _)
  exact ⟨.ref s1.heap.objs.size, upd H1 s1.heap.objs.size (.lst xs), I1.laid (t' := s1.toks) (fun b u e => Heap.get?_push_of_some _ e) (Nat.le_refl _) ⟨z, us, 0, r, Heap.get?_push_size _ rfl⟩, rfl, q _ hf (Nat.ne_of_gt I1.big)⟩
/-! ### repr of data -/
mutual
/-- the lists of the data do not lie at sys.modules -/
inductive Off (H : Hp) : V → PyData → Prop
  | non : Off H .non .none
  | bl (b : Bool) : Off H (.bl b) (.bool b)
  | int (i : Int) : Off H (.int i) (.int i)
  | str (x : Str) : Off H (.str x) (.str x)
  | lst {a : Addr} {xs : List V} {ds : List PyData} : H a = some (.lst xs) → a ≠ sysModules → OffL H xs ds → Off H (.ref a) (.list ds)
  | tup {a : Addr} {xs : List V} {ds : List PyData} : H a = some (.tup xs) → OffL H xs ds → Off H (.ref a) (.tuple ds)
  | dct {a : Addr} {kvs : List (Key × V)} {es : List (PyData × PyData)} : H a = some (.dK kvs) → OffD H kvs es → Off H (.ref a) (.dict es)
inductive OffL (H : Hp) : List V → List PyData → Prop
  | nil : OffL H [] []
  | cons {v : V} {vs : List V} {d : PyData} {ds : List PyData} : Off H v d → OffL H vs ds → OffL H (v :: vs) (d :: ds)
inductive OffD (H : Hp) : List (Key × V) → List (PyData × PyData) → Prop
  | nil : OffD H [] []
  | cons {k : Key} {v : V} {vs : List (Key × V)} {d : PyData} {ds : List (PyData × PyData)} : Off H v d → OffD H vs ds → OffD H ((k, v) :: vs) ((kD k, d) :: ds)
end
section
variable {H H' : Hp} (e : Same H H')
include e
mutual
theorem Off.mono : ∀ {v : V} {d : PyData}, Off H v d → Off H' v d
  | _, _, .non => .non
  | _, _, .bl b => .bl b
  | _, _, .int i => .int i
  | _, _, .str x => .str x
  | _, _, .lst h n r => .lst (e _ _ h) n (OffL.mono r)
  | _, _, .tup h r => .tup (e _ _ h) (OffL.mono r)
  | _, _, .dct h r => .dct (e _ _ h) (OffD.mono r)
theorem OffL.mono : ∀ {v : List V} {d : List PyData}, OffL H v d → OffL H' v d
  | _, _, .nil => .nil
  | _, _, .cons a r => .cons (Off.mono a) (OffL.mono r)
theorem OffD.mono : ∀ {v : List (Key × V)} {d : List (PyData × PyData)}, OffD H v d → OffD H' v d
  | _, _, .nil => .nil
  | _, _, .cons a r => .cons (Off.mono a) (OffD.mono r)
end
end
mutual
theorem Off.rp {H : Hp} : ∀ {v : V} {d : PyData}, Off H v d → Rp H v d
  | _, _, .non => .non
  | _, _, .bl b => .bl b
  | _, _, .int i => .int i
  | _, _, .str x => .str x
  | _, _, .lst h n r => .lst h (OffL.rp r)
  | _, _, .tup h r => .tup h (OffL.rp r)
  | _, _, .dct h r => .dct h (OffD.rp r)
theorem OffL.rp {H : Hp} : ∀ {v : List V} {d : List PyData}, OffL H v d → RpL H v d
  | _, _, .nil => .nil
  | _, _, .cons a r => .cons (Off.rp a) (OffL.rp r)
theorem OffD.rp {H : Hp} : ∀ {v : List (Key × V)} {d : List (PyData × PyData)}, OffD H v d → RpD H v d
  | _, _, .nil => .nil
  | _, _, .cons a r => .cons (Off.rp a) (OffD.rp r)
end
section
variable {X : Cx} {pins : List (Addr × Obj)} {σ : L2.St} {H : Hp} {s : Shared}
theorem key_read {k : Key} {v : Value} (h : keyIs k v = true) : Reads s.heap v (kD k) [] := by
  rcases keyIs_shape h with ⟨i, t, rfl, rfl⟩ | ⟨x, t, rfl, rfl⟩
  · exact .int i t
  · exact .str x t
mutual
theorem Off.reads (I : Inv X pins σ H s) : ∀ {v : V} {d : PyData} {u : Value}, Off H v d → RelV v u → ∃ as, Reads s.heap u d as ∧ sysModules ∉ as
  | _, _, _, .non, r => by cases r; exact ⟨_, Reads.none, by simp⟩
  | _, _, _, .bl b, r => by cases r; exact ⟨_, Reads.bool b, by simp⟩
  | _, _, _, .int i, r => by obtain ⟨t, rfl⟩ := r; exact ⟨_, Reads.int i t, by simp⟩
  | _, _, _, .str x, r => by obtain ⟨t, rfl⟩ := r; exact ⟨_, Reads.str x t, by simp⟩
  | _, _, _, .lst h n q, r => by
    cases r
    obtain ⟨its, rv, ⟨o, m, ho, hc, _, hd⟩, _⟩ := I.list (.inl (.inl h))
    obtain ⟨as, hr, hn⟩ := OffL.reads I q rv
    exact ⟨_, Reads.list ho hc hd hr, by simp only [List.mem_cons, not_or]; exact ⟨Ne.symm n, hn⟩⟩
  | _, _, _, .tup h q, r => by
    cases r
    obtain ⟨its, rv, ⟨o, ho, hc, n, hd⟩, _⟩ := I.tuple (.inl (.inl h))
    obtain ⟨as, hr, hn⟩ := OffL.reads I q rv
    exact ⟨_, Reads.tuple ho hc hd hr, hn⟩
  | _, _, _, .dct (a := a) (kvs := kvs) h q, r => by
    cases r
    obtain ⟨_, hs, vs, rk, o, es, ep, ho, hx, hd, _, hp, _⟩ := (show ObjOk X.prog X.w H s.heap a (.dK kvs) from I.hok a _ h)
    obtain ⟨as, h1, h2, hn⟩ := OffD.reads I q rk hp
    refine ⟨_, Reads.dict ho hx.1 hd h1 h2, ?_⟩
    have ha : sysModules ≠ a := fun z => by rw [z] at hs; simp at hs
    simp only [List.cons_append, List.nil_append, List.mem_cons, not_or]
    exact ⟨ha, hn⟩
theorem OffL.reads (I : Inv X pins σ H s) : ∀ {v : List V} {d : List PyData} {u : List Value}, OffL H v d → Vals v u → ∃ as, ReadsAll s.heap u d as ∧ sysModules ∉ as
  | _, _, _, .nil, .nil => ⟨_, .nil, by simp⟩
  | _, _, _, .cons a q, .cons r t => by
    obtain ⟨as, h1, n1⟩ := Off.reads I a r
    obtain ⟨bs, h2, n2⟩ := OffL.reads I q t
    exact ⟨_, .cons h1 h2, by simp [n1, n2]⟩
theorem OffD.reads (I : Inv X pins σ H s) : ∀ {v : List (Key × V)} {d : List (PyData × PyData)} {u : List (Key × Value)} {es : List DictEntry}, OffD H v d → KV v u → Pairs (mixKind X.prog X.w) es u →
    ∃ bs, ReadsAll s.heap (es.map (·.key)) (d.map (·.1)) [] ∧ ReadsAll s.heap (es.map (·.val)) (d.map (·.2)) bs ∧ sysModules ∉ bs
  | _, _, _, _, .nil, .nil, .nil => ⟨_, .nil, .nil, by simp⟩
  | _, _, _, _, .cons a q, .cons r t, .cons hk hv hp => by
    obtain ⟨as, h1, n1⟩ := Off.reads I a r.2
    obtain ⟨bs, h2, h3, n2⟩ := OffD.reads I q t hp
    refine ⟨as ++ bs, ?_, ?_, by simp [n1, n2]⟩
    · have hk' := key_read (s := s) (show keyIs _ _ = true from hk)
      rw [← r.1] at hk'
      exact ReadsAll.cons (as := []) (bs := []) hk' h2
    · rw [← hv] at h1
      exact ReadsAll.cons h1 h3
end
def rRepr : List V → Hp → VK → Prop := fun xs H Q => ∃ (v : V) (d : PyData), xs = [v] ∧ Off H v d ∧ d.showable = true ∧ d.depth ≤ 60 ∧ d.shown.length ≤ sizeLine ∧ Q (.str d.shown) H
theorem call_reprG (hg : X.A.guards = some []) (hu : X.A.units + 64 < cLine) : CallR X (.builtin "repr") rRepr := by
  intro pins s σ H xs us Q I r h
  obtain ⟨v, d, rfl, hv, hs, hd, hz, q⟩ := h
  obtain ⟨u, rfl, ru⟩ := vals1 r
  cases hv with
  | non => cases ru; exact PySem.P.repr_of_none ⟨.str _, H, I.tok _, ⟨_, rfl⟩, q⟩
  | bl b => cases ru; exact PySem.P.repr_of_bool ⟨.str _, H, I.tok _, ⟨_, rfl⟩, q⟩
  | int i =>
    obtain ⟨t, rfl⟩ := ru
    exact PySem.P.repr_of_int (by simpa [PyData.showable] using hs) ⟨.str _, H, I.tok _, ⟨_, rfl⟩, q⟩
  | str x =>
    obtain ⟨t, rfl⟩ := ru
    exact PySem.P.repr_of_str ⟨.str _, H, I.tok _, ⟨_, rfl⟩, q⟩ hz
  | lst h n m =>
    cases ru
    obtain ⟨as, h1, h2⟩ := Off.reads I (.lst h n m) (show RelV (.ref _) (.ref _) from rfl)
    exact repr_of_reads' h1 hs (fun _ => h2) hg (by omega) (fun _ _ e => e) (fun h' u tk k => ⟨.str _, H, I.kept k, ⟨u, rfl⟩, q⟩) hz
  | tup h m =>
    cases ru
    obtain ⟨as, h1, h2⟩ := Off.reads I (.tup h m) (show RelV (.ref _) (.ref _) from rfl)
    exact repr_of_reads' h1 hs (fun _ => h2) hg (by omega) (fun _ _ e => e) (fun h' u tk k => ⟨.str _, H, I.kept k, ⟨u, rfl⟩, q⟩) hz
  | dct h m =>
    cases ru
    obtain ⟨as, h1, h2⟩ := Off.reads I (.dct h m) (show RelV (.ref _) (.ref _) from rfl)
    exact repr_of_reads' h1 hs (fun _ => h2) hg (by omega) (fun _ _ e => e) (fun h' u tk k => ⟨.str _, H, I.kept k, ⟨u, rfl⟩, q⟩) hz
end
/-! ### xs.count(True) of truth values -/
section
variable {X : Cx}
def eqb (k : Bool) : Value → Bool
  | .bool b => b == k
  | _ => false
theorem count_eqb (k : Bool) : ∀ {bs : List Bool} {us : List Value}, Vals (bs.map V.bl) us → us.countP (eqb k) = bs.count k
  | [], _, .nil => rfl
  | b :: bs, _, .cons r t => by
    cases (show _ = Value.bool b from r)
    rw [List.countP_cons, List.count_cons, count_eqb k t]
    rfl
theorem mem_eqb (k : Bool) {A : Around} {s : Shared} : ∀ {bs : List Bool} {us : List Value}, Vals (bs.map V.bl) us → ∀ u ∈ us, SeqAt.EqAt A s u (.bool k) (eqb k u)
  | [], _, .nil => fun u hu => by cases hu
  | b :: bs, _, .cons r t => fun u hu => by
    cases (show _ = Value.bool b from r)
    rcases List.mem_cons.mp hu with rfl | hu
    · exact SeqAt.EqAt.bool_bool b k
    · exact mem_eqb k t u hu
def rCntB (K : PySem.W.Frag) : V → List V → Hp → VK → Prop := fun x xs H Q => ∃ (p : Addr) (bs : List Bool) (k : Bool), x = .ref p ∧ xs = [.bl k] ∧ SqL K H p (bs.map V.bl) ∧ Q (.int (bs.count k : Nat)) H
theorem mt_bcount {K : PySem.W.Frag} (eK : X.K = K := by rfl) : MtR X "list.count" (rCntB K) := by
  subst eK
  intro pins s σ H x xs v us Q I rx rxs h
  obtain ⟨p, bs, k, rfl, rfl, hs, q⟩ := h
  cases rx
  obtain ⟨u, rfl, ru⟩ := rxs.one
  cases (show u = Value.bool k from ru)
  obtain ⟨its, rv, ⟨⟨cls, dd, data, sl⟩, n, ho, hc, hdn, hd⟩, hlen⟩ := I.list hs
  simp only at hc hd
  subst hc hd
  refine call_meets PySem.F.slot_list_count ⟨_, ho, rfl⟩ PySem.F.entry_list_count (PySem.F.args_list_count_2 _ _)
    (SeqAt.list_countAt p its.toArray n dd sl (.bool k) (eqb k)) ⟨ho, fun y hy => mem_eqb k rv y (by simpa using hy), ?_⟩
  refine ⟨.int (bs.count k : Nat), H, I.tok _, ⟨s.toks, ?_⟩, q⟩
  show Value.int ((its.toArray.toList.countP (eqb k) : Nat) : Int) s.toks = Value.int ((bs.count k : Nat) : Int) s.toks
  rw [show its.toArray.toList = its from rfl, count_eqb k rv]
end
/-! ### C(), an own exception class without own __init__ -/
theorem pe_exc0 {X : Cx} {C : Addr} {x : Str} {p pos : Pos} (q : PySem.W.excIn X.K C [.type "ValueError", .type "Exception", .type "BaseException", .type "object"] "ValueError.__new__" = true) (gC : X.mg x = some (.ref C)) (kC : PySem.W.keepIn X.K (.ref C) = true) (hg : Gl X x)
    (hdb : (x == ("__debug__" : Str)) = false := by decide) : PE X (.Call (.Name x p) [] [] pos) (fun σ H Q => ∀ a, H a = none → Q (.ref a) (upd H a (exo a C none))) := by
  refine ⟨fun pins s σ H Q I h => ?_⟩
  refine wpAny_Call_Name_kw (ld_glob I hg gC ?_ hdb)
  refine PySem.W.callWith_K0 I.kIn kC ?_
  obtain ⟨bm, N, nm, qn, bs, hdct, sn, sub, ab, col, dd, k0, k1, k2, k3, k5, mN, hC, hN, hni, T⟩ := exc_obj I.kIn q
  obtain ⟨hp, g, dr, tk, os⟩ := s
  refine wpAny_call_exc_subT F.excBase_ValueError T hC hN hni (fun h' a hm => ?_) (by show 0 ≤ sizeLine; exact Nat.zero_le _)
  have hn : H a = none := I.hok.gone hm.new
  obtain ⟨t, ht, _, _⟩ := hm.there
  exact ⟨.ref a, upd H a (exo a C none), I.laidN hm.keeps hm.new hn (exo_ok ht), rfl, h a hn⟩
end Kx

set_option Elab.async false
set_option linter.all false
set_option maxRecDepth 100000
set_option maxHeartbeats 4000000
namespace Kx
open PySem PySem.Spec PyProof.Rows L2
/-! ### expressions that only add to the heap, by what is true of their value -/
structure MP where
  p : Hp → V → Prop
  mono : ∀ {H H' : Hp} {v : V}, Same H H' → p H v → p H' v
/-- the very value -/
def isv (x : V) : MP := ⟨fun _ v => v = x, fun _ h => h⟩
/-- an exception of the class at C with these fields -/
def exq (C : Addr) (fs : List (Str × V)) : MP := ⟨fun H v => ∃ a d, v = .ref a ∧ H a = some (exo a C (some d)) ∧ H d = some (exd d fs), fun e ⟨a, d, h1, h2, h3⟩ => ⟨a, d, h1, e _ _ h2, e _ _ h3⟩⟩
/-- an exception of the class at C without fields -/
def exn (C : Addr) : MP := ⟨fun H v => ∃ a, v = .ref a ∧ H a = some (exo a C none), fun e ⟨a, h1, h2⟩ => ⟨a, h1, e _ _ h2⟩⟩
/-- a list of these values, not at sys.modules -/
def lstq (xs : List V) : MP := ⟨fun H v => ∃ a, v = .ref a ∧ H a = some (.lst xs) ∧ a ≠ sysModules, fun e ⟨a, h1, h2, h3⟩ => ⟨a, h1, e _ _ h2, h3⟩⟩
def AllP : List MP → Hp → List V → Prop
  | [], _, [] => True
  | R :: Rs, H, v :: vs => R.p H v ∧ AllP Rs H vs
  | _, _, _ => False
theorem AllP.mono {H H' : Hp} (e : Same H H') : ∀ {Rs : List MP} {vs : List V}, AllP Rs H vs → AllP Rs H' vs
  | [], [], h => h
  | R :: Rs, v :: vs, h => ⟨R.mono e h.1, AllP.mono e h.2⟩
  | [], _ :: _, h => h.elim
  | _ :: _, [], h => h.elim
theorem AllP.length {H : Hp} : ∀ {Rs : List MP} {vs : List V}, AllP Rs H vs → vs.length = Rs.length
  | [], [], _ => rfl
  | _ :: Rs, _ :: vs, h => congrArg Nat.succ (AllP.length h.2)
  | [], _ :: _, h => h.elim
  | _ :: _, [], h => h.elim
theorem AllP.append {H : Hp} : ∀ {Rs Ss : List MP} {vs ws : List V}, AllP Rs H vs → AllP Ss H ws → AllP (Rs ++ Ss) H (vs ++ ws)
  | [], _, [], _, _, h => h
  | _ :: _, _, _ :: _, _, h, k => ⟨h.1, AllP.append h.2 k⟩
  | [], _, _ :: _, _, h, _ => h.elim
  | _ :: _, _, [], _, h, _ => h.elim
theorem AllP.get {H : Hp} : ∀ {Rs : List MP} {vs : List V} {i : Nat} {v : V}, AllP Rs H vs → vs[i]? = some v → ∃ R, Rs[i]? = some R ∧ R.p H v
  | [], [], _, _, _, h => by simp at h
  | R :: Rs, w :: vs, 0, v, h, e => by
    simp at e
    subst e
    exact ⟨R, rfl, h.1⟩
  | R :: Rs, w :: vs, i + 1, v, h, e => by
    obtain ⟨S, h1, h2⟩ := AllP.get (i := i) (v := v) h.2 (by simpa using e)
    exact ⟨S, by simpa using h1, h2⟩
  | [], _ :: _, _, _, h, _ => h.elim
  | _ :: _, [], _, _, h, _ => h.elim
theorem AllP.isvs {H : Hp} : ∀ {xs vs : List V}, AllP (xs.map isv) H vs → vs = xs
  | [], [], _ => rfl
  | x :: xs, v :: vs, h => by rw [show v = x from h.1, AllP.isvs h.2]
  | [], _ :: _, h => h.elim
  | _ :: _, [], h => h.elim
def EvS (H0 : Hp) (te : TE) (σ : L2.St) (R : MP) : Prop := ∀ H (Q : VK), Same H0 H → (∀ v H', Same H H' → R.p H' v → Q v H') → te σ H Q
def EvSA (H0 : Hp) (ta : TA) (σ : L2.St) (Rs : List MP) : Prop := ∀ H (Q : List V → Hp → Prop), Same H0 H → (∀ vs H', Same H H' → AllP Rs H' vs → Q vs H') → ta σ H Q
def EvSL (H0 : Hp) (te : TE) (σ : L2.St) (Rs : List MP) : Prop := ∀ H (Q : VK), Same H0 H → (∀ p xs H', Same H H' → H p = none → H' p = some (.lst xs) → AllP Rs H' xs → Q (.ref p) H') → te σ H Q
section
variable {H0 : Hp} {σ : L2.St}
theorem evs_var {i : Nat} {v : V} {R : MP} (h : σ[i]? = some (some v)) (t : R.p H0 v) : EvS H0 (tVar i) σ R := fun H Q s q => ⟨v, h, q v H (Same.refl _) (R.mono s t)⟩
theorem evs_v {i : Nat} {v : V} (h : σ[i]? = some (some v)) : EvS H0 (tVar i) σ (isv v) := fun H Q s q => ⟨v, h, q v H (Same.refl _) rfl⟩
theorem evs_c {v : V} : EvS H0 (tC v) σ (isv v) := fun H Q s q => q v H (Same.refl _) rfl
theorem evs_nil : EvSA H0 tNil σ [] := fun H Q s q => q [] H (Same.refl _) trivial
theorem evs_cons {te : TE} {ta : TA} {R : MP} {Rs : List MP} (h1 : EvS H0 te σ R) (h2 : EvSA H0 ta σ Rs) : EvSA H0 (tCons te ta) σ (R :: Rs) := fun H Q s q =>
  h1 H _ s fun v H1 s1 r1 => h2 H1 _ (s.trans s1) fun vs H2 s2 r2 => q (v :: vs) H2 (s1.trans s2) ⟨R.mono s2 r1, r2⟩
theorem evs_lst {ta : TA} {Rs : List MP} (h : EvSA H0 ta σ Rs) (hn : Rs.length ≤ 1000) : EvSL H0 (tLst ta) σ Rs := fun H Q s q =>
  h H _ s fun vs H1 s1 r1 => ⟨Nat.le_trans (by rw [r1.length]; exact hn) (by decide), fun p hp => q p vs _ (s1.trans (same_upd hp)) (s1.free hp) upd_same (r1.mono (same_upd hp))⟩
theorem evs_lstB {ta : TA} {xs : List V} (h : EvSA H0 ta σ (xs.map isv)) (hn : xs.length ≤ 1000) : EvS H0 (tLstB ta) σ (lstq xs) := fun H Q s q =>
  h H _ s fun vs H1 s1 r1 => ⟨Nat.le_trans (by rw [r1.length, List.length_map]; exact hn) (by decide), fun p hp np => q _ _ (s1.trans (same_upd hp)) ⟨p, rfl, by rw [upd_same, r1.isvs], np⟩⟩
theorem evs_cat {ta tb : TE} {Rs Ss : List MP} (h1 : EvSL H0 ta σ Rs) (h2 : EvSL H0 tb σ Ss) (hn : Rs.length + Ss.length ≤ 1000) : EvSL H0 (tOp rCat ta tb) σ (Rs ++ Ss) := fun H Q s q =>
  h1 H _ s fun p xs H1 s1 n1 e1 r1 => h2 H1 _ (s.trans s1) fun r ys H2 s2 n2 e2 r2 => ⟨p, r, xs, ys, rfl, rfl, s2 _ _ e1, e2, Nat.le_trans (by rw [r1.length, r2.length]; exact hn) (by decide), fun l hl =>
    q l _ _ ((s1.trans s2).trans (same_upd hl)) (s1.free (s2.free hl)) upd_same (((r1.mono s2).append r2).mono (same_upd hl))⟩
/-- a name that holds a list: its place is not new, so the list's facts alone -/
def EvSV (H0 : Hp) (te : TE) (σ : L2.St) (Rs : List MP) : Prop := ∀ H (Q : VK), Same H0 H → (∀ p xs H', Same H H' → H' p = some (.lst xs) → AllP Rs H' xs → Q (.ref p) H') → te σ H Q
theorem EvSL.v {te : TE} {Rs : List MP} (h : EvSL H0 te σ Rs) : EvSV H0 te σ Rs := fun H Q s q => h H Q s fun p xs H' s' _ e r => q p xs H' s' e r
theorem evs_varL {i : Nat} {a : Addr} {xs : List V} {Rs : List MP} (h : σ[i]? = some (some (.ref a))) (ha : H0 a = some (.lst xs)) (t : AllP Rs H0 xs) : EvSV H0 (tVar i) σ Rs := fun H Q s q => ⟨_, h, q a xs H (Same.refl _) (s _ _ ha) (t.mono s)⟩
theorem evs_catV {ta tb : TE} {Rs Ss : List MP} (h1 : EvSV H0 ta σ Rs) (h2 : EvSV H0 tb σ Ss) (hn : Rs.length + Ss.length ≤ 1000) : EvSL H0 (tOp rCat ta tb) σ (Rs ++ Ss) := fun H Q s q =>
  h1 H _ s fun p xs H1 s1 e1 r1 => h2 H1 _ (s.trans s1) fun r ys H2 s2 e2 r2 => ⟨p, r, xs, ys, rfl, rfl, s2 _ _ e1, e2, Nat.le_trans (by rw [r1.length, r2.length]; exact hn) (by decide), fun l hl =>
    q l _ _ ((s1.trans s2).trans (same_upd hl)) (s1.free (s2.free hl)) upd_same (((r1.mono s2).append r2).mono (same_upd hl))⟩
theorem EvSL.set {te : TE} {Rs : List MP} {i : Nat} {H : Hp} {rest : TS} {D : Ends} (h : EvSL H te σ Rs) (q : ∀ p xs H', Same H H' → H p = none → H' p = some (.lst xs) → AllP Rs H' xs → rest D (σ.set i (some (.ref p))) H') : tSeq (tAsg te (gName i)) rest D σ H := h H _ (Same.refl _) q
theorem EvSL.ret {te : TE} {Rs : List MP} {H : Hp} {D : Ends} (h : EvSL H te σ Rs) (q : ∀ p xs H', Same H H' → H p = none → H' p = some (.lst xs) → AllP Rs H' xs → D.rt (.ref p) H') : tRet te D σ H := h H _ (Same.refl _) q
/-! ### exceptions -/
/-- self.f = v, alone -/
def spI1 (C : Addr) (f : Str) : Sp := fun vs H Q _ => ∃ a v, vs = [.ref a, v] ∧ H a = some (exo a C none) ∧ ∀ d, H d = none → d ≠ a → Q .non (upd (upd H d (exd d [(f, v)])) a (exo a C (some d)))
/-- self.f = v; self.g = u -/
def spI2 (C : Addr) (f g : Str) : Sp := fun vs H Q _ => ∃ a v u, vs = [.ref a, v, u] ∧ H a = some (exo a C none) ∧ ∀ d, H d = none → d ≠ a → Q .non (upd (upd H d (exd d [(g, u), (f, v)])) a (exo a C (some d)))
theorem made_same {H : Hp} {a d : Addr} {o1 o2 o3 : HO} (ha : H a = none) (hd : (upd H a o1) d = none) : Same H (upd (upd (upd H a o1) d o2) a o3) := fun b u e => by
  have nb : b ≠ a := ne_of_none e ha
  have nd : b ≠ d := ne_of_none (H := upd H a o1) (by rw [upd_ne nb]; exact e) hd
  rw [upd_ne nb, upd_ne nd, upd_ne nb]
  exact e
theorem evs_ex1 {C : Addr} {f : Str} {te : TE} {x : V} (h : EvS H0 te σ (isv x)) : EvS H0 (tExV C (spI1 C f) (tCons te tNil)) σ (exq C [(f, x)]) := fun H Q s q =>
  h H _ s fun v H1 s1 r1 => ⟨show 1 ≤ 1000 by decide, fun a ha => ⟨a, v, rfl, upd_same, fun d hd nd => ⟨rfl, q _ _ (s1.trans (made_same ha hd)) ⟨a, d, rfl, upd_same, by rw [upd_ne nd, upd_same, show v = x from r1]⟩⟩⟩⟩
theorem evs_ex2 {C : Addr} {f g : Str} {te tu : TE} {x y : V} (h : EvS H0 te σ (isv x)) (k : EvS H0 tu σ (isv y)) : EvS H0 (tExV C (spI2 C f g) (tCons te (tCons tu tNil))) σ (exq C [(g, y), (f, x)]) := fun H Q s q =>
  h H _ s fun v H1 s1 r1 => k H1 _ (s.trans s1) fun u H2 s2 r2 => ⟨show 2 ≤ 1000 by decide, fun a ha => ⟨a, v, u, rfl, upd_same, fun d hd nd => ⟨rfl, q _ _ ((s1.trans s2).trans (made_same ha hd)) ⟨a, d, rfl, upd_same, by rw [upd_ne nd, upd_same, show v = x from r1, show u = y from r2]⟩⟩⟩⟩
theorem evs_ek1 {C : Addr} {f : Str} {te : TE} {x : V} (h : EvS H0 te σ (isv x)) : EvS H0 (tExK C 1 (spI1 C f) (fun zs => zs) (tCons te tNil)) σ (exq C [(f, x)]) := fun H Q s q =>
  h H _ s fun v H1 s1 r1 => ⟨rfl, fun a ha => ⟨a, v, rfl, upd_same, fun d hd nd => ⟨rfl, q _ _ (s1.trans (made_same ha hd)) ⟨a, d, rfl, upd_same, by rw [upd_ne nd, upd_same, show v = x from r1]⟩⟩⟩⟩
theorem evs_ek2 {C : Addr} {f g : Str} {te tu : TE} {x y : V} (h : EvS H0 te σ (isv x)) (k : EvS H0 tu σ (isv y)) : EvS H0 (tExK C 2 (spI2 C f g) (fun zs => zs) (tCons te (tCons tu tNil))) σ (exq C [(g, y), (f, x)]) := fun H Q s q =>
  h H _ s fun v H1 s1 r1 => k H1 _ (s.trans s1) fun u H2 s2 r2 => ⟨rfl, fun a ha => ⟨a, v, u, rfl, upd_same, fun d hd nd => ⟨rfl, q _ _ ((s1.trans s2).trans (made_same ha hd)) ⟨a, d, rfl, upd_same, by rw [upd_ne nd, upd_same, show v = x from r1, show u = y from r2]⟩⟩⟩⟩
/-- the keywords the other way round -/
theorem evs_ek2r {C : Addr} {f g : Str} {te tu : TE} {x y : V} (h : EvS H0 te σ (isv x)) (k : EvS H0 tu σ (isv y)) : EvS H0 (tExK C 2 (spI2 C f g) List.reverse (tCons tu (tCons te tNil))) σ (exq C [(g, y), (f, x)]) := fun H Q s q =>
  k H _ s fun u H1 s1 r1 => h H1 _ (s.trans s1) fun v H2 s2 r2 => ⟨rfl, fun a ha => ⟨a, v, u, rfl, upd_same, fun d hd nd => ⟨rfl, q _ _ ((s1.trans s2).trans (made_same ha hd)) ⟨a, d, rfl, upd_same, by rw [upd_ne nd, upd_same, show v = x from r2, show u = y from r1]⟩⟩⟩⟩
theorem evs_ex0 {C : Addr} : EvS H0 (fun σ H Q => ∀ a, H a = none → Q (.ref a) (upd H a (exo a C none))) σ (exn C) := fun H Q s q => fun a ha => q _ _ (same_upd ha) ⟨a, rfl, upd_same⟩
theorem evs_fld {K : PySem.W.Frag} {C : Addr} {f : Str} {fs : List (Str × V)} {te : TE} {x : V} (h : EvS H0 te σ (exq C fs)) (T : XfC K C) (hn : PySem.W.findIn K (.ref C) f = some none) (hl : fs.lookup f = some x) : EvS H0 (tExF K f te) σ (isv x) := fun H Q s q =>
  h H _ s fun v H1 s1 ⟨a, d, e1, e2, e3⟩ => ⟨a, C, d, fs, x, e1, e2, e3, T, hn, hl, q _ _ s1 rfl⟩
end
/-! ### __init__ of one, of two fields -/
section
variable {P : Program} {w : World} {K : PySem.W.Frag} {mg : Str → Option Value} {base : Heap} {fI C : Addr} {fd : FuncData} {qual f g : Str} {st : Stmt} {p1 p2 p3 p4 q1 q2 q3 q4 : Pos}
theorem vis_of {x : Str} {sc : Scope} (h : sc.names.lookup x = some .local ∨ sc.names.lookup x = some .cell) : Vis sc x := by
  rcases h with h | h
  · exact .inl h
  · exact .inr (.inl h)
theorem init1_ok (F : Fun K "__init__" qual st fI fd) (S : FnScope ["self", f] ["self", f] (defScope st)) (hb : defBody st = [.Assign [.Attribute (.Name "self" p1) f p2] (.Name f p3) p4])
    (T : OexC K C) (hn : PySem.W.findIn K (.ref C) f = some none) (d1 : (f == ("__debug__" : Str)) = false := by decide) (d2 : (f == ("__classdict__" : Str)) = false := by decide) : FnOk P w K mg base CX0 1 fI fd ["self", f] (spI1 C f) := by
  refine F.ok S (fun vs H Q E h => ?_) (fun cdv A outer s H vs Q E hr h => ?_)
  · obtain ⟨a, v, rfl, _⟩ := h
    rfl
  obtain ⟨a, v, rfl, ha, q⟩ := h
  rw [hb]
  refine ⟨_, pss_one (ps_ost (pe_var (i := 0) rfl (vis_of (S.par _ (by simp))) (by decide) (by decide)) (pe_var (i := 1) rfl (vis_of (S.par _ (by simp))) d1 d2)), ?_⟩
  exact ⟨v, rfl, .ref a, rfl, a, C, rfl, T, hn, .inl ⟨ha, fun dx hd nd => q dx hd nd⟩⟩
theorem init2_ok (F : Fun K "__init__" qual st fI fd) (S : FnScope ["self", f, g] ["self", f, g] (defScope st)) (hb : defBody st = [.Assign [.Attribute (.Name "self" p1) f p2] (.Name f p3) p4, .Assign [.Attribute (.Name "self" q1) g q2] (.Name g q3) q4])
    (T : OexC K C) (hn : PySem.W.findIn K (.ref C) f = some none) (hn2 : PySem.W.findIn K (.ref C) g = some none) (d1 : (f == ("__debug__" : Str)) = false := by decide) (d2 : (f == ("__classdict__" : Str)) = false := by decide)
    (d3 : (g == ("__debug__" : Str)) = false := by decide) (d4 : (g == ("__classdict__" : Str)) = false := by decide) : FnOk P w K mg base CX0 1 fI fd ["self", f, g] (spI2 C f g) := by
  refine F.ok S (fun vs H Q E h => ?_) (fun cdv A outer s H vs Q E hr h => ?_)
  · obtain ⟨a, v, u, rfl, _⟩ := h
    rfl
  obtain ⟨a, v, u, rfl, ha, q⟩ := h
  rw [hb]
  refine ⟨_, pss_cons (ps_ost (pe_var (i := 0) rfl (vis_of (S.par _ (by simp))) (by decide) (by decide)) (pe_var (i := 1) rfl (vis_of (S.par _ (by simp))) d1 d2))
    (pss_one (ps_ost (pe_var (i := 0) rfl (vis_of (S.par _ (by simp))) (by decide) (by decide)) (pe_var (i := 2) rfl (vis_of (S.par _ (by simp))) d3 d4))), ?_⟩
  refine ⟨v, rfl, .ref a, rfl, a, C, rfl, T, hn, .inl ⟨ha, fun dx hd nd => ?_⟩⟩
  refine ⟨u, rfl, .ref a, rfl, a, C, rfl, T, hn2, .inr ⟨dx, [(f, v)], upd_same, by rw [upd_ne nd, upd_same], show 1 ≤ 900 by decide, ?_⟩⟩
  have e : upd (upd (upd H dx (exd dx [(f, v)])) a (exo a C (some dx))) dx (exd dx [(g, u), (f, v)]) = upd (upd H dx (exd dx [(g, u), (f, v)])) a (exo a C (some dx)) := by
    funext b
    unfold upd
    by_cases h1 : b = dx
    · subst h1
      simp [nd]
    · simp [h1]
  rw [e]
  exact q dx hd nd
end
/-! ### what the written part says of an exception class under G -/
structure ExCls (K : PySem.W.Frag) (G C : Addr) : Prop where
  cls : ∃ nm q N bs sn sub ab col dd k0 k1 k2 k3 k5, K.lookup C = some (excClassObj nm q C N bs (.ref G :: PySem.HandSPX.veTail) true sn sub ab col dd k0 k1 k2 k3 k5 "ValueError.__new__")
  sa : PySem.W.findIn K (.ref C) "__setattr__" = some (some (.builtin "object.__setattr__"))
  xf : XfC K C
  ty : PySem.W.typeIn K (.ref C) = some (.type "type")
  kp : PySem.W.keepIn K (.ref C) = true
  ex : ExcC K C
def chkX (K : PySem.W.Frag) (C : Addr) : Bool := decide (PySem.W.findIn K (.ref C) "__setattr__" = some (some (.builtin "object.__setattr__"))) && (xfB K C && (decide (PySem.W.typeIn K (.ref C) = some (.type "type")) && (PySem.W.keepIn K (.ref C) &&
  (decide (PySem.W.findIn K (.ref C) "__class__" = some (some (.builtin "object.__class__"))) && (decide (PySem.W.specialIn K (.builtin "object.__class__") "__get__" = some (some (.builtin "getset_descriptor.__get__"))) && (decide (PySem.W.takesIn K (.builtin "object.__class__") = some true) && decide (PySem.W.mroIn K C (.type "object") = some true)))))))
theorem exCls_of {K : PySem.W.Frag} {G C : Addr} {nm q : Str} {N : Addr} {bs : List Value} {sn : List Str} {sub : List Value} {ab : Bool} {col : Option Bool} {dd : Option Addr} {k0 k1 k2 k3 k5 : Option Value}
    (l : K.lookup C = some (excClassObj nm q C N bs (.ref G :: PySem.HandSPX.veTail) true sn sub ab col dd k0 k1 k2 k3 k5 "ValueError.__new__")) (c : chkX K C = true) : ExCls K G C := by
  simp only [chkX, Bool.and_eq_true, decide_eq_true_eq] at c
  obtain ⟨c1, c2, c3, c4, c5, c6, c7, c8⟩ := c
  have x := xfB_ok c2
  exact ⟨⟨nm, q, N, bs, sn, sub, ab, col, dd, k0, k1, k2, k3, k5, l⟩, c1, x, c3, c4, ⟨x.ga, x.gg, x.exC, x.hdC, c5, c6, c7, c8⟩⟩
theorem ExCls.oex {K : PySem.W.Frag} {G C : Addr} (h : ExCls K G C) : OexC K C := by
  obtain ⟨nm, q, N, bs, sn, sub, ab, col, dd, k0, k1, k2, k3, k5, l⟩ := h.cls
  exact ⟨⟨nm, q, N, bs, _, sn, sub, ab, col, dd, k0, k1, k2, k3, k5, l, rfl⟩, h.sa, h.xf.exC, h.ty, h.kp⟩
theorem ExCls.mro {K : PySem.W.Frag} {G C : Addr} (h : ExCls K G C) : ∃ cd, PySem.W.clsIn K C = some cd ∧ cd.mro = .ref C :: .ref G :: PySem.HandSPX.veTail := by
  obtain ⟨nm, q, N, bs, sn, sub, ab, col, dd, k0, k1, k2, k3, k5, l⟩ := h.cls
  refine ⟨_, by unfold PySem.W.clsIn; rw [l] <;> rfl, rfl⟩
/-- isinstance(an exception of D, C) -/
theorem kit_own {K : PySem.W.Frag} {G D C : Addr} (hD : ExCls K G D) (hC : ExCls K G C) (hG : C ≠ G) : PySem.W.kitOne K (.ref D) (.ref C) = some (decide (D = C)) := by
  obtain ⟨cd, h1, h2⟩ := hD.mro
  obtain ⟨ce, h3, _⟩ := hC.mro
  by_cases e : D = C
  · subst e
    simp [PySem.W.kitOne]
  · have e1 : (Value.ref D == Value.ref C) = false := by simpa using e
    unfold PySem.W.kitOne PySem.W.kitCls
    dsimp only
    rw [e1, h3, hC.ty]
    simp only [Bool.false_eq_true, if_false, Option.isSome_some, beq_self_eq_true, Bool.and_self, if_true]
    show PySem.W.mroIn K D (.ref C) = _
    unfold PySem.W.mroIn
    rw [h1, Option.bind_some, h2]
    have e2 : (Value.ref C == Value.ref D) = false := by simpa using fun z => e z.symm
    have e3 : (Value.ref C == Value.ref G) = false := by simpa using hG
    simp [e, PySem.HandSPX.veTail]
    exact ⟨fun z => e z.symm, hG⟩
end Kx

set_option Elab.async false
set_option linter.all false
set_option maxRecDepth 100000
set_option maxHeartbeats 4000000
namespace Kx
open PySem PySem.Spec PyProof.Rows L2
/-! ### a head by one run: a Bool of the part of the heap that the names reach, and the defs -/
def frK {β : Type} : PySem.W.Frag → (PySem.W.Frag → β) → β
  | [], k => k []
  | (a, o) :: r, k => HandSHeadRun.frNat a fun a => frK r fun r => k ((a, o) :: r)
theorem frK_eq {β : Type} : ∀ (K : PySem.W.Frag) (k : PySem.W.Frag → β), frK K k = k K
  | [], _ => rfl
  | (a, o) :: r, k => by
    unfold frK
    rw [HandSHeadRun.frNat_eq, frK_eq r]
abbrev AlM : Type := Bool × List He.FnW
def obsK (ex : PySem.W.Frag → Bool) (fn : List He.DefD) (K : PySem.W.Frag) : AlM := (ex K && fn.all fun d => d.ok K, fn.map fun d => He.fnW K d.at_)
def valM (fn : List He.DefD) : AlM := (true, fn.map He.DefD.val)
structure SaysM (ex : PySem.W.Frag → Bool) (fn : List He.DefD) (K : PySem.W.Frag) : Prop where
  ex : ex K = true
  ok : ∀ d ∈ fn, d.ok K = true
  at_ : fn.map (fun d => He.fnW K d.at_) = fn.map He.DefD.val
def obsM (n : Nat) (ex : PySem.W.Frag → Bool) (fn : List He.DefD) (g : Addr → Option Obj) : AlM := frK (He.frG g (He.asD g n)) (obsK ex fn)
theorem saysM_of {n : Nat} {ex : PySem.W.Frag → Bool} {fn : List He.DefD} {g : Addr → Option Obj} (e : obsM n ex fn g = valM fn) : SaysM ex fn (He.frG g (He.asD g n)) := by
  unfold obsM at e
  rw [frK_eq] at e
  have e1 := congrArg (fun z : AlM => z.1) e
  have e2 := congrArg (fun z : AlM => z.2) e
  obtain ⟨h1, h2⟩ := Bool.and_eq_true_iff.mp (show (ex (He.frG g (He.asD g n)) && fn.all fun d => d.ok (He.frG g (He.asD g n))) = true from e1)
  exact ⟨h1, fun d hd => List.all_eq_true.mp h2 d hd, e2⟩
def hookM (n : Nat) (ex : PySem.W.Frag → Bool) (fn : List He.DefD) : PySem.W.Hook where
  α := AlM
  obs := fun s => obsM n ex fn s.heap.get?
  val := fun _ => valM fn
  says := fun _ h => ∃ K : PySem.W.Frag, K.In h ∧ SaysM ex fn K
  of := fun _ _ e => ⟨_, He.frG_in, saysM_of e⟩
  keeps := fun _ _ _ ⟨K, hK, c⟩ k => ⟨K, PySem.W.Frag.In.keeps hK k, c⟩
theorem obsM_eq {n : Nat} {ex : PySem.W.Frag → Bool} {fn : List He.DefD} {g : Addr → Option Obj} {s : Shared} (h : ∀ a, g a = s.heap.get? a) : obsM n ex fn g = (hookM n ex fn).obs s := by
  have e : g = s.heap.get? := funext h
  rw [e] <;> rfl
/-- a def of the list, as a def of the text -/
theorem SaysM.def_ {ex : PySem.W.Frag → Bool} {fn : List He.DefD} {K : PySem.W.Frag} (c : SaysM ex fn K) (i : Nat) {d : He.DefD} (h : fn[i]? = some d := by rfl) : ∃ fd, FunD K d.name d.qual d.params d.body d.scope (d.dvs K) (d.kws K) (He.fAd K d.at_) fd := by
  have e2 : (fn.map fun d => He.fnW K d.at_)[i]? = (fn.map He.DefD.val)[i]? := by rw [c.at_]
  rw [List.getElem?_map, List.getElem?_map, h] at e2
  exact He.DefD.funD (Option.some.inj e2) (c.ok d (List.mem_of_getElem? h))
theorem fun_of {K : PySem.W.Frag} {x qual : Str} {st : Stmt} {f : Addr} {fd : FuncData} (F : FunD K x qual (defArgs st) (defBody st) (defScope st) [] [] f fd) : Fun K x qual st f fd := by
  obtain ⟨oc, od, dV, kV, doc, pm, an, cdv, ct, osl, rfl, lk, hcd, hD, hK⟩ := F.ex
  rcases hD with ⟨_, rfl⟩ | ⟨e, _⟩
  · exact ⟨⟨oc, od, kV, doc, pm, an, cdv, ct, osl, rfl, lk, hcd⟩, F.kp⟩
  · exact absurd rfl e
/-! ### the end -/
theorem walk_ofGE {l : PySem.W.OpenLaw} {n k : Nat} {q : Program} {loose : List Str} {XP : (Str → Option Value) → Heap → Prop} {YP : World → Heap → Prop} {d : DefRec} {x : Str}
    (hn : l.most = some n) (hn2 : n ≤ sizeLine) (hdf : d.params.defaults = []) (hr : Room k callerA)
    (F : ∀ (w : World) (mg : Str → Option Value) (fa : Addr) (h : Heap), YP w h → h.Ns mainGlobals mg → mg d.name = some (.ref fa) →
      ∃ (K : PySem.W.Frag) (fd : FuncData) (sp : Sp), K.In h ∧ (∀ (s : Shared) (u : Value), BindsTo s fd ⟨[u], []⟩ [(x, u)]) ∧
        (∀ (H : Hp) (a : Addr) (ns : List Int), ns.length ≤ n → Only H → SqL K H a (ns.map V.int) → sp [.ref a] H (fun v _ => v = .bl true) fun _ _ _ => False) ∧
        ∀ base : Heap, K.In base → base.Ns mainGlobals mg → FnG l.prog w K mg base CX0 k fa fd [x] sp) :
    PySem.W.WalkO q loose XP YP l.row.toRowW d [] (fun f vs => PySem.call f vs) := by
  refine Att.attach_call hn hdf fun w s₀ s₁ mg mb fa o pm cd doc a vs ns G Y ho hd hcd hmg hobj hints hlen hg => ?_
  obtain ⟨K, fd, sp, KX, hb, hsp, hF⟩ := F w mg fa _ Y G.T.g hmg
  exact law_callG KX G.T.g G.T.b G.T.builtins G.T.nolimit hg hobj hints (Nat.le_trans hlen hn2) hr hF hb fun H hO hS => hsp H a ns hlen hO hS
end Kx

set_option Elab.async false
set_option linter.all false
set_option maxRecDepth 100000
set_option maxHeartbeats 4000000
namespace Kx
open PySem PySem.Spec PyProof.Rows L2
/-! ### exception classes with one, two fields, or none, as the head leaves them -/
def excObjB (K : PySem.W.Frag) (G C : Addr) : Bool := match K.lookup C with
  | some ⟨.type t, _, .cls cd, sl⟩ => (match sl.toList with
    | [_, _, _, _, some (.builtin n), _] => decide (t = "type") && (decide (cd.mro = .ref C :: .ref G :: PySem.HandSPX.veTail) && (decide (n = "ValueError.__new__") && (!cd.hasDel && cd.hasDict)))
    | _ => false)
  | _ => false
theorem excObjB_ok {K : PySem.W.Frag} {G C : Addr} (h : excObjB K G C = true) : ∃ nm q N bs sn sub ab col dd k0 k1 k2 k3 k5, K.lookup C = some (excClassObj nm q C N bs (.ref G :: PySem.HandSPX.veTail) true sn sub ab col dd k0 k1 k2 k3 k5 "ValueError.__new__") := by
  unfold excObjB at h
  split at h
  · rename_i t dd cd sl ho
    split at h
    · rename_i k0 k1 k2 k3 n k5 hs
      simp only [Bool.and_eq_true, decide_eq_true_eq, Bool.not_eq_true'] at h
      obtain ⟨rfl, h2, rfl, h4, h5⟩ := h
      obtain ⟨nm, bs, mro, ns, qn, hd, sn, sub, ab, col, del⟩ := cd
      dsimp only at h2 h4 h5
      subst h2 h4 h5
      have hsl : sl = #[k0, k1, k2, k3, some (.builtin "ValueError.__new__"), k5] := by
        obtain ⟨l⟩ := sl
        simp only at hs
        rw [hs]
      subst hsl
      exact ⟨nm, qn, ns, bs, sn, sub, ab, col, dd, k0, k1, k2, k3, k5, ho⟩
    · cases h
  · cases h
def chkC (K : PySem.W.Frag) (c : Str) : Bool := He.eqO (PySem.W.nsIn K mainGlobals c) (some (some (.ref (He.ga K c)))) && (excObjB K (He.ga K gGE) (He.ga K c) && chkX K (He.ga K c))
def chkI (K : PySem.W.Frag) (c : Str) (fs : List Str) : Bool := chkC K c && (He.eqO (PySem.W.findIn K (.ref (He.ga K c)) "__init__") (some (some (.ref (He.ma K (He.ga K c) "__init__")))) && (decide (PySem.W.typeIn K (.ref (He.ma K (He.ga K c) "__init__")) = some (.type "function")) &&
  fs.all fun f => He.eqO (PySem.W.findIn K (.ref (He.ga K c)) f) (some none)))
def chk0 (K : PySem.W.Frag) (c : Str) : Bool := chkC K c && PySem.W.excIn K (He.ga K c) [.type "ValueError", .type "Exception", .type "BaseException", .type "object"] "ValueError.__new__"
structure XCb (K : PySem.W.Frag) (mg : Str → Option Value) (L : List Addr) (c : Str) : Prop where
  g : mg c = some (.ref (He.ga K c))
  x : ExCls K (He.ga K gGE) (He.ga K c)
  hm : He.ga K c ∈ L
section
variable {K : PySem.W.Frag} {mg : Str → Option Value} {L : List Addr} {c : Str} {h : Heap}
theorem xcb_of (X : K.In h) (G : h.Ns mainGlobals mg) (hm : He.ga K c ∈ L) (k : chkC K c = true) : XCb K mg L c := by
  obtain ⟨k1, k⟩ := He.ba k
  obtain ⟨k2, k3⟩ := He.ba k
  obtain ⟨nm, q, N, bs, sn, sub, ab, col, dd, k0, k1', k2', k3', k5, hl⟩ := excObjB_ok k2
  exact ⟨PySem.W.mg_of X G (He.eqO_ok k1), exCls_of hl k3, hm⟩
end
/-! #### one field -/
abbrev args1 (f : Str) (p q : Pos) : Arguments := { posonlyargs := [], args := [{ arg := "self", annotation := none, pos := p }, { arg := f, annotation := none, pos := q }], vararg := none, kwonlyargs := [], kw_defaults := [], kwarg := none, defaults := [] }
abbrev scope1 (f : Str) : Scope := { kind := .function, names := [("self", .local), (f, .local)], isGenerator := false, isCoroutine := false, more := [] }
abbrev init1 (f : Str) (p q p1 p2 p3 p4 p5 : Pos) : Stmt := .FunctionDef "__init__" (args1 f p q) [.Assign [.Attribute (.Name "self" p1) f p2] (.Name f p3) p4] [] none [] (scope1 f) none "__init__" p5
structure Fk1 (f : Str) : Prop where
  S : FnScope ["self", f] ["self", f] (scope1 f)
  bd : ∀ (qu : Str) (p q : Pos) (body : List Stmt) (sc : Scope) (kV doc pm : Value) (an : Option Addr) (cdv ct : Value) (us : List Value), us.length = 2 → bindArgs (PySem.W.fnOf "__init__" qu (args1 f p q) body sc .none kV doc pm an cdv ct) ⟨us, []⟩ = pure ((["self", f] : List Str).zip us)
  kb : ∀ (qu : Str) (p q : Pos) (body : List Stmt) (sc : Scope) (kV doc pm : Value) (an : Option Addr) (cdv ct u : Value) (ws : List Value), ws.length = 1 → bindArgs (PySem.W.fnOf "__init__" qu (args1 f p q) body sc .none kV doc pm an cdv ct) ⟨[u], [f].zip ws⟩ = pure ((["self", f] : List Str).zip (u :: ws))
  d1 : (f == ("__debug__" : Str)) = false
  d2 : (f == ("__classdict__" : Str)) = false
structure XC1 (K : PySem.W.Frag) (mg : Str → Option Value) (L : List Addr) (c f : Str) : Type extends XCb K mg L c where
  e : FuncData
  iC : PySem.W.findIn K (.ref (He.ga K c)) "__init__" = some (some (.ref (He.ma K (He.ga K c) "__init__")))
  tI : PySem.W.typeIn K (.ref (He.ma K (He.ga K c) "__init__")) = some (.type "function")
  ok : ∀ {P : Program} {w : World} {base : Heap}, FnOk P w K mg base CX0 1 (He.ma K (He.ga K c) "__init__") e ["self", f] (spI1 (He.ga K c) f)
  b : Binds K e ["self", f] []
  kb : KB1 K e ["self", f] [f] (fun ws => ws) (fun zs => zs)
  n : PySem.W.findIn K (.ref (He.ga K c)) f = some none
theorem xc1_of {K : PySem.W.Frag} {mg : Str → Option Value} {L : List Addr} {c f qu : Str} {h : Heap} {p q p1 p2 p3 p4 p5 : Pos} {fd : FuncData} (X : K.In h) (G : h.Ns mainGlobals mg) (F1 : Fk1 f)
    (F : Fun K "__init__" qu (init1 f p q p1 p2 p3 p4 p5) (He.ma K (He.ga K c) "__init__") fd) (hm : He.ga K c ∈ L) (k : chkI K c [f] = true) : Nonempty (XC1 K mg L c f) := by
  obtain ⟨k1, k⟩ := He.ba k
  obtain ⟨k2, k⟩ := He.ba k
  obtain ⟨k3, k⟩ := He.ba k
  have xb := xcb_of X G hm k1
  have kn : PySem.W.findIn K (.ref (He.ga K c)) f = some none := He.eqO_ok (List.all_eq_true.mp k f (by simp))
  refine ⟨{ xb with e := fd, iC := He.eqO_ok k2, tI := of_decide_eq_true k3, ok := init1_ok F F1.S rfl xb.x.oex kn F1.d1 F1.d2, b := F.binds fun kV doc pm an cdv ct us hl => F1.bd qu p q _ _ kV doc pm an cdv ct us hl, kb := ⟨fun s u ws X' hl => ?_, fun r => r⟩, n := kn }⟩
  obtain ⟨oc, od, kV, doc, pm, an, cdv, ct, osl, rfl, lk, hcd⟩ := F.ex
  exact .of_eq (F1.kb qu p q _ _ kV doc pm an cdv ct u ws hl)
/-! #### two fields -/
abbrev args2 (f f2 : Str) (p q r : Pos) : Arguments := { posonlyargs := [], args := [{ arg := "self", annotation := none, pos := p }, { arg := f, annotation := none, pos := q }, { arg := f2, annotation := none, pos := r }], vararg := none, kwonlyargs := [], kw_defaults := [], kwarg := none, defaults := [] }
abbrev scope2 (f f2 : Str) : Scope := { kind := .function, names := [("self", .local), (f, .local), (f2, .local)], isGenerator := false, isCoroutine := false, more := [] }
abbrev init2 (f f2 : Str) (p q r p1 p2 p3 p4 q1 q2 q3 q4 p5 : Pos) : Stmt := .FunctionDef "__init__" (args2 f f2 p q r) [.Assign [.Attribute (.Name "self" p1) f p2] (.Name f p3) p4, .Assign [.Attribute (.Name "self" q1) f2 q2] (.Name f2 q3) q4] [] none [] (scope2 f f2) none "__init__" p5
structure Fk2 (f f2 : Str) : Prop where
  S : FnScope ["self", f, f2] ["self", f, f2] (scope2 f f2)
  bd : ∀ (qu : Str) (p q r : Pos) (body : List Stmt) (sc : Scope) (kV doc pm : Value) (an : Option Addr) (cdv ct : Value) (us : List Value), us.length = 3 → bindArgs (PySem.W.fnOf "__init__" qu (args2 f f2 p q r) body sc .none kV doc pm an cdv ct) ⟨us, []⟩ = pure ((["self", f, f2] : List Str).zip us)
  kb : ∀ (qu : Str) (p q r : Pos) (body : List Stmt) (sc : Scope) (kV doc pm : Value) (an : Option Addr) (cdv ct u : Value) (ws : List Value), ws.length = 2 → bindArgs (PySem.W.fnOf "__init__" qu (args2 f f2 p q r) body sc .none kV doc pm an cdv ct) ⟨[u], [f, f2].zip ws⟩ = pure ((["self", f, f2] : List Str).zip (u :: ws))
  kr : ∀ (qu : Str) (p q r : Pos) (body : List Stmt) (sc : Scope) (kV doc pm : Value) (an : Option Addr) (cdv ct u : Value) (ws : List Value), ws.length = 2 → bindArgs (PySem.W.fnOf "__init__" qu (args2 f f2 p q r) body sc .none kV doc pm an cdv ct) ⟨[u], [f2, f].zip ws⟩ = pure ((["self", f, f2] : List Str).zip (u :: ws.reverse))
  d1 : (f == ("__debug__" : Str)) = false
  d2 : (f == ("__classdict__" : Str)) = false
  d3 : (f2 == ("__debug__" : Str)) = false
  d4 : (f2 == ("__classdict__" : Str)) = false
structure XC2 (K : PySem.W.Frag) (mg : Str → Option Value) (L : List Addr) (c f f2 : Str) : Type extends XCb K mg L c where
  e : FuncData
  iC : PySem.W.findIn K (.ref (He.ga K c)) "__init__" = some (some (.ref (He.ma K (He.ga K c) "__init__")))
  tI : PySem.W.typeIn K (.ref (He.ma K (He.ga K c) "__init__")) = some (.type "function")
  ok : ∀ {P : Program} {w : World} {base : Heap}, FnOk P w K mg base CX0 1 (He.ma K (He.ga K c) "__init__") e ["self", f, f2] (spI2 (He.ga K c) f f2)
  b : Binds K e ["self", f, f2] []
  kb : KB1 K e ["self", f, f2] [f, f2] (fun ws => ws) (fun zs => zs)
  kr : KB1 K e ["self", f, f2] [f2, f] List.reverse List.reverse
  n : PySem.W.findIn K (.ref (He.ga K c)) f = some none
  n2 : PySem.W.findIn K (.ref (He.ga K c)) f2 = some none
theorem vals_rev {zs : List V} {ws : List Value} (r : Vals zs ws) : Vals zs.reverse ws.reverse := by
  induction r with
  | nil => exact .nil
  | cons h t ih =>
    rw [List.reverse_cons, List.reverse_cons]
    exact Vals.append ih (.cons h .nil)
theorem xc2_of {K : PySem.W.Frag} {mg : Str → Option Value} {L : List Addr} {c f f2 qu : Str} {h : Heap} {p q r p1 p2 p3 p4 q1 q2 q3 q4 p5 : Pos} {fd : FuncData} (X : K.In h) (G : h.Ns mainGlobals mg) (F1 : Fk2 f f2)
    (F : Fun K "__init__" qu (init2 f f2 p q r p1 p2 p3 p4 q1 q2 q3 q4 p5) (He.ma K (He.ga K c) "__init__") fd) (hm : He.ga K c ∈ L) (k : chkI K c [f, f2] = true) : Nonempty (XC2 K mg L c f f2) := by
  obtain ⟨k1, k⟩ := He.ba k
  obtain ⟨k2, k⟩ := He.ba k
  obtain ⟨k3, k⟩ := He.ba k
  have xb := xcb_of X G hm k1
  have kn : PySem.W.findIn K (.ref (He.ga K c)) f = some none := He.eqO_ok (List.all_eq_true.mp k f (by simp))
  have kn2 : PySem.W.findIn K (.ref (He.ga K c)) f2 = some none := He.eqO_ok (List.all_eq_true.mp k f2 (by simp))
  refine ⟨{ xb with e := fd, iC := He.eqO_ok k2, tI := of_decide_eq_true k3, ok := init2_ok F F1.S rfl xb.x.oex kn kn2 F1.d1 F1.d2 F1.d3 F1.d4, b := F.binds fun kV doc pm an cdv ct us hl => F1.bd qu p q r _ _ kV doc pm an cdv ct us hl, kb := ⟨fun s u ws X' hl => ?_, fun r => r⟩, kr := ⟨fun s u ws X' hl => ?_, vals_rev⟩, n := kn, n2 := kn2 }⟩
  · obtain ⟨oc, od, kV, doc, pm, an, cdv, ct, osl, rfl, lk, hcd⟩ := F.ex
    exact .of_eq (F1.kb qu p q r _ _ kV doc pm an cdv ct u ws hl)
  · obtain ⟨oc, od, kV, doc, pm, an, cdv, ct, osl, rfl, lk, hcd⟩ := F.ex
    exact .of_eq (F1.kr qu p q r _ _ kV doc pm an cdv ct u ws hl)
/-! #### none -/
structure XC0 (K : PySem.W.Frag) (mg : Str → Option Value) (L : List Addr) (c : Str) : Prop extends XCb K mg L c where
  e0 : PySem.W.excIn K (He.ga K c) [.type "ValueError", .type "Exception", .type "BaseException", .type "object"] "ValueError.__new__" = true
theorem xc0_of {K : PySem.W.Frag} {mg : Str → Option Value} {L : List Addr} {c : Str} {h : Heap} (X : K.In h) (G : h.Ns mainGlobals mg) (hm : He.ga K c ∈ L) (k : chk0 K c = true) : XC0 K mg L c := by
  obtain ⟨k1, k2⟩ := He.ba k
  exact { xcb_of X G hm k1 with e0 := k2 }
/-! ### the field names -/
theorem fk_given : Fk1 "given" := ⟨⟨rfl, rfl, rfl, by decide +kernel, rfl, by decide +kernel, by decide +kernel⟩, fun _ _ _ _ _ _ _ _ _ _ _ us hl => match us, hl with | [_, _], _ => rfl, fun _ _ _ _ _ _ _ _ _ _ _ _ ws hl => match ws, hl with | [_], _ => rfl, by decide, by decide⟩
theorem fk_key : Fk1 "key" := ⟨⟨rfl, rfl, rfl, by decide +kernel, rfl, by decide +kernel, by decide +kernel⟩, fun _ _ _ _ _ _ _ _ _ _ _ us hl => match us, hl with | [_, _], _ => rfl, fun _ _ _ _ _ _ _ _ _ _ _ _ ws hl => match ws, hl with | [_], _ => rfl, by decide, by decide⟩
theorem fk_person : Fk1 "person" := ⟨⟨rfl, rfl, rfl, by decide +kernel, rfl, by decide +kernel, by decide +kernel⟩, fun _ _ _ _ _ _ _ _ _ _ _ us hl => match us, hl with | [_, _], _ => rfl, fun _ _ _ _ _ _ _ _ _ _ _ _ ws hl => match ws, hl with | [_], _ => rfl, by decide, by decide⟩
theorem fk_right : Fk1 "right" := ⟨⟨rfl, rfl, rfl, by decide +kernel, rfl, by decide +kernel, by decide +kernel⟩, fun _ _ _ _ _ _ _ _ _ _ _ us hl => match us, hl with | [_, _], _ => rfl, fun _ _ _ _ _ _ _ _ _ _ _ _ ws hl => match ws, hl with | [_], _ => rfl, by decide, by decide⟩
theorem fk_room : Fk1 "room" := ⟨⟨rfl, rfl, rfl, by decide +kernel, rfl, by decide +kernel, by decide +kernel⟩, fun _ _ _ _ _ _ _ _ _ _ _ us hl => match us, hl with | [_, _], _ => rfl, fun _ _ _ _ _ _ _ _ _ _ _ _ ws hl => match ws, hl with | [_], _ => rfl, by decide, by decide⟩
theorem fk_parts : Fk1 "parts" := ⟨⟨rfl, rfl, rfl, by decide +kernel, rfl, by decide +kernel, by decide +kernel⟩, fun _ _ _ _ _ _ _ _ _ _ _ us hl => match us, hl with | [_, _], _ => rfl, fun _ _ _ _ _ _ _ _ _ _ _ _ ws hl => match ws, hl with | [_], _ => rfl, by decide, by decide⟩
theorem fk_line : Fk1 "line" := ⟨⟨rfl, rfl, rfl, by decide +kernel, rfl, by decide +kernel, by decide +kernel⟩, fun _ _ _ _ _ _ _ _ _ _ _ us hl => match us, hl with | [_, _], _ => rfl, fun _ _ _ _ _ _ _ _ _ _ _ _ ws hl => match ws, hl with | [_], _ => rfl, by decide, by decide⟩
theorem fk_number : Fk1 "number" := ⟨⟨rfl, rfl, rfl, by decide +kernel, rfl, by decide +kernel, by decide +kernel⟩, fun _ _ _ _ _ _ _ _ _ _ _ us hl => match us, hl with | [_, _], _ => rfl, fun _ _ _ _ _ _ _ _ _ _ _ _ ws hl => match ws, hl with | [_], _ => rfl, by decide, by decide⟩
theorem fk_count : Fk1 "count" := ⟨⟨rfl, rfl, rfl, by decide +kernel, rfl, by decide +kernel, by decide +kernel⟩, fun _ _ _ _ _ _ _ _ _ _ _ us hl => match us, hl with | [_, _], _ => rfl, fun _ _ _ _ _ _ _ _ _ _ _ _ ws hl => match ws, hl with | [_], _ => rfl, by decide, by decide⟩
theorem fk_difference : Fk1 "difference" := ⟨⟨rfl, rfl, rfl, by decide +kernel, rfl, by decide +kernel, by decide +kernel⟩, fun _ _ _ _ _ _ _ _ _ _ _ us hl => match us, hl with | [_, _], _ => rfl, fun _ _ _ _ _ _ _ _ _ _ _ _ ws hl => match ws, hl with | [_], _ => rfl, by decide, by decide⟩
theorem fk_first_second : Fk2 "first" "second" := ⟨⟨rfl, rfl, rfl, by decide +kernel, rfl, by decide +kernel, by decide +kernel⟩, fun _ _ _ _ _ _ _ _ _ _ _ _ us hl => match us, hl with | [_, _, _], _ => rfl, fun _ _ _ _ _ _ _ _ _ _ _ _ _ ws hl => match ws, hl with | [_, _], _ => rfl, fun _ _ _ _ _ _ _ _ _ _ _ _ _ ws hl => match ws, hl with | [_, _], _ => rfl, by decide, by decide, by decide, by decide⟩
theorem fk_start_goal : Fk2 "start" "goal" := ⟨⟨rfl, rfl, rfl, by decide +kernel, rfl, by decide +kernel, by decide +kernel⟩, fun _ _ _ _ _ _ _ _ _ _ _ _ us hl => match us, hl with | [_, _, _], _ => rfl, fun _ _ _ _ _ _ _ _ _ _ _ _ _ ws hl => match ws, hl with | [_, _], _ => rfl, fun _ _ _ _ _ _ _ _ _ _ _ _ _ ws hl => match ws, hl with | [_, _], _ => rfl, by decide, by decide, by decide, by decide⟩
end Kx

set_option Elab.async false
set_option linter.all false
set_option maxRecDepth 100000
set_option maxHeartbeats 4000000
namespace Kx
open PySem PySem.Spec PyProof.Rows L2
def topS (i : Nat) : Stmt := PW.main.body.getD i (.Pass ⟨0, 0, 0, 0⟩)
abbrev s__law_cell : Stmt := topS 76
abbrev n__law_cell : List Str := ["_law_script", "_law_k"]
theorem sc__law_cell : FnScope n__law_cell ["_law_script", "_law_k"] (defScope s__law_cell) := ⟨rfl, rfl, rfl, by decide +kernel, rfl, by decide +kernel, by decide +kernel⟩
abbrev s__law_box : Stmt := topS 77
abbrev n__law_box : List Str := ["_law_great"]
theorem sc__law_box : FnScope n__law_box ["_law_great"] (defScope s__law_box) := ⟨rfl, rfl, rfl, by decide +kernel, rfl, by decide +kernel, by decide +kernel⟩
abbrev s__law_take : Stmt := topS 78
abbrev n__law_take : List Str := ["_law_box_here", "_law_many", "_law_digit", "_law_mixed"]
theorem sc__law_take : FnScope n__law_take ["_law_box_here", "_law_many"] (defScope s__law_take) := ⟨rfl, rfl, rfl, by decide +kernel, rfl, by decide +kernel, by decide +kernel⟩
abbrev s__law_kinds_one : Stmt := topS 79
abbrev n__law_kinds_one : List Str := ["_law_e", "_law_found"]
theorem sc__law_kinds_one : FnScope n__law_kinds_one ["_law_e"] (defScope s__law_kinds_one) := ⟨rfl, rfl, rfl, by decide +kernel, rfl, by decide +kernel, by decide +kernel⟩
abbrev s__law_kinds_two : Stmt := topS 80
abbrev n__law_kinds_two : List Str := ["_law_e", "_law_found"]
theorem sc__law_kinds_two : FnScope n__law_kinds_two ["_law_e"] (defScope s__law_kinds_two) := ⟨rfl, rfl, rfl, by decide +kernel, rfl, by decide +kernel, by decide +kernel⟩
abbrev s__law_kinds_three : Stmt := topS 81
abbrev n__law_kinds_three : List Str := ["_law_e", "_law_found"]
theorem sc__law_kinds_three : FnScope n__law_kinds_three ["_law_e"] (defScope s__law_kinds_three) := ⟨rfl, rfl, rfl, by decide +kernel, rfl, by decide +kernel, by decide +kernel⟩
abbrev s__law_givens : Stmt := topS 82
abbrev n__law_givens : List Str := ["_law_thing", "_law_found"]
theorem sc__law_givens : FnScope n__law_givens ["_law_thing"] (defScope s__law_givens) := ⟨rfl, rfl, rfl, by decide +kernel, rfl, by decide +kernel, by decide +kernel⟩
abbrev s__law_keys : Stmt := topS 83
abbrev n__law_keys : List Str := ["_law_thing", "_law_found"]
theorem sc__law_keys : FnScope n__law_keys ["_law_thing"] (defScope s__law_keys) := ⟨rfl, rfl, rfl, by decide +kernel, rfl, by decide +kernel, by decide +kernel⟩
abbrev s__law_persons : Stmt := topS 84
abbrev n__law_persons : List Str := ["_law_thing", "_law_found"]
theorem sc__law_persons : FnScope n__law_persons ["_law_thing"] (defScope s__law_persons) := ⟨rfl, rfl, rfl, by decide +kernel, rfl, by decide +kernel, by decide +kernel⟩
abbrev s__law_numbers : Stmt := topS 85
abbrev n__law_numbers : List Str := ["_law_thing", "_law_found"]
theorem sc__law_numbers : FnScope n__law_numbers ["_law_thing"] (defScope s__law_numbers) := ⟨rfl, rfl, rfl, by decide +kernel, rfl, by decide +kernel, by decide +kernel⟩
abbrev s__law_named : Stmt := topS 86
abbrev n__law_named : List Str := ["_law_thing", "_law_found"]
theorem sc__law_named : FnScope n__law_named ["_law_thing"] (defScope s__law_named) := ⟨rfl, rfl, rfl, by decide +kernel, rfl, by decide +kernel, by decide +kernel⟩
abbrev s__law_named_keys : Stmt := topS 87
abbrev n__law_named_keys : List Str := ["_law_thing", "_law_found"]
theorem sc__law_named_keys : FnScope n__law_named_keys ["_law_thing"] (defScope s__law_named_keys) := ⟨rfl, rfl, rfl, by decide +kernel, rfl, by decide +kernel, by decide +kernel⟩
abbrev s__law_named_persons : Stmt := topS 88
abbrev n__law_named_persons : List Str := ["_law_thing", "_law_found"]
theorem sc__law_named_persons : FnScope n__law_named_persons ["_law_thing"] (defScope s__law_named_persons) := ⟨rfl, rfl, rfl, by decide +kernel, rfl, by decide +kernel, by decide +kernel⟩
abbrev s__law_named_numbers : Stmt := topS 89
abbrev n__law_named_numbers : List Str := ["_law_thing", "_law_found"]
theorem sc__law_named_numbers : FnScope n__law_named_numbers ["_law_thing"] (defScope s__law_named_numbers) := ⟨rfl, rfl, rfl, by decide +kernel, rfl, by decide +kernel, by decide +kernel⟩
abbrev s__law_lone : Stmt := topS 90
abbrev n__law_lone : List Str := ["_law_thing", "_law_held"]
theorem sc__law_lone : FnScope n__law_lone ["_law_thing"] (defScope s__law_lone) := ⟨rfl, rfl, rfl, by decide +kernel, rfl, by decide +kernel, by decide +kernel⟩
abbrev s__law_pairs : Stmt := topS 91
abbrev n__law_pairs : List Str := ["_law_one", "_law_other", "_law_held", "_law_more"]
theorem sc__law_pairs : FnScope n__law_pairs ["_law_one", "_law_other"] (defScope s__law_pairs) := ⟨rfl, rfl, rfl, by decide +kernel, rfl, by decide +kernel, by decide +kernel⟩
abbrev s__law_same : Stmt := topS 92
abbrev n__law_same : List Str := ["_law_found", "_law_thing"]
theorem sc__law_same : FnScope n__law_same ["_law_found", "_law_thing"] (defScope s__law_same) := ⟨rfl, rfl, rfl, by decide +kernel, rfl, by decide +kernel, by decide +kernel⟩
abbrev s__law_all : Stmt := topS 93
abbrev n__law_all : List Str := ["_law_thing", "_law_found"]
theorem sc__law_all : FnScope n__law_all ["_law_thing"] (defScope s__law_all) := ⟨rfl, rfl, rfl, by decide +kernel, rfl, by decide +kernel, by decide +kernel⟩
abbrev s__law_fields_right : Stmt := topS 94
abbrev n__law_fields_right : List Str := ["_law_thing", "_law_e", "_law_pair"]
theorem sc__law_fields_right : FnScope n__law_fields_right ["_law_thing"] (defScope s__law_fields_right) := ⟨rfl, rfl, rfl, by decide +kernel, rfl, by decide +kernel, by decide +kernel⟩
abbrev s__law_objects_right : Stmt := topS 95
abbrev n__law_objects_right : List Str := ["_law_thing", "_law_made", "_law_lone_here", "_law_found", "_law_e", "_law_one"]
theorem sc__law_objects_right : FnScope n__law_objects_right ["_law_thing"] (defScope s__law_objects_right) := ⟨rfl, rfl, rfl, by decide +kernel, rfl, by decide +kernel, by decide +kernel⟩
abbrev s__law_kinds_right : Stmt := topS 96
abbrev n__law_kinds_right : List Str := ["_law_made", "_law_k", "_law_kinds"]
theorem sc__law_kinds_right : FnScope n__law_kinds_right [] (defScope s__law_kinds_right) := ⟨rfl, rfl, rfl, by decide +kernel, rfl, by decide +kernel, by decide +kernel⟩
abbrev s_law : Stmt := topS 97
abbrev n_law : List Str := ["_law_script", "_law_k", "_law_box_here", "_law_some", "_law_one", "_law_other", "_law_held", "_law_more", "_law_pair"]
theorem sc_law : FnScope n_law ["_law_script"] (defScope s_law) := ⟨rfl, rfl, rfl, by decide +kernel, rfl, by decide +kernel, by decide +kernel⟩
abbrev ks0 : List Str := ["InvalidPerson", "InvalidNumber", "InvalidSeen", "InvalidDeed", "InvalidChange", "InvalidHistory", "InvalidVector", "InvalidText", "InvalidRight", "InvalidRights", "InvalidFlag", "InvalidIds", "NotGround", "InvalidName", "InvalidSheet", "InvalidWish", "InvalidReading", "InvalidLine", "InvalidPlan", "NoThing", "UnknownColumn", "KeptTable", "NotClosed", "NoPurse", "CutPurse"]
abbrev ks1 : List Str := ["TooMuch", "InvalidCount", "InvalidGoal", "InvalidCrowd", "InvalidJournal", "NotKept", "NotBroken", "NotHidden", "InvalidRooms", "InvalidStrokes", "InvalidHistories", "InvalidView", "InvalidVariable", "InvalidGiven", "NotPlain", "UnknownView", "InvalidLines", "Forked", "Missing", "Blind", "UnknownChange", "NotStruck", "Old", "Forgotten", "Beside"]
abbrev ks2 : List Str := ["Short", "Stranger", "NotAsked", "HasCopy", "NoPerson", "NotRight", "RoomTaken", "UnknownRoom", "Lacking", "NoLine", "NoKnot", "NoReading", "RingThere", "TooMany", "Unfit", "NotAhead", "Against", "NotWithin", "UnlikeShown", "NoShowing", "NoParting", "NothingToUndo", "NothingToRedo"]
abbrev allk : List Str := ks0 ++ ks1 ++ ks2
abbrev kindsL (K : PySem.W.Frag) : List Addr := allk.map (He.ga K)
structure DF (K : PySem.W.Frag) (mg : Str → Option Value) (n : Str) (ps : List Str) (st : Stmt) where
  d : FuncData
  F : Fun K n n st (He.ga K n) d
  b : Binds K d ps []
  g : mg n = some (.ref (He.ga K n))
structure Top (K : PySem.W.Frag) (mg : Str → Option Value) where
  m_len : mg "len" = none
  m_abs : mg "abs" = none
  m_int : mg "int" = none
  m_isinstance : mg "isinstance" = none
  m_repr : mg "repr" = none
  m_bool : mg "bool" = none
  m_list : mg "list" = none
  m_range : mg "range" = none
  m_ValueError : mg "ValueError" = none
  gG : mg "GroundError" = some (.ref (He.ga K gGE))
  xG : ∃ cd, PySem.W.clsIn K (He.ga K gGE) = some cd
  tG : PySem.W.typeIn K (.ref (He.ga K gGE)) = some (.type "type")
  k_UnlikeShown : XC0 K mg (kindsL K) "UnlikeShown"
  k_NoShowing : XC0 K mg (kindsL K) "NoShowing"
  k_NoParting : XC0 K mg (kindsL K) "NoParting"
  k_NothingToUndo : XC0 K mg (kindsL K) "NothingToUndo"
  k_NothingToRedo : XC0 K mg (kindsL K) "NothingToRedo"
  k_InvalidPerson : XC1 K mg (kindsL K) "InvalidPerson" "given"
  k_InvalidNumber : XC1 K mg (kindsL K) "InvalidNumber" "given"
  k_InvalidSeen : XC1 K mg (kindsL K) "InvalidSeen" "given"
  k_InvalidDeed : XC1 K mg (kindsL K) "InvalidDeed" "given"
  k_InvalidChange : XC1 K mg (kindsL K) "InvalidChange" "given"
  k_InvalidHistory : XC1 K mg (kindsL K) "InvalidHistory" "given"
  k_InvalidVector : XC1 K mg (kindsL K) "InvalidVector" "given"
  k_InvalidText : XC1 K mg (kindsL K) "InvalidText" "given"
  k_InvalidRight : XC1 K mg (kindsL K) "InvalidRight" "given"
  k_InvalidRights : XC1 K mg (kindsL K) "InvalidRights" "given"
  k_InvalidFlag : XC1 K mg (kindsL K) "InvalidFlag" "given"
  k_InvalidIds : XC1 K mg (kindsL K) "InvalidIds" "given"
  k_Forked : XC1 K mg (kindsL K) "Forked" "key"
  k_Stranger : XC1 K mg (kindsL K) "Stranger" "person"
  k_Missing : XC1 K mg (kindsL K) "Missing" "key"
  k_Blind : XC1 K mg (kindsL K) "Blind" "key"
  k_NotAsked : XC1 K mg (kindsL K) "NotAsked" "person"
  k_NotRight : XC1 K mg (kindsL K) "NotRight" "right"
  k_RoomTaken : XC1 K mg (kindsL K) "RoomTaken" "room"
  k_UnknownRoom : XC1 K mg (kindsL K) "UnknownRoom" "room"
  k_UnknownChange : XC1 K mg (kindsL K) "UnknownChange" "key"
  k_NotStruck : XC1 K mg (kindsL K) "NotStruck" "key"
  k_Old : XC1 K mg (kindsL K) "Old" "key"
  k_Lacking : XC1 K mg (kindsL K) "Lacking" "parts"
  k_Forgotten : XC1 K mg (kindsL K) "Forgotten" "key"
  k_Beside : XC1 K mg (kindsL K) "Beside" "key"
  k_Short : XC1 K mg (kindsL K) "Short" "key"
  k_NotGround : XC1 K mg (kindsL K) "NotGround" "given"
  k_InvalidName : XC1 K mg (kindsL K) "InvalidName" "given"
  k_InvalidSheet : XC1 K mg (kindsL K) "InvalidSheet" "given"
  k_InvalidWish : XC1 K mg (kindsL K) "InvalidWish" "given"
  k_InvalidReading : XC1 K mg (kindsL K) "InvalidReading" "given"
  k_InvalidLine : XC1 K mg (kindsL K) "InvalidLine" "given"
  k_InvalidPlan : XC1 K mg (kindsL K) "InvalidPlan" "given"
  k_NoLine : XC1 K mg (kindsL K) "NoLine" "line"
  k_NoKnot : XC1 K mg (kindsL K) "NoKnot" "number"
  k_NoReading : XC1 K mg (kindsL K) "NoReading" "number"
  k_RingThere : XC1 K mg (kindsL K) "RingThere" "number"
  k_NoThing : XC1 K mg (kindsL K) "NoThing" "given"
  k_UnknownColumn : XC1 K mg (kindsL K) "UnknownColumn" "given"
  k_KeptTable : XC1 K mg (kindsL K) "KeptTable" "given"
  k_NotClosed : XC1 K mg (kindsL K) "NotClosed" "given"
  k_NoPurse : XC1 K mg (kindsL K) "NoPurse" "given"
  k_CutPurse : XC1 K mg (kindsL K) "CutPurse" "given"
  k_TooMuch : XC1 K mg (kindsL K) "TooMuch" "given"
  k_InvalidCount : XC1 K mg (kindsL K) "InvalidCount" "given"
  k_InvalidGoal : XC1 K mg (kindsL K) "InvalidGoal" "given"
  k_InvalidCrowd : XC1 K mg (kindsL K) "InvalidCrowd" "given"
  k_InvalidJournal : XC1 K mg (kindsL K) "InvalidJournal" "given"
  k_NotKept : XC1 K mg (kindsL K) "NotKept" "given"
  k_NotBroken : XC1 K mg (kindsL K) "NotBroken" "given"
  k_TooMany : XC1 K mg (kindsL K) "TooMany" "count"
  k_NotHidden : XC1 K mg (kindsL K) "NotHidden" "given"
  k_InvalidRooms : XC1 K mg (kindsL K) "InvalidRooms" "given"
  k_InvalidStrokes : XC1 K mg (kindsL K) "InvalidStrokes" "given"
  k_InvalidHistories : XC1 K mg (kindsL K) "InvalidHistories" "given"
  k_Unfit : XC1 K mg (kindsL K) "Unfit" "difference"
  k_InvalidView : XC1 K mg (kindsL K) "InvalidView" "given"
  k_InvalidVariable : XC1 K mg (kindsL K) "InvalidVariable" "given"
  k_InvalidGiven : XC1 K mg (kindsL K) "InvalidGiven" "given"
  k_NotPlain : XC1 K mg (kindsL K) "NotPlain" "given"
  k_UnknownView : XC1 K mg (kindsL K) "UnknownView" "given"
  k_HasCopy : XC1 K mg (kindsL K) "HasCopy" "person"
  k_NoPerson : XC1 K mg (kindsL K) "NoPerson" "person"
  k_InvalidLines : XC1 K mg (kindsL K) "InvalidLines" "given"
  k_NotAhead : XC2 K mg (kindsL K) "NotAhead" "first" "second"
  k_Against : XC2 K mg (kindsL K) "Against" "first" "second"
  k_NotWithin : XC2 K mg (kindsL K) "NotWithin" "start" "goal"
  f__law_cell : DF K mg "_law_cell" ["_law_script", "_law_k"] s__law_cell
  f__law_box : DF K mg "_law_box" ["_law_great"] s__law_box
  f__law_take : DF K mg "_law_take" ["_law_box_here", "_law_many"] s__law_take
  f__law_kinds_one : DF K mg "_law_kinds_one" ["_law_e"] s__law_kinds_one
  f__law_kinds_two : DF K mg "_law_kinds_two" ["_law_e"] s__law_kinds_two
  f__law_kinds_three : DF K mg "_law_kinds_three" ["_law_e"] s__law_kinds_three
  f__law_givens : DF K mg "_law_givens" ["_law_thing"] s__law_givens
  f__law_keys : DF K mg "_law_keys" ["_law_thing"] s__law_keys
  f__law_persons : DF K mg "_law_persons" ["_law_thing"] s__law_persons
  f__law_numbers : DF K mg "_law_numbers" ["_law_thing"] s__law_numbers
  f__law_named : DF K mg "_law_named" ["_law_thing"] s__law_named
  f__law_named_keys : DF K mg "_law_named_keys" ["_law_thing"] s__law_named_keys
  f__law_named_persons : DF K mg "_law_named_persons" ["_law_thing"] s__law_named_persons
  f__law_named_numbers : DF K mg "_law_named_numbers" ["_law_thing"] s__law_named_numbers
  f__law_lone : DF K mg "_law_lone" ["_law_thing"] s__law_lone
  f__law_pairs : DF K mg "_law_pairs" ["_law_one", "_law_other"] s__law_pairs
  f__law_same : DF K mg "_law_same" ["_law_found", "_law_thing"] s__law_same
  f__law_all : DF K mg "_law_all" ["_law_thing"] s__law_all
  f__law_fields_right : DF K mg "_law_fields_right" ["_law_thing"] s__law_fields_right
  f__law_objects_right : DF K mg "_law_objects_right" ["_law_thing"] s__law_objects_right
  f__law_kinds_right : DF K mg "_law_kinds_right" [] s__law_kinds_right
  f_law : DF K mg "law" ["_law_script"] s_law
  nd : (kindsL K).Nodup
  ng : ∀ D ∈ kindsL K, D ≠ He.ga K gGE
end Kx

set_option Elab.async false
set_option linter.all false
set_option maxRecDepth 100000
set_option maxHeartbeats 4000000
namespace Kx
open PySem PySem.Spec PyProof.Rows L2
/-! ### lists of which every value is alike -/
structure AllU (n : Nat) (R : MP) (H : Hp) (xs : List V) : Prop where
  len : xs.length = n
  all : ∀ v ∈ xs, R.p H v
theorem AllU.mono {n : Nat} {R : MP} {H H' : Hp} {xs : List V} (e : Same H H') (h : AllU n R H xs) : AllU n R H' xs := ⟨h.len, fun v hv => R.mono e (h.all v hv)⟩
theorem AllU.append {n m : Nat} {R : MP} {H : Hp} {xs ys : List V} (h : AllU n R H xs) (k : AllU m R H ys) : AllU (n + m) R H (xs ++ ys) := ⟨by rw [List.length_append, h.len, k.len], fun v hv => (List.mem_append.mp hv).elim (h.all v) (k.all v)⟩
theorem AllU.weak {n : Nat} {R S : MP} {H : Hp} {xs : List V} (h : AllU n R H xs) (k : ∀ v, R.p H v → S.p H v) : AllU n S H xs := ⟨h.len, fun v hv => k v (h.all v hv)⟩
def EvN (H0 : Hp) (ta : TA) (σ : L2.St) (n : Nat) (R : MP) : Prop := ∀ H (Q : List V → Hp → Prop), Same H0 H → (∀ vs H', Same H H' → AllU n R H' vs → Q vs H') → ta σ H Q
def EvU (H0 : Hp) (te : TE) (σ : L2.St) (n : Nat) (R : MP) : Prop := ∀ H (Q : VK), Same H0 H → (∀ p xs H', Same H H' → H p = none → H' p = some (.lst xs) → AllU n R H' xs → Q (.ref p) H') → te σ H Q
/-- a name's list: its place is not new -/
def EvW (H0 : Hp) (te : TE) (σ : L2.St) (n : Nat) (R : MP) : Prop := ∀ H (Q : VK), Same H0 H → (∀ p xs H', Same H H' → H' p = some (.lst xs) → AllU n R H' xs → Q (.ref p) H') → te σ H Q
section
variable {H0 : Hp} {σ : L2.St} {n m : Nat} {R S : MP} {te tb : TE} {ta : TA}
theorem EvS.weak (h : EvS H0 te σ R) (k : ∀ H v, R.p H v → S.p H v) : EvS H0 te σ S := fun H Q s q => h H Q s fun v H' s' r => q v H' s' (k _ _ r)
theorem EvU.weak (h : EvU H0 te σ n R) (k : ∀ H v, R.p H v → S.p H v) : EvU H0 te σ n S := fun H Q s q => h H Q s fun p xs H' s' a b r => q p xs H' s' a b (r.weak fun v => k _ v)
theorem EvW.weak (h : EvW H0 te σ n R) (k : ∀ H v, R.p H v → S.p H v) : EvW H0 te σ n S := fun H Q s q => h H Q s fun p xs H' s' b r => q p xs H' s' b (r.weak fun v => k _ v)
theorem EvU.w (h : EvU H0 te σ n R) : EvW H0 te σ n R := fun H Q s q => h H Q s fun p xs H' s' _ e r => q p xs H' s' e r
theorem en_nil : EvN H0 tNil σ 0 R := fun H Q s q => q [] H (Same.refl _) ⟨rfl, fun v h => by cases h⟩
theorem en_cons (h1 : EvS H0 te σ R) (h2 : EvN H0 ta σ n R) : EvN H0 (tCons te ta) σ (n + 1) R := fun H Q s q =>
  h1 H _ s fun v H1 s1 r1 => h2 H1 _ (s.trans s1) fun vs H2 s2 r2 => q (v :: vs) H2 (s1.trans s2) ⟨by rw [List.length_cons, r2.len], fun u hu => by
    rcases List.mem_cons.mp hu with rfl | hu
    · exact R.mono s2 r1
    · exact r2.all u hu⟩
theorem eu_lst (h : EvN H0 ta σ n R) (hn : n ≤ 1000 := by decide) : EvU H0 (tLst ta) σ n R := fun H Q s q =>
  h H _ s fun vs H1 s1 r1 => ⟨Nat.le_trans (by rw [r1.len]; exact hn) (by decide), fun p hp => q p vs _ (s1.trans (same_upd hp)) (s1.free hp) upd_same (r1.mono (same_upd hp))⟩
theorem eu_cat (h1 : EvW H0 te σ n R) (h2 : EvW H0 tb σ m R) (hn : n + m ≤ 1000 := by decide) : EvU H0 (tOp rCat te tb) σ (n + m) R := fun H Q s q =>
  h1 H _ s fun p xs H1 s1 e1 r1 => h2 H1 _ (s.trans s1) fun r ys H2 s2 e2 r2 => ⟨p, r, xs, ys, rfl, rfl, s2 _ _ e1, e2, Nat.le_trans (by rw [r1.len, r2.len]; exact hn) (by decide), fun l hl =>
    q l _ _ ((s1.trans s2).trans (same_upd hl)) (s1.free (s2.free hl)) upd_same (((r1.mono s2).append r2).mono (same_upd hl))⟩
theorem ew_var {i : Nat} {a : Addr} {xs : List V} (h : σ[i]? = some (some (.ref a))) (ha : H0 a = some (.lst xs)) (t : AllU n R H0 xs) : EvW H0 (tVar i) σ n R := fun H Q s q => ⟨_, h, q a xs H (Same.refl _) (s _ _ ha) (t.mono s)⟩
theorem EvU.set {i : Nat} {H00 : Hp} {rest : TS} {D : Ends} (s0 : Same H00 H0) (h : EvU H0 te σ n R) (q : ∀ p xs H', Same H00 H' → H00 p = none → H' p = some (.lst xs) → AllU n R H' xs → rest D (σ.set i (some (.ref p))) H') : tSeq (tAsg te (gName i)) rest D σ H0 :=
  h H0 _ (Same.refl _) fun p xs H' s' f e r => q p xs H' (s0.trans s') (s0.free f) e r
theorem EvU.set2 {a b : Option V} {H00 : Hp} {rest : TS} {D : Ends} (s0 : Same H00 H0) (h : EvU H0 te [a, b] n R) (q : ∀ p xs H', Same H00 H' → H00 p = none → H' p = some (.lst xs) → AllU n R H' xs → rest D [a, some (.ref p)] H') : tSeq (tAsg te (gName 1)) rest D [a, b] H0 :=
  h H0 _ (Same.refl _) fun p xs H' s' f e r => q p xs H' (s0.trans s') (s0.free f) e r
theorem EvU.ret {H00 : Hp} {D : Ends} (s0 : Same H00 H0) (h : EvU H0 te σ n R) (q : ∀ p xs H', Same H00 H' → H00 p = none → H' p = some (.lst xs) → AllU n R H' xs → D.rt (.ref p) H') : tRet te D σ H0 :=
  h H0 _ (Same.refl _) fun p xs H' s' f e r => q p xs H' (s0.trans s') (s0.free f) e r
end
/-! ### own exceptions -/
/-- an exception of one of the kinds L, its field f is x -/
def exF (K : PySem.W.Frag) (L : List Addr) (f : Str) (x : V) : MP := ⟨fun H v => ∃ (a d D : Addr) (fs : List (Str × V)), v = .ref a ∧ H a = some (exo a D (some d)) ∧ H d = some (exd d fs) ∧ ExCls K (He.ga K gGE) D ∧ D ∈ L ∧ PySem.W.findIn K (.ref D) f = some none ∧ fs.lookup f = some x,
  fun e ⟨a, d, D, fs, h1, h2, h3, h4⟩ => ⟨a, d, D, fs, h1, e _ _ h2, e _ _ h3, h4⟩⟩
/-- an exception of the kind D, one of L -/
def ExAt (K : PySem.W.Frag) (L : List Addr) (H : Hp) (a D : Addr) : Prop := ∃ o : Option Addr, H a = some (exo a D o) ∧ (∀ dd, o = some dd → ∃ fs, H dd = some (exd dd fs)) ∧ ExCls K (He.ga K gGE) D ∧ D ∈ L
theorem ExAt.mono {K : PySem.W.Frag} {L : List Addr} {H H' : Hp} {a D : Addr} (e : Same H H') (h : ExAt K L H a D) : ExAt K L H' a D := by
  obtain ⟨o, h1, h2, h3⟩ := h
  exact ⟨o, e _ _ h1, fun dd hd => (h2 dd hd).imp fun fs k => e _ _ k, h3⟩
def exA (K : PySem.W.Frag) (L : List Addr) : MP := ⟨fun H v => ∃ (a D : Addr), v = .ref a ∧ ExAt K L H a D, fun e ⟨a, D, h1, h2⟩ => ⟨a, D, h1, h2.mono e⟩⟩
theorem exA_of {K : PySem.W.Frag} {L : List Addr} {f : Str} {x : V} : ∀ H v, (exF K L f x).p H v → (exA K L).p H v := fun H v ⟨a, d, D, fs, h1, h2, h3, h4, h5, h6⟩ => ⟨a, D, h1, some d, h2, fun dd e => by cases e; exact ⟨fs, h3⟩, h4, h5⟩
section
variable {K : PySem.W.Frag} {mg : Str → Option Value} {L : List Addr} {c f f2 : Str} {H0 : Hp} {σ : L2.St} {te tu : TE} {x y : V}
theorem ev_X1 (X : XC1 K mg L c f) (h : EvS H0 te σ (isv x)) : EvS H0 (tExV (He.ga K c) (spI1 (He.ga K c) f) (tCons te tNil)) σ (exF K L f x) := (evs_ex1 h).weak fun H v ⟨a, d, h1, h2, h3⟩ => ⟨a, d, _, _, h1, h2, h3, X.x, X.hm, X.n, by simp [List.lookup]⟩
theorem ev_K1 (X : XC1 K mg L c f) (h : EvS H0 te σ (isv x)) : EvS H0 (tExK (He.ga K c) 1 (spI1 (He.ga K c) f) (fun zs => zs) (tCons te tNil)) σ (exF K L f x) := (evs_ek1 h).weak fun H v ⟨a, d, h1, h2, h3⟩ => ⟨a, d, _, _, h1, h2, h3, X.x, X.hm, X.n, by simp [List.lookup]⟩
theorem ev_X2 (X : XC2 K mg L c f f2) (hf : (f == f2) = false) (h : EvS H0 te σ (isv x)) (k : EvS H0 tu σ (isv y)) : EvS H0 (tExV (He.ga K c) (spI2 (He.ga K c) f f2) (tCons te (tCons tu tNil))) σ (exF K L f x) := (evs_ex2 h k).weak fun H v ⟨a, d, h1, h2, h3⟩ => ⟨a, d, _, _, h1, h2, h3, X.x, X.hm, X.n, by simp [List.lookup, hf]⟩
theorem ev_X2b (X : XC2 K mg L c f f2) (h : EvS H0 te σ (isv x)) (k : EvS H0 tu σ (isv y)) : EvS H0 (tExV (He.ga K c) (spI2 (He.ga K c) f f2) (tCons te (tCons tu tNil))) σ (exF K L f2 y) := (evs_ex2 h k).weak fun H v ⟨a, d, h1, h2, h3⟩ => ⟨a, d, _, _, h1, h2, h3, X.x, X.hm, X.n2, by simp [List.lookup]⟩
theorem ev_K2 (X : XC2 K mg L c f f2) (hf : (f == f2) = false) (h : EvS H0 te σ (isv x)) (k : EvS H0 tu σ (isv y)) : EvS H0 (tExK (He.ga K c) 2 (spI2 (He.ga K c) f f2) (fun zs => zs) (tCons te (tCons tu tNil))) σ (exF K L f x) := (evs_ek2 h k).weak fun H v ⟨a, d, h1, h2, h3⟩ => ⟨a, d, _, _, h1, h2, h3, X.x, X.hm, X.n, by simp [List.lookup, hf]⟩
theorem ev_K2b (X : XC2 K mg L c f f2) (h : EvS H0 te σ (isv x)) (k : EvS H0 tu σ (isv y)) : EvS H0 (tExK (He.ga K c) 2 (spI2 (He.ga K c) f f2) (fun zs => zs) (tCons te (tCons tu tNil))) σ (exF K L f2 y) := (evs_ek2 h k).weak fun H v ⟨a, d, h1, h2, h3⟩ => ⟨a, d, _, _, h1, h2, h3, X.x, X.hm, X.n2, by simp [List.lookup]⟩
theorem ev_R2 (X : XC2 K mg L c f f2) (hf : (f == f2) = false) (h : EvS H0 te σ (isv x)) (k : EvS H0 tu σ (isv y)) : EvS H0 (tExK (He.ga K c) 2 (spI2 (He.ga K c) f f2) List.reverse (tCons tu (tCons te tNil))) σ (exF K L f x) := (evs_ek2r h k).weak fun H v ⟨a, d, h1, h2, h3⟩ => ⟨a, d, _, _, h1, h2, h3, X.x, X.hm, X.n, by simp [List.lookup, hf]⟩
theorem ev_R2b (X : XC2 K mg L c f f2) (h : EvS H0 te σ (isv x)) (k : EvS H0 tu σ (isv y)) : EvS H0 (tExK (He.ga K c) 2 (spI2 (He.ga K c) f f2) List.reverse (tCons tu (tCons te tNil))) σ (exF K L f2 y) := (evs_ek2r h k).weak fun H v ⟨a, d, h1, h2, h3⟩ => ⟨a, d, _, _, h1, h2, h3, X.x, X.hm, X.n2, by simp [List.lookup]⟩
theorem ev_X0 (X : XC0 K mg L c) : EvS H0 (fun σ H Q => ∀ a, H a = none → Q (.ref a) (upd H a (exo a (He.ga K c) none))) σ (exA K L) := evs_ex0.weak fun H v ⟨a, h1, h2⟩ => ⟨a, _, h1, none, h2, (fun dd e => by cases e), X.x, X.hm⟩
theorem ev_fld (h : EvS H0 te σ (exF K L f x)) : EvS H0 (tExF K f te) σ (isv x) := fun H Q s q =>
  h H _ s fun v H1 s1 ⟨a, d, D, fs, e1, e2, e3, e4, e5, e6, e7⟩ => ⟨a, D, d, fs, x, e1, e2, e3, e4.xf, e6, e7, q _ _ s1 rfl⟩
end
/-! ### isinstance of them -/
theorem evs_isx {K : PySem.W.Frag} {L : List Addr} {H0 : Hp} {σ : L2.St} {i : Nat} {a D C : Addr} {b : Bool} (h : σ[i]? = some (some (.ref a))) (hx : ExAt K L H0 a D) (k : PySem.W.kitOne K (.ref D) (.ref C) = some b) :
    EvS H0 (tCB (rIsX K) (tCons (tVar i) (tCons (tC (.ref C)) tNil))) σ (isv (.bl b)) := fun H Q s q => by
  obtain ⟨o, h1, h2, h3, h4⟩ := hx.mono s
  exact ⟨_, h, a, D, o, _, _, b, rfl, h1, h2, h3.ex, .own C, k, q _ _ (Same.refl _) rfl⟩
theorem kit_G {K : PySem.W.Frag} {G D : Addr} (hD : ExCls K G D) (c : ∃ cd, PySem.W.clsIn K G = some cd) (t : PySem.W.typeIn K (.ref G) = some (.type "type")) : PySem.W.kitOne K (.ref D) (.ref G) = some true := by
  obtain ⟨cd, h1, h2⟩ := hD.mro
  obtain ⟨ce, h3⟩ := c
  by_cases e : D = G
  · subst e
    simp [PySem.W.kitOne]
  · have e1 : (Value.ref D == Value.ref G) = false := by simpa using e
    unfold PySem.W.kitOne PySem.W.kitCls
    dsimp only
    rw [e1, h3, t]
    simp only [Bool.false_eq_true, if_false, Option.isSome_some, beq_self_eq_true, Bool.and_self, if_true]
    show PySem.W.mroIn K D (.ref G) = _
    unfold PySem.W.mroIn
    rw [h1, Option.bind_some, h2]
    simp
theorem kit_VE {K : PySem.W.Frag} {G D : Addr} (hD : ExCls K G D) : PySem.W.kitOne K (.ref D) (.type "ValueError") = some true := by
  obtain ⟨cd, h1, h2⟩ := hD.mro
  have e1 : (Value.ref D == Value.type "ValueError") = false := rfl
  unfold PySem.W.kitOne PySem.W.kitCls
  dsimp only
  rw [e1]
  have e2 : PySem.W.kitMeta "ValueError" = true := by decide +kernel
  rw [e2]
  simp only [Bool.false_eq_true, if_false, if_true]
  show PySem.W.mroIn K D (.type "ValueError") = _
  unfold PySem.W.mroIn
  rw [h1, Option.bind_some, h2]
  simp [PySem.HandSPX.veTail]
theorem EvSL.set2 {a b : Option V} {H0 H00 : Hp} {rest : TS} {D : Ends} {te : TE} {Rs : List MP} (s0 : Same H00 H0) (h : EvSL H0 te [a, b] Rs) (q : ∀ p xs H', Same H00 H' → H00 p = none → H' p = some (.lst xs) → AllP Rs H' xs → rest D [a, some (.ref p)] H') : tSeq (tAsg te (gName 1)) rest D [a, b] H0 :=
  h H0 _ (Same.refl _) fun p xs H' s' f e r => q p xs H' (s0.trans s') (s0.free f) e r
/-- the kinds asked in turn -/
def spKd (K : PySem.W.Frag) (L ks : List Addr) : Sp := fun vs H Q _ => ∃ a D, vs = [.ref a] ∧ ExAt K L H a D ∧ ∀ p H', Same H H' → H p = none → H' p = some (.lst (ks.map fun C => .bl (decide (D = C)))) → Q (.ref p) H'
theorem spKd_len {K : PySem.W.Frag} {L ks : List Addr} (vs : List V) (H : Hp) (Q : VK) (E : XK) (h : spKd K L ks vs H Q E) : vs.length = 1 := by
  obtain ⟨a, D, rfl, _⟩ := h
  rfl
/-! ### defs that make a list of exceptions -/
def spMk (K : PySem.W.Frag) (L : List Addr) (n : Nat) (f : Str) : Sp := fun vs H Q _ => ∃ x, vs = [x] ∧ ∀ p xs H', Same H H' → H p = none → H' p = some (.lst xs) → AllU n (exF K L f x) H' xs → Q (.ref p) H'
theorem spMk_len {K : PySem.W.Frag} {L : List Addr} {n : Nat} {f : Str} (vs : List V) (H : Hp) (Q : VK) (E : XK) (h : spMk K L n f vs H Q E) : vs.length = 1 := by
  obtain ⟨x, rfl, _⟩ := h
  rfl
theorem eu_mk {K : PySem.W.Frag} {L : List Addr} {n : Nat} {f : Str} {H0 : Hp} {σ : L2.St} {te : TE} {x : V} (h : EvS H0 te σ (isv x)) : EvU H0 (tCall (spMk K L n f) [] E0 (tCons te tNil)) σ n (exF K L f x) := fun H Q s q =>
  h H _ s fun v H1 s1 r1 => ⟨x, by rw [show v = x from r1]; rfl, fun p xs H' s' f' e r => q p xs H' (s1.trans s') (s1.free f') e r⟩
end Kx

set_option Elab.async false
set_option linter.all false
set_option maxRecDepth 100000
set_option maxHeartbeats 4000000
namespace Kx
open PySem PySem.Spec PyProof.Rows L2
section
variable {P : Program} {w : World} {K : PySem.W.Frag} {mg : Str → Option Value} {base : Heap}

theorem ok__law_givens (T : Top K mg) : FnOk P w K mg base CX0 3 (He.ga K "_law_givens") T.f__law_givens.d ["_law_thing"] (spMk K (kindsL K) 42 "given") := by
  refine T.f__law_givens.F.ok sc__law_givens spMk_len (fun cdv A outer s H vs Q E hr h => ?_)
  obtain ⟨x, rfl, q⟩ := h
  refine ⟨_, (pss_cons (ps_set (i := 1) sc__law_givens.nd rfl (Or.inl rfl) (pe_lst (pa_cons (pe_exv T.k_InvalidPerson.x.oex T.k_InvalidPerson.iC T.k_InvalidPerson.tI T.k_InvalidPerson.ok (hr.mono (by decide)) T.k_InvalidPerson.b (by rfl) T.k_InvalidPerson.g (pa_cons (pv 0) pa_nil)) (pa_cons (pe_exv T.k_InvalidNumber.x.oex T.k_InvalidNumber.iC T.k_InvalidNumber.tI T.k_InvalidNumber.ok (hr.mono (by decide)) T.k_InvalidNumber.b (by rfl) T.k_InvalidNumber.g (pa_cons (pv 0) pa_nil)) (pa_cons (pe_exv T.k_InvalidSeen.x.oex T.k_InvalidSeen.iC T.k_InvalidSeen.tI T.k_InvalidSeen.ok (hr.mono (by decide)) T.k_InvalidSeen.b (by rfl) T.k_InvalidSeen.g (pa_cons (pv 0) pa_nil)) pa_nil)))))
      (pss_cons (ps_set (i := 1) sc__law_givens.nd rfl (Or.inl rfl) (pe_op op_cat (pv 1) (pe_lst (pa_cons (pe_exv T.k_InvalidDeed.x.oex T.k_InvalidDeed.iC T.k_InvalidDeed.tI T.k_InvalidDeed.ok (hr.mono (by decide)) T.k_InvalidDeed.b (by rfl) T.k_InvalidDeed.g (pa_cons (pv 0) pa_nil)) pa_nil))))
      (pss_cons (ps_set (i := 1) sc__law_givens.nd rfl (Or.inl rfl) (pe_op op_cat (pv 1) (pe_lst (pa_cons (pe_exv T.k_InvalidChange.x.oex T.k_InvalidChange.iC T.k_InvalidChange.tI T.k_InvalidChange.ok (hr.mono (by decide)) T.k_InvalidChange.b (by rfl) T.k_InvalidChange.g (pa_cons (pv 0) pa_nil)) (pa_cons (pe_exv T.k_InvalidHistory.x.oex T.k_InvalidHistory.iC T.k_InvalidHistory.tI T.k_InvalidHistory.ok (hr.mono (by decide)) T.k_InvalidHistory.b (by rfl) T.k_InvalidHistory.g (pa_cons (pv 0) pa_nil)) (pa_cons (pe_exv T.k_InvalidVector.x.oex T.k_InvalidVector.iC T.k_InvalidVector.tI T.k_InvalidVector.ok (hr.mono (by decide)) T.k_InvalidVector.b (by rfl) T.k_InvalidVector.g (pa_cons (pv 0) pa_nil)) pa_nil))))))
      (pss_cons (ps_set (i := 1) sc__law_givens.nd rfl (Or.inl rfl) (pe_op op_cat (pv 1) (pe_lst (pa_cons (pe_exv T.k_InvalidText.x.oex T.k_InvalidText.iC T.k_InvalidText.tI T.k_InvalidText.ok (hr.mono (by decide)) T.k_InvalidText.b (by rfl) T.k_InvalidText.g (pa_cons (pv 0) pa_nil)) pa_nil))))
      (pss_cons (ps_set (i := 1) sc__law_givens.nd rfl (Or.inl rfl) (pe_op op_cat (pv 1) (pe_lst (pa_cons (pe_exv T.k_InvalidRight.x.oex T.k_InvalidRight.iC T.k_InvalidRight.tI T.k_InvalidRight.ok (hr.mono (by decide)) T.k_InvalidRight.b (by rfl) T.k_InvalidRight.g (pa_cons (pv 0) pa_nil)) (pa_cons (pe_exv T.k_InvalidRights.x.oex T.k_InvalidRights.iC T.k_InvalidRights.tI T.k_InvalidRights.ok (hr.mono (by decide)) T.k_InvalidRights.b (by rfl) T.k_InvalidRights.g (pa_cons (pv 0) pa_nil)) (pa_cons (pe_exv T.k_InvalidFlag.x.oex T.k_InvalidFlag.iC T.k_InvalidFlag.tI T.k_InvalidFlag.ok (hr.mono (by decide)) T.k_InvalidFlag.b (by rfl) T.k_InvalidFlag.g (pa_cons (pv 0) pa_nil)) pa_nil))))))
      (pss_cons (ps_set (i := 1) sc__law_givens.nd rfl (Or.inl rfl) (pe_op op_cat (pv 1) (pe_lst (pa_cons (pe_exv T.k_InvalidIds.x.oex T.k_InvalidIds.iC T.k_InvalidIds.tI T.k_InvalidIds.ok (hr.mono (by decide)) T.k_InvalidIds.b (by rfl) T.k_InvalidIds.g (pa_cons (pv 0) pa_nil)) pa_nil))))
      (pss_cons (ps_set (i := 1) sc__law_givens.nd rfl (Or.inl rfl) (pe_op op_cat (pv 1) (pe_lst (pa_cons (pe_exv T.k_NotGround.x.oex T.k_NotGround.iC T.k_NotGround.tI T.k_NotGround.ok (hr.mono (by decide)) T.k_NotGround.b (by rfl) T.k_NotGround.g (pa_cons (pv 0) pa_nil)) (pa_cons (pe_exv T.k_InvalidName.x.oex T.k_InvalidName.iC T.k_InvalidName.tI T.k_InvalidName.ok (hr.mono (by decide)) T.k_InvalidName.b (by rfl) T.k_InvalidName.g (pa_cons (pv 0) pa_nil)) (pa_cons (pe_exv T.k_InvalidSheet.x.oex T.k_InvalidSheet.iC T.k_InvalidSheet.tI T.k_InvalidSheet.ok (hr.mono (by decide)) T.k_InvalidSheet.b (by rfl) T.k_InvalidSheet.g (pa_cons (pv 0) pa_nil)) pa_nil))))))
      (pss_cons (ps_set (i := 1) sc__law_givens.nd rfl (Or.inl rfl) (pe_op op_cat (pv 1) (pe_lst (pa_cons (pe_exv T.k_InvalidWish.x.oex T.k_InvalidWish.iC T.k_InvalidWish.tI T.k_InvalidWish.ok (hr.mono (by decide)) T.k_InvalidWish.b (by rfl) T.k_InvalidWish.g (pa_cons (pv 0) pa_nil)) pa_nil))))
      (pss_cons (ps_set (i := 1) sc__law_givens.nd rfl (Or.inl rfl) (pe_op op_cat (pv 1) (pe_lst (pa_cons (pe_exv T.k_InvalidReading.x.oex T.k_InvalidReading.iC T.k_InvalidReading.tI T.k_InvalidReading.ok (hr.mono (by decide)) T.k_InvalidReading.b (by rfl) T.k_InvalidReading.g (pa_cons (pv 0) pa_nil)) (pa_cons (pe_exv T.k_InvalidLine.x.oex T.k_InvalidLine.iC T.k_InvalidLine.tI T.k_InvalidLine.ok (hr.mono (by decide)) T.k_InvalidLine.b (by rfl) T.k_InvalidLine.g (pa_cons (pv 0) pa_nil)) (pa_cons (pe_exv T.k_InvalidPlan.x.oex T.k_InvalidPlan.iC T.k_InvalidPlan.tI T.k_InvalidPlan.ok (hr.mono (by decide)) T.k_InvalidPlan.b (by rfl) T.k_InvalidPlan.g (pa_cons (pv 0) pa_nil)) pa_nil))))))
      (pss_cons (ps_set (i := 1) sc__law_givens.nd rfl (Or.inl rfl) (pe_op op_cat (pv 1) (pe_lst (pa_cons (pe_exv T.k_NoThing.x.oex T.k_NoThing.iC T.k_NoThing.tI T.k_NoThing.ok (hr.mono (by decide)) T.k_NoThing.b (by rfl) T.k_NoThing.g (pa_cons (pv 0) pa_nil)) pa_nil))))
      (pss_cons (ps_set (i := 1) sc__law_givens.nd rfl (Or.inl rfl) (pe_op op_cat (pv 1) (pe_lst (pa_cons (pe_exv T.k_UnknownColumn.x.oex T.k_UnknownColumn.iC T.k_UnknownColumn.tI T.k_UnknownColumn.ok (hr.mono (by decide)) T.k_UnknownColumn.b (by rfl) T.k_UnknownColumn.g (pa_cons (pv 0) pa_nil)) (pa_cons (pe_exv T.k_KeptTable.x.oex T.k_KeptTable.iC T.k_KeptTable.tI T.k_KeptTable.ok (hr.mono (by decide)) T.k_KeptTable.b (by rfl) T.k_KeptTable.g (pa_cons (pv 0) pa_nil)) (pa_cons (pe_exv T.k_NotClosed.x.oex T.k_NotClosed.iC T.k_NotClosed.tI T.k_NotClosed.ok (hr.mono (by decide)) T.k_NotClosed.b (by rfl) T.k_NotClosed.g (pa_cons (pv 0) pa_nil)) pa_nil))))))
      (pss_cons (ps_set (i := 1) sc__law_givens.nd rfl (Or.inl rfl) (pe_op op_cat (pv 1) (pe_lst (pa_cons (pe_exv T.k_NoPurse.x.oex T.k_NoPurse.iC T.k_NoPurse.tI T.k_NoPurse.ok (hr.mono (by decide)) T.k_NoPurse.b (by rfl) T.k_NoPurse.g (pa_cons (pv 0) pa_nil)) pa_nil))))
      (pss_cons (ps_set (i := 1) sc__law_givens.nd rfl (Or.inl rfl) (pe_op op_cat (pv 1) (pe_lst (pa_cons (pe_exv T.k_CutPurse.x.oex T.k_CutPurse.iC T.k_CutPurse.tI T.k_CutPurse.ok (hr.mono (by decide)) T.k_CutPurse.b (by rfl) T.k_CutPurse.g (pa_cons (pv 0) pa_nil)) (pa_cons (pe_exv T.k_TooMuch.x.oex T.k_TooMuch.iC T.k_TooMuch.tI T.k_TooMuch.ok (hr.mono (by decide)) T.k_TooMuch.b (by rfl) T.k_TooMuch.g (pa_cons (pv 0) pa_nil)) (pa_cons (pe_exv T.k_InvalidCount.x.oex T.k_InvalidCount.iC T.k_InvalidCount.tI T.k_InvalidCount.ok (hr.mono (by decide)) T.k_InvalidCount.b (by rfl) T.k_InvalidCount.g (pa_cons (pv 0) pa_nil)) pa_nil))))))
      (pss_cons (ps_set (i := 1) sc__law_givens.nd rfl (Or.inl rfl) (pe_op op_cat (pv 1) (pe_lst (pa_cons (pe_exv T.k_InvalidGoal.x.oex T.k_InvalidGoal.iC T.k_InvalidGoal.tI T.k_InvalidGoal.ok (hr.mono (by decide)) T.k_InvalidGoal.b (by rfl) T.k_InvalidGoal.g (pa_cons (pv 0) pa_nil)) pa_nil))))
      (pss_cons (ps_set (i := 1) sc__law_givens.nd rfl (Or.inl rfl) (pe_op op_cat (pv 1) (pe_lst (pa_cons (pe_exv T.k_InvalidCrowd.x.oex T.k_InvalidCrowd.iC T.k_InvalidCrowd.tI T.k_InvalidCrowd.ok (hr.mono (by decide)) T.k_InvalidCrowd.b (by rfl) T.k_InvalidCrowd.g (pa_cons (pv 0) pa_nil)) (pa_cons (pe_exv T.k_InvalidJournal.x.oex T.k_InvalidJournal.iC T.k_InvalidJournal.tI T.k_InvalidJournal.ok (hr.mono (by decide)) T.k_InvalidJournal.b (by rfl) T.k_InvalidJournal.g (pa_cons (pv 0) pa_nil)) (pa_cons (pe_exv T.k_NotKept.x.oex T.k_NotKept.iC T.k_NotKept.tI T.k_NotKept.ok (hr.mono (by decide)) T.k_NotKept.b (by rfl) T.k_NotKept.g (pa_cons (pv 0) pa_nil)) pa_nil))))))
      (pss_cons (ps_set (i := 1) sc__law_givens.nd rfl (Or.inl rfl) (pe_op op_cat (pv 1) (pe_lst (pa_cons (pe_exv T.k_NotBroken.x.oex T.k_NotBroken.iC T.k_NotBroken.tI T.k_NotBroken.ok (hr.mono (by decide)) T.k_NotBroken.b (by rfl) T.k_NotBroken.g (pa_cons (pv 0) pa_nil)) pa_nil))))
      (pss_cons (ps_set (i := 1) sc__law_givens.nd rfl (Or.inl rfl) (pe_op op_cat (pv 1) (pe_lst (pa_cons (pe_exv T.k_NotHidden.x.oex T.k_NotHidden.iC T.k_NotHidden.tI T.k_NotHidden.ok (hr.mono (by decide)) T.k_NotHidden.b (by rfl) T.k_NotHidden.g (pa_cons (pv 0) pa_nil)) (pa_cons (pe_exv T.k_InvalidRooms.x.oex T.k_InvalidRooms.iC T.k_InvalidRooms.tI T.k_InvalidRooms.ok (hr.mono (by decide)) T.k_InvalidRooms.b (by rfl) T.k_InvalidRooms.g (pa_cons (pv 0) pa_nil)) (pa_cons (pe_exv T.k_InvalidStrokes.x.oex T.k_InvalidStrokes.iC T.k_InvalidStrokes.tI T.k_InvalidStrokes.ok (hr.mono (by decide)) T.k_InvalidStrokes.b (by rfl) T.k_InvalidStrokes.g (pa_cons (pv 0) pa_nil)) pa_nil))))))
      (pss_cons (ps_set (i := 1) sc__law_givens.nd rfl (Or.inl rfl) (pe_op op_cat (pv 1) (pe_lst (pa_cons (pe_exv T.k_InvalidHistories.x.oex T.k_InvalidHistories.iC T.k_InvalidHistories.tI T.k_InvalidHistories.ok (hr.mono (by decide)) T.k_InvalidHistories.b (by rfl) T.k_InvalidHistories.g (pa_cons (pv 0) pa_nil)) pa_nil))))
      (pss_cons (ps_set (i := 1) sc__law_givens.nd rfl (Or.inl rfl) (pe_op op_cat (pv 1) (pe_lst (pa_cons (pe_exv T.k_InvalidView.x.oex T.k_InvalidView.iC T.k_InvalidView.tI T.k_InvalidView.ok (hr.mono (by decide)) T.k_InvalidView.b (by rfl) T.k_InvalidView.g (pa_cons (pv 0) pa_nil)) (pa_cons (pe_exv T.k_InvalidVariable.x.oex T.k_InvalidVariable.iC T.k_InvalidVariable.tI T.k_InvalidVariable.ok (hr.mono (by decide)) T.k_InvalidVariable.b (by rfl) T.k_InvalidVariable.g (pa_cons (pv 0) pa_nil)) (pa_cons (pe_exv T.k_InvalidGiven.x.oex T.k_InvalidGiven.iC T.k_InvalidGiven.tI T.k_InvalidGiven.ok (hr.mono (by decide)) T.k_InvalidGiven.b (by rfl) T.k_InvalidGiven.g (pa_cons (pv 0) pa_nil)) pa_nil))))))
      (pss_cons (ps_set (i := 1) sc__law_givens.nd rfl (Or.inl rfl) (pe_op op_cat (pv 1) (pe_lst (pa_cons (pe_exv T.k_NotPlain.x.oex T.k_NotPlain.iC T.k_NotPlain.tI T.k_NotPlain.ok (hr.mono (by decide)) T.k_NotPlain.b (by rfl) T.k_NotPlain.g (pa_cons (pv 0) pa_nil)) pa_nil))))
      (pss_cons (ps_set (i := 1) sc__law_givens.nd rfl (Or.inl rfl) (pe_op op_cat (pv 1) (pe_lst (pa_cons (pe_exv T.k_UnknownView.x.oex T.k_UnknownView.iC T.k_UnknownView.tI T.k_UnknownView.ok (hr.mono (by decide)) T.k_UnknownView.b (by rfl) T.k_UnknownView.g (pa_cons (pv 0) pa_nil)) (pa_cons (pe_exv T.k_InvalidLines.x.oex T.k_InvalidLines.iC T.k_InvalidLines.tI T.k_InvalidLines.ok (hr.mono (by decide)) T.k_InvalidLines.b (by rfl) T.k_InvalidLines.g (pa_cons (pv 0) pa_nil)) pa_nil)))))
      (pss_one (ps_ret (pv 1)))))))))))))))))))))))), ?_⟩
  refine EvU.set2 (R := exF K (kindsL K) "given" x) (H00 := H) (Same.refl _) (eu_lst (en_cons (ev_X1 T.k_InvalidPerson (evs_v rfl)) (en_cons (ev_X1 T.k_InvalidNumber (evs_v rfl)) (en_cons (ev_X1 T.k_InvalidSeen (evs_v rfl)) en_nil)))) fun p0 xs0 H0 s0 n0 e0 r0 => ?_
  refine EvU.set2 s0 (eu_cat (ew_var rfl e0 r0) (eu_lst (en_cons (ev_X1 T.k_InvalidDeed (evs_v rfl)) en_nil)).w) fun p1 xs1 H1 s1 n1 e1 r1 => ?_
  refine EvU.set2 s1 (eu_cat (ew_var rfl e1 r1) (eu_lst (en_cons (ev_X1 T.k_InvalidChange (evs_v rfl)) (en_cons (ev_X1 T.k_InvalidHistory (evs_v rfl)) (en_cons (ev_X1 T.k_InvalidVector (evs_v rfl)) en_nil)))).w) fun p2 xs2 H2 s2 n2 e2 r2 => ?_
  refine EvU.set2 s2 (eu_cat (ew_var rfl e2 r2) (eu_lst (en_cons (ev_X1 T.k_InvalidText (evs_v rfl)) en_nil)).w) fun p3 xs3 H3 s3 n3 e3 r3 => ?_
  refine EvU.set2 s3 (eu_cat (ew_var rfl e3 r3) (eu_lst (en_cons (ev_X1 T.k_InvalidRight (evs_v rfl)) (en_cons (ev_X1 T.k_InvalidRights (evs_v rfl)) (en_cons (ev_X1 T.k_InvalidFlag (evs_v rfl)) en_nil)))).w) fun p4 xs4 H4 s4 n4 e4 r4 => ?_
  refine EvU.set2 s4 (eu_cat (ew_var rfl e4 r4) (eu_lst (en_cons (ev_X1 T.k_InvalidIds (evs_v rfl)) en_nil)).w) fun p5 xs5 H5 s5 n5 e5 r5 => ?_
  refine EvU.set2 s5 (eu_cat (ew_var rfl e5 r5) (eu_lst (en_cons (ev_X1 T.k_NotGround (evs_v rfl)) (en_cons (ev_X1 T.k_InvalidName (evs_v rfl)) (en_cons (ev_X1 T.k_InvalidSheet (evs_v rfl)) en_nil)))).w) fun p6 xs6 H6 s6 n6 e6 r6 => ?_
  refine EvU.set2 s6 (eu_cat (ew_var rfl e6 r6) (eu_lst (en_cons (ev_X1 T.k_InvalidWish (evs_v rfl)) en_nil)).w) fun p7 xs7 H7 s7 n7 e7 r7 => ?_
  refine EvU.set2 s7 (eu_cat (ew_var rfl e7 r7) (eu_lst (en_cons (ev_X1 T.k_InvalidReading (evs_v rfl)) (en_cons (ev_X1 T.k_InvalidLine (evs_v rfl)) (en_cons (ev_X1 T.k_InvalidPlan (evs_v rfl)) en_nil)))).w) fun p8 xs8 H8 s8 n8 e8 r8 => ?_
  refine EvU.set2 s8 (eu_cat (ew_var rfl e8 r8) (eu_lst (en_cons (ev_X1 T.k_NoThing (evs_v rfl)) en_nil)).w) fun p9 xs9 H9 s9 n9 e9 r9 => ?_
  refine EvU.set2 s9 (eu_cat (ew_var rfl e9 r9) (eu_lst (en_cons (ev_X1 T.k_UnknownColumn (evs_v rfl)) (en_cons (ev_X1 T.k_KeptTable (evs_v rfl)) (en_cons (ev_X1 T.k_NotClosed (evs_v rfl)) en_nil)))).w) fun p10 xs10 H10 s10 n10 e10 r10 => ?_
  refine EvU.set2 s10 (eu_cat (ew_var rfl e10 r10) (eu_lst (en_cons (ev_X1 T.k_NoPurse (evs_v rfl)) en_nil)).w) fun p11 xs11 H11 s11 n11 e11 r11 => ?_
  refine EvU.set2 s11 (eu_cat (ew_var rfl e11 r11) (eu_lst (en_cons (ev_X1 T.k_CutPurse (evs_v rfl)) (en_cons (ev_X1 T.k_TooMuch (evs_v rfl)) (en_cons (ev_X1 T.k_InvalidCount (evs_v rfl)) en_nil)))).w) fun p12 xs12 H12 s12 n12 e12 r12 => ?_
  refine EvU.set2 s12 (eu_cat (ew_var rfl e12 r12) (eu_lst (en_cons (ev_X1 T.k_InvalidGoal (evs_v rfl)) en_nil)).w) fun p13 xs13 H13 s13 n13 e13 r13 => ?_
  refine EvU.set2 s13 (eu_cat (ew_var rfl e13 r13) (eu_lst (en_cons (ev_X1 T.k_InvalidCrowd (evs_v rfl)) (en_cons (ev_X1 T.k_InvalidJournal (evs_v rfl)) (en_cons (ev_X1 T.k_NotKept (evs_v rfl)) en_nil)))).w) fun p14 xs14 H14 s14 n14 e14 r14 => ?_
  refine EvU.set2 s14 (eu_cat (ew_var rfl e14 r14) (eu_lst (en_cons (ev_X1 T.k_NotBroken (evs_v rfl)) en_nil)).w) fun p15 xs15 H15 s15 n15 e15 r15 => ?_
  refine EvU.set2 s15 (eu_cat (ew_var rfl e15 r15) (eu_lst (en_cons (ev_X1 T.k_NotHidden (evs_v rfl)) (en_cons (ev_X1 T.k_InvalidRooms (evs_v rfl)) (en_cons (ev_X1 T.k_InvalidStrokes (evs_v rfl)) en_nil)))).w) fun p16 xs16 H16 s16 n16 e16 r16 => ?_
  refine EvU.set2 s16 (eu_cat (ew_var rfl e16 r16) (eu_lst (en_cons (ev_X1 T.k_InvalidHistories (evs_v rfl)) en_nil)).w) fun p17 xs17 H17 s17 n17 e17 r17 => ?_
  refine EvU.set2 s17 (eu_cat (ew_var rfl e17 r17) (eu_lst (en_cons (ev_X1 T.k_InvalidView (evs_v rfl)) (en_cons (ev_X1 T.k_InvalidVariable (evs_v rfl)) (en_cons (ev_X1 T.k_InvalidGiven (evs_v rfl)) en_nil)))).w) fun p18 xs18 H18 s18 n18 e18 r18 => ?_
  refine EvU.set2 s18 (eu_cat (ew_var rfl e18 r18) (eu_lst (en_cons (ev_X1 T.k_NotPlain (evs_v rfl)) en_nil)).w) fun p19 xs19 H19 s19 n19 e19 r19 => ?_
  refine EvU.set2 s19 (eu_cat (ew_var rfl e19 r19) (eu_lst (en_cons (ev_X1 T.k_UnknownView (evs_v rfl)) (en_cons (ev_X1 T.k_InvalidLines (evs_v rfl)) en_nil))).w) fun p20 xs20 H20 s20 n20 e20 r20 => ?_
  exact ⟨_, rfl, q p20 xs20 H20 s20 n20 e20 r20⟩
theorem ok__law_keys (T : Top K mg) : FnOk P w K mg base CX0 3 (He.ga K "_law_keys") T.f__law_keys.d ["_law_thing"] (spMk K (kindsL K) 9 "key") := by
  refine T.f__law_keys.F.ok sc__law_keys spMk_len (fun cdv A outer s H vs Q E hr h => ?_)
  obtain ⟨x, rfl, q⟩ := h
  refine ⟨_, (pss_cons (ps_set (i := 1) sc__law_keys.nd rfl (Or.inl rfl) (pe_lst (pa_cons (pe_exv T.k_Forked.x.oex T.k_Forked.iC T.k_Forked.tI T.k_Forked.ok (hr.mono (by decide)) T.k_Forked.b (by rfl) T.k_Forked.g (pa_cons (pv 0) pa_nil)) (pa_cons (pe_exv T.k_Missing.x.oex T.k_Missing.iC T.k_Missing.tI T.k_Missing.ok (hr.mono (by decide)) T.k_Missing.b (by rfl) T.k_Missing.g (pa_cons (pv 0) pa_nil)) (pa_cons (pe_exv T.k_Blind.x.oex T.k_Blind.iC T.k_Blind.tI T.k_Blind.ok (hr.mono (by decide)) T.k_Blind.b (by rfl) T.k_Blind.g (pa_cons (pv 0) pa_nil)) (pa_cons (pe_exv T.k_UnknownChange.x.oex T.k_UnknownChange.iC T.k_UnknownChange.tI T.k_UnknownChange.ok (hr.mono (by decide)) T.k_UnknownChange.b (by rfl) T.k_UnknownChange.g (pa_cons (pv 0) pa_nil)) pa_nil))))))
      (pss_cons (ps_set (i := 1) sc__law_keys.nd rfl (Or.inl rfl) (pe_op op_cat (pv 1) (pe_lst (pa_cons (pe_exv T.k_NotStruck.x.oex T.k_NotStruck.iC T.k_NotStruck.tI T.k_NotStruck.ok (hr.mono (by decide)) T.k_NotStruck.b (by rfl) T.k_NotStruck.g (pa_cons (pv 0) pa_nil)) (pa_cons (pe_exv T.k_Old.x.oex T.k_Old.iC T.k_Old.tI T.k_Old.ok (hr.mono (by decide)) T.k_Old.b (by rfl) T.k_Old.g (pa_cons (pv 0) pa_nil)) (pa_cons (pe_exv T.k_Forgotten.x.oex T.k_Forgotten.iC T.k_Forgotten.tI T.k_Forgotten.ok (hr.mono (by decide)) T.k_Forgotten.b (by rfl) T.k_Forgotten.g (pa_cons (pv 0) pa_nil)) (pa_cons (pe_exv T.k_Beside.x.oex T.k_Beside.iC T.k_Beside.tI T.k_Beside.ok (hr.mono (by decide)) T.k_Beside.b (by rfl) T.k_Beside.g (pa_cons (pv 0) pa_nil)) pa_nil)))))))
      (pss_cons (ps_set (i := 1) sc__law_keys.nd rfl (Or.inl rfl) (pe_op op_cat (pv 1) (pe_lst (pa_cons (pe_exv T.k_Short.x.oex T.k_Short.iC T.k_Short.tI T.k_Short.ok (hr.mono (by decide)) T.k_Short.b (by rfl) T.k_Short.g (pa_cons (pv 0) pa_nil)) pa_nil))))
      (pss_one (ps_ret (pv 1)))))), ?_⟩
  refine EvU.set2 (R := exF K (kindsL K) "key" x) (H00 := H) (Same.refl _) (eu_lst (en_cons (ev_X1 T.k_Forked (evs_v rfl)) (en_cons (ev_X1 T.k_Missing (evs_v rfl)) (en_cons (ev_X1 T.k_Blind (evs_v rfl)) (en_cons (ev_X1 T.k_UnknownChange (evs_v rfl)) en_nil))))) fun p0 xs0 H0 s0 n0 e0 r0 => ?_
  refine EvU.set2 s0 (eu_cat (ew_var rfl e0 r0) (eu_lst (en_cons (ev_X1 T.k_NotStruck (evs_v rfl)) (en_cons (ev_X1 T.k_Old (evs_v rfl)) (en_cons (ev_X1 T.k_Forgotten (evs_v rfl)) (en_cons (ev_X1 T.k_Beside (evs_v rfl)) en_nil))))).w) fun p1 xs1 H1 s1 n1 e1 r1 => ?_
  refine EvU.set2 s1 (eu_cat (ew_var rfl e1 r1) (eu_lst (en_cons (ev_X1 T.k_Short (evs_v rfl)) en_nil)).w) fun p2 xs2 H2 s2 n2 e2 r2 => ?_
  exact ⟨_, rfl, q p2 xs2 H2 s2 n2 e2 r2⟩
theorem ok__law_persons (T : Top K mg) : FnOk P w K mg base CX0 3 (He.ga K "_law_persons") T.f__law_persons.d ["_law_thing"] (spMk K (kindsL K) 4 "person") := by
  refine T.f__law_persons.F.ok sc__law_persons spMk_len (fun cdv A outer s H vs Q E hr h => ?_)
  obtain ⟨x, rfl, q⟩ := h
  refine ⟨_, (pss_cons (ps_set (i := 1) sc__law_persons.nd rfl (Or.inl rfl) (pe_lst (pa_cons (pe_exv T.k_Stranger.x.oex T.k_Stranger.iC T.k_Stranger.tI T.k_Stranger.ok (hr.mono (by decide)) T.k_Stranger.b (by rfl) T.k_Stranger.g (pa_cons (pv 0) pa_nil)) (pa_cons (pe_exv T.k_NotAsked.x.oex T.k_NotAsked.iC T.k_NotAsked.tI T.k_NotAsked.ok (hr.mono (by decide)) T.k_NotAsked.b (by rfl) T.k_NotAsked.g (pa_cons (pv 0) pa_nil)) (pa_cons (pe_exv T.k_HasCopy.x.oex T.k_HasCopy.iC T.k_HasCopy.tI T.k_HasCopy.ok (hr.mono (by decide)) T.k_HasCopy.b (by rfl) T.k_HasCopy.g (pa_cons (pv 0) pa_nil)) (pa_cons (pe_exv T.k_NoPerson.x.oex T.k_NoPerson.iC T.k_NoPerson.tI T.k_NoPerson.ok (hr.mono (by decide)) T.k_NoPerson.b (by rfl) T.k_NoPerson.g (pa_cons (pv 0) pa_nil)) pa_nil))))))
      (pss_one (ps_ret (pv 1)))), ?_⟩
  refine EvU.set2 (R := exF K (kindsL K) "person" x) (H00 := H) (Same.refl _) (eu_lst (en_cons (ev_X1 T.k_Stranger (evs_v rfl)) (en_cons (ev_X1 T.k_NotAsked (evs_v rfl)) (en_cons (ev_X1 T.k_HasCopy (evs_v rfl)) (en_cons (ev_X1 T.k_NoPerson (evs_v rfl)) en_nil))))) fun p0 xs0 H0 s0 n0 e0 r0 => ?_
  exact ⟨_, rfl, q p0 xs0 H0 s0 n0 e0 r0⟩
theorem ok__law_numbers (T : Top K mg) : FnOk P w K mg base CX0 3 (He.ga K "_law_numbers") T.f__law_numbers.d ["_law_thing"] (spMk K (kindsL K) 3 "number") := by
  refine T.f__law_numbers.F.ok sc__law_numbers spMk_len (fun cdv A outer s H vs Q E hr h => ?_)
  obtain ⟨x, rfl, q⟩ := h
  refine ⟨_, (pss_cons (ps_set (i := 1) sc__law_numbers.nd rfl (Or.inl rfl) (pe_lst (pa_cons (pe_exv T.k_NoKnot.x.oex T.k_NoKnot.iC T.k_NoKnot.tI T.k_NoKnot.ok (hr.mono (by decide)) T.k_NoKnot.b (by rfl) T.k_NoKnot.g (pa_cons (pv 0) pa_nil)) (pa_cons (pe_exv T.k_NoReading.x.oex T.k_NoReading.iC T.k_NoReading.tI T.k_NoReading.ok (hr.mono (by decide)) T.k_NoReading.b (by rfl) T.k_NoReading.g (pa_cons (pv 0) pa_nil)) (pa_cons (pe_exv T.k_RingThere.x.oex T.k_RingThere.iC T.k_RingThere.tI T.k_RingThere.ok (hr.mono (by decide)) T.k_RingThere.b (by rfl) T.k_RingThere.g (pa_cons (pv 0) pa_nil)) pa_nil)))))
      (pss_one (ps_ret (pv 1)))), ?_⟩
  refine EvU.set2 (R := exF K (kindsL K) "number" x) (H00 := H) (Same.refl _) (eu_lst (en_cons (ev_X1 T.k_NoKnot (evs_v rfl)) (en_cons (ev_X1 T.k_NoReading (evs_v rfl)) (en_cons (ev_X1 T.k_RingThere (evs_v rfl)) en_nil)))) fun p0 xs0 H0 s0 n0 e0 r0 => ?_
  exact ⟨_, rfl, q p0 xs0 H0 s0 n0 e0 r0⟩
theorem ok__law_named (T : Top K mg) : FnOk P w K mg base CX0 3 (He.ga K "_law_named") T.f__law_named.d ["_law_thing"] (spMk K (kindsL K) 42 "given") := by
  refine T.f__law_named.F.ok sc__law_named spMk_len (fun cdv A outer s H vs Q E hr h => ?_)
  obtain ⟨x, rfl, q⟩ := h
  refine ⟨_, (pss_cons (ps_set (i := 1) sc__law_named.nd rfl (Or.inl rfl) (pe_lst (pa_cons (pe_exK T.k_InvalidPerson.x.oex T.k_InvalidPerson.iC T.k_InvalidPerson.tI T.k_InvalidPerson.ok (hr.mono (by decide)) T.k_InvalidPerson.kb (by rfl) T.k_InvalidPerson.g (pk_cons (pv 0) pk_nil)) (pa_cons (pe_exK T.k_InvalidNumber.x.oex T.k_InvalidNumber.iC T.k_InvalidNumber.tI T.k_InvalidNumber.ok (hr.mono (by decide)) T.k_InvalidNumber.kb (by rfl) T.k_InvalidNumber.g (pk_cons (pv 0) pk_nil)) (pa_cons (pe_exK T.k_InvalidSeen.x.oex T.k_InvalidSeen.iC T.k_InvalidSeen.tI T.k_InvalidSeen.ok (hr.mono (by decide)) T.k_InvalidSeen.kb (by rfl) T.k_InvalidSeen.g (pk_cons (pv 0) pk_nil)) pa_nil)))))
      (pss_cons (ps_set (i := 1) sc__law_named.nd rfl (Or.inl rfl) (pe_op op_cat (pv 1) (pe_lst (pa_cons (pe_exK T.k_InvalidDeed.x.oex T.k_InvalidDeed.iC T.k_InvalidDeed.tI T.k_InvalidDeed.ok (hr.mono (by decide)) T.k_InvalidDeed.kb (by rfl) T.k_InvalidDeed.g (pk_cons (pv 0) pk_nil)) (pa_cons (pe_exK T.k_InvalidChange.x.oex T.k_InvalidChange.iC T.k_InvalidChange.tI T.k_InvalidChange.ok (hr.mono (by decide)) T.k_InvalidChange.kb (by rfl) T.k_InvalidChange.g (pk_cons (pv 0) pk_nil)) (pa_cons (pe_exK T.k_InvalidHistory.x.oex T.k_InvalidHistory.iC T.k_InvalidHistory.tI T.k_InvalidHistory.ok (hr.mono (by decide)) T.k_InvalidHistory.kb (by rfl) T.k_InvalidHistory.g (pk_cons (pv 0) pk_nil)) pa_nil))))))
      (pss_cons (ps_set (i := 1) sc__law_named.nd rfl (Or.inl rfl) (pe_op op_cat (pv 1) (pe_lst (pa_cons (pe_exK T.k_InvalidVector.x.oex T.k_InvalidVector.iC T.k_InvalidVector.tI T.k_InvalidVector.ok (hr.mono (by decide)) T.k_InvalidVector.kb (by rfl) T.k_InvalidVector.g (pk_cons (pv 0) pk_nil)) (pa_cons (pe_exK T.k_InvalidText.x.oex T.k_InvalidText.iC T.k_InvalidText.tI T.k_InvalidText.ok (hr.mono (by decide)) T.k_InvalidText.kb (by rfl) T.k_InvalidText.g (pk_cons (pv 0) pk_nil)) (pa_cons (pe_exK T.k_InvalidRight.x.oex T.k_InvalidRight.iC T.k_InvalidRight.tI T.k_InvalidRight.ok (hr.mono (by decide)) T.k_InvalidRight.kb (by rfl) T.k_InvalidRight.g (pk_cons (pv 0) pk_nil)) pa_nil))))))
      (pss_cons (ps_set (i := 1) sc__law_named.nd rfl (Or.inl rfl) (pe_op op_cat (pv 1) (pe_lst (pa_cons (pe_exK T.k_InvalidRights.x.oex T.k_InvalidRights.iC T.k_InvalidRights.tI T.k_InvalidRights.ok (hr.mono (by decide)) T.k_InvalidRights.kb (by rfl) T.k_InvalidRights.g (pk_cons (pv 0) pk_nil)) (pa_cons (pe_exK T.k_InvalidFlag.x.oex T.k_InvalidFlag.iC T.k_InvalidFlag.tI T.k_InvalidFlag.ok (hr.mono (by decide)) T.k_InvalidFlag.kb (by rfl) T.k_InvalidFlag.g (pk_cons (pv 0) pk_nil)) (pa_cons (pe_exK T.k_InvalidIds.x.oex T.k_InvalidIds.iC T.k_InvalidIds.tI T.k_InvalidIds.ok (hr.mono (by decide)) T.k_InvalidIds.kb (by rfl) T.k_InvalidIds.g (pk_cons (pv 0) pk_nil)) pa_nil))))))
      (pss_cons (ps_set (i := 1) sc__law_named.nd rfl (Or.inl rfl) (pe_op op_cat (pv 1) (pe_lst (pa_cons (pe_exK T.k_NotGround.x.oex T.k_NotGround.iC T.k_NotGround.tI T.k_NotGround.ok (hr.mono (by decide)) T.k_NotGround.kb (by rfl) T.k_NotGround.g (pk_cons (pv 0) pk_nil)) (pa_cons (pe_exK T.k_InvalidName.x.oex T.k_InvalidName.iC T.k_InvalidName.tI T.k_InvalidName.ok (hr.mono (by decide)) T.k_InvalidName.kb (by rfl) T.k_InvalidName.g (pk_cons (pv 0) pk_nil)) (pa_cons (pe_exK T.k_InvalidSheet.x.oex T.k_InvalidSheet.iC T.k_InvalidSheet.tI T.k_InvalidSheet.ok (hr.mono (by decide)) T.k_InvalidSheet.kb (by rfl) T.k_InvalidSheet.g (pk_cons (pv 0) pk_nil)) pa_nil))))))
      (pss_cons (ps_set (i := 1) sc__law_named.nd rfl (Or.inl rfl) (pe_op op_cat (pv 1) (pe_lst (pa_cons (pe_exK T.k_InvalidWish.x.oex T.k_InvalidWish.iC T.k_InvalidWish.tI T.k_InvalidWish.ok (hr.mono (by decide)) T.k_InvalidWish.kb (by rfl) T.k_InvalidWish.g (pk_cons (pv 0) pk_nil)) (pa_cons (pe_exK T.k_InvalidReading.x.oex T.k_InvalidReading.iC T.k_InvalidReading.tI T.k_InvalidReading.ok (hr.mono (by decide)) T.k_InvalidReading.kb (by rfl) T.k_InvalidReading.g (pk_cons (pv 0) pk_nil)) (pa_cons (pe_exK T.k_InvalidLine.x.oex T.k_InvalidLine.iC T.k_InvalidLine.tI T.k_InvalidLine.ok (hr.mono (by decide)) T.k_InvalidLine.kb (by rfl) T.k_InvalidLine.g (pk_cons (pv 0) pk_nil)) pa_nil))))))
      (pss_cons (ps_set (i := 1) sc__law_named.nd rfl (Or.inl rfl) (pe_op op_cat (pv 1) (pe_lst (pa_cons (pe_exK T.k_InvalidPlan.x.oex T.k_InvalidPlan.iC T.k_InvalidPlan.tI T.k_InvalidPlan.ok (hr.mono (by decide)) T.k_InvalidPlan.kb (by rfl) T.k_InvalidPlan.g (pk_cons (pv 0) pk_nil)) (pa_cons (pe_exK T.k_NoThing.x.oex T.k_NoThing.iC T.k_NoThing.tI T.k_NoThing.ok (hr.mono (by decide)) T.k_NoThing.kb (by rfl) T.k_NoThing.g (pk_cons (pv 0) pk_nil)) (pa_cons (pe_exK T.k_UnknownColumn.x.oex T.k_UnknownColumn.iC T.k_UnknownColumn.tI T.k_UnknownColumn.ok (hr.mono (by decide)) T.k_UnknownColumn.kb (by rfl) T.k_UnknownColumn.g (pk_cons (pv 0) pk_nil)) pa_nil))))))
      (pss_cons (ps_set (i := 1) sc__law_named.nd rfl (Or.inl rfl) (pe_op op_cat (pv 1) (pe_lst (pa_cons (pe_exK T.k_KeptTable.x.oex T.k_KeptTable.iC T.k_KeptTable.tI T.k_KeptTable.ok (hr.mono (by decide)) T.k_KeptTable.kb (by rfl) T.k_KeptTable.g (pk_cons (pv 0) pk_nil)) (pa_cons (pe_exK T.k_NotClosed.x.oex T.k_NotClosed.iC T.k_NotClosed.tI T.k_NotClosed.ok (hr.mono (by decide)) T.k_NotClosed.kb (by rfl) T.k_NotClosed.g (pk_cons (pv 0) pk_nil)) (pa_cons (pe_exK T.k_NoPurse.x.oex T.k_NoPurse.iC T.k_NoPurse.tI T.k_NoPurse.ok (hr.mono (by decide)) T.k_NoPurse.kb (by rfl) T.k_NoPurse.g (pk_cons (pv 0) pk_nil)) pa_nil))))))
      (pss_cons (ps_set (i := 1) sc__law_named.nd rfl (Or.inl rfl) (pe_op op_cat (pv 1) (pe_lst (pa_cons (pe_exK T.k_CutPurse.x.oex T.k_CutPurse.iC T.k_CutPurse.tI T.k_CutPurse.ok (hr.mono (by decide)) T.k_CutPurse.kb (by rfl) T.k_CutPurse.g (pk_cons (pv 0) pk_nil)) (pa_cons (pe_exK T.k_TooMuch.x.oex T.k_TooMuch.iC T.k_TooMuch.tI T.k_TooMuch.ok (hr.mono (by decide)) T.k_TooMuch.kb (by rfl) T.k_TooMuch.g (pk_cons (pv 0) pk_nil)) (pa_cons (pe_exK T.k_InvalidCount.x.oex T.k_InvalidCount.iC T.k_InvalidCount.tI T.k_InvalidCount.ok (hr.mono (by decide)) T.k_InvalidCount.kb (by rfl) T.k_InvalidCount.g (pk_cons (pv 0) pk_nil)) pa_nil))))))
      (pss_cons (ps_set (i := 1) sc__law_named.nd rfl (Or.inl rfl) (pe_op op_cat (pv 1) (pe_lst (pa_cons (pe_exK T.k_InvalidGoal.x.oex T.k_InvalidGoal.iC T.k_InvalidGoal.tI T.k_InvalidGoal.ok (hr.mono (by decide)) T.k_InvalidGoal.kb (by rfl) T.k_InvalidGoal.g (pk_cons (pv 0) pk_nil)) (pa_cons (pe_exK T.k_InvalidCrowd.x.oex T.k_InvalidCrowd.iC T.k_InvalidCrowd.tI T.k_InvalidCrowd.ok (hr.mono (by decide)) T.k_InvalidCrowd.kb (by rfl) T.k_InvalidCrowd.g (pk_cons (pv 0) pk_nil)) (pa_cons (pe_exK T.k_InvalidJournal.x.oex T.k_InvalidJournal.iC T.k_InvalidJournal.tI T.k_InvalidJournal.ok (hr.mono (by decide)) T.k_InvalidJournal.kb (by rfl) T.k_InvalidJournal.g (pk_cons (pv 0) pk_nil)) pa_nil))))))
      (pss_cons (ps_set (i := 1) sc__law_named.nd rfl (Or.inl rfl) (pe_op op_cat (pv 1) (pe_lst (pa_cons (pe_exK T.k_NotKept.x.oex T.k_NotKept.iC T.k_NotKept.tI T.k_NotKept.ok (hr.mono (by decide)) T.k_NotKept.kb (by rfl) T.k_NotKept.g (pk_cons (pv 0) pk_nil)) (pa_cons (pe_exK T.k_NotBroken.x.oex T.k_NotBroken.iC T.k_NotBroken.tI T.k_NotBroken.ok (hr.mono (by decide)) T.k_NotBroken.kb (by rfl) T.k_NotBroken.g (pk_cons (pv 0) pk_nil)) (pa_cons (pe_exK T.k_NotHidden.x.oex T.k_NotHidden.iC T.k_NotHidden.tI T.k_NotHidden.ok (hr.mono (by decide)) T.k_NotHidden.kb (by rfl) T.k_NotHidden.g (pk_cons (pv 0) pk_nil)) pa_nil))))))
      (pss_cons (ps_set (i := 1) sc__law_named.nd rfl (Or.inl rfl) (pe_op op_cat (pv 1) (pe_lst (pa_cons (pe_exK T.k_InvalidRooms.x.oex T.k_InvalidRooms.iC T.k_InvalidRooms.tI T.k_InvalidRooms.ok (hr.mono (by decide)) T.k_InvalidRooms.kb (by rfl) T.k_InvalidRooms.g (pk_cons (pv 0) pk_nil)) (pa_cons (pe_exK T.k_InvalidStrokes.x.oex T.k_InvalidStrokes.iC T.k_InvalidStrokes.tI T.k_InvalidStrokes.ok (hr.mono (by decide)) T.k_InvalidStrokes.kb (by rfl) T.k_InvalidStrokes.g (pk_cons (pv 0) pk_nil)) (pa_cons (pe_exK T.k_InvalidHistories.x.oex T.k_InvalidHistories.iC T.k_InvalidHistories.tI T.k_InvalidHistories.ok (hr.mono (by decide)) T.k_InvalidHistories.kb (by rfl) T.k_InvalidHistories.g (pk_cons (pv 0) pk_nil)) pa_nil))))))
      (pss_cons (ps_set (i := 1) sc__law_named.nd rfl (Or.inl rfl) (pe_op op_cat (pv 1) (pe_lst (pa_cons (pe_exK T.k_InvalidView.x.oex T.k_InvalidView.iC T.k_InvalidView.tI T.k_InvalidView.ok (hr.mono (by decide)) T.k_InvalidView.kb (by rfl) T.k_InvalidView.g (pk_cons (pv 0) pk_nil)) (pa_cons (pe_exK T.k_InvalidVariable.x.oex T.k_InvalidVariable.iC T.k_InvalidVariable.tI T.k_InvalidVariable.ok (hr.mono (by decide)) T.k_InvalidVariable.kb (by rfl) T.k_InvalidVariable.g (pk_cons (pv 0) pk_nil)) (pa_cons (pe_exK T.k_InvalidGiven.x.oex T.k_InvalidGiven.iC T.k_InvalidGiven.tI T.k_InvalidGiven.ok (hr.mono (by decide)) T.k_InvalidGiven.kb (by rfl) T.k_InvalidGiven.g (pk_cons (pv 0) pk_nil)) pa_nil))))))
      (pss_cons (ps_set (i := 1) sc__law_named.nd rfl (Or.inl rfl) (pe_op op_cat (pv 1) (pe_lst (pa_cons (pe_exK T.k_NotPlain.x.oex T.k_NotPlain.iC T.k_NotPlain.tI T.k_NotPlain.ok (hr.mono (by decide)) T.k_NotPlain.kb (by rfl) T.k_NotPlain.g (pk_cons (pv 0) pk_nil)) (pa_cons (pe_exK T.k_UnknownView.x.oex T.k_UnknownView.iC T.k_UnknownView.tI T.k_UnknownView.ok (hr.mono (by decide)) T.k_UnknownView.kb (by rfl) T.k_UnknownView.g (pk_cons (pv 0) pk_nil)) (pa_cons (pe_exK T.k_InvalidLines.x.oex T.k_InvalidLines.iC T.k_InvalidLines.tI T.k_InvalidLines.ok (hr.mono (by decide)) T.k_InvalidLines.kb (by rfl) T.k_InvalidLines.g (pk_cons (pv 0) pk_nil)) pa_nil))))))
      (pss_one (ps_ret (pv 1))))))))))))))))), ?_⟩
  refine EvU.set2 (R := exF K (kindsL K) "given" x) (H00 := H) (Same.refl _) (eu_lst (en_cons (ev_K1 T.k_InvalidPerson (evs_v rfl)) (en_cons (ev_K1 T.k_InvalidNumber (evs_v rfl)) (en_cons (ev_K1 T.k_InvalidSeen (evs_v rfl)) en_nil)))) fun p0 xs0 H0 s0 n0 e0 r0 => ?_
  refine EvU.set2 s0 (eu_cat (ew_var rfl e0 r0) (eu_lst (en_cons (ev_K1 T.k_InvalidDeed (evs_v rfl)) (en_cons (ev_K1 T.k_InvalidChange (evs_v rfl)) (en_cons (ev_K1 T.k_InvalidHistory (evs_v rfl)) en_nil)))).w) fun p1 xs1 H1 s1 n1 e1 r1 => ?_
  refine EvU.set2 s1 (eu_cat (ew_var rfl e1 r1) (eu_lst (en_cons (ev_K1 T.k_InvalidVector (evs_v rfl)) (en_cons (ev_K1 T.k_InvalidText (evs_v rfl)) (en_cons (ev_K1 T.k_InvalidRight (evs_v rfl)) en_nil)))).w) fun p2 xs2 H2 s2 n2 e2 r2 => ?_
  refine EvU.set2 s2 (eu_cat (ew_var rfl e2 r2) (eu_lst (en_cons (ev_K1 T.k_InvalidRights (evs_v rfl)) (en_cons (ev_K1 T.k_InvalidFlag (evs_v rfl)) (en_cons (ev_K1 T.k_InvalidIds (evs_v rfl)) en_nil)))).w) fun p3 xs3 H3 s3 n3 e3 r3 => ?_
  refine EvU.set2 s3 (eu_cat (ew_var rfl e3 r3) (eu_lst (en_cons (ev_K1 T.k_NotGround (evs_v rfl)) (en_cons (ev_K1 T.k_InvalidName (evs_v rfl)) (en_cons (ev_K1 T.k_InvalidSheet (evs_v rfl)) en_nil)))).w) fun p4 xs4 H4 s4 n4 e4 r4 => ?_
  refine EvU.set2 s4 (eu_cat (ew_var rfl e4 r4) (eu_lst (en_cons (ev_K1 T.k_InvalidWish (evs_v rfl)) (en_cons (ev_K1 T.k_InvalidReading (evs_v rfl)) (en_cons (ev_K1 T.k_InvalidLine (evs_v rfl)) en_nil)))).w) fun p5 xs5 H5 s5 n5 e5 r5 => ?_
  refine EvU.set2 s5 (eu_cat (ew_var rfl e5 r5) (eu_lst (en_cons (ev_K1 T.k_InvalidPlan (evs_v rfl)) (en_cons (ev_K1 T.k_NoThing (evs_v rfl)) (en_cons (ev_K1 T.k_UnknownColumn (evs_v rfl)) en_nil)))).w) fun p6 xs6 H6 s6 n6 e6 r6 => ?_
  refine EvU.set2 s6 (eu_cat (ew_var rfl e6 r6) (eu_lst (en_cons (ev_K1 T.k_KeptTable (evs_v rfl)) (en_cons (ev_K1 T.k_NotClosed (evs_v rfl)) (en_cons (ev_K1 T.k_NoPurse (evs_v rfl)) en_nil)))).w) fun p7 xs7 H7 s7 n7 e7 r7 => ?_
  refine EvU.set2 s7 (eu_cat (ew_var rfl e7 r7) (eu_lst (en_cons (ev_K1 T.k_CutPurse (evs_v rfl)) (en_cons (ev_K1 T.k_TooMuch (evs_v rfl)) (en_cons (ev_K1 T.k_InvalidCount (evs_v rfl)) en_nil)))).w) fun p8 xs8 H8 s8 n8 e8 r8 => ?_
  refine EvU.set2 s8 (eu_cat (ew_var rfl e8 r8) (eu_lst (en_cons (ev_K1 T.k_InvalidGoal (evs_v rfl)) (en_cons (ev_K1 T.k_InvalidCrowd (evs_v rfl)) (en_cons (ev_K1 T.k_InvalidJournal (evs_v rfl)) en_nil)))).w) fun p9 xs9 H9 s9 n9 e9 r9 => ?_
  refine EvU.set2 s9 (eu_cat (ew_var rfl e9 r9) (eu_lst (en_cons (ev_K1 T.k_NotKept (evs_v rfl)) (en_cons (ev_K1 T.k_NotBroken (evs_v rfl)) (en_cons (ev_K1 T.k_NotHidden (evs_v rfl)) en_nil)))).w) fun p10 xs10 H10 s10 n10 e10 r10 => ?_
  refine EvU.set2 s10 (eu_cat (ew_var rfl e10 r10) (eu_lst (en_cons (ev_K1 T.k_InvalidRooms (evs_v rfl)) (en_cons (ev_K1 T.k_InvalidStrokes (evs_v rfl)) (en_cons (ev_K1 T.k_InvalidHistories (evs_v rfl)) en_nil)))).w) fun p11 xs11 H11 s11 n11 e11 r11 => ?_
  refine EvU.set2 s11 (eu_cat (ew_var rfl e11 r11) (eu_lst (en_cons (ev_K1 T.k_InvalidView (evs_v rfl)) (en_cons (ev_K1 T.k_InvalidVariable (evs_v rfl)) (en_cons (ev_K1 T.k_InvalidGiven (evs_v rfl)) en_nil)))).w) fun p12 xs12 H12 s12 n12 e12 r12 => ?_
  refine EvU.set2 s12 (eu_cat (ew_var rfl e12 r12) (eu_lst (en_cons (ev_K1 T.k_NotPlain (evs_v rfl)) (en_cons (ev_K1 T.k_UnknownView (evs_v rfl)) (en_cons (ev_K1 T.k_InvalidLines (evs_v rfl)) en_nil)))).w) fun p13 xs13 H13 s13 n13 e13 r13 => ?_
  exact ⟨_, rfl, q p13 xs13 H13 s13 n13 e13 r13⟩
theorem ok__law_named_keys (T : Top K mg) : FnOk P w K mg base CX0 3 (He.ga K "_law_named_keys") T.f__law_named_keys.d ["_law_thing"] (spMk K (kindsL K) 9 "key") := by
  refine T.f__law_named_keys.F.ok sc__law_named_keys spMk_len (fun cdv A outer s H vs Q E hr h => ?_)
  obtain ⟨x, rfl, q⟩ := h
  refine ⟨_, (pss_cons (ps_set (i := 1) sc__law_named_keys.nd rfl (Or.inl rfl) (pe_lst (pa_cons (pe_exK T.k_Forked.x.oex T.k_Forked.iC T.k_Forked.tI T.k_Forked.ok (hr.mono (by decide)) T.k_Forked.kb (by rfl) T.k_Forked.g (pk_cons (pv 0) pk_nil)) (pa_cons (pe_exK T.k_Missing.x.oex T.k_Missing.iC T.k_Missing.tI T.k_Missing.ok (hr.mono (by decide)) T.k_Missing.kb (by rfl) T.k_Missing.g (pk_cons (pv 0) pk_nil)) (pa_cons (pe_exK T.k_Blind.x.oex T.k_Blind.iC T.k_Blind.tI T.k_Blind.ok (hr.mono (by decide)) T.k_Blind.kb (by rfl) T.k_Blind.g (pk_cons (pv 0) pk_nil)) pa_nil)))))
      (pss_cons (ps_set (i := 1) sc__law_named_keys.nd rfl (Or.inl rfl) (pe_op op_cat (pv 1) (pe_lst (pa_cons (pe_exK T.k_UnknownChange.x.oex T.k_UnknownChange.iC T.k_UnknownChange.tI T.k_UnknownChange.ok (hr.mono (by decide)) T.k_UnknownChange.kb (by rfl) T.k_UnknownChange.g (pk_cons (pv 0) pk_nil)) (pa_cons (pe_exK T.k_NotStruck.x.oex T.k_NotStruck.iC T.k_NotStruck.tI T.k_NotStruck.ok (hr.mono (by decide)) T.k_NotStruck.kb (by rfl) T.k_NotStruck.g (pk_cons (pv 0) pk_nil)) (pa_cons (pe_exK T.k_Old.x.oex T.k_Old.iC T.k_Old.tI T.k_Old.ok (hr.mono (by decide)) T.k_Old.kb (by rfl) T.k_Old.g (pk_cons (pv 0) pk_nil)) pa_nil))))))
      (pss_cons (ps_set (i := 1) sc__law_named_keys.nd rfl (Or.inl rfl) (pe_op op_cat (pv 1) (pe_lst (pa_cons (pe_exK T.k_Forgotten.x.oex T.k_Forgotten.iC T.k_Forgotten.tI T.k_Forgotten.ok (hr.mono (by decide)) T.k_Forgotten.kb (by rfl) T.k_Forgotten.g (pk_cons (pv 0) pk_nil)) (pa_cons (pe_exK T.k_Beside.x.oex T.k_Beside.iC T.k_Beside.tI T.k_Beside.ok (hr.mono (by decide)) T.k_Beside.kb (by rfl) T.k_Beside.g (pk_cons (pv 0) pk_nil)) (pa_cons (pe_exK T.k_Short.x.oex T.k_Short.iC T.k_Short.tI T.k_Short.ok (hr.mono (by decide)) T.k_Short.kb (by rfl) T.k_Short.g (pk_cons (pv 0) pk_nil)) pa_nil))))))
      (pss_one (ps_ret (pv 1)))))), ?_⟩
  refine EvU.set2 (R := exF K (kindsL K) "key" x) (H00 := H) (Same.refl _) (eu_lst (en_cons (ev_K1 T.k_Forked (evs_v rfl)) (en_cons (ev_K1 T.k_Missing (evs_v rfl)) (en_cons (ev_K1 T.k_Blind (evs_v rfl)) en_nil)))) fun p0 xs0 H0 s0 n0 e0 r0 => ?_
  refine EvU.set2 s0 (eu_cat (ew_var rfl e0 r0) (eu_lst (en_cons (ev_K1 T.k_UnknownChange (evs_v rfl)) (en_cons (ev_K1 T.k_NotStruck (evs_v rfl)) (en_cons (ev_K1 T.k_Old (evs_v rfl)) en_nil)))).w) fun p1 xs1 H1 s1 n1 e1 r1 => ?_
  refine EvU.set2 s1 (eu_cat (ew_var rfl e1 r1) (eu_lst (en_cons (ev_K1 T.k_Forgotten (evs_v rfl)) (en_cons (ev_K1 T.k_Beside (evs_v rfl)) (en_cons (ev_K1 T.k_Short (evs_v rfl)) en_nil)))).w) fun p2 xs2 H2 s2 n2 e2 r2 => ?_
  exact ⟨_, rfl, q p2 xs2 H2 s2 n2 e2 r2⟩
theorem ok__law_named_persons (T : Top K mg) : FnOk P w K mg base CX0 3 (He.ga K "_law_named_persons") T.f__law_named_persons.d ["_law_thing"] (spMk K (kindsL K) 4 "person") := by
  refine T.f__law_named_persons.F.ok sc__law_named_persons spMk_len (fun cdv A outer s H vs Q E hr h => ?_)
  obtain ⟨x, rfl, q⟩ := h
  refine ⟨_, (pss_cons (ps_set (i := 1) sc__law_named_persons.nd rfl (Or.inl rfl) (pe_lst (pa_cons (pe_exK T.k_Stranger.x.oex T.k_Stranger.iC T.k_Stranger.tI T.k_Stranger.ok (hr.mono (by decide)) T.k_Stranger.kb (by rfl) T.k_Stranger.g (pk_cons (pv 0) pk_nil)) (pa_cons (pe_exK T.k_NotAsked.x.oex T.k_NotAsked.iC T.k_NotAsked.tI T.k_NotAsked.ok (hr.mono (by decide)) T.k_NotAsked.kb (by rfl) T.k_NotAsked.g (pk_cons (pv 0) pk_nil)) (pa_cons (pe_exK T.k_HasCopy.x.oex T.k_HasCopy.iC T.k_HasCopy.tI T.k_HasCopy.ok (hr.mono (by decide)) T.k_HasCopy.kb (by rfl) T.k_HasCopy.g (pk_cons (pv 0) pk_nil)) pa_nil)))))
      (pss_cons (ps_set (i := 1) sc__law_named_persons.nd rfl (Or.inl rfl) (pe_op op_cat (pv 1) (pe_lst (pa_cons (pe_exK T.k_NoPerson.x.oex T.k_NoPerson.iC T.k_NoPerson.tI T.k_NoPerson.ok (hr.mono (by decide)) T.k_NoPerson.kb (by rfl) T.k_NoPerson.g (pk_cons (pv 0) pk_nil)) pa_nil))))
      (pss_one (ps_ret (pv 1))))), ?_⟩
  refine EvU.set2 (R := exF K (kindsL K) "person" x) (H00 := H) (Same.refl _) (eu_lst (en_cons (ev_K1 T.k_Stranger (evs_v rfl)) (en_cons (ev_K1 T.k_NotAsked (evs_v rfl)) (en_cons (ev_K1 T.k_HasCopy (evs_v rfl)) en_nil)))) fun p0 xs0 H0 s0 n0 e0 r0 => ?_
  refine EvU.set2 s0 (eu_cat (ew_var rfl e0 r0) (eu_lst (en_cons (ev_K1 T.k_NoPerson (evs_v rfl)) en_nil)).w) fun p1 xs1 H1 s1 n1 e1 r1 => ?_
  exact ⟨_, rfl, q p1 xs1 H1 s1 n1 e1 r1⟩
theorem ok__law_named_numbers (T : Top K mg) : FnOk P w K mg base CX0 3 (He.ga K "_law_named_numbers") T.f__law_named_numbers.d ["_law_thing"] (spMk K (kindsL K) 3 "number") := by
  refine T.f__law_named_numbers.F.ok sc__law_named_numbers spMk_len (fun cdv A outer s H vs Q E hr h => ?_)
  obtain ⟨x, rfl, q⟩ := h
  refine ⟨_, (pss_cons (ps_set (i := 1) sc__law_named_numbers.nd rfl (Or.inl rfl) (pe_lst (pa_cons (pe_exK T.k_NoKnot.x.oex T.k_NoKnot.iC T.k_NoKnot.tI T.k_NoKnot.ok (hr.mono (by decide)) T.k_NoKnot.kb (by rfl) T.k_NoKnot.g (pk_cons (pv 0) pk_nil)) (pa_cons (pe_exK T.k_NoReading.x.oex T.k_NoReading.iC T.k_NoReading.tI T.k_NoReading.ok (hr.mono (by decide)) T.k_NoReading.kb (by rfl) T.k_NoReading.g (pk_cons (pv 0) pk_nil)) (pa_cons (pe_exK T.k_RingThere.x.oex T.k_RingThere.iC T.k_RingThere.tI T.k_RingThere.ok (hr.mono (by decide)) T.k_RingThere.kb (by rfl) T.k_RingThere.g (pk_cons (pv 0) pk_nil)) pa_nil)))))
      (pss_one (ps_ret (pv 1)))), ?_⟩
  refine EvU.set2 (R := exF K (kindsL K) "number" x) (H00 := H) (Same.refl _) (eu_lst (en_cons (ev_K1 T.k_NoKnot (evs_v rfl)) (en_cons (ev_K1 T.k_NoReading (evs_v rfl)) (en_cons (ev_K1 T.k_RingThere (evs_v rfl)) en_nil)))) fun p0 xs0 H0 s0 n0 e0 r0 => ?_
  exact ⟨_, rfl, q p0 xs0 H0 s0 n0 e0 r0⟩
end
end Kx

set_option Elab.async false
set_option linter.all false
set_option maxRecDepth 100000
set_option maxHeartbeats 4000000
namespace Kx
open PySem PySem.Spec PyProof.Rows L2
section
variable {P : Program} {w : World} {K : PySem.W.Frag} {mg : Str → Option Value} {base : Heap}

theorem ok__law_kinds_one (T : Top K mg) : FnOk P w K mg base CX0 1 (He.ga K "_law_kinds_one") T.f__law_kinds_one.d ["_law_e"] (spKd K (kindsL K) (ks0.map (He.ga K))) := by
  refine T.f__law_kinds_one.F.ok sc__law_kinds_one spKd_len (fun cdv A outer s H vs Q E hr h => ?_)
  obtain ⟨a, D, rfl, hx, q⟩ := h
  have hD := hx.choose_spec.2.2.1
  have kk : ∀ {c : Str}, XCb K mg (kindsL K) c → PySem.W.kitOne K (.ref D) (.ref (He.ga K c)) = some (decide (D = He.ga K c)) := fun X => kit_own hD X.x (T.ng _ X.hm)
  refine ⟨_, (pss_cons (ps_set (i := 1) sc__law_kinds_one.nd rfl (Or.inl rfl) (pe_lst (pa_cons (pe_callB (call_isX (K := K)) (by rfl) T.m_isinstance (by decide +kernel) (pa_cons (pv 0) (pa_cons (pe_glob (v := .ref (He.ga K "InvalidPerson")) (by rfl) T.k_InvalidPerson.g rfl) pa_nil))) (pa_cons (pe_callB (call_isX (K := K)) (by rfl) T.m_isinstance (by decide +kernel) (pa_cons (pv 0) (pa_cons (pe_glob (v := .ref (He.ga K "InvalidNumber")) (by rfl) T.k_InvalidNumber.g rfl) pa_nil))) pa_nil))))
      (pss_cons (ps_set (i := 1) sc__law_kinds_one.nd rfl (Or.inl rfl) (pe_op op_cat (pv 1) (pe_lst (pa_cons (pe_callB (call_isX (K := K)) (by rfl) T.m_isinstance (by decide +kernel) (pa_cons (pv 0) (pa_cons (pe_glob (v := .ref (He.ga K "InvalidSeen")) (by rfl) T.k_InvalidSeen.g rfl) pa_nil))) pa_nil))))
      (pss_cons (ps_set (i := 1) sc__law_kinds_one.nd rfl (Or.inl rfl) (pe_op op_cat (pv 1) (pe_lst (pa_cons (pe_callB (call_isX (K := K)) (by rfl) T.m_isinstance (by decide +kernel) (pa_cons (pv 0) (pa_cons (pe_glob (v := .ref (He.ga K "InvalidDeed")) (by rfl) T.k_InvalidDeed.g rfl) pa_nil))) (pa_cons (pe_callB (call_isX (K := K)) (by rfl) T.m_isinstance (by decide +kernel) (pa_cons (pv 0) (pa_cons (pe_glob (v := .ref (He.ga K "InvalidChange")) (by rfl) T.k_InvalidChange.g rfl) pa_nil))) pa_nil)))))
      (pss_cons (ps_set (i := 1) sc__law_kinds_one.nd rfl (Or.inl rfl) (pe_op op_cat (pv 1) (pe_lst (pa_cons (pe_callB (call_isX (K := K)) (by rfl) T.m_isinstance (by decide +kernel) (pa_cons (pv 0) (pa_cons (pe_glob (v := .ref (He.ga K "InvalidHistory")) (by rfl) T.k_InvalidHistory.g rfl) pa_nil))) pa_nil))))
      (pss_cons (ps_set (i := 1) sc__law_kinds_one.nd rfl (Or.inl rfl) (pe_op op_cat (pv 1) (pe_lst (pa_cons (pe_callB (call_isX (K := K)) (by rfl) T.m_isinstance (by decide +kernel) (pa_cons (pv 0) (pa_cons (pe_glob (v := .ref (He.ga K "InvalidVector")) (by rfl) T.k_InvalidVector.g rfl) pa_nil))) (pa_cons (pe_callB (call_isX (K := K)) (by rfl) T.m_isinstance (by decide +kernel) (pa_cons (pv 0) (pa_cons (pe_glob (v := .ref (He.ga K "InvalidText")) (by rfl) T.k_InvalidText.g rfl) pa_nil))) pa_nil)))))
      (pss_cons (ps_set (i := 1) sc__law_kinds_one.nd rfl (Or.inl rfl) (pe_op op_cat (pv 1) (pe_lst (pa_cons (pe_callB (call_isX (K := K)) (by rfl) T.m_isinstance (by decide +kernel) (pa_cons (pv 0) (pa_cons (pe_glob (v := .ref (He.ga K "InvalidRight")) (by rfl) T.k_InvalidRight.g rfl) pa_nil))) pa_nil))))
      (pss_cons (ps_set (i := 1) sc__law_kinds_one.nd rfl (Or.inl rfl) (pe_op op_cat (pv 1) (pe_lst (pa_cons (pe_callB (call_isX (K := K)) (by rfl) T.m_isinstance (by decide +kernel) (pa_cons (pv 0) (pa_cons (pe_glob (v := .ref (He.ga K "InvalidRights")) (by rfl) T.k_InvalidRights.g rfl) pa_nil))) (pa_cons (pe_callB (call_isX (K := K)) (by rfl) T.m_isinstance (by decide +kernel) (pa_cons (pv 0) (pa_cons (pe_glob (v := .ref (He.ga K "InvalidFlag")) (by rfl) T.k_InvalidFlag.g rfl) pa_nil))) pa_nil)))))
      (pss_cons (ps_set (i := 1) sc__law_kinds_one.nd rfl (Or.inl rfl) (pe_op op_cat (pv 1) (pe_lst (pa_cons (pe_callB (call_isX (K := K)) (by rfl) T.m_isinstance (by decide +kernel) (pa_cons (pv 0) (pa_cons (pe_glob (v := .ref (He.ga K "InvalidIds")) (by rfl) T.k_InvalidIds.g rfl) pa_nil))) pa_nil))))
      (pss_cons (ps_set (i := 1) sc__law_kinds_one.nd rfl (Or.inl rfl) (pe_op op_cat (pv 1) (pe_lst (pa_cons (pe_callB (call_isX (K := K)) (by rfl) T.m_isinstance (by decide +kernel) (pa_cons (pv 0) (pa_cons (pe_glob (v := .ref (He.ga K "NotGround")) (by rfl) T.k_NotGround.g rfl) pa_nil))) (pa_cons (pe_callB (call_isX (K := K)) (by rfl) T.m_isinstance (by decide +kernel) (pa_cons (pv 0) (pa_cons (pe_glob (v := .ref (He.ga K "InvalidName")) (by rfl) T.k_InvalidName.g rfl) pa_nil))) pa_nil)))))
      (pss_cons (ps_set (i := 1) sc__law_kinds_one.nd rfl (Or.inl rfl) (pe_op op_cat (pv 1) (pe_lst (pa_cons (pe_callB (call_isX (K := K)) (by rfl) T.m_isinstance (by decide +kernel) (pa_cons (pv 0) (pa_cons (pe_glob (v := .ref (He.ga K "InvalidSheet")) (by rfl) T.k_InvalidSheet.g rfl) pa_nil))) pa_nil))))
      (pss_cons (ps_set (i := 1) sc__law_kinds_one.nd rfl (Or.inl rfl) (pe_op op_cat (pv 1) (pe_lst (pa_cons (pe_callB (call_isX (K := K)) (by rfl) T.m_isinstance (by decide +kernel) (pa_cons (pv 0) (pa_cons (pe_glob (v := .ref (He.ga K "InvalidWish")) (by rfl) T.k_InvalidWish.g rfl) pa_nil))) (pa_cons (pe_callB (call_isX (K := K)) (by rfl) T.m_isinstance (by decide +kernel) (pa_cons (pv 0) (pa_cons (pe_glob (v := .ref (He.ga K "InvalidReading")) (by rfl) T.k_InvalidReading.g rfl) pa_nil))) pa_nil)))))
      (pss_cons (ps_set (i := 1) sc__law_kinds_one.nd rfl (Or.inl rfl) (pe_op op_cat (pv 1) (pe_lst (pa_cons (pe_callB (call_isX (K := K)) (by rfl) T.m_isinstance (by decide +kernel) (pa_cons (pv 0) (pa_cons (pe_glob (v := .ref (He.ga K "InvalidLine")) (by rfl) T.k_InvalidLine.g rfl) pa_nil))) pa_nil))))
      (pss_cons (ps_set (i := 1) sc__law_kinds_one.nd rfl (Or.inl rfl) (pe_op op_cat (pv 1) (pe_lst (pa_cons (pe_callB (call_isX (K := K)) (by rfl) T.m_isinstance (by decide +kernel) (pa_cons (pv 0) (pa_cons (pe_glob (v := .ref (He.ga K "InvalidPlan")) (by rfl) T.k_InvalidPlan.g rfl) pa_nil))) (pa_cons (pe_callB (call_isX (K := K)) (by rfl) T.m_isinstance (by decide +kernel) (pa_cons (pv 0) (pa_cons (pe_glob (v := .ref (He.ga K "NoThing")) (by rfl) T.k_NoThing.g rfl) pa_nil))) pa_nil)))))
      (pss_cons (ps_set (i := 1) sc__law_kinds_one.nd rfl (Or.inl rfl) (pe_op op_cat (pv 1) (pe_lst (pa_cons (pe_callB (call_isX (K := K)) (by rfl) T.m_isinstance (by decide +kernel) (pa_cons (pv 0) (pa_cons (pe_glob (v := .ref (He.ga K "UnknownColumn")) (by rfl) T.k_UnknownColumn.g rfl) pa_nil))) pa_nil))))
      (pss_cons (ps_set (i := 1) sc__law_kinds_one.nd rfl (Or.inl rfl) (pe_op op_cat (pv 1) (pe_lst (pa_cons (pe_callB (call_isX (K := K)) (by rfl) T.m_isinstance (by decide +kernel) (pa_cons (pv 0) (pa_cons (pe_glob (v := .ref (He.ga K "KeptTable")) (by rfl) T.k_KeptTable.g rfl) pa_nil))) (pa_cons (pe_callB (call_isX (K := K)) (by rfl) T.m_isinstance (by decide +kernel) (pa_cons (pv 0) (pa_cons (pe_glob (v := .ref (He.ga K "NotClosed")) (by rfl) T.k_NotClosed.g rfl) pa_nil))) pa_nil)))))
      (pss_cons (ps_set (i := 1) sc__law_kinds_one.nd rfl (Or.inl rfl) (pe_op op_cat (pv 1) (pe_lst (pa_cons (pe_callB (call_isX (K := K)) (by rfl) T.m_isinstance (by decide +kernel) (pa_cons (pv 0) (pa_cons (pe_glob (v := .ref (He.ga K "NoPurse")) (by rfl) T.k_NoPurse.g rfl) pa_nil))) pa_nil))))
      (pss_cons (ps_set (i := 1) sc__law_kinds_one.nd rfl (Or.inl rfl) (pe_op op_cat (pv 1) (pe_lst (pa_cons (pe_callB (call_isX (K := K)) (by rfl) T.m_isinstance (by decide +kernel) (pa_cons (pv 0) (pa_cons (pe_glob (v := .ref (He.ga K "CutPurse")) (by rfl) T.k_CutPurse.g rfl) pa_nil))) pa_nil))))
      (pss_one (ps_ret (pv 1)))))))))))))))))))), ?_⟩
  refine EvSL.set2 (H00 := H) (Same.refl _) (evs_lst (evs_cons (evs_isx rfl hx (kk T.k_InvalidPerson.toXCb)) (evs_cons (evs_isx rfl hx (kk T.k_InvalidNumber.toXCb)) evs_nil)) (Nat.le_of_ble_eq_true rfl)) fun p0 xs0 H0 s0 n0 e0 r0 => ?_
  refine EvSL.set2 s0 (evs_catV (evs_varL rfl e0 r0) (evs_lst (evs_cons (evs_isx rfl (hx.mono s0) (kk T.k_InvalidSeen.toXCb)) evs_nil) (Nat.le_of_ble_eq_true rfl)).v (Nat.le_of_ble_eq_true rfl)) fun p1 xs1 H1 s1 n1 e1 r1 => ?_
  refine EvSL.set2 s1 (evs_catV (evs_varL rfl e1 r1) (evs_lst (evs_cons (evs_isx rfl (hx.mono s1) (kk T.k_InvalidDeed.toXCb)) (evs_cons (evs_isx rfl (hx.mono s1) (kk T.k_InvalidChange.toXCb)) evs_nil)) (Nat.le_of_ble_eq_true rfl)).v (Nat.le_of_ble_eq_true rfl)) fun p2 xs2 H2 s2 n2 e2 r2 => ?_
  refine EvSL.set2 s2 (evs_catV (evs_varL rfl e2 r2) (evs_lst (evs_cons (evs_isx rfl (hx.mono s2) (kk T.k_InvalidHistory.toXCb)) evs_nil) (Nat.le_of_ble_eq_true rfl)).v (Nat.le_of_ble_eq_true rfl)) fun p3 xs3 H3 s3 n3 e3 r3 => ?_
  refine EvSL.set2 s3 (evs_catV (evs_varL rfl e3 r3) (evs_lst (evs_cons (evs_isx rfl (hx.mono s3) (kk T.k_InvalidVector.toXCb)) (evs_cons (evs_isx rfl (hx.mono s3) (kk T.k_InvalidText.toXCb)) evs_nil)) (Nat.le_of_ble_eq_true rfl)).v (Nat.le_of_ble_eq_true rfl)) fun p4 xs4 H4 s4 n4 e4 r4 => ?_
  refine EvSL.set2 s4 (evs_catV (evs_varL rfl e4 r4) (evs_lst (evs_cons (evs_isx rfl (hx.mono s4) (kk T.k_InvalidRight.toXCb)) evs_nil) (Nat.le_of_ble_eq_true rfl)).v (Nat.le_of_ble_eq_true rfl)) fun p5 xs5 H5 s5 n5 e5 r5 => ?_
  refine EvSL.set2 s5 (evs_catV (evs_varL rfl e5 r5) (evs_lst (evs_cons (evs_isx rfl (hx.mono s5) (kk T.k_InvalidRights.toXCb)) (evs_cons (evs_isx rfl (hx.mono s5) (kk T.k_InvalidFlag.toXCb)) evs_nil)) (Nat.le_of_ble_eq_true rfl)).v (Nat.le_of_ble_eq_true rfl)) fun p6 xs6 H6 s6 n6 e6 r6 => ?_
  refine EvSL.set2 s6 (evs_catV (evs_varL rfl e6 r6) (evs_lst (evs_cons (evs_isx rfl (hx.mono s6) (kk T.k_InvalidIds.toXCb)) evs_nil) (Nat.le_of_ble_eq_true rfl)).v (Nat.le_of_ble_eq_true rfl)) fun p7 xs7 H7 s7 n7 e7 r7 => ?_
  refine EvSL.set2 s7 (evs_catV (evs_varL rfl e7 r7) (evs_lst (evs_cons (evs_isx rfl (hx.mono s7) (kk T.k_NotGround.toXCb)) (evs_cons (evs_isx rfl (hx.mono s7) (kk T.k_InvalidName.toXCb)) evs_nil)) (Nat.le_of_ble_eq_true rfl)).v (Nat.le_of_ble_eq_true rfl)) fun p8 xs8 H8 s8 n8 e8 r8 => ?_
  refine EvSL.set2 s8 (evs_catV (evs_varL rfl e8 r8) (evs_lst (evs_cons (evs_isx rfl (hx.mono s8) (kk T.k_InvalidSheet.toXCb)) evs_nil) (Nat.le_of_ble_eq_true rfl)).v (Nat.le_of_ble_eq_true rfl)) fun p9 xs9 H9 s9 n9 e9 r9 => ?_
  refine EvSL.set2 s9 (evs_catV (evs_varL rfl e9 r9) (evs_lst (evs_cons (evs_isx rfl (hx.mono s9) (kk T.k_InvalidWish.toXCb)) (evs_cons (evs_isx rfl (hx.mono s9) (kk T.k_InvalidReading.toXCb)) evs_nil)) (Nat.le_of_ble_eq_true rfl)).v (Nat.le_of_ble_eq_true rfl)) fun p10 xs10 H10 s10 n10 e10 r10 => ?_
  refine EvSL.set2 s10 (evs_catV (evs_varL rfl e10 r10) (evs_lst (evs_cons (evs_isx rfl (hx.mono s10) (kk T.k_InvalidLine.toXCb)) evs_nil) (Nat.le_of_ble_eq_true rfl)).v (Nat.le_of_ble_eq_true rfl)) fun p11 xs11 H11 s11 n11 e11 r11 => ?_
  refine EvSL.set2 s11 (evs_catV (evs_varL rfl e11 r11) (evs_lst (evs_cons (evs_isx rfl (hx.mono s11) (kk T.k_InvalidPlan.toXCb)) (evs_cons (evs_isx rfl (hx.mono s11) (kk T.k_NoThing.toXCb)) evs_nil)) (Nat.le_of_ble_eq_true rfl)).v (Nat.le_of_ble_eq_true rfl)) fun p12 xs12 H12 s12 n12 e12 r12 => ?_
  refine EvSL.set2 s12 (evs_catV (evs_varL rfl e12 r12) (evs_lst (evs_cons (evs_isx rfl (hx.mono s12) (kk T.k_UnknownColumn.toXCb)) evs_nil) (Nat.le_of_ble_eq_true rfl)).v (Nat.le_of_ble_eq_true rfl)) fun p13 xs13 H13 s13 n13 e13 r13 => ?_
  refine EvSL.set2 s13 (evs_catV (evs_varL rfl e13 r13) (evs_lst (evs_cons (evs_isx rfl (hx.mono s13) (kk T.k_KeptTable.toXCb)) (evs_cons (evs_isx rfl (hx.mono s13) (kk T.k_NotClosed.toXCb)) evs_nil)) (Nat.le_of_ble_eq_true rfl)).v (Nat.le_of_ble_eq_true rfl)) fun p14 xs14 H14 s14 n14 e14 r14 => ?_
  refine EvSL.set2 s14 (evs_catV (evs_varL rfl e14 r14) (evs_lst (evs_cons (evs_isx rfl (hx.mono s14) (kk T.k_NoPurse.toXCb)) evs_nil) (Nat.le_of_ble_eq_true rfl)).v (Nat.le_of_ble_eq_true rfl)) fun p15 xs15 H15 s15 n15 e15 r15 => ?_
  refine EvSL.set2 s15 (evs_catV (evs_varL rfl e15 r15) (evs_lst (evs_cons (evs_isx rfl (hx.mono s15) (kk T.k_CutPurse.toXCb)) evs_nil) (Nat.le_of_ble_eq_true rfl)).v (Nat.le_of_ble_eq_true rfl)) fun p16 xs16 H16 s16 n16 e16 r16 => ?_
  refine ⟨_, rfl, q p16 H16 s16 n16 ?_⟩
  have r : AllP (((ks0.map (He.ga K)).map fun C => V.bl (decide (D = C))).map isv) H16 xs16 := r16
  rw [e16, r.isvs]
theorem ok__law_kinds_two (T : Top K mg) : FnOk P w K mg base CX0 1 (He.ga K "_law_kinds_two") T.f__law_kinds_two.d ["_law_e"] (spKd K (kindsL K) (ks1.map (He.ga K))) := by
  refine T.f__law_kinds_two.F.ok sc__law_kinds_two spKd_len (fun cdv A outer s H vs Q E hr h => ?_)
  obtain ⟨a, D, rfl, hx, q⟩ := h
  have hD := hx.choose_spec.2.2.1
  have kk : ∀ {c : Str}, XCb K mg (kindsL K) c → PySem.W.kitOne K (.ref D) (.ref (He.ga K c)) = some (decide (D = He.ga K c)) := fun X => kit_own hD X.x (T.ng _ X.hm)
  refine ⟨_, (pss_cons (ps_set (i := 1) sc__law_kinds_two.nd rfl (Or.inl rfl) (pe_lst (pa_cons (pe_callB (call_isX (K := K)) (by rfl) T.m_isinstance (by decide +kernel) (pa_cons (pv 0) (pa_cons (pe_glob (v := .ref (He.ga K "TooMuch")) (by rfl) T.k_TooMuch.g rfl) pa_nil))) (pa_cons (pe_callB (call_isX (K := K)) (by rfl) T.m_isinstance (by decide +kernel) (pa_cons (pv 0) (pa_cons (pe_glob (v := .ref (He.ga K "InvalidCount")) (by rfl) T.k_InvalidCount.g rfl) pa_nil))) (pa_cons (pe_callB (call_isX (K := K)) (by rfl) T.m_isinstance (by decide +kernel) (pa_cons (pv 0) (pa_cons (pe_glob (v := .ref (He.ga K "InvalidGoal")) (by rfl) T.k_InvalidGoal.g rfl) pa_nil))) pa_nil)))))
      (pss_cons (ps_set (i := 1) sc__law_kinds_two.nd rfl (Or.inl rfl) (pe_op op_cat (pv 1) (pe_lst (pa_cons (pe_callB (call_isX (K := K)) (by rfl) T.m_isinstance (by decide +kernel) (pa_cons (pv 0) (pa_cons (pe_glob (v := .ref (He.ga K "InvalidCrowd")) (by rfl) T.k_InvalidCrowd.g rfl) pa_nil))) (pa_cons (pe_callB (call_isX (K := K)) (by rfl) T.m_isinstance (by decide +kernel) (pa_cons (pv 0) (pa_cons (pe_glob (v := .ref (He.ga K "InvalidJournal")) (by rfl) T.k_InvalidJournal.g rfl) pa_nil))) pa_nil)))))
      (pss_cons (ps_set (i := 1) sc__law_kinds_two.nd rfl (Or.inl rfl) (pe_op op_cat (pv 1) (pe_lst (pa_cons (pe_callB (call_isX (K := K)) (by rfl) T.m_isinstance (by decide +kernel) (pa_cons (pv 0) (pa_cons (pe_glob (v := .ref (He.ga K "NotKept")) (by rfl) T.k_NotKept.g rfl) pa_nil))) pa_nil))))
      (pss_cons (ps_set (i := 1) sc__law_kinds_two.nd rfl (Or.inl rfl) (pe_op op_cat (pv 1) (pe_lst (pa_cons (pe_callB (call_isX (K := K)) (by rfl) T.m_isinstance (by decide +kernel) (pa_cons (pv 0) (pa_cons (pe_glob (v := .ref (He.ga K "NotBroken")) (by rfl) T.k_NotBroken.g rfl) pa_nil))) (pa_cons (pe_callB (call_isX (K := K)) (by rfl) T.m_isinstance (by decide +kernel) (pa_cons (pv 0) (pa_cons (pe_glob (v := .ref (He.ga K "NotHidden")) (by rfl) T.k_NotHidden.g rfl) pa_nil))) pa_nil)))))
      (pss_cons (ps_set (i := 1) sc__law_kinds_two.nd rfl (Or.inl rfl) (pe_op op_cat (pv 1) (pe_lst (pa_cons (pe_callB (call_isX (K := K)) (by rfl) T.m_isinstance (by decide +kernel) (pa_cons (pv 0) (pa_cons (pe_glob (v := .ref (He.ga K "InvalidRooms")) (by rfl) T.k_InvalidRooms.g rfl) pa_nil))) pa_nil))))
      (pss_cons (ps_set (i := 1) sc__law_kinds_two.nd rfl (Or.inl rfl) (pe_op op_cat (pv 1) (pe_lst (pa_cons (pe_callB (call_isX (K := K)) (by rfl) T.m_isinstance (by decide +kernel) (pa_cons (pv 0) (pa_cons (pe_glob (v := .ref (He.ga K "InvalidStrokes")) (by rfl) T.k_InvalidStrokes.g rfl) pa_nil))) (pa_cons (pe_callB (call_isX (K := K)) (by rfl) T.m_isinstance (by decide +kernel) (pa_cons (pv 0) (pa_cons (pe_glob (v := .ref (He.ga K "InvalidHistories")) (by rfl) T.k_InvalidHistories.g rfl) pa_nil))) pa_nil)))))
      (pss_cons (ps_set (i := 1) sc__law_kinds_two.nd rfl (Or.inl rfl) (pe_op op_cat (pv 1) (pe_lst (pa_cons (pe_callB (call_isX (K := K)) (by rfl) T.m_isinstance (by decide +kernel) (pa_cons (pv 0) (pa_cons (pe_glob (v := .ref (He.ga K "InvalidView")) (by rfl) T.k_InvalidView.g rfl) pa_nil))) pa_nil))))
      (pss_cons (ps_set (i := 1) sc__law_kinds_two.nd rfl (Or.inl rfl) (pe_op op_cat (pv 1) (pe_lst (pa_cons (pe_callB (call_isX (K := K)) (by rfl) T.m_isinstance (by decide +kernel) (pa_cons (pv 0) (pa_cons (pe_glob (v := .ref (He.ga K "InvalidVariable")) (by rfl) T.k_InvalidVariable.g rfl) pa_nil))) (pa_cons (pe_callB (call_isX (K := K)) (by rfl) T.m_isinstance (by decide +kernel) (pa_cons (pv 0) (pa_cons (pe_glob (v := .ref (He.ga K "InvalidGiven")) (by rfl) T.k_InvalidGiven.g rfl) pa_nil))) pa_nil)))))
      (pss_cons (ps_set (i := 1) sc__law_kinds_two.nd rfl (Or.inl rfl) (pe_op op_cat (pv 1) (pe_lst (pa_cons (pe_callB (call_isX (K := K)) (by rfl) T.m_isinstance (by decide +kernel) (pa_cons (pv 0) (pa_cons (pe_glob (v := .ref (He.ga K "NotPlain")) (by rfl) T.k_NotPlain.g rfl) pa_nil))) pa_nil))))
      (pss_cons (ps_set (i := 1) sc__law_kinds_two.nd rfl (Or.inl rfl) (pe_op op_cat (pv 1) (pe_lst (pa_cons (pe_callB (call_isX (K := K)) (by rfl) T.m_isinstance (by decide +kernel) (pa_cons (pv 0) (pa_cons (pe_glob (v := .ref (He.ga K "UnknownView")) (by rfl) T.k_UnknownView.g rfl) pa_nil))) (pa_cons (pe_callB (call_isX (K := K)) (by rfl) T.m_isinstance (by decide +kernel) (pa_cons (pv 0) (pa_cons (pe_glob (v := .ref (He.ga K "InvalidLines")) (by rfl) T.k_InvalidLines.g rfl) pa_nil))) pa_nil)))))
      (pss_cons (ps_set (i := 1) sc__law_kinds_two.nd rfl (Or.inl rfl) (pe_op op_cat (pv 1) (pe_lst (pa_cons (pe_callB (call_isX (K := K)) (by rfl) T.m_isinstance (by decide +kernel) (pa_cons (pv 0) (pa_cons (pe_glob (v := .ref (He.ga K "Forked")) (by rfl) T.k_Forked.g rfl) pa_nil))) pa_nil))))
      (pss_cons (ps_set (i := 1) sc__law_kinds_two.nd rfl (Or.inl rfl) (pe_op op_cat (pv 1) (pe_lst (pa_cons (pe_callB (call_isX (K := K)) (by rfl) T.m_isinstance (by decide +kernel) (pa_cons (pv 0) (pa_cons (pe_glob (v := .ref (He.ga K "Missing")) (by rfl) T.k_Missing.g rfl) pa_nil))) (pa_cons (pe_callB (call_isX (K := K)) (by rfl) T.m_isinstance (by decide +kernel) (pa_cons (pv 0) (pa_cons (pe_glob (v := .ref (He.ga K "Blind")) (by rfl) T.k_Blind.g rfl) pa_nil))) pa_nil)))))
      (pss_cons (ps_set (i := 1) sc__law_kinds_two.nd rfl (Or.inl rfl) (pe_op op_cat (pv 1) (pe_lst (pa_cons (pe_callB (call_isX (K := K)) (by rfl) T.m_isinstance (by decide +kernel) (pa_cons (pv 0) (pa_cons (pe_glob (v := .ref (He.ga K "UnknownChange")) (by rfl) T.k_UnknownChange.g rfl) pa_nil))) pa_nil))))
      (pss_cons (ps_set (i := 1) sc__law_kinds_two.nd rfl (Or.inl rfl) (pe_op op_cat (pv 1) (pe_lst (pa_cons (pe_callB (call_isX (K := K)) (by rfl) T.m_isinstance (by decide +kernel) (pa_cons (pv 0) (pa_cons (pe_glob (v := .ref (He.ga K "NotStruck")) (by rfl) T.k_NotStruck.g rfl) pa_nil))) (pa_cons (pe_callB (call_isX (K := K)) (by rfl) T.m_isinstance (by decide +kernel) (pa_cons (pv 0) (pa_cons (pe_glob (v := .ref (He.ga K "Old")) (by rfl) T.k_Old.g rfl) pa_nil))) (pa_cons (pe_callB (call_isX (K := K)) (by rfl) T.m_isinstance (by decide +kernel) (pa_cons (pv 0) (pa_cons (pe_glob (v := .ref (He.ga K "Forgotten")) (by rfl) T.k_Forgotten.g rfl) pa_nil))) pa_nil))))))
      (pss_cons (ps_set (i := 1) sc__law_kinds_two.nd rfl (Or.inl rfl) (pe_op op_cat (pv 1) (pe_lst (pa_cons (pe_callB (call_isX (K := K)) (by rfl) T.m_isinstance (by decide +kernel) (pa_cons (pv 0) (pa_cons (pe_glob (v := .ref (He.ga K "Beside")) (by rfl) T.k_Beside.g rfl) pa_nil))) pa_nil))))
      (pss_one (ps_ret (pv 1)))))))))))))))))), ?_⟩
  refine EvSL.set2 (H00 := H) (Same.refl _) (evs_lst (evs_cons (evs_isx rfl hx (kk T.k_TooMuch.toXCb)) (evs_cons (evs_isx rfl hx (kk T.k_InvalidCount.toXCb)) (evs_cons (evs_isx rfl hx (kk T.k_InvalidGoal.toXCb)) evs_nil))) (Nat.le_of_ble_eq_true rfl)) fun p0 xs0 H0 s0 n0 e0 r0 => ?_
  refine EvSL.set2 s0 (evs_catV (evs_varL rfl e0 r0) (evs_lst (evs_cons (evs_isx rfl (hx.mono s0) (kk T.k_InvalidCrowd.toXCb)) (evs_cons (evs_isx rfl (hx.mono s0) (kk T.k_InvalidJournal.toXCb)) evs_nil)) (Nat.le_of_ble_eq_true rfl)).v (Nat.le_of_ble_eq_true rfl)) fun p1 xs1 H1 s1 n1 e1 r1 => ?_
  refine EvSL.set2 s1 (evs_catV (evs_varL rfl e1 r1) (evs_lst (evs_cons (evs_isx rfl (hx.mono s1) (kk T.k_NotKept.toXCb)) evs_nil) (Nat.le_of_ble_eq_true rfl)).v (Nat.le_of_ble_eq_true rfl)) fun p2 xs2 H2 s2 n2 e2 r2 => ?_
  refine EvSL.set2 s2 (evs_catV (evs_varL rfl e2 r2) (evs_lst (evs_cons (evs_isx rfl (hx.mono s2) (kk T.k_NotBroken.toXCb)) (evs_cons (evs_isx rfl (hx.mono s2) (kk T.k_NotHidden.toXCb)) evs_nil)) (Nat.le_of_ble_eq_true rfl)).v (Nat.le_of_ble_eq_true rfl)) fun p3 xs3 H3 s3 n3 e3 r3 => ?_
  refine EvSL.set2 s3 (evs_catV (evs_varL rfl e3 r3) (evs_lst (evs_cons (evs_isx rfl (hx.mono s3) (kk T.k_InvalidRooms.toXCb)) evs_nil) (Nat.le_of_ble_eq_true rfl)).v (Nat.le_of_ble_eq_true rfl)) fun p4 xs4 H4 s4 n4 e4 r4 => ?_
  refine EvSL.set2 s4 (evs_catV (evs_varL rfl e4 r4) (evs_lst (evs_cons (evs_isx rfl (hx.mono s4) (kk T.k_InvalidStrokes.toXCb)) (evs_cons (evs_isx rfl (hx.mono s4) (kk T.k_InvalidHistories.toXCb)) evs_nil)) (Nat.le_of_ble_eq_true rfl)).v (Nat.le_of_ble_eq_true rfl)) fun p5 xs5 H5 s5 n5 e5 r5 => ?_
  refine EvSL.set2 s5 (evs_catV (evs_varL rfl e5 r5) (evs_lst (evs_cons (evs_isx rfl (hx.mono s5) (kk T.k_InvalidView.toXCb)) evs_nil) (Nat.le_of_ble_eq_true rfl)).v (Nat.le_of_ble_eq_true rfl)) fun p6 xs6 H6 s6 n6 e6 r6 => ?_
  refine EvSL.set2 s6 (evs_catV (evs_varL rfl e6 r6) (evs_lst (evs_cons (evs_isx rfl (hx.mono s6) (kk T.k_InvalidVariable.toXCb)) (evs_cons (evs_isx rfl (hx.mono s6) (kk T.k_InvalidGiven.toXCb)) evs_nil)) (Nat.le_of_ble_eq_true rfl)).v (Nat.le_of_ble_eq_true rfl)) fun p7 xs7 H7 s7 n7 e7 r7 => ?_
  refine EvSL.set2 s7 (evs_catV (evs_varL rfl e7 r7) (evs_lst (evs_cons (evs_isx rfl (hx.mono s7) (kk T.k_NotPlain.toXCb)) evs_nil) (Nat.le_of_ble_eq_true rfl)).v (Nat.le_of_ble_eq_true rfl)) fun p8 xs8 H8 s8 n8 e8 r8 => ?_
  refine EvSL.set2 s8 (evs_catV (evs_varL rfl e8 r8) (evs_lst (evs_cons (evs_isx rfl (hx.mono s8) (kk T.k_UnknownView.toXCb)) (evs_cons (evs_isx rfl (hx.mono s8) (kk T.k_InvalidLines.toXCb)) evs_nil)) (Nat.le_of_ble_eq_true rfl)).v (Nat.le_of_ble_eq_true rfl)) fun p9 xs9 H9 s9 n9 e9 r9 => ?_
  refine EvSL.set2 s9 (evs_catV (evs_varL rfl e9 r9) (evs_lst (evs_cons (evs_isx rfl (hx.mono s9) (kk T.k_Forked.toXCb)) evs_nil) (Nat.le_of_ble_eq_true rfl)).v (Nat.le_of_ble_eq_true rfl)) fun p10 xs10 H10 s10 n10 e10 r10 => ?_
  refine EvSL.set2 s10 (evs_catV (evs_varL rfl e10 r10) (evs_lst (evs_cons (evs_isx rfl (hx.mono s10) (kk T.k_Missing.toXCb)) (evs_cons (evs_isx rfl (hx.mono s10) (kk T.k_Blind.toXCb)) evs_nil)) (Nat.le_of_ble_eq_true rfl)).v (Nat.le_of_ble_eq_true rfl)) fun p11 xs11 H11 s11 n11 e11 r11 => ?_
  refine EvSL.set2 s11 (evs_catV (evs_varL rfl e11 r11) (evs_lst (evs_cons (evs_isx rfl (hx.mono s11) (kk T.k_UnknownChange.toXCb)) evs_nil) (Nat.le_of_ble_eq_true rfl)).v (Nat.le_of_ble_eq_true rfl)) fun p12 xs12 H12 s12 n12 e12 r12 => ?_
  refine EvSL.set2 s12 (evs_catV (evs_varL rfl e12 r12) (evs_lst (evs_cons (evs_isx rfl (hx.mono s12) (kk T.k_NotStruck.toXCb)) (evs_cons (evs_isx rfl (hx.mono s12) (kk T.k_Old.toXCb)) (evs_cons (evs_isx rfl (hx.mono s12) (kk T.k_Forgotten.toXCb)) evs_nil))) (Nat.le_of_ble_eq_true rfl)).v (Nat.le_of_ble_eq_true rfl)) fun p13 xs13 H13 s13 n13 e13 r13 => ?_
  refine EvSL.set2 s13 (evs_catV (evs_varL rfl e13 r13) (evs_lst (evs_cons (evs_isx rfl (hx.mono s13) (kk T.k_Beside.toXCb)) evs_nil) (Nat.le_of_ble_eq_true rfl)).v (Nat.le_of_ble_eq_true rfl)) fun p14 xs14 H14 s14 n14 e14 r14 => ?_
  refine ⟨_, rfl, q p14 H14 s14 n14 ?_⟩
  have r : AllP (((ks1.map (He.ga K)).map fun C => V.bl (decide (D = C))).map isv) H14 xs14 := r14
  rw [e14, r.isvs]
theorem ok__law_kinds_three (T : Top K mg) : FnOk P w K mg base CX0 1 (He.ga K "_law_kinds_three") T.f__law_kinds_three.d ["_law_e"] (spKd K (kindsL K) (ks2.map (He.ga K))) := by
  refine T.f__law_kinds_three.F.ok sc__law_kinds_three spKd_len (fun cdv A outer s H vs Q E hr h => ?_)
  obtain ⟨a, D, rfl, hx, q⟩ := h
  have hD := hx.choose_spec.2.2.1
  have kk : ∀ {c : Str}, XCb K mg (kindsL K) c → PySem.W.kitOne K (.ref D) (.ref (He.ga K c)) = some (decide (D = He.ga K c)) := fun X => kit_own hD X.x (T.ng _ X.hm)
  refine ⟨_, (pss_cons (ps_set (i := 1) sc__law_kinds_three.nd rfl (Or.inl rfl) (pe_lst (pa_cons (pe_callB (call_isX (K := K)) (by rfl) T.m_isinstance (by decide +kernel) (pa_cons (pv 0) (pa_cons (pe_glob (v := .ref (He.ga K "Short")) (by rfl) T.k_Short.g rfl) pa_nil))) (pa_cons (pe_callB (call_isX (K := K)) (by rfl) T.m_isinstance (by decide +kernel) (pa_cons (pv 0) (pa_cons (pe_glob (v := .ref (He.ga K "Stranger")) (by rfl) T.k_Stranger.g rfl) pa_nil))) (pa_cons (pe_callB (call_isX (K := K)) (by rfl) T.m_isinstance (by decide +kernel) (pa_cons (pv 0) (pa_cons (pe_glob (v := .ref (He.ga K "NotAsked")) (by rfl) T.k_NotAsked.g rfl) pa_nil))) pa_nil)))))
      (pss_cons (ps_set (i := 1) sc__law_kinds_three.nd rfl (Or.inl rfl) (pe_op op_cat (pv 1) (pe_lst (pa_cons (pe_callB (call_isX (K := K)) (by rfl) T.m_isinstance (by decide +kernel) (pa_cons (pv 0) (pa_cons (pe_glob (v := .ref (He.ga K "HasCopy")) (by rfl) T.k_HasCopy.g rfl) pa_nil))) (pa_cons (pe_callB (call_isX (K := K)) (by rfl) T.m_isinstance (by decide +kernel) (pa_cons (pv 0) (pa_cons (pe_glob (v := .ref (He.ga K "NoPerson")) (by rfl) T.k_NoPerson.g rfl) pa_nil))) pa_nil)))))
      (pss_cons (ps_set (i := 1) sc__law_kinds_three.nd rfl (Or.inl rfl) (pe_op op_cat (pv 1) (pe_lst (pa_cons (pe_callB (call_isX (K := K)) (by rfl) T.m_isinstance (by decide +kernel) (pa_cons (pv 0) (pa_cons (pe_glob (v := .ref (He.ga K "NotRight")) (by rfl) T.k_NotRight.g rfl) pa_nil))) pa_nil))))
      (pss_cons (ps_set (i := 1) sc__law_kinds_three.nd rfl (Or.inl rfl) (pe_op op_cat (pv 1) (pe_lst (pa_cons (pe_callB (call_isX (K := K)) (by rfl) T.m_isinstance (by decide +kernel) (pa_cons (pv 0) (pa_cons (pe_glob (v := .ref (He.ga K "RoomTaken")) (by rfl) T.k_RoomTaken.g rfl) pa_nil))) (pa_cons (pe_callB (call_isX (K := K)) (by rfl) T.m_isinstance (by decide +kernel) (pa_cons (pv 0) (pa_cons (pe_glob (v := .ref (He.ga K "UnknownRoom")) (by rfl) T.k_UnknownRoom.g rfl) pa_nil))) pa_nil)))))
      (pss_cons (ps_set (i := 1) sc__law_kinds_three.nd rfl (Or.inl rfl) (pe_op op_cat (pv 1) (pe_lst (pa_cons (pe_callB (call_isX (K := K)) (by rfl) T.m_isinstance (by decide +kernel) (pa_cons (pv 0) (pa_cons (pe_glob (v := .ref (He.ga K "Lacking")) (by rfl) T.k_Lacking.g rfl) pa_nil))) pa_nil))))
      (pss_cons (ps_set (i := 1) sc__law_kinds_three.nd rfl (Or.inl rfl) (pe_op op_cat (pv 1) (pe_lst (pa_cons (pe_callB (call_isX (K := K)) (by rfl) T.m_isinstance (by decide +kernel) (pa_cons (pv 0) (pa_cons (pe_glob (v := .ref (He.ga K "NoLine")) (by rfl) T.k_NoLine.g rfl) pa_nil))) (pa_cons (pe_callB (call_isX (K := K)) (by rfl) T.m_isinstance (by decide +kernel) (pa_cons (pv 0) (pa_cons (pe_glob (v := .ref (He.ga K "NoKnot")) (by rfl) T.k_NoKnot.g rfl) pa_nil))) (pa_cons (pe_callB (call_isX (K := K)) (by rfl) T.m_isinstance (by decide +kernel) (pa_cons (pv 0) (pa_cons (pe_glob (v := .ref (He.ga K "NoReading")) (by rfl) T.k_NoReading.g rfl) pa_nil))) pa_nil))))))
      (pss_cons (ps_set (i := 1) sc__law_kinds_three.nd rfl (Or.inl rfl) (pe_op op_cat (pv 1) (pe_lst (pa_cons (pe_callB (call_isX (K := K)) (by rfl) T.m_isinstance (by decide +kernel) (pa_cons (pv 0) (pa_cons (pe_glob (v := .ref (He.ga K "RingThere")) (by rfl) T.k_RingThere.g rfl) pa_nil))) (pa_cons (pe_callB (call_isX (K := K)) (by rfl) T.m_isinstance (by decide +kernel) (pa_cons (pv 0) (pa_cons (pe_glob (v := .ref (He.ga K "TooMany")) (by rfl) T.k_TooMany.g rfl) pa_nil))) (pa_cons (pe_callB (call_isX (K := K)) (by rfl) T.m_isinstance (by decide +kernel) (pa_cons (pv 0) (pa_cons (pe_glob (v := .ref (He.ga K "Unfit")) (by rfl) T.k_Unfit.g rfl) pa_nil))) pa_nil))))))
      (pss_cons (ps_set (i := 1) sc__law_kinds_three.nd rfl (Or.inl rfl) (pe_op op_cat (pv 1) (pe_lst (pa_cons (pe_callB (call_isX (K := K)) (by rfl) T.m_isinstance (by decide +kernel) (pa_cons (pv 0) (pa_cons (pe_glob (v := .ref (He.ga K "NotAhead")) (by rfl) T.k_NotAhead.g rfl) pa_nil))) (pa_cons (pe_callB (call_isX (K := K)) (by rfl) T.m_isinstance (by decide +kernel) (pa_cons (pv 0) (pa_cons (pe_glob (v := .ref (He.ga K "Against")) (by rfl) T.k_Against.g rfl) pa_nil))) pa_nil)))))
      (pss_cons (ps_set (i := 1) sc__law_kinds_three.nd rfl (Or.inl rfl) (pe_op op_cat (pv 1) (pe_lst (pa_cons (pe_callB (call_isX (K := K)) (by rfl) T.m_isinstance (by decide +kernel) (pa_cons (pv 0) (pa_cons (pe_glob (v := .ref (He.ga K "NotWithin")) (by rfl) T.k_NotWithin.g rfl) pa_nil))) pa_nil))))
      (pss_cons (ps_set (i := 1) sc__law_kinds_three.nd rfl (Or.inl rfl) (pe_op op_cat (pv 1) (pe_lst (pa_cons (pe_callB (call_isX (K := K)) (by rfl) T.m_isinstance (by decide +kernel) (pa_cons (pv 0) (pa_cons (pe_glob (v := .ref (He.ga K "UnlikeShown")) (by rfl) T.k_UnlikeShown.g rfl) pa_nil))) (pa_cons (pe_callB (call_isX (K := K)) (by rfl) T.m_isinstance (by decide +kernel) (pa_cons (pv 0) (pa_cons (pe_glob (v := .ref (He.ga K "NoShowing")) (by rfl) T.k_NoShowing.g rfl) pa_nil))) pa_nil)))))
      (pss_cons (ps_set (i := 1) sc__law_kinds_three.nd rfl (Or.inl rfl) (pe_op op_cat (pv 1) (pe_lst (pa_cons (pe_callB (call_isX (K := K)) (by rfl) T.m_isinstance (by decide +kernel) (pa_cons (pv 0) (pa_cons (pe_glob (v := .ref (He.ga K "NoParting")) (by rfl) T.k_NoParting.g rfl) pa_nil))) pa_nil))))
      (pss_cons (ps_set (i := 1) sc__law_kinds_three.nd rfl (Or.inl rfl) (pe_op op_cat (pv 1) (pe_lst (pa_cons (pe_callB (call_isX (K := K)) (by rfl) T.m_isinstance (by decide +kernel) (pa_cons (pv 0) (pa_cons (pe_glob (v := .ref (He.ga K "NothingToUndo")) (by rfl) T.k_NothingToUndo.g rfl) pa_nil))) (pa_cons (pe_callB (call_isX (K := K)) (by rfl) T.m_isinstance (by decide +kernel) (pa_cons (pv 0) (pa_cons (pe_glob (v := .ref (He.ga K "NothingToRedo")) (by rfl) T.k_NothingToRedo.g rfl) pa_nil))) pa_nil)))))
      (pss_one (ps_ret (pv 1))))))))))))))), ?_⟩
  refine EvSL.set2 (H00 := H) (Same.refl _) (evs_lst (evs_cons (evs_isx rfl hx (kk T.k_Short.toXCb)) (evs_cons (evs_isx rfl hx (kk T.k_Stranger.toXCb)) (evs_cons (evs_isx rfl hx (kk T.k_NotAsked.toXCb)) evs_nil))) (Nat.le_of_ble_eq_true rfl)) fun p0 xs0 H0 s0 n0 e0 r0 => ?_
  refine EvSL.set2 s0 (evs_catV (evs_varL rfl e0 r0) (evs_lst (evs_cons (evs_isx rfl (hx.mono s0) (kk T.k_HasCopy.toXCb)) (evs_cons (evs_isx rfl (hx.mono s0) (kk T.k_NoPerson.toXCb)) evs_nil)) (Nat.le_of_ble_eq_true rfl)).v (Nat.le_of_ble_eq_true rfl)) fun p1 xs1 H1 s1 n1 e1 r1 => ?_
  refine EvSL.set2 s1 (evs_catV (evs_varL rfl e1 r1) (evs_lst (evs_cons (evs_isx rfl (hx.mono s1) (kk T.k_NotRight.toXCb)) evs_nil) (Nat.le_of_ble_eq_true rfl)).v (Nat.le_of_ble_eq_true rfl)) fun p2 xs2 H2 s2 n2 e2 r2 => ?_
  refine EvSL.set2 s2 (evs_catV (evs_varL rfl e2 r2) (evs_lst (evs_cons (evs_isx rfl (hx.mono s2) (kk T.k_RoomTaken.toXCb)) (evs_cons (evs_isx rfl (hx.mono s2) (kk T.k_UnknownRoom.toXCb)) evs_nil)) (Nat.le_of_ble_eq_true rfl)).v (Nat.le_of_ble_eq_true rfl)) fun p3 xs3 H3 s3 n3 e3 r3 => ?_
  refine EvSL.set2 s3 (evs_catV (evs_varL rfl e3 r3) (evs_lst (evs_cons (evs_isx rfl (hx.mono s3) (kk T.k_Lacking.toXCb)) evs_nil) (Nat.le_of_ble_eq_true rfl)).v (Nat.le_of_ble_eq_true rfl)) fun p4 xs4 H4 s4 n4 e4 r4 => ?_
  refine EvSL.set2 s4 (evs_catV (evs_varL rfl e4 r4) (evs_lst (evs_cons (evs_isx rfl (hx.mono s4) (kk T.k_NoLine.toXCb)) (evs_cons (evs_isx rfl (hx.mono s4) (kk T.k_NoKnot.toXCb)) (evs_cons (evs_isx rfl (hx.mono s4) (kk T.k_NoReading.toXCb)) evs_nil))) (Nat.le_of_ble_eq_true rfl)).v (Nat.le_of_ble_eq_true rfl)) fun p5 xs5 H5 s5 n5 e5 r5 => ?_
  refine EvSL.set2 s5 (evs_catV (evs_varL rfl e5 r5) (evs_lst (evs_cons (evs_isx rfl (hx.mono s5) (kk T.k_RingThere.toXCb)) (evs_cons (evs_isx rfl (hx.mono s5) (kk T.k_TooMany.toXCb)) (evs_cons (evs_isx rfl (hx.mono s5) (kk T.k_Unfit.toXCb)) evs_nil))) (Nat.le_of_ble_eq_true rfl)).v (Nat.le_of_ble_eq_true rfl)) fun p6 xs6 H6 s6 n6 e6 r6 => ?_
  refine EvSL.set2 s6 (evs_catV (evs_varL rfl e6 r6) (evs_lst (evs_cons (evs_isx rfl (hx.mono s6) (kk T.k_NotAhead.toXCb)) (evs_cons (evs_isx rfl (hx.mono s6) (kk T.k_Against.toXCb)) evs_nil)) (Nat.le_of_ble_eq_true rfl)).v (Nat.le_of_ble_eq_true rfl)) fun p7 xs7 H7 s7 n7 e7 r7 => ?_
  refine EvSL.set2 s7 (evs_catV (evs_varL rfl e7 r7) (evs_lst (evs_cons (evs_isx rfl (hx.mono s7) (kk T.k_NotWithin.toXCb)) evs_nil) (Nat.le_of_ble_eq_true rfl)).v (Nat.le_of_ble_eq_true rfl)) fun p8 xs8 H8 s8 n8 e8 r8 => ?_
  refine EvSL.set2 s8 (evs_catV (evs_varL rfl e8 r8) (evs_lst (evs_cons (evs_isx rfl (hx.mono s8) (kk T.k_UnlikeShown.toXCb)) (evs_cons (evs_isx rfl (hx.mono s8) (kk T.k_NoShowing.toXCb)) evs_nil)) (Nat.le_of_ble_eq_true rfl)).v (Nat.le_of_ble_eq_true rfl)) fun p9 xs9 H9 s9 n9 e9 r9 => ?_
  refine EvSL.set2 s9 (evs_catV (evs_varL rfl e9 r9) (evs_lst (evs_cons (evs_isx rfl (hx.mono s9) (kk T.k_NoParting.toXCb)) evs_nil) (Nat.le_of_ble_eq_true rfl)).v (Nat.le_of_ble_eq_true rfl)) fun p10 xs10 H10 s10 n10 e10 r10 => ?_
  refine EvSL.set2 s10 (evs_catV (evs_varL rfl e10 r10) (evs_lst (evs_cons (evs_isx rfl (hx.mono s10) (kk T.k_NothingToUndo.toXCb)) (evs_cons (evs_isx rfl (hx.mono s10) (kk T.k_NothingToRedo.toXCb)) evs_nil)) (Nat.le_of_ble_eq_true rfl)).v (Nat.le_of_ble_eq_true rfl)) fun p11 xs11 H11 s11 n11 e11 r11 => ?_
  refine ⟨_, rfl, q p11 H11 s11 n11 ?_⟩
  have r : AllP (((ks2.map (He.ga K)).map fun C => V.bl (decide (D = C))).map isv) H11 xs11 := r11
  rw [e11, r.isvs]
end
end Kx

set_option Elab.async false
set_option linter.all false
set_option maxRecDepth 100000
set_option maxHeartbeats 4000000
namespace Kx
open PySem PySem.Spec PyProof.Rows L2
/-! ### the box: a list that turns; all else stands -/
def hid (b : Addr) (H : Hp) : Hp := fun a => if a = b then none else H a
theorem hid_same (b : Addr) (H : Hp) : Same (hid b H) H := fun a o h => by
  unfold hid at h
  split at h
  · cases h
  · exact h
theorem hid_ne {b a : Addr} {H : Hp} (h : a ≠ b) : hid b H a = H a := by
  unfold hid
  rw [if_neg h]
theorem hid_upd {b : Addr} {H : Hp} {o : HO} : hid b (upd H b o) = hid b H := by
  funext a
  unfold hid upd
  split <;> simp_all
theorem hid_none {b p : Addr} {H : Hp} (h : H p = none) : hid b H p = none := by
  unfold hid
  split
  · rfl
  · exact h
theorem hid_new {b p : Addr} {H : Hp} {o : HO} (h : H p = none) : Same (hid b H) (hid b (upd H p o)) := fun a u e => by
  have e2 := hid_same b H a u e
  have hab : a ≠ b := fun z => by
    subst z
    unfold hid at e
    rw [if_pos rfl] at e
    cases e
  rw [hid_ne hab, upd_ne (ne_of_none e2 h)]
  exact e2
theorem hid_mono {b : Addr} {H H' : Hp} (e : Same H H') : Same (hid b H) (hid b H') := fun a u h => by
  have h2 := hid_same b H a u h
  have hab : a ≠ b := fun z => by
    subst z
    unfold hid at h
    rw [if_pos rfl] at h
    cases h
  rw [hid_ne hab]
  exact e _ _ h2
theorem hid_get {b a : Addr} {H : Hp} {o : HO} (h : H a = some o) (hab : a ≠ b) : hid b H a = some o := by
  rw [hid_ne hab]
  exact h
def Box (H : Hp) (b : Addr) (c : Int) : Prop := ∃ (n0 : Int) (fl : Bool) (n2 n3 : Int), H b = some (.lst [.int n0, .bl fl, .int n2, .int n3]) ∧ 0 ≤ n0 ∧ 0 ≤ n2 ∧ n2 < 2147483629 ∧ 0 ≤ n3 ∧ n3 ≤ c
theorem Box.mono {H : Hp} {b : Addr} {c c' : Int} (h : Box H b c) (e : c ≤ c') : Box H b c' := by
  obtain ⟨n0, fl, n2, n3, h1, h2, h3, h4, h5, h6⟩ := h
  exact ⟨n0, fl, n2, n3, h1, h2, h3, h4, h5, by omega⟩
theorem Box.new {H : Hp} {b p : Addr} {c : Int} {o : HO} (h : Box H b c) (hp : H p = none) : Box (upd H p o) b c := by
  obtain ⟨n0, fl, n2, n3, h1, h2⟩ := h
  refine ⟨n0, fl, n2, n3, ?_, h2⟩
  rw [upd_ne (ne_of_none h1 hp)]
  exact h1
theorem Box.ne {H : Hp} {b p : Addr} {c : Int} (h : Box H b c) (hp : H p = none) : p ≠ b := by
  obtain ⟨n0, fl, n2, n3, h1, _⟩ := h
  exact (ne_of_none h1 hp).symm
theorem Box.upd {H : Hp} {b p : Addr} {c : Int} {o : HO} (h : Box H b c) (hp : p ≠ b) : Box (upd H p o) b c := by
  obtain ⟨n0, fl, n2, n3, h1, h2⟩ := h
  refine ⟨n0, fl, n2, n3, ?_, h2⟩
  rw [upd_ne hp.symm]
  exact h1
theorem hid_mut {b p : Addr} {H H' : Hp} {o : HO} (e : Same (hid b H) (hid b H')) (hp : H p = none) : Same (hid b H) (hid b (L2.upd H' p o)) := fun a u h => by
  have h2 := hid_same b H a u h
  have h3 := hid_same b H' a u (e a u h)
  have hab : a ≠ b := fun z => by
    subst z
    unfold hid at h
    rw [if_pos rfl] at h
    cases h
  rw [hid_ne hab, upd_ne (ne_of_none h2 hp)]
  exact h3
theorem hid_find {b p : Addr} {H H' : Hp} {o : HO} (e : Same (hid b H) (hid b H')) (h : H p = some o) (hp : p ≠ b) : H' p = some o := hid_same b H' _ _ (e _ _ (hid_get h hp))
theorem ite_str {c : Prop} [Decidable c] {a b : Str} {σ : L2.St} {H : Hp} {k : VK} (h : ∀ z, (z = a ∨ z = b) → tC (.str z) σ H k) : if c then tC (.str a) σ H k else tC (.str b) σ H k := by
  split
  · exact h a (.inl rfl)
  · exact h b (.inr rfl)
def lim : Int := 1000000000
/-- a def that draws from the box at b at most k times, and gives what R tells -/
def spD (k : Int) (R : Hp → V → Prop) : Sp := fun vs H Q _ => ∃ b c, vs = [.ref b] ∧ Box H b c ∧ 0 ≤ c ∧ c + k ≤ lim ∧ ∀ v H', Same (hid b H) (hid b H') → Box H' b (c + k) → R (hid b H') v → Q v H'
theorem spD_len {k : Int} {R : Hp → V → Prop} (vs : List V) (H : Hp) (Q : VK) (E : XK) (h : spD k R vs H Q E) : vs.length = 1 := by
  obtain ⟨b, c, rfl, _⟩ := h
  rfl
def spTake : Sp := fun vs H Q _ => ∃ b c m, vs = [.ref b, .int m] ∧ Box H b c ∧ 0 < m ∧ m < 1073741824 ∧ 0 ≤ c ∧ c + 1 ≤ lim ∧ ∀ d H', Same (hid b H) (hid b H') → Box H' b (c + 1) → 0 ≤ d → d < m → Q (.int d) H'
def spCell (K : PySem.W.Frag) : Sp := fun vs H Q _ => ∃ (a : Addr) (ns : List Int) (k : Nat), vs = [.ref a, .int k] ∧ SqL K H a (ns.map V.int) ∧ ∀ n, Q (.int n) H
def spBox : Sp := fun vs H Q _ => ∃ n, vs = [.int n] ∧ ∀ p H', Same H H' → H p = none → Box H' p 0 → Q (.ref p) H'
theorem pow_small {i : Int} (h0 : 0 ≤ i) (h : i < 18446744073709551616) (j : Int) (hj : 0 ≤ j) (hj2 : j ≤ 1000000) : CPow i j := ⟨hj, hj2, by omega⟩
section
variable {P : Program} {w : World} {K : PySem.W.Frag} {mg : Str → Option Value} {base : Heap}
theorem ok__law_cell (T : Top K mg) : FnOk P w K mg base CX0 1 (He.ga K "_law_cell") T.f__law_cell.d ["_law_script", "_law_k"] (spCell K) := by
  refine T.f__law_cell.F.ok sc__law_cell (fun vs H Q E h => ?_) (fun cdv A outer s H vs Q E hr h => ?_)
  · obtain ⟨a, ns, k, rfl, _⟩ := h
    rfl
  obtain ⟨a, ns, k, rfl, hS, q⟩ := h
  refine ⟨_, (pss_one (ps_ret (pe_ifExp (pt_cmpR op_lt (pv 1) (pe_callB (call_lenK (K := K)) (by rfl) T.m_len (by decide +kernel) (pa_cons (pv 0) pa_nil)) (nomark _)) (pe_ix (ix_listK (K := K)) (pv 0) (pv 1) (fun _ _ => rfl)) pe_int))), ?_⟩
  refine ⟨_, rfl, _, rfl, .ref a, ns.length, rfl, .inl ⟨_, hS, (List.length_map ..).symm⟩, _, _, rfl, rfl, _, rfl, ?_⟩
  by_cases h : (k : Int) < ns.length
  · rw [decide_eq_true h]
    have hk : k < ns.length := by omega
    refine iteT ⟨_, rfl, _, rfl, a, _, k, .int ns[k], rfl, rfl, hS, atI_nat ?_, q _⟩
    rw [List.getElem?_map, List.getElem?_eq_getElem hk]
    rfl
  · rw [decide_eq_false h]
    exact iteF (q _)
theorem ok__law_box (T : Top K mg) : FnOk P w K mg base CX0 1 (He.ga K "_law_box") T.f__law_box.d ["_law_great"] spBox := by
  refine T.f__law_box.F.ok sc__law_box (fun vs H Q E h => ?_) (fun cdv A outer s H vs Q E hr h => ?_)
  · obtain ⟨n, rfl, _⟩ := h
    rfl
  obtain ⟨n, rfl, q⟩ := h
  refine ⟨_, (pss_one (ps_ret (pe_lst (pa_cons (pe_callB call_abs (by rfl) T.m_abs (by decide +kernel) (pa_cons (pv 0) pa_nil)) (pa_cons (pe_cmpR op_ge (pe_callB call_abs (by rfl) T.m_abs (by decide +kernel) (pa_cons (pv 0) pa_nil)) (pe_op op_pow pe_int pe_int) (nomark _)) (pa_cons (pe_op op_mod (pe_callTy call_int1 (by rfl) T.m_int (by decide +kernel) (pa_cons (pe_callB call_abs (by rfl) T.m_abs (by decide +kernel) (pa_cons (pv 0) pa_nil)) pa_nil)) pe_int) (pa_cons pe_int pa_nil))))))), ?_⟩
  refine ⟨_, rfl, n, rfl, _, rfl, n, rfl, 10, 18, rfl, rfl, ⟨by decide, by decide, by decide⟩, _, _, rfl, rfl, _, rfl, n, rfl, .inl ⟨_, rfl, _, 2147483629, rfl, rfl, show (0 : Int) < 2147483629 by decide, show 4 ≤ sizeLine by decide, fun p hp => ?_⟩⟩
  refine q p _ (same_upd hp) hp ⟨_, _, _, _, upd_same, ?_, ?_, ?_, by decide, by decide⟩
  · split <;> omega
  · exact Int.emod_nonneg _ (by decide)
  · exact Int.emod_lt_of_pos _ (by decide)
theorem ok__law_take (T : Top K mg) : FnOk P w K mg base CX0 1 (He.ga K "_law_take") T.f__law_take.d ["_law_box_here", "_law_many"] spTake := by
  refine T.f__law_take.F.ok sc__law_take (fun vs H Q E h => ?_) (fun cdv A outer s H vs Q E hr h => ?_)
  · obtain ⟨b, c, m, rfl, _⟩ := h
    rfl
  obtain ⟨b, c, m, rfl, ⟨n0, fl, n2, n3, hb, h0, h2, h2', h3, h3'⟩, hm, hm', hc, hcl, q⟩ := h
  have el : lim = 1000000000 := rfl
  refine ⟨_, (pss_cons (ps_if (pt_val (pe_ix (ix_listK (K := K)) (pv 0) pe_int (fun _ _ => rfl))) (pss_cons (ps_set (i := 2) sc__law_take.nd rfl (Or.inl rfl) (pe_op op_mod (pe_callTy call_int1 (by rfl) T.m_int (by decide +kernel) (pa_cons (pe_ix (ix_listK (K := K)) (pv 0) pe_int (fun _ _ => rfl)) pa_nil)) (pv 1)))
        (pss_cons (ps_asg (pe_op op_fdiv (pe_ix (ix_listK (K := K)) (pv 0) pe_int (fun _ _ => rfl)) (pv 1)) (pg_sub (pv 0) pe_int set_list))
        (pss_one (ps_ret (pv 2))))) pss_nil)
      (pss_cons (ps_asg (pe_op op_add (pe_ix (ix_listK (K := K)) (pv 0) pe_int (fun _ _ => rfl)) pe_int) (pg_sub (pv 0) pe_int set_list))
      (pss_cons (ps_set (i := 3) sc__law_take.nd rfl (Or.inl rfl) (pe_op op_mod (pe_callTy call_int1 (by rfl) T.m_int (by decide +kernel) (pa_cons (pe_op op_pow (pe_op op_add (pe_op op_add (pe_ix (ix_listK (K := K)) (pv 0) pe_int (fun _ _ => rfl)) (pe_op op_mul pe_int (pe_ix (ix_listK (K := K)) (pv 0) pe_int (fun _ _ => rfl)))) pe_int) pe_int) pa_nil)) pe_int))
      (pss_one (ps_ret (pe_op op_mod (pe_op op_fdiv (pe_op op_mod (pe_callTy call_int1 (by rfl) T.m_int (by decide +kernel) (pa_cons (pe_op op_pow (pe_op op_add (pe_op op_mul (pv 3) pe_int) (pe_op op_mul pe_int (pe_ix (ix_listK (K := K)) (pv 0) pe_int (fun _ _ => rfl)))) pe_int) pa_nil)) pe_int) pe_int) (pv 1))))))), ?_⟩
  refine ⟨.ref b, rfl, b, _, 1, .bl fl, rfl, rfl, .inl (.inl hb), rfl, _, rfl, ?_⟩
  cases fl with
  | true =>
    refine iteT ⟨.ref b, rfl, b, _, 0, .int n0, rfl, rfl, .inl (.inl hb), rfl, .inl ⟨n0, rfl, .int m, rfl, n0, m, rfl, rfl, hm, ?_⟩⟩
    refine ⟨.ref b, rfl, b, _, 0, .int n0, rfl, rfl, .inl (.inl hb), rfl, .int m, rfl, n0, m, rfl, rfl, ⟨hm, hm'⟩, .ref b, rfl, b, _, 0, 0, rfl, rfl, hb, rfl, ?_⟩
    refine ⟨_, rfl, ?_⟩
    refine q _ _ (by rw [hid_upd]; exact Same.refl _) ⟨n0 / m, true, n2, n3, upd_same, Int.ediv_nonneg h0 (by omega), h2, h2', h3, by omega⟩ (Int.emod_nonneg _ (by omega)) (Int.emod_lt_of_pos _ hm)
  | false =>
    refine iteF ?_
    refine ⟨.ref b, rfl, b, _, 3, .int n3, rfl, rfl, .inl (.inl hb), rfl, _, _, rfl, rfl, .ref b, rfl, b, _, 3, 3, rfl, rfl, hb, rfl, ?_⟩
    have hb2 : (upd H b (.lst [.int n0, .bl false, .int n2, .int (n3 + 1)])) b = some (.lst [.int n0, .bl false, .int n2, .int (n3 + 1)]) := upd_same
    refine ⟨.ref b, rfl, b, _, 2, .int n2, rfl, rfl, .inl (.inl hb2), rfl, .ref b, rfl, b, _, 3, .int (n3 + 1), rfl, rfl, .inl (.inl hb2), rfl, _, _, rfl, rfl, .inl ⟨by decide, by decide⟩, _, _, rfl, rfl, _, _, rfl, rfl, _, _, rfl, rfl, pow_small (by omega) (by omega) _ (by decide) (by decide), .inl ⟨_, rfl, _, _, rfl, rfl, show (0 : Int) < 2147483647 by decide, ?_⟩⟩
    generalize hM : ((n2 + 15485867 * (n3 + 1) + 179424907) ^ (5 : Int).toNat) % 2147483647 = M
    have hM0 : 0 ≤ M := by rw [← hM]; exact Int.emod_nonneg _ (by decide)
    have hM1 : M < 2147483647 := by rw [← hM]; exact Int.emod_lt_of_pos _ (by decide)
    refine ⟨_, rfl, _, _, rfl, rfl, .inr ⟨by decide, by decide⟩, .ref b, rfl, b, _, 3, .int (n3 + 1), rfl, rfl, .inl (.inl hb2), rfl, _, _, rfl, rfl, .inl ⟨by decide, by decide⟩, _, _, rfl, rfl, _, _, rfl, rfl, pow_small (by omega) (by omega) _ (by decide) (by decide), .inl ⟨_, rfl, _, _, rfl, rfl, show (0 : Int) < 2147483587 by decide, _, _, rfl, rfl, ⟨by decide, by decide⟩, .int m, rfl, _, _, rfl, rfl, hm, ?_⟩⟩
    refine q _ _ (by rw [hid_upd]; exact Same.refl _) ⟨n0, false, n2, n3 + 1, upd_same, h0, h2, h2', by omega, by omega⟩ (Int.emod_nonneg _ (by omega)) (Int.emod_lt_of_pos _ hm)
end
end Kx

set_option Elab.async false
set_option linter.all false
set_option maxRecDepth 100000
set_option maxHeartbeats 4000000
namespace Kx
open PySem PySem.Spec PyProof.Rows L2
/-! ### a new list that grows -/
def hidA (b : Addr) (H : Hp) : Hp := fun a => if a = b then none else H a
theorem hidA_ne {b a : Addr} {H : Hp} (h : a ≠ b) : hidA b H a = H a := if_neg h
theorem hidA_some {b a : Addr} {H : Hp} {o : HO} (h : hidA b H a = some o) : a ≠ b ∧ H a = some o := by
  unfold hidA at h
  split at h
  · cases h
  · rename_i n
    exact ⟨n, h⟩
theorem hidA_same {b : Addr} {H : Hp} : Same (hidA b H) H := fun a o h => (hidA_some h).2
theorem hidA_mono {b : Addr} {H H' : Hp} (e : Same H H') : Same (hidA b H) (hidA b H') := fun a o h => by
  obtain ⟨n, k⟩ := hidA_some h
  rw [hidA_ne n]
  exact e _ _ k
theorem hidA_upd {b : Addr} {H : Hp} {o : HO} : hidA b (upd H b o) = hidA b H := by
  funext a
  unfold hidA upd
  split <;> simp_all
/-- what stood before b was new -/
theorem hidA_new {b : Addr} {H H' : Hp} (e : Same H H') (h : H b = none) : Same H (hidA b H') := fun a o k => by
  rw [hidA_ne (ne_of_none k h)]
  exact e _ _ k
theorem free_upd {H H' : Hp} {p : Addr} {o : HO} (e : Same H H') (h : H p = none) : Same H (upd H' p o) := fun a u k => by
  rw [upd_ne (ne_of_none k h)]
  exact e _ _ k
section
variable {K : PySem.W.Frag} {H0 H00 : Hp} {σ : L2.St} {n : Nat} {te t1 t2 : TE} {x : V} {i : Nat} {rest : TS} {D : Ends}
/-- a new pair -/
def EvP (H0 : Hp) (te : TE) (σ : L2.St) (x : V) : Prop := ∀ H (Q : VK), Same H0 H → (∀ a H', Same H H' → H a = none → a ≠ sysModules → H' a = some (.lst [x, x]) → Q (.ref a) H') → te σ H Q
theorem ev_pair (h : EvS H0 t1 σ (isv x)) (k : EvS H0 t2 σ (isv x)) : EvP H0 (tLstB (tCons t1 (tCons t2 tNil))) σ x := fun H Q s q =>
  h H _ s fun v H1 s1 r1 => k H1 _ (s.trans s1) fun u H2 s2 r2 => ⟨show 2 ≤ sizeLine by decide, fun a ha na => q a _ ((s1.trans s2).trans (same_upd ha)) (s1.free (s2.free ha)) na (by rw [upd_same, show v = x from r1, show u = x from r2])⟩
/-- at p: a list of n pairs of x, none of them at p -/
def HeldAt (n : Nat) (x : V) (H : Hp) (p : Addr) : Prop := ∃ vs, H p = some (.lst vs) ∧ vs.length = n ∧ ∀ v ∈ vs, ∃ a, v = .ref a ∧ a ≠ p ∧ a ≠ sysModules ∧ H a = some (.lst [x, x])
theorem HeldAt.mono {p : Addr} {H H' : Hp} (e : Same H H') (h : HeldAt n x H p) : HeldAt n x H' p := by
  obtain ⟨vs, h1, h2, h3⟩ := h
  refine ⟨vs, e _ _ h1, h2, fun v hv => ?_⟩
  obtain ⟨a, k1, k2, k3, k4⟩ := h3 v hv
  exact ⟨a, k1, k2, k3, e _ _ k4⟩
theorem HeldAt.allU {p : Addr} {H : Hp} (h : HeldAt n x H p) : ∃ vs, H p = some (.lst vs) ∧ AllU n (lstq [x, x]) H vs := by
  obtain ⟨vs, h1, h2, h3⟩ := h
  refine ⟨vs, h1, h2, fun v hv => ?_⟩
  obtain ⟨a, k1, k2, k3, k4⟩ := h3 v hv
  exact ⟨a, k1, k4, k3⟩
theorem held_new (s0 : Same H00 H0) (h : EvP H0 te σ x) (q : ∀ p H', Same H00 H' → Same H0 H' → H0 p = none → H00 p = none → HeldAt 1 x H' p → rest D (σ.set i (some (.ref p))) H') : tSeq (tAsg (tLst (tCons te tNil)) (gName i)) rest D σ H0 :=
  h H0 _ (Same.refl _) fun a H1 s1 n1 na e1 => ⟨show 1 ≤ sizeLine by decide, fun p hp => q p _ (s0.trans (s1.trans (same_upd hp))) (s1.trans (same_upd hp)) (s1.free hp) (s0.free (s1.free hp)) ⟨_, upd_same, rfl, fun v hv => by
    rw [List.mem_singleton.mp hv]
    have nap := ne_of_none e1 hp
    exact ⟨a, rfl, nap, na, by rw [upd_ne nap]; exact e1⟩⟩⟩
theorem held_step {p : Addr} (s0 : Same H00 H0) (n0 : H00 p = none) (hi : σ[i]? = some (some (.ref p))) (hp : HeldAt n x H0 p) (hn : n ≤ 900) (h : EvP H0 te σ x) (q : ∀ H', Same H00 H' → Same (hidA p H0) (hidA p H') → HeldAt (n + 1) x H' p → rest D σ H') : tSeq (tDrop (tBM K "list" rAppend (tVar i) (tCons te tNil))) rest D σ H0 := by
  obtain ⟨vs, h1, h2, h3⟩ := hp
  refine ⟨_, hi, .inl ⟨rfl, vs, .inl (.inl h1)⟩, h H0 _ (Same.refl _) fun a H1 s1 na nm e1 => ⟨p, vs, .ref a, rfl, rfl, s1 _ _ h1, Nat.lt_of_le_of_lt (by rw [h2]; exact hn) (by decide), q _ (free_upd (s0.trans s1) n0) (by rw [hidA_upd]; exact hidA_mono s1) ⟨_, upd_same, by rw [List.length_append, h2]; rfl, fun v hv => ?_⟩⟩⟩
  rcases List.mem_append.mp hv with hv | hv
  · obtain ⟨b, k1, k2, k3, k4⟩ := h3 v hv
    exact ⟨b, k1, k2, k3, by rw [upd_ne k2]; exact s1 _ _ k4⟩
  · rw [List.mem_singleton.mp hv]
    have nap : a ≠ p := (ne_of_none h1 na).symm
    exact ⟨a, rfl, nap, nm, by rw [upd_ne nap]; exact e1⟩
theorem held_ret {p : Addr} (s0 : Same H00 H0) (hi : σ[i]? = some (some (.ref p))) (hp : HeldAt n x H0 p) (hn : n ≤ 900) (h : EvP H0 te σ x) (q : ∀ l xs H', Same H00 H' → H00 l = none → H' l = some (.lst xs) → AllU (n + 1) (lstq [x, x]) H' xs → D.rt (.ref l) H') : tRet (tOp rCat (tVar i) (tLst (tCons te tNil))) D σ H0 := by
  obtain ⟨vs, h1, h2, h3⟩ := hp
  refine ⟨_, hi, h H0 _ (Same.refl _) fun a H1 s1 na nm e1 => ⟨show 1 ≤ sizeLine by decide, fun l hl => ⟨p, l, vs, _, rfl, rfl, by rw [upd_ne (ne_of_none (s1 _ _ h1) hl)]; exact s1 _ _ h1, upd_same, Nat.le_trans (Nat.add_le_add_right (by rw [h2]; exact hn) 1) (by decide), fun r hr => ?_⟩⟩⟩
  have s2 : Same H1 (upd (upd H1 l (.lst [.ref a])) r (.lst (vs ++ [.ref a]))) := (same_upd hl).trans (same_upd hr)
  refine q r _ _ (s0.trans (s1.trans s2)) (s0.free (s1.free ((same_upd hl).free hr))) upd_same ⟨by rw [List.length_append, h2]; rfl, fun v hv => ?_⟩
  rcases List.mem_append.mp hv with hv | hv
  · obtain ⟨b, k1, k2, k3, k4⟩ := h3 v hv
    exact ⟨b, k1, (s1.trans s2) _ _ k4, k3⟩
  · rw [List.mem_singleton.mp hv]
    exact ⟨a, rfl, s2 _ _ e1, nm⟩
/-- one more exception -/
theorem exA_step {L : List Addr} {p : Addr} {xs : List V} (s0 : Same H00 H0) (n0 : H00 p = none) (hi : σ[i]? = some (some (.ref p))) (hp : H0 p = some (.lst xs)) (hr : AllU n (exA K L) H0 xs) (hn : n ≤ 900) (h : EvS H0 te σ (exA K L))
    (q : ∀ xs' H', Same H00 H' → H' p = some (.lst xs') → AllU (n + 1) (exA K L) H' xs' → rest D σ H') : tSeq (tDrop (tBM K "list" rAppend (tVar i) (tCons te tNil))) rest D σ H0 := by
  refine ⟨_, hi, .inl ⟨rfl, xs, .inl (.inl hp)⟩, h H0 _ (Same.refl _) fun v H1 s1 r1 => ⟨p, xs, v, rfl, rfl, s1 _ _ hp, Nat.lt_of_le_of_lt (by rw [hr.len]; exact hn) (by decide), q _ _ (free_upd (s0.trans s1) n0) upd_same ⟨by rw [List.length_append, hr.len]; rfl, fun u hu => ?_⟩⟩⟩
  have key : (exA K L).p H1 u := by
    rcases List.mem_append.mp hu with hu | hu
    · exact (exA K L).mono s1 (hr.all u hu)
    · rw [List.mem_singleton.mp hu]
      exact r1
  obtain ⟨a, C, e1, o, e2, e3, e4⟩ := key
  have hp1 := s1 _ _ hp
  have nl : ∀ {b : Addr} {f : Heap → Prop}, H1 b = some (.ext f) → b ≠ p := fun hb z => by
    rw [z, hp1] at hb
    cases hb
  refine ⟨a, C, e1, o, ?_, fun dd hd => ?_, e4⟩
  · rw [upd_ne (nl (show H1 a = some (.ext _) from e2))]
    exact e2
  · obtain ⟨fs, k⟩ := e3 dd hd
    refine ⟨fs, ?_⟩
    rw [upd_ne (nl (show H1 dd = some (.ext _) from k))]
    exact k
end
/-! ### promises -/
def spSame : Sp := fun vs H Q _ => ∃ v u d, vs = [v, u] ∧ Off H v d ∧ Off H u d ∧ d.showable = true ∧ d.depth ≤ 60 ∧ d.shown.length ≤ sizeLine ∧ Q (.bl true) H
theorem spSame_len (vs : List V) (H : Hp) (Q : VK) (E : XK) (h : spSame vs H Q E) : vs.length = 2 := by
  obtain ⟨x, y, d, rfl, _⟩ := h
  rfl
def spLone : Sp := fun vs H Q _ => ∃ x, vs = [x] ∧ ∀ p xs H', Same H H' → H p = none → H' p = some (.lst xs) → AllU 7 (lstq [x, x]) H' xs → Q (.ref p) H'
theorem spLone_len (vs : List V) (H : Hp) (Q : VK) (E : XK) (h : spLone vs H Q E) : vs.length = 1 := by
  obtain ⟨x, rfl, _⟩ := h
  rfl
def spPairs : Sp := fun vs H Q _ => ∃ x y, vs = [x, y] ∧ ∀ p p1 p2 xs ys H', Same H H' → H' p = some (.lst [.ref p1, .ref p2]) → H' p1 = some (.lst xs) → H' p2 = some (.lst ys) → AllU 3 (lstq [x, x]) H' xs → AllU 3 (lstq [y, y]) H' ys → Q (.ref p) H'
theorem spPairs_len (vs : List V) (H : Hp) (Q : VK) (E : XK) (h : spPairs vs H Q E) : vs.length = 2 := by
  obtain ⟨x, y, rfl, _⟩ := h
  rfl
def spAll (K : PySem.W.Frag) (L : List Addr) (n : Nat) : Sp := fun vs H Q _ => ∃ x, vs = [x] ∧ ∀ p xs H', Same H H' → H p = none → H' p = some (.lst xs) → AllU n (exA K L) H' xs → Q (.ref p) H'
theorem spAll_len {K : PySem.W.Frag} {L : List Addr} {n : Nat} (vs : List V) (H : Hp) (Q : VK) (E : XK) (h : spAll K L n vs H Q E) : vs.length = 1 := by
  obtain ⟨x, rfl, _⟩ := h
  rfl
end Kx

set_option Elab.async false
set_option linter.all false
set_option maxRecDepth 100000
set_option maxHeartbeats 4000000
namespace Kx
open PySem PySem.Spec PyProof.Rows L2
section
variable {P : Program} {w : World} {K : PySem.W.Frag} {mg : Str → Option Value} {base : Heap}
theorem ok__law_same (T : Top K mg) : FnG P w K mg base CX0 1 (He.ga K "_law_same") T.f__law_same.d ["_law_found", "_law_thing"] spSame := by
  refine Fun.okG T.f__law_same.F sc__law_same spSame_len (fun cdv A outer s H vs Q E hgd hr h => ?_)
  obtain ⟨x, y, d, rfl, hx, hy, h1, h2, h3, q⟩ := h
  refine ⟨_, (pss_one (ps_ret (pe_and (pe_cmpR op_eq (pe_callB (call_reprG hgd hr.units) (by rfl) T.m_repr (by decide +kernel) (pa_cons (pv 0) pa_nil)) (pe_callB (call_reprG hgd hr.units) (by rfl) T.m_repr (by decide +kernel) (pa_cons (pv 1) pa_nil)) (nomark _)) (pe_one (pe_cmpR op_eq (pe_callB (call_isiK1 (K := K)) (by rfl) T.m_isinstance (by decide +kernel) (pa_cons (pv 0) (pa_cons (pe_bltn (v := .ty "bool") (by rfl) T.m_bool (by decide +kernel) rfl) pa_nil))) (pe_callB (call_isiK1 (K := K)) (by rfl) T.m_isinstance (by decide +kernel) (pa_cons (pv 1) (pa_cons (pe_bltn (v := .ty "bool") (by rfl) T.m_bool (by decide +kernel) rfl) pa_nil))) (nomark _)))))), ?_⟩
  refine ⟨x, rfl, x, d, rfl, hx, h1, h2, h3, y, rfl, y, d, rfl, hy, h1, h2, h3, rfl, true, by rw [decide_eq_true rfl], iteT ?_⟩
  refine ⟨x, rfl, x, .ty "bool", _, _, _, rfl, .ty _, hx.rp.ty, kit_bool d, y, rfl, y, .ty "bool", _, _, _, rfl, .ty _, hy.rp.ty, kit_bool d, rfl, ?_⟩
  rw [decide_eq_true rfl]
  exact q
theorem ok__law_lone (T : Top K mg) : FnOk P w K mg base CX0 3 (He.ga K "_law_lone") T.f__law_lone.d ["_law_thing"] (spLone) := by
  refine T.f__law_lone.F.ok sc__law_lone spLone_len (fun cdv A outer s H vs Q E hr h => ?_)
  obtain ⟨x, rfl, q⟩ := h
  refine ⟨_, (pss_cons (ps_set (i := 1) sc__law_lone.nd rfl (Or.inl rfl) (pe_lst (pa_cons (pe_lstB (pa_cons (pe_exf (K := K) (pe_exv T.k_NotRight.x.oex T.k_NotRight.iC T.k_NotRight.tI T.k_NotRight.ok (hr.mono (by decide)) T.k_NotRight.b (by rfl) T.k_NotRight.g (pa_cons (pv 0) pa_nil))) (pa_cons (pe_exf (K := K) (pe_exK T.k_NotRight.x.oex T.k_NotRight.iC T.k_NotRight.tI T.k_NotRight.ok (hr.mono (by decide)) T.k_NotRight.kb (by rfl) T.k_NotRight.g (pk_cons (pv 0) pk_nil))) pa_nil))) pa_nil)))
      (pss_cons (ps_expr (pe_bm PySem.F.plainAttrs_list PySem.F.slot_list_append PySem.F.type_list_append mt_append (pv 1) (pa_cons (pe_lstB (pa_cons (pe_exf (K := K) (pe_exv T.k_RoomTaken.x.oex T.k_RoomTaken.iC T.k_RoomTaken.tI T.k_RoomTaken.ok (hr.mono (by decide)) T.k_RoomTaken.b (by rfl) T.k_RoomTaken.g (pa_cons (pv 0) pa_nil))) (pa_cons (pe_exf (K := K) (pe_exK T.k_RoomTaken.x.oex T.k_RoomTaken.iC T.k_RoomTaken.tI T.k_RoomTaken.ok (hr.mono (by decide)) T.k_RoomTaken.kb (by rfl) T.k_RoomTaken.g (pk_cons (pv 0) pk_nil))) pa_nil))) pa_nil)))
      (pss_cons (ps_expr (pe_bm PySem.F.plainAttrs_list PySem.F.slot_list_append PySem.F.type_list_append mt_append (pv 1) (pa_cons (pe_lstB (pa_cons (pe_exf (K := K) (pe_exv T.k_UnknownRoom.x.oex T.k_UnknownRoom.iC T.k_UnknownRoom.tI T.k_UnknownRoom.ok (hr.mono (by decide)) T.k_UnknownRoom.b (by rfl) T.k_UnknownRoom.g (pa_cons (pv 0) pa_nil))) (pa_cons (pe_exf (K := K) (pe_exK T.k_UnknownRoom.x.oex T.k_UnknownRoom.iC T.k_UnknownRoom.tI T.k_UnknownRoom.ok (hr.mono (by decide)) T.k_UnknownRoom.kb (by rfl) T.k_UnknownRoom.g (pk_cons (pv 0) pk_nil))) pa_nil))) pa_nil)))
      (pss_cons (ps_expr (pe_bm PySem.F.plainAttrs_list PySem.F.slot_list_append PySem.F.type_list_append mt_append (pv 1) (pa_cons (pe_lstB (pa_cons (pe_exf (K := K) (pe_exv T.k_Lacking.x.oex T.k_Lacking.iC T.k_Lacking.tI T.k_Lacking.ok (hr.mono (by decide)) T.k_Lacking.b (by rfl) T.k_Lacking.g (pa_cons (pv 0) pa_nil))) (pa_cons (pe_exf (K := K) (pe_exK T.k_Lacking.x.oex T.k_Lacking.iC T.k_Lacking.tI T.k_Lacking.ok (hr.mono (by decide)) T.k_Lacking.kb (by rfl) T.k_Lacking.g (pk_cons (pv 0) pk_nil))) pa_nil))) pa_nil)))
      (pss_cons (ps_expr (pe_bm PySem.F.plainAttrs_list PySem.F.slot_list_append PySem.F.type_list_append mt_append (pv 1) (pa_cons (pe_lstB (pa_cons (pe_exf (K := K) (pe_exv T.k_NoLine.x.oex T.k_NoLine.iC T.k_NoLine.tI T.k_NoLine.ok (hr.mono (by decide)) T.k_NoLine.b (by rfl) T.k_NoLine.g (pa_cons (pv 0) pa_nil))) (pa_cons (pe_exf (K := K) (pe_exK T.k_NoLine.x.oex T.k_NoLine.iC T.k_NoLine.tI T.k_NoLine.ok (hr.mono (by decide)) T.k_NoLine.kb (by rfl) T.k_NoLine.g (pk_cons (pv 0) pk_nil))) pa_nil))) pa_nil)))
      (pss_cons (ps_expr (pe_bm PySem.F.plainAttrs_list PySem.F.slot_list_append PySem.F.type_list_append mt_append (pv 1) (pa_cons (pe_lstB (pa_cons (pe_exf (K := K) (pe_exv T.k_TooMany.x.oex T.k_TooMany.iC T.k_TooMany.tI T.k_TooMany.ok (hr.mono (by decide)) T.k_TooMany.b (by rfl) T.k_TooMany.g (pa_cons (pv 0) pa_nil))) (pa_cons (pe_exf (K := K) (pe_exK T.k_TooMany.x.oex T.k_TooMany.iC T.k_TooMany.tI T.k_TooMany.ok (hr.mono (by decide)) T.k_TooMany.kb (by rfl) T.k_TooMany.g (pk_cons (pv 0) pk_nil))) pa_nil))) pa_nil)))
      (pss_one (ps_ret (pe_op op_cat (pv 1) (pe_lst (pa_cons (pe_lstB (pa_cons (pe_exf (K := K) (pe_exv T.k_Unfit.x.oex T.k_Unfit.iC T.k_Unfit.tI T.k_Unfit.ok (hr.mono (by decide)) T.k_Unfit.b (by rfl) T.k_Unfit.g (pa_cons (pv 0) pa_nil))) (pa_cons (pe_exf (K := K) (pe_exK T.k_Unfit.x.oex T.k_Unfit.iC T.k_Unfit.tI T.k_Unfit.ok (hr.mono (by decide)) T.k_Unfit.kb (by rfl) T.k_Unfit.g (pk_cons (pv 0) pk_nil))) pa_nil))) pa_nil))))))))))), ?_⟩
  refine held_new (H00 := H) (Same.refl _) (ev_pair (ev_fld (ev_X1 T.k_NotRight (evs_v rfl))) (ev_fld (ev_K1 T.k_NotRight (evs_v rfl)))) fun p H0 s0 _ _ n0 h0 => ?_
  refine held_step s0 n0 rfl h0 (by decide) (ev_pair (ev_fld (ev_X1 T.k_RoomTaken (evs_v rfl))) (ev_fld (ev_K1 T.k_RoomTaken (evs_v rfl)))) fun H1 s1 _ h1 => ?_
  refine held_step s1 n0 rfl h1 (by decide) (ev_pair (ev_fld (ev_X1 T.k_UnknownRoom (evs_v rfl))) (ev_fld (ev_K1 T.k_UnknownRoom (evs_v rfl)))) fun H2 s2 _ h2 => ?_
  refine held_step s2 n0 rfl h2 (by decide) (ev_pair (ev_fld (ev_X1 T.k_Lacking (evs_v rfl))) (ev_fld (ev_K1 T.k_Lacking (evs_v rfl)))) fun H3 s3 _ h3 => ?_
  refine held_step s3 n0 rfl h3 (by decide) (ev_pair (ev_fld (ev_X1 T.k_NoLine (evs_v rfl))) (ev_fld (ev_K1 T.k_NoLine (evs_v rfl)))) fun H4 s4 _ h4 => ?_
  refine held_step s4 n0 rfl h4 (by decide) (ev_pair (ev_fld (ev_X1 T.k_TooMany (evs_v rfl))) (ev_fld (ev_K1 T.k_TooMany (evs_v rfl)))) fun H5 s5 _ h5 => ?_
  exact held_ret s5 rfl h5 (by decide) (ev_pair (ev_fld (ev_X1 T.k_Unfit (evs_v rfl))) (ev_fld (ev_K1 T.k_Unfit (evs_v rfl)))) fun l xs H' s' n' e' r' => q l xs H' s' n' e' r'
theorem ok__law_pairs (T : Top K mg) : FnOk P w K mg base CX0 3 (He.ga K "_law_pairs") T.f__law_pairs.d ["_law_one", "_law_other"] (spPairs) := by
  refine T.f__law_pairs.F.ok sc__law_pairs spPairs_len (fun cdv A outer s H vs Q E hr h => ?_)
  obtain ⟨x, y, rfl, q⟩ := h
  refine ⟨_, (pss_cons (ps_set (i := 2) sc__law_pairs.nd rfl (Or.inl rfl) (pe_lst (pa_cons (pe_lstB (pa_cons (pe_exf (K := K) (pe_exv T.k_NotAhead.x.oex T.k_NotAhead.iC T.k_NotAhead.tI T.k_NotAhead.ok (hr.mono (by decide)) T.k_NotAhead.b (by rfl) T.k_NotAhead.g (pa_cons (pv 0) (pa_cons (pv 1) pa_nil)))) (pa_cons (pe_exf (K := K) (pe_exK T.k_NotAhead.x.oex T.k_NotAhead.iC T.k_NotAhead.tI T.k_NotAhead.ok (hr.mono (by decide)) T.k_NotAhead.kb (by rfl) T.k_NotAhead.g (pk_cons (pv 0) (pk_cons (pv 1) pk_nil)))) pa_nil))) pa_nil)))
      (pss_cons (ps_expr (pe_bm PySem.F.plainAttrs_list PySem.F.slot_list_append PySem.F.type_list_append mt_append (pv 2) (pa_cons (pe_lstB (pa_cons (pe_exf (K := K) (pe_exv T.k_Against.x.oex T.k_Against.iC T.k_Against.tI T.k_Against.ok (hr.mono (by decide)) T.k_Against.b (by rfl) T.k_Against.g (pa_cons (pv 0) (pa_cons (pv 1) pa_nil)))) (pa_cons (pe_exf (K := K) (pe_exK T.k_Against.x.oex T.k_Against.iC T.k_Against.tI T.k_Against.ok (hr.mono (by decide)) T.k_Against.kr (by rfl) T.k_Against.g (pk_cons (pv 1) (pk_cons (pv 0) pk_nil)))) pa_nil))) pa_nil)))
      (pss_cons (ps_expr (pe_bm PySem.F.plainAttrs_list PySem.F.slot_list_append PySem.F.type_list_append mt_append (pv 2) (pa_cons (pe_lstB (pa_cons (pe_exf (K := K) (pe_exv T.k_NotWithin.x.oex T.k_NotWithin.iC T.k_NotWithin.tI T.k_NotWithin.ok (hr.mono (by decide)) T.k_NotWithin.b (by rfl) T.k_NotWithin.g (pa_cons (pv 0) (pa_cons (pv 1) pa_nil)))) (pa_cons (pe_exf (K := K) (pe_exK T.k_NotWithin.x.oex T.k_NotWithin.iC T.k_NotWithin.tI T.k_NotWithin.ok (hr.mono (by decide)) T.k_NotWithin.kb (by rfl) T.k_NotWithin.g (pk_cons (pv 0) (pk_cons (pv 1) pk_nil)))) pa_nil))) pa_nil)))
      (pss_cons (ps_set (i := 3) sc__law_pairs.nd rfl (Or.inl rfl) (pe_lst (pa_cons (pe_lstB (pa_cons (pe_exf (K := K) (pe_exv T.k_NotAhead.x.oex T.k_NotAhead.iC T.k_NotAhead.tI T.k_NotAhead.ok (hr.mono (by decide)) T.k_NotAhead.b (by rfl) T.k_NotAhead.g (pa_cons (pv 0) (pa_cons (pv 1) pa_nil)))) (pa_cons (pe_exf (K := K) (pe_exK T.k_NotAhead.x.oex T.k_NotAhead.iC T.k_NotAhead.tI T.k_NotAhead.ok (hr.mono (by decide)) T.k_NotAhead.kb (by rfl) T.k_NotAhead.g (pk_cons (pv 0) (pk_cons (pv 1) pk_nil)))) pa_nil))) pa_nil)))
      (pss_cons (ps_expr (pe_bm PySem.F.plainAttrs_list PySem.F.slot_list_append PySem.F.type_list_append mt_append (pv 3) (pa_cons (pe_lstB (pa_cons (pe_exf (K := K) (pe_exv T.k_Against.x.oex T.k_Against.iC T.k_Against.tI T.k_Against.ok (hr.mono (by decide)) T.k_Against.b (by rfl) T.k_Against.g (pa_cons (pv 0) (pa_cons (pv 1) pa_nil)))) (pa_cons (pe_exf (K := K) (pe_exK T.k_Against.x.oex T.k_Against.iC T.k_Against.tI T.k_Against.ok (hr.mono (by decide)) T.k_Against.kr (by rfl) T.k_Against.g (pk_cons (pv 1) (pk_cons (pv 0) pk_nil)))) pa_nil))) pa_nil)))
      (pss_cons (ps_expr (pe_bm PySem.F.plainAttrs_list PySem.F.slot_list_append PySem.F.type_list_append mt_append (pv 3) (pa_cons (pe_lstB (pa_cons (pe_exf (K := K) (pe_exv T.k_NotWithin.x.oex T.k_NotWithin.iC T.k_NotWithin.tI T.k_NotWithin.ok (hr.mono (by decide)) T.k_NotWithin.b (by rfl) T.k_NotWithin.g (pa_cons (pv 0) (pa_cons (pv 1) pa_nil)))) (pa_cons (pe_exf (K := K) (pe_exK T.k_NotWithin.x.oex T.k_NotWithin.iC T.k_NotWithin.tI T.k_NotWithin.ok (hr.mono (by decide)) T.k_NotWithin.kr (by rfl) T.k_NotWithin.g (pk_cons (pv 1) (pk_cons (pv 0) pk_nil)))) pa_nil))) pa_nil)))
      (pss_one (ps_ret (pe_lst (pa_cons (pv 2) (pa_cons (pv 3) pa_nil))))))))))), ?_⟩
  refine held_new (H00 := H) (Same.refl _) (ev_pair (ev_fld (ev_X2 T.k_NotAhead (by decide) (evs_v rfl) (evs_v rfl))) (ev_fld (ev_K2 T.k_NotAhead (by decide) (evs_v rfl) (evs_v rfl)))) fun p H0 s0 _ _ n0 h0 => ?_
  refine held_step s0 n0 rfl h0 (by decide) (ev_pair (ev_fld (ev_X2 T.k_Against (by decide) (evs_v rfl) (evs_v rfl))) (ev_fld (ev_R2 T.k_Against (by decide) (evs_v rfl) (evs_v rfl)))) fun H1 s1 _ h1 => ?_
  refine held_step s1 n0 rfl h1 (by decide) (ev_pair (ev_fld (ev_X2 T.k_NotWithin (by decide) (evs_v rfl) (evs_v rfl))) (ev_fld (ev_K2 T.k_NotWithin (by decide) (evs_v rfl) (evs_v rfl)))) fun H2 s2 _ h2 => ?_
  refine held_new s2 (ev_pair (ev_fld (ev_X2b T.k_NotAhead (evs_v rfl) (evs_v rfl))) (ev_fld (ev_K2b T.k_NotAhead (evs_v rfl) (evs_v rfl)))) fun r H3 s3 t3 f3 n3 g3 => ?_
  have h3 := h2.mono (hidA_new t3 f3)
  refine held_step s3 n3 rfl g3 (by decide) (ev_pair (ev_fld (ev_X2b T.k_Against (evs_v rfl) (evs_v rfl))) (ev_fld (ev_R2b T.k_Against (evs_v rfl) (evs_v rfl)))) fun H4 s4 t4 g4 => ?_
  have h4 := h3.mono t4
  refine held_step s4 n3 rfl g4 (by decide) (ev_pair (ev_fld (ev_X2b T.k_NotWithin (evs_v rfl) (evs_v rfl))) (ev_fld (ev_R2b T.k_NotWithin (evs_v rfl) (evs_v rfl)))) fun H5 s5 t5 g5 => ?_
  have h5 := (h4.mono t5).mono hidA_same
  obtain ⟨xs, e1, r1⟩ := h5.allU
  obtain ⟨ys, e2, r2⟩ := g5.allU
  refine ⟨_, rfl, _, rfl, show 2 ≤ sizeLine by decide, fun l hl => ?_⟩
  exact q l p r xs ys _ (s5.trans (same_upd hl)) upd_same (same_upd hl _ _ e1) (same_upd hl _ _ e2) (r1.mono (same_upd hl)) (r2.mono (same_upd hl))
theorem ok__law_all (T : Top K mg) : FnOk P w K mg base CX0 4 (He.ga K "_law_all") T.f__law_all.d ["_law_thing"] (spAll K (kindsL K) 73) := by
  refine T.f__law_all.F.ok sc__law_all spAll_len (fun cdv A outer s H vs Q E hr h => ?_)
  obtain ⟨x, rfl, q⟩ := h
  refine ⟨_, (pss_cons (ps_set (i := 1) sc__law_all.nd rfl (Or.inl rfl) (pe_op op_cat (pe_op op_cat (pe_call (ok__law_givens T) (hr.mono (by decide)) (by rfl) T.f__law_givens.g T.f__law_givens.F.kp T.f__law_givens.b .nil pass0 (pa_cons (pv 0) pa_nil)) (pe_call (ok__law_keys T) (hr.mono (by decide)) (by rfl) T.f__law_keys.g T.f__law_keys.F.kp T.f__law_keys.b .nil pass0 (pa_cons (pv 0) pa_nil))) (pe_call (ok__law_persons T) (hr.mono (by decide)) (by rfl) T.f__law_persons.g T.f__law_persons.F.kp T.f__law_persons.b .nil pass0 (pa_cons (pv 0) pa_nil))))
      (pss_cons (ps_set (i := 1) sc__law_all.nd rfl (Or.inl rfl) (pe_op op_cat (pv 1) (pe_lst (pa_cons (pe_exv T.k_NotRight.x.oex T.k_NotRight.iC T.k_NotRight.tI T.k_NotRight.ok (hr.mono (by decide)) T.k_NotRight.b (by rfl) T.k_NotRight.g (pa_cons (pv 0) pa_nil)) (pa_cons (pe_exv T.k_RoomTaken.x.oex T.k_RoomTaken.iC T.k_RoomTaken.tI T.k_RoomTaken.ok (hr.mono (by decide)) T.k_RoomTaken.b (by rfl) T.k_RoomTaken.g (pa_cons (pv 0) pa_nil)) (pa_cons (pe_exv T.k_UnknownRoom.x.oex T.k_UnknownRoom.iC T.k_UnknownRoom.tI T.k_UnknownRoom.ok (hr.mono (by decide)) T.k_UnknownRoom.b (by rfl) T.k_UnknownRoom.g (pa_cons (pv 0) pa_nil)) pa_nil))))))
      (pss_cons (ps_set (i := 1) sc__law_all.nd rfl (Or.inl rfl) (pe_op op_cat (pv 1) (pe_lst (pa_cons (pe_exv T.k_Lacking.x.oex T.k_Lacking.iC T.k_Lacking.tI T.k_Lacking.ok (hr.mono (by decide)) T.k_Lacking.b (by rfl) T.k_Lacking.g (pa_cons (pv 0) pa_nil)) (pa_cons (pe_exv T.k_NoLine.x.oex T.k_NoLine.iC T.k_NoLine.tI T.k_NoLine.ok (hr.mono (by decide)) T.k_NoLine.b (by rfl) T.k_NoLine.g (pa_cons (pv 0) pa_nil)) pa_nil)))))
      (pss_cons (ps_set (i := 1) sc__law_all.nd rfl (Or.inl rfl) (pe_op op_cat (pe_op op_cat (pv 1) (pe_call (ok__law_numbers T) (hr.mono (by decide)) (by rfl) T.f__law_numbers.g T.f__law_numbers.F.kp T.f__law_numbers.b .nil pass0 (pa_cons (pv 0) pa_nil))) (pe_lst (pa_cons (pe_exv T.k_TooMany.x.oex T.k_TooMany.iC T.k_TooMany.tI T.k_TooMany.ok (hr.mono (by decide)) T.k_TooMany.b (by rfl) T.k_TooMany.g (pa_cons (pv 0) pa_nil)) (pa_cons (pe_exv T.k_Unfit.x.oex T.k_Unfit.iC T.k_Unfit.tI T.k_Unfit.ok (hr.mono (by decide)) T.k_Unfit.b (by rfl) T.k_Unfit.g (pa_cons (pv 0) pa_nil)) (pa_cons (pe_exv T.k_NotAhead.x.oex T.k_NotAhead.iC T.k_NotAhead.tI T.k_NotAhead.ok (hr.mono (by decide)) T.k_NotAhead.b (by rfl) T.k_NotAhead.g (pa_cons (pv 0) (pa_cons pe_int pa_nil))) (pa_cons (pe_exv T.k_Against.x.oex T.k_Against.iC T.k_Against.tI T.k_Against.ok (hr.mono (by decide)) T.k_Against.b (by rfl) T.k_Against.g (pa_cons (pv 0) (pa_cons pe_int pa_nil))) pa_nil)))))))
      (pss_cons (ps_expr (pe_bm PySem.F.plainAttrs_list PySem.F.slot_list_append PySem.F.type_list_append mt_append (pv 1) (pa_cons (pe_exv T.k_NotWithin.x.oex T.k_NotWithin.iC T.k_NotWithin.tI T.k_NotWithin.ok (hr.mono (by decide)) T.k_NotWithin.b (by rfl) T.k_NotWithin.g (pa_cons (pv 0) (pa_cons pe_int pa_nil))) pa_nil)))
      (pss_one (ps_ret (pe_op op_cat (pv 1) (pe_lst (pa_cons (pe_exc0 T.k_UnlikeShown.e0 T.k_UnlikeShown.g T.k_UnlikeShown.x.kp (by rfl)) (pa_cons (pe_exc0 T.k_NoShowing.e0 T.k_NoShowing.g T.k_NoShowing.x.kp (by rfl)) (pa_cons (pe_exc0 T.k_NoParting.e0 T.k_NoParting.g T.k_NoParting.x.kp (by rfl)) (pa_cons (pe_exc0 T.k_NothingToUndo.e0 T.k_NothingToUndo.g T.k_NothingToUndo.x.kp (by rfl)) (pa_cons (pe_exc0 T.k_NothingToRedo.e0 T.k_NothingToRedo.g T.k_NothingToRedo.x.kp (by rfl)) pa_nil)))))))))))))), ?_⟩
  refine EvU.set2 (R := exA K (kindsL K)) (H00 := H) (Same.refl _) (eu_cat (eu_cat ((eu_mk (evs_v rfl)).weak exA_of).w ((eu_mk (evs_v rfl)).weak exA_of).w).w ((eu_mk (evs_v rfl)).weak exA_of).w) fun p0 xs0 H0 s0 n0 e0 r0 => ?_
  refine EvU.set2 s0 (eu_cat (ew_var rfl e0 r0) (eu_lst (en_cons ((ev_X1 T.k_NotRight (evs_v rfl)).weak exA_of) (en_cons ((ev_X1 T.k_RoomTaken (evs_v rfl)).weak exA_of) (en_cons ((ev_X1 T.k_UnknownRoom (evs_v rfl)).weak exA_of) en_nil)))).w) fun p1 xs1 H1 s1 n1 e1 r1 => ?_
  refine EvU.set2 s1 (eu_cat (ew_var rfl e1 r1) (eu_lst (en_cons ((ev_X1 T.k_Lacking (evs_v rfl)).weak exA_of) (en_cons ((ev_X1 T.k_NoLine (evs_v rfl)).weak exA_of) en_nil))).w) fun p2 xs2 H2 s2 n2 e2 r2 => ?_
  refine EvU.set2 s2 (eu_cat (eu_cat (ew_var rfl e2 r2) ((eu_mk (evs_v rfl)).weak exA_of).w).w (eu_lst (en_cons ((ev_X1 T.k_TooMany (evs_v rfl)).weak exA_of) (en_cons ((ev_X1 T.k_Unfit (evs_v rfl)).weak exA_of) (en_cons ((ev_X2 T.k_NotAhead (by decide) (evs_v rfl) evs_c).weak exA_of) (en_cons ((ev_X2 T.k_Against (by decide) (evs_v rfl) evs_c).weak exA_of) en_nil))))).w) fun p3 xs3 H3 s3 n3 e3 r3 => ?_
  refine exA_step s3 n3 rfl e3 r3 (by decide) ((ev_X2 T.k_NotWithin (by decide) (evs_v rfl) evs_c).weak exA_of) fun xs4 H4 s4 e4 r4 => ?_
  exact EvU.ret s4 (eu_cat (ew_var rfl e4 r4) (eu_lst (en_cons (ev_X0 T.k_UnlikeShown) (en_cons (ev_X0 T.k_NoShowing) (en_cons (ev_X0 T.k_NoParting) (en_cons (ev_X0 T.k_NothingToUndo) (en_cons (ev_X0 T.k_NothingToRedo) en_nil)))))).w) fun l xs H' s' n' e' r' => q l xs H' s' n' e' r'
end
end Kx

set_option Elab.async false
set_option linter.all false
set_option maxRecDepth 100000
set_option maxHeartbeats 4000000
namespace Kx
open PySem PySem.Spec PyProof.Rows L2
/-! ### comprehensions over a list of which every value is alike -/
def EvE (H0 : Hp) (te : TE) (σ : L2.St) : Prop := ∀ H (Q : VK), Same H0 H → (∀ p H', Same H H' → H' p = some (.lst []) → Q (.ref p) H') → te σ H Q
section
variable {g : TG} {tt : TT} {te : TE} {vs : List Nat} {σ : L2.St} {H1 H0 : Hp} {D : Addr} {Qd : Hp → Prop} {K : PySem.W.Frag}
theorem lc_list {a : Addr} {xs : List V} (Pv : Nat → Hp → Prop) (h0 : Pv 0 (upd H1 D (.lst []))) (hl : ∀ i H, Pv i H → H a = some (.lst xs))
    (hs : ∀ i v H, xs[i]? = some v → Pv i H → g v (wipe σ vs) H fun σ2 H2 => wipe σ2 vs = wipe σ vs ∧ tt σ2 H2 fun b H3 =>
      if b = true then te σ2 H3 fun y H4 => ∃ acc, H4 D = some (.lst acc) ∧ acc.length < sizeLine ∧ Pv (i + 1) (upd H4 D (.lst (acc ++ [y]))) else Pv (i + 1) H3) (hd : ∀ H, Pv xs.length H → Qd H) :
    ∃ W : Nat → Nat → Hp → Prop, (∃ m, W 0 m (upd H1 D (.lst []))) ∧ ∀ i m H, W i m H →
      ((Itl K a).stop i H ∧ Qd H) ∨ ((Itl K a).go i H ∧ ∃ Nx : Hp → Prop, (∀ H', Nx H' → ∃ m', m' < m ∧ W (i + 1) m' H') ∧ ∀ y H', (Itl K a).yld i H y H' → g y (wipe σ vs) H' fun σ2 H2 => wipe σ2 vs = wipe σ vs ∧ tt σ2 H2 fun b H3 =>
        if b = true then te σ2 H3 fun y H4 => ∃ acc, H4 D = some (.lst acc) ∧ acc.length < sizeLine ∧ Nx (upd H4 D (.lst (acc ++ [y]))) else Nx H3) := by
  refine ⟨fun i m H => m = xs.length - i ∧ i ≤ xs.length ∧ Pv i H, ⟨xs.length, by simp, Nat.zero_le _, h0⟩, ?_⟩
  rintro i m H ⟨rfl, hi, p⟩
  have ha : SqL K H a xs := .inl (.inl (hl i H p))
  by_cases hlt : i < xs.length
  · refine .inr ⟨⟨xs, xs[i], ha, List.getElem?_eq_getElem hlt⟩, Pv (i + 1), fun H' p' => ⟨xs.length - (i + 1), by omega, rfl, hlt, p'⟩, fun y H' z => ?_⟩
    obtain ⟨e, hc⟩ := z
    subst e
    exact hs i y _ (hc xs ha) p
  · have e : i = xs.length := by omega
    subst e
    exact .inl ⟨⟨xs, ha, Nat.le_refl _⟩, hd _ p⟩
theorem wipe1 {i : Nat} {v : V} : wipe ((wipe σ [i]).set i (some v)) [i] = wipe σ [i] := by
  show ((σ.set i none).set i (some v)).set i none = σ.set i none
  rw [List.set_set, List.set_set]
theorem lc_none {wl : TE} {i n : Nat} {R : MP} (hl : EvW H0 wl σ n R) (hs : ∀ v H (Q : Bool → Hp → Prop), Same H0 H → R.p H v → (∀ H3, Same H H3 → Q false H3) → tt ((wipe σ [i]).set i (some v)) H Q) : EvE H0 (tLc (iList K wl) (gName i) tt te [i]) σ := fun H Q s q =>
  hl H _ s fun p xs H1 s1 e1 r1 => ⟨p, rfl, ⟨xs, .inl (.inl e1)⟩, fun D hD => by
    refine lc_list (a := p) (xs := xs) (fun _ H' => Same H1 H' ∧ H' D = some (.lst [])) ⟨same_upd hD, upd_same⟩ (fun _ H' h => h.1 _ _ e1) (fun j v H' hj h => ?_) (fun H' h => q D H' (s1.trans h.1) h.2)
    exact ⟨wipe1, hs v H' _ ((s.trans s1).trans h.1) (R.mono h.1 (r1.all v (List.mem_of_getElem? hj))) fun H3 s3 => iteF ⟨h.1.trans s3, s3 _ _ h.2⟩⟩⟩
theorem lc_map {wl : TE} {i n : Nat} {R : MP} {x : V} (hn : n ≤ 1000) (hl : EvW H0 wl σ n R) (hs : ∀ v H (Q : VK), Same H0 H → R.p H v → (∀ H3, Same H H3 → Q x H3) → te ((wipe σ [i]).set i (some v)) H Q) : EvU H0 (tLc (iList K wl) (gName i) tYes te [i]) σ n (isv x) := fun H Q s q =>
  hl H _ s fun p xs H1 s1 e1 r1 => ⟨p, rfl, ⟨xs, .inl (.inl e1)⟩, fun D hD => by
    refine lc_list (a := p) (xs := xs) (fun k H' => k ≤ xs.length ∧ Same H1 H' ∧ H' D = some (.lst (List.replicate k x))) ⟨Nat.zero_le _, same_upd hD, upd_same⟩ (fun _ H' h => h.2.1 _ _ e1) (fun j v H' hj h => ?_)
      (fun H' h => q D _ H' (s1.trans h.2.1) (s1.free hD) h.2.2 ⟨by rw [List.length_replicate]; exact r1.len, fun v hv => (List.mem_replicate.mp hv).2⟩)
    obtain ⟨h0, h1, h2⟩ := h
    have hj' : j < xs.length := (List.getElem?_eq_some_iff.mp hj).1
    refine ⟨wipe1, ?_⟩
    unfold tYes
    dsimp only
    rw [if_pos rfl]
    refine hs v H' _ ((s.trans s1).trans h1) (R.mono h1 (r1.all v (List.mem_of_getElem? hj))) fun H3 s3 => ⟨_, s3 _ _ h2, ?_, hj', free_upd (h1.trans s3) hD, ?_⟩
    · rw [List.length_replicate]
      exact Nat.lt_of_lt_of_le hj' (Nat.le_trans (by rw [r1.len]; exact hn) (by decide))
    · rw [upd_same, List.replicate_succ']⟩
theorem empty_shaped : SeqAt.shaped (.list []) = true := by decide +kernel
/-- is it the empty list? -/
theorem ne_empty {Q : Bool → Hp → Prop} (h : EvE H0 te σ) (q : ∀ H', Same H0 H' → Q false H') : tTest (tOp (rNeD K) te (tLst tNil)) σ H0 Q :=
  h H0 _ (Same.refl _) fun p H1 s1 e1 => ⟨show 0 ≤ sizeLine by decide, fun r hr => ⟨.list [], .list [], .lst (.inl (.inl (by rw [upd_ne (ne_of_none e1 hr)]; exact e1))) .nil, .lst (.inl (.inl upd_same)) .nil, empty_shaped, empty_shaped, false, rfl, q _ (s1.trans (same_upd hr))⟩⟩
theorem eq_empty {Q : VK} (h : EvE H0 te σ) (q : ∀ H', Same H0 H' → Q (.bl true) H') : tOp (rEqD K) te (tLst tNil) σ H0 Q :=
  h H0 _ (Same.refl _) fun p H1 s1 e1 => ⟨show 0 ≤ sizeLine by decide, fun r hr => ⟨.list [], .list [], .lst (.inl (.inl (by rw [upd_ne (ne_of_none e1 hr)]; exact e1))) .nil, .lst (.inl (.inl upd_same)) .nil, empty_shaped, empty_shaped, q _ (s1.trans (same_upd hr))⟩⟩
end
/-! ### != of a thing with itself: data, or a flat dict -/
def rNeO (K : PySem.W.Frag) : R2 := fun x y H Q => rNeD K x y H Q ∨ rNeDA x y H Q
theorem op_neO {X : Cx} {K : PySem.W.Frag} (hu : X.A.units + 64 < cLine) (e : X.K = K := by rfl) : OpR X (compareOp .NotEq) (rNeO K) := OpR.or (op_neDK hu e) (op_ne_dictA (by omega))
end Kx

set_option Elab.async false
set_option linter.all false
set_option maxRecDepth 100000
set_option maxHeartbeats 4000000
namespace Kx
open PySem PySem.Spec PyProof.Rows L2
/-- repr of it can be laid -/
structure Sh (d : PyData) : Prop where
  a : d.showable = true
  b : d.depth ≤ 60
  c : d.shown.length ≤ sizeLine
section
variable {K : PySem.W.Frag} {L : List Addr} {σ : L2.St} {H H0 : Hp} {x v : V} {d : PyData} {f : Str} {i : Nat} {Q : Bool → Hp → Prop}
theorem same_fld (h1 : σ[i]? = some (some v)) (h0 : σ[0]? = some (some x)) (r : (exF K L f x).p H v) (hx : Off H x d) (sh : Sh d) (q : ∀ H3, Same H H3 → Q false H3) : tNot (tB (tCall spSame [] E0 (tCons (tExF K f (tVar i)) (tCons (tVar 0) tNil)))) σ H Q := by
  obtain ⟨a, dd, D, fs, e1, e2, e3, e4, e5, e6, e7⟩ := r
  exact ⟨v, h1, a, D, dd, fs, x, e1, e2, e3, e4.xf, e6, e7, x, h0, x, x, d, rfl, hx, hx, sh.a, sh.b, sh.c, true, rfl, q H (Same.refl _)⟩
theorem same_pair {j : Nat} (h1 : σ[i]? = some (some v)) (h0 : σ[j]? = some (some x)) (r : (lstq [x, x]).p H v) (hx : Off H x d) (sh : Sh (.list [d, d])) (q : ∀ H3, Same H H3 → Q false H3) : tNot (tB (tCall spSame [] E0 (tCons (tVar i) (tCons (tLstB (tCons (tVar j) (tCons (tVar j) tNil))) tNil)))) σ H Q := by
  obtain ⟨a, e1, e2, e3⟩ := r
  refine ⟨v, h1, x, h0, x, h0, show 2 ≤ sizeLine by decide, fun p hp np => ?_⟩
  subst e1
  have hx2 := hx.mono (same_upd (o := .lst [x, x]) hp)
  refine ⟨.ref a, .ref p, .list [d, d], rfl, .lst (same_upd hp _ _ e2) e3 (.cons hx2 (.cons hx2 .nil)), .lst upd_same np (.cons hx2 (.cons hx2 .nil)), sh.a, sh.b, sh.c, true, rfl, q _ (same_upd hp)⟩
/-- the k-th of a name's list -/
theorem ew_ix {k n : Nat} {R : MP} {p pk : Addr} {ps xs : List V} (hi : σ[i]? = some (some (.ref p))) (hp : H0 p = some (.lst ps)) (hk : ps[k]? = some (.ref pk)) (hx : H0 pk = some (.lst xs)) (t : AllU n R H0 xs) : EvW H0 (tOp (rIxL K) (tVar i) (tC (.int (k : Nat)))) σ n R := fun H Q s q =>
  ⟨_, hi, p, ps, _, _, rfl, rfl, .inl (.inl (s _ _ hp)), atI_nat hk, q pk xs H (Same.refl _) (s _ _ hx) (t.mono s)⟩
theorem ev_ix {k : Nat} {R : MP} {p : Addr} {ps : List V} {u : V} (hi : σ[i]? = some (some (.ref p))) (hp : H0 p = some (.lst ps)) (hk : ps[k]? = some u) (hu : R.p H0 u) : EvS H0 (tOp (rIxL K) (tVar i) (tC (.int (k : Nat)))) σ R := fun H Q s q =>
  ⟨_, hi, p, ps, _, _, rfl, rfl, .inl (.inl (s _ _ hp)), atI_nat hk, q u H (Same.refl _) (R.mono s hu)⟩
theorem fld_map (r : (exF K L f x).p H v) (h1 : σ[i]? = some (some v)) {Q : VK} (q : ∀ H3, Same H H3 → Q x H3) : tExF K f (tVar i) σ H Q := by
  obtain ⟨a, dd, D, fs, e1, e2, e3, e4, e5, e6, e7⟩ := r
  exact ⟨v, h1, a, D, dd, fs, x, e1, e2, e3, e4.xf, e6, e7, q H (Same.refl _)⟩
/-- an object that is no record of an exception changes: the exceptions stand -/
theorem exF_upd {a : Addr} {o o' : HO} (ha : H a = some o) (no : ∀ f, o ≠ .ext f) (r : (exF K L f x).p H v) : (exF K L f x).p (upd H a o') v := by
  obtain ⟨b, dd, D, fs, e1, e2, e3, e4⟩ := r
  have ne : ∀ {c : Addr} {f : Heap → Prop}, H c = some (.ext f) → c ≠ a := fun hc z => by
    rw [z, ha] at hc
    exact no _ (Option.some.inj hc)
  exact ⟨b, dd, D, fs, e1, by rw [upd_ne (ne (show H b = some (.ext _) from e2))]; exact e2, by rw [upd_ne (ne (show H dd = some (.ext _) from e3))]; exact e3, e4⟩
theorem EvU.setσ {H00 : Hp} {rest : TS} {D : Ends} {te : TE} {n : Nat} {R : MP} (f : Addr → L2.St) (s0 : Same H00 H0) (h : EvU H0 te σ n R) (q : ∀ p xs H', Same H00 H' → H0 p = none → H' p = some (.lst xs) → AllU n R H' xs → rest D (f p) H') (hf : ∀ p, σ.set i (some (.ref p)) = f p := by intro p; rfl) : tSeq (tAsg te (gName i)) rest D σ H0 :=
  h H0 _ (Same.refl _) fun p xs H' s' n' e r => by
    have := q p xs H' (s0.trans s') n' e r
    rw [← hf p] at this
    exact this
theorem EvSL.setσ {H00 : Hp} {rest : TS} {D : Ends} {te : TE} {Rs : List MP} (f : Addr → L2.St) (s0 : Same H00 H0) (h : EvSL H0 te σ Rs) (q : ∀ p xs H', Same H00 H' → H0 p = none → H' p = some (.lst xs) → AllP Rs H' xs → rest D (f p) H') (hf : ∀ p, σ.set i (some (.ref p)) = f p := by intro p; rfl) : tSeq (tAsg te (gName i)) rest D σ H0 :=
  h H0 _ (Same.refl _) fun p xs H' s' n' e r => by
    have := q p xs H' (s0.trans s') n' e r
    rw [← hf p] at this
    exact this
end
theorem eu_lone {H0 : Hp} {σ : L2.St} {te : TE} {x : V} (h : EvS H0 te σ (isv x)) : EvU H0 (tCall spLone [] E0 (tCons te tNil)) σ 7 (lstq [x, x]) := fun H Q s q =>
  h H _ s fun v H1 s1 r1 => ⟨x, by rw [show v = x from r1]; rfl, fun p xs H' s' f' e r => q p xs H' (s1.trans s') (s1.free f') e r⟩
/-- a list of alike values, as a value -/
def lsu (n : Nat) (R : MP) : MP := ⟨fun H v => ∃ p xs, v = .ref p ∧ H p = some (.lst xs) ∧ AllU n R H xs, fun e ⟨p, xs, h1, h2, h3⟩ => ⟨p, xs, h1, e _ _ h2, h3.mono e⟩⟩
theorem EvU.s {H0 : Hp} {te : TE} {σ : L2.St} {n : Nat} {R : MP} (h : EvU H0 te σ n R) : EvS H0 te σ (lsu n R) := fun H Q s q => h H Q s fun p xs H' s' _ e r => q _ H' s' ⟨p, xs, rfl, e, r⟩
theorem count_one {α : Type} [DecidableEq α] {D : α} : ∀ {l : List α}, D ∈ l → l.Nodup → (l.map fun C => decide (D = C)).count true = 1
  | [], h, _ => by cases h
  | a :: l, h, n => by
    rw [List.map_cons, List.count_cons]
    have n2 := List.nodup_cons.mp n
    by_cases e : D = a
    · subst e
      have z : (l.map fun C => decide (D = C)).count true = 0 := by
        rw [List.count_eq_zero]
        intro hm
        obtain ⟨c, hc, hd⟩ := List.mem_map.mp hm
        have := of_decide_eq_true hd
        subst this
        exact n2.1 hc
      rw [z]
      simp
    · have hm : D ∈ l := (List.mem_cons.mp h).resolve_left e
      rw [count_one hm n2.2]
      simp [e]
/-! ### promises -/
def spFR : Sp := fun vs H Q _ => ∃ x d, vs = [x] ∧ Off H x d ∧ Sh d ∧ Sh (.list [d, d]) ∧ ∀ H', Same H H' → Q (.bl true) H'
theorem spFR_len (vs : List V) (H : Hp) (Q : VK) (E : XK) (h : spFR vs H Q E) : vs.length = 1 := by
  obtain ⟨x, d, rfl, _⟩ := h
  rfl
def spObj : Sp := fun vs H Q _ => ∃ a, vs = [.ref a] ∧ (H a = some (.lst [.str "x"]) ∨ H a = some (.dK [(.inr "k", .int 1)])) ∧ ∀ H', Q (.bl true) H'
theorem spObj_len (vs : List V) (H : Hp) (Q : VK) (E : XK) (h : spObj vs H Q E) : vs.length = 1 := by
  obtain ⟨x, rfl, _⟩ := h
  rfl
def spYes : Sp := fun vs H Q _ => vs = [] ∧ ∀ H', Q (.bl true) H'
theorem spYes_len (vs : List V) (H : Hp) (Q : VK) (E : XK) (h : spYes vs H Q E) : vs.length = 0 := by
  obtain ⟨rfl, _⟩ := h
  rfl
end Kx

set_option Elab.async false
set_option linter.all false
set_option maxRecDepth 100000
set_option maxHeartbeats 4000000
namespace Kx
open PySem PySem.Spec PyProof.Rows L2
section
variable {P : Program} {w : World} {K : PySem.W.Frag} {mg : Str → Option Value} {base : Heap}
theorem ok__law_fields_right (T : Top K mg) : FnG P w K mg base CX0 4 (He.ga K "_law_fields_right") T.f__law_fields_right.d ["_law_thing"] spFR := by
  refine Fun.okG T.f__law_fields_right.F sc__law_fields_right spFR_len (fun cdv A outer s H vs Q E hgd hr h => ?_)
  obtain ⟨x, d, rfl, hx, h1, h2, q⟩ := h
  refine ⟨_, (pss_cons (ps_if (pt_cmpR (op_neDK (K := K) hr.units) (pe_lc (own := [("_law_e", 1)]) (g := gName 1) rfl sc__law_fields_right.nd (pi_listK (K := K) (pe_op op_cat (pe_call (ok__law_givens T) (hr.mono (by decide)) (by rfl) T.f__law_givens.g T.f__law_givens.F.kp T.f__law_givens.b .nil pass0 (pa_cons (pv 0) pa_nil)) (pe_call (ok__law_named T) (hr.mono (by decide)) (by rfl) T.f__law_named.g T.f__law_named.F.kp T.f__law_named.b .nil pass0 (pa_cons (pv 0) pa_nil)))) (blkOk_by (own := [("_law_e", 1)]) (N := n__law_fields_right) (sc := defScope s__law_fields_right) (by decide +kernel)) (fun _ _ _ _ _ => pg_name (i := 1) sc__law_fields_right.nd rfl (Or.inl rfl)) (fun _ _ _ _ _ => (pts_one (pt_not (pt_val (pe_callG (ok__law_same T) hgd (hr.mono (by decide)) (by rfl) T.f__law_same.g T.f__law_same.F.kp T.f__law_same.b .nil pass0 (pa_cons (pe_exf (K := K) (pv 1)) (pa_cons (pv 0) pa_nil))))))) (fun _ _ _ _ _ => (pv 1))) (pe_lst pa_nil) (nomark _)) (pss_one (ps_ret pe_bl)) pss_nil)
      (pss_cons (ps_if (pt_cmpR (op_neDK (K := K) hr.units) (pe_lc (own := [("_law_e", 1)]) (g := gName 1) rfl sc__law_fields_right.nd (pi_listK (K := K) (pe_op op_cat (pe_call (ok__law_keys T) (hr.mono (by decide)) (by rfl) T.f__law_keys.g T.f__law_keys.F.kp T.f__law_keys.b .nil pass0 (pa_cons (pv 0) pa_nil)) (pe_call (ok__law_named_keys T) (hr.mono (by decide)) (by rfl) T.f__law_named_keys.g T.f__law_named_keys.F.kp T.f__law_named_keys.b .nil pass0 (pa_cons (pv 0) pa_nil)))) (blkOk_by (own := [("_law_e", 1)]) (N := n__law_fields_right) (sc := defScope s__law_fields_right) (by decide +kernel)) (fun _ _ _ _ _ => pg_name (i := 1) sc__law_fields_right.nd rfl (Or.inl rfl)) (fun _ _ _ _ _ => (pts_one (pt_not (pt_val (pe_callG (ok__law_same T) hgd (hr.mono (by decide)) (by rfl) T.f__law_same.g T.f__law_same.F.kp T.f__law_same.b .nil pass0 (pa_cons (pe_exf (K := K) (pv 1)) (pa_cons (pv 0) pa_nil))))))) (fun _ _ _ _ _ => (pv 1))) (pe_lst pa_nil) (nomark _)) (pss_one (ps_ret pe_bl)) pss_nil)
      (pss_cons (ps_if (pt_cmpR (op_neDK (K := K) hr.units) (pe_lc (own := [("_law_e", 1)]) (g := gName 1) rfl sc__law_fields_right.nd (pi_listK (K := K) (pe_op op_cat (pe_call (ok__law_persons T) (hr.mono (by decide)) (by rfl) T.f__law_persons.g T.f__law_persons.F.kp T.f__law_persons.b .nil pass0 (pa_cons (pv 0) pa_nil)) (pe_call (ok__law_named_persons T) (hr.mono (by decide)) (by rfl) T.f__law_named_persons.g T.f__law_named_persons.F.kp T.f__law_named_persons.b .nil pass0 (pa_cons (pv 0) pa_nil)))) (blkOk_by (own := [("_law_e", 1)]) (N := n__law_fields_right) (sc := defScope s__law_fields_right) (by decide +kernel)) (fun _ _ _ _ _ => pg_name (i := 1) sc__law_fields_right.nd rfl (Or.inl rfl)) (fun _ _ _ _ _ => (pts_one (pt_not (pt_val (pe_callG (ok__law_same T) hgd (hr.mono (by decide)) (by rfl) T.f__law_same.g T.f__law_same.F.kp T.f__law_same.b .nil pass0 (pa_cons (pe_exf (K := K) (pv 1)) (pa_cons (pv 0) pa_nil))))))) (fun _ _ _ _ _ => (pv 1))) (pe_lst pa_nil) (nomark _)) (pss_one (ps_ret pe_bl)) pss_nil)
      (pss_cons (ps_if (pt_cmpR (op_neDK (K := K) hr.units) (pe_lc (own := [("_law_e", 1)]) (g := gName 1) rfl sc__law_fields_right.nd (pi_listK (K := K) (pe_op op_cat (pe_call (ok__law_numbers T) (hr.mono (by decide)) (by rfl) T.f__law_numbers.g T.f__law_numbers.F.kp T.f__law_numbers.b .nil pass0 (pa_cons (pv 0) pa_nil)) (pe_call (ok__law_named_numbers T) (hr.mono (by decide)) (by rfl) T.f__law_named_numbers.g T.f__law_named_numbers.F.kp T.f__law_named_numbers.b .nil pass0 (pa_cons (pv 0) pa_nil)))) (blkOk_by (own := [("_law_e", 1)]) (N := n__law_fields_right) (sc := defScope s__law_fields_right) (by decide +kernel)) (fun _ _ _ _ _ => pg_name (i := 1) sc__law_fields_right.nd rfl (Or.inl rfl)) (fun _ _ _ _ _ => (pts_one (pt_not (pt_val (pe_callG (ok__law_same T) hgd (hr.mono (by decide)) (by rfl) T.f__law_same.g T.f__law_same.F.kp T.f__law_same.b .nil pass0 (pa_cons (pe_exf (K := K) (pv 1)) (pa_cons (pv 0) pa_nil))))))) (fun _ _ _ _ _ => (pv 1))) (pe_lst pa_nil) (nomark _)) (pss_one (ps_ret pe_bl)) pss_nil)
      (pss_one (ps_ret (pe_cmpR (op_eqDK (K := K) hr.units) (pe_lc (own := [("_law_pair", 2)]) (g := gName 2) rfl sc__law_fields_right.nd (pi_listK (K := K) (pe_call (ok__law_lone T) (hr.mono (by decide)) (by rfl) T.f__law_lone.g T.f__law_lone.F.kp T.f__law_lone.b .nil pass0 (pa_cons (pv 0) pa_nil))) (blkOk_by (own := [("_law_pair", 2)]) (N := n__law_fields_right) (sc := defScope s__law_fields_right) (by decide +kernel)) (fun _ _ _ _ _ => pg_name (i := 2) sc__law_fields_right.nd rfl (Or.inl rfl)) (fun _ _ _ _ _ => (pts_one (pt_not (pt_val (pe_callG (ok__law_same T) hgd (hr.mono (by decide)) (by rfl) T.f__law_same.g T.f__law_same.F.kp T.f__law_same.b .nil pass0 (pa_cons (pv 2) (pa_cons (pe_lstB (pa_cons (pv 0) (pa_cons (pv 0) pa_nil))) pa_nil))))))) (fun _ _ _ _ _ => (pv 2))) (pe_lst pa_nil) (nomark _)))))))), ?_⟩
  refine ne_empty (lc_none (eu_cat (eu_mk (evs_v rfl)).w (eu_mk (evs_v rfl)).w).w fun v H2 Q2 s2 r2 q2 => same_fld rfl rfl r2 (hx.mono s2) h1 q2) fun H1 s1 => iteF ?_
  refine ne_empty (lc_none (eu_cat (eu_mk (evs_v rfl)).w (eu_mk (evs_v rfl)).w).w fun v H2 Q2 s2 r2 q2 => same_fld rfl rfl r2 (hx.mono (s1.trans s2)) h1 q2) fun H2 s2 => iteF ?_
  have s2' := s1.trans s2
  refine ne_empty (lc_none (eu_cat (eu_mk (evs_v rfl)).w (eu_mk (evs_v rfl)).w).w fun v H2 Q2 s3 r2 q2 => same_fld rfl rfl r2 (hx.mono (s2'.trans s3)) h1 q2) fun H3 s3 => iteF ?_
  have s3' := s2'.trans s3
  refine ne_empty (lc_none (eu_cat (eu_mk (evs_v rfl)).w (eu_mk (evs_v rfl)).w).w fun v H2 Q2 s4 r2 q2 => same_fld rfl rfl r2 (hx.mono (s3'.trans s4)) h1 q2) fun H4 s4 => iteF ?_
  have s4' := s3'.trans s4
  exact eq_empty (lc_none (eu_lone (evs_v rfl)).w fun v H2 Q2 s5 r2 q2 => same_pair rfl rfl r2 (hx.mono (s4'.trans s5)) h2 q2) fun H5 s5 => q H5 (s4'.trans s5)
end
end Kx

set_option Elab.async false
set_option linter.all false
set_option maxRecDepth 100000
set_option maxHeartbeats 4000000
namespace Kx
open PySem PySem.Spec PyProof.Rows L2
section
variable {P : Program} {w : World} {K : PySem.W.Frag} {mg : Str → Option Value} {base : Heap}
theorem ok__law_kinds_right (T : Top K mg) : FnOk P w K mg base CX0 5 (He.ga K "_law_kinds_right") T.f__law_kinds_right.d [] spYes := by
  refine T.f__law_kinds_right.F.ok sc__law_kinds_right spYes_len (fun cdv A outer s H vs Q E hr h => ?_)
  obtain ⟨rfl, q⟩ := h
  refine ⟨_, (pss_cons (ps_set (i := 0) sc__law_kinds_right.nd rfl (Or.inl rfl) (pe_call (ok__law_all T) (hr.mono (by decide)) (by rfl) T.f__law_all.g T.f__law_all.F.kp T.f__law_all.b .nil pass0 (pa_cons pe_str pa_nil)))
      (pss_cons (ps_for PassesOwn.never rfl (pi_range1 (by rfl) T.m_range (pa_cons (pe_callB (call_lenK (K := K)) (by rfl) T.m_len (by decide +kernel) (pa_cons (pv 0) pa_nil)) pa_nil)) (pg_name (i := 1) sc__law_kinds_right.nd rfl (Or.inl rfl)) (pss_cons (ps_set (i := 2) sc__law_kinds_right.nd rfl (Or.inl rfl) (pe_op op_cat (pe_op op_cat (pe_call (ok__law_kinds_one T) (hr.mono (by decide)) (by rfl) T.f__law_kinds_one.g T.f__law_kinds_one.F.kp T.f__law_kinds_one.b .nil pass0 (pa_cons (pe_ix (ix_listK (K := K)) (pv 0) (pv 1) (fun _ _ => rfl)) pa_nil)) (pe_call (ok__law_kinds_two T) (hr.mono (by decide)) (by rfl) T.f__law_kinds_two.g T.f__law_kinds_two.F.kp T.f__law_kinds_two.b .nil pass0 (pa_cons (pe_ix (ix_listK (K := K)) (pv 0) (pv 1) (fun _ _ => rfl)) pa_nil))) (pe_call (ok__law_kinds_three T) (hr.mono (by decide)) (by rfl) T.f__law_kinds_three.g T.f__law_kinds_three.F.kp T.f__law_kinds_three.b .nil pass0 (pa_cons (pe_ix (ix_listK (K := K)) (pv 0) (pv 1) (fun _ _ => rfl)) pa_nil))))
        (pss_cons (ps_if (PW.pt (pw_or (pt_cmpR op_ne (pe_bm PySem.F.plainAttrs_list PySem.F.slot_list_count PySem.F.type_list_count (mt_bcount (K := K)) (pv 2) (pa_cons pe_bl pa_nil)) pe_int (nomark _)) (pw_or (pt_cmpR op_ne (pe_callB (call_lenK (K := K)) (by rfl) T.m_len (by decide +kernel) (pa_cons (pv 2) pa_nil)) (pe_callB (call_lenK (K := K)) (by rfl) T.m_len (by decide +kernel) (pa_cons (pv 0) pa_nil)) (nomark _)) (pw_or1 (pt_not (pt_val (pe_callB (call_isX (K := K)) (by rfl) T.m_isinstance (by decide +kernel) (pa_cons (pe_ix (ix_listK (K := K)) (pv 0) (pv 1) (fun _ _ => rfl)) (pa_cons (pe_bltn (v := .ty "ValueError") (by rfl) T.m_ValueError (by decide +kernel) rfl) pa_nil))))))))) (pss_one (ps_ret pe_bl)) pss_nil)
        (pss_one (ps_if (pt_not (pt_val (pe_callB (call_isX (K := K)) (by rfl) T.m_isinstance (by decide +kernel) (pa_cons (pe_ix (ix_listK (K := K)) (pv 0) (pv 1) (fun _ _ => rfl)) (pa_cons (pe_glob (v := .ref (He.ga K "GroundError")) (by rfl) T.gG rfl) pa_nil))))) (pss_one (ps_ret pe_bl)) pss_nil)))))
      (pss_one (ps_ret pe_bl)))), ?_⟩
  refine ⟨.str "x", rfl, fun p xs H1 s1 n1 e1 r1 => ?_⟩
  refine ⟨.ref p, rfl, .ref p, 73, rfl, .inl ⟨xs, .inl (.inl e1), r1.len.symm⟩, 73, rfl, by decide, by decide, ?_⟩
  refine for_range (lo := 0) (n := 73) (fun i σ H' => Same H1 H' ∧ ∃ y y2, σ = [some (.ref p), y, y2]) ⟨Same.refl _, _, _, rfl⟩ (fun i σ H' hi h => ?_) (fun σ H' h => q H')
  obtain ⟨s2, y, y2, rfl⟩ := h
  have hi' : i < xs.length := by rw [r1.len]; exact hi
  have hg : atI xs (0 + (i : Int)) = some xs[i] := by
    rw [Int.zero_add]
    exact atI_nat (List.getElem?_eq_getElem hi')
  obtain ⟨a, D, ea, hx⟩ := (r1.mono s2).all xs[i] (List.getElem_mem hi')
  have e2 := s2 _ _ e1
  have hx' := hx
  obtain ⟨o, _, _, hD, hm⟩ := hx'
  refine ⟨.ref p, rfl, _, rfl, p, xs, _, _, rfl, rfl, .inl (.inl e2), hg, a, D, by rw [ea]; rfl, hx, fun p1 H3 s3 n3 e3 => ?_⟩
  refine ⟨.ref p, rfl, _, rfl, p, xs, _, _, rfl, rfl, .inl (.inl (s3 _ _ e2)), hg, a, D, by rw [ea]; rfl, hx.mono s3, fun p2 H4 s4 n4 e4 => ?_⟩
  refine ⟨p1, p2, _, _, rfl, rfl, s4 _ _ e3, e4, Nat.le_of_ble_eq_true rfl, fun l hl => ?_⟩
  have s5 : Same H' (upd H4 l (.lst (((ks0.map (He.ga K)).map fun C => V.bl (decide (D = C))) ++ ((ks1.map (He.ga K)).map fun C => V.bl (decide (D = C)))))) := (s3.trans s4).trans (same_upd hl)
  refine ⟨.ref p, rfl, _, rfl, p, xs, _, _, rfl, rfl, .inl (.inl (s5 _ _ e2)), hg, a, D, by rw [ea]; rfl, hx.mono s5, fun p3 H6 s6 n6 e6 => ?_⟩
  refine ⟨l, p3, _, _, rfl, rfl, s6 _ _ upd_same, e6, Nat.le_of_ble_eq_true rfl, fun r hrr => ?_⟩
  have s7 := (s5.trans s6).trans (same_upd (o := .lst (((ks0.map (He.ga K)).map fun C => V.bl (decide (D = C))) ++ ((ks1.map (He.ga K)).map fun C => V.bl (decide (D = C))) ++ ((ks2.map (He.ga K)).map fun C => V.bl (decide (D = C))))) hrr)
  have hk : ∀ bs, bs = (kindsL K).map (fun C => decide (D = C)) → bs.map V.bl = ((ks0.map (He.ga K)).map fun C => V.bl (decide (D = C))) ++ ((ks1.map (He.ga K)).map fun C => V.bl (decide (D = C))) ++ ((ks2.map (He.ga K)).map fun C => V.bl (decide (D = C))) := fun bs e => by
    subst e
    rfl
  obtain ⟨o', x1, x2, _, _⟩ := hx.mono s7
  have hc : (((kindsL K).map fun C => decide (D = C)).count true : Nat) = 1 := count_one hm T.nd
  refine ⟨.ref r, rfl, .inl ⟨rfl, _, .inl (.inl upd_same)⟩, r, (kindsL K).map (fun C => decide (D = C)), true, rfl, rfl, .inl (.inl (by rw [hk _ rfl]; exact upd_same)), rfl, false, by rw [hc]; rfl, iteF ?_⟩
  refine ⟨.ref r, rfl, .ref r, 73, rfl, .inl ⟨_, .inl (.inl upd_same), rfl⟩, .ref p, rfl, .ref p, 73, rfl, .inl ⟨xs, .inl (.inl (s7 _ _ e2)), r1.len.symm⟩, rfl, false, rfl, iteF ?_⟩
  refine ⟨.ref p, rfl, _, rfl, p, xs, _, _, rfl, rfl, .inl (.inl (s7 _ _ e2)), hg, a, D, o', .ty "ValueError", _, true, by rw [ea], x1, x2, hD.ex, .ty _, kit_VE hD, true, rfl, iteF ?_⟩
  refine ⟨.ref p, rfl, _, rfl, p, xs, _, _, rfl, rfl, .inl (.inl (s7 _ _ e2)), hg, a, D, o', .ref (He.ga K "GroundError"), _, true, by rw [ea], x1, x2, hD.ex, .own _, kit_G hD T.xG T.tG, true, rfl, iteF ?_⟩
  exact ⟨s2.trans s7, _, _, rfl⟩
end
end Kx

set_option Elab.async false
set_option linter.all false
set_option maxRecDepth 100000
set_option maxHeartbeats 4000000
namespace Kx
open PySem PySem.Spec PyProof.Rows L2
/-- a list of alike values that does not lie at a -/
def lsf (a : Addr) (n : Nat) (R : MP) : MP := ⟨fun H v => ∃ p xs, v = .ref p ∧ p ≠ a ∧ H p = some (.lst xs) ∧ AllU n R H xs, fun e ⟨p, xs, h1, h0, h2, h3⟩ => ⟨p, xs, h1, h0, e _ _ h2, h3.mono e⟩⟩
theorem ne_of_free {H : Hp} {p a : Addr} {o : HO} (h : H p = none) (k : H a = some o) : p ≠ a := fun z => by
  rw [z, k] at h
  cases h
theorem EvU.sf {H0 : Hp} {te : TE} {σ : L2.St} {n : Nat} {R : MP} {a : Addr} {o : HO} (h : EvU H0 te σ n R) (ha : H0 a = some o) : EvS H0 te σ (lsf a n R) := fun H Q s q => h H Q s fun p xs H' s' n' e r => q _ H' s' ⟨p, xs, rfl, ne_of_free n' (s _ _ ha), e, r⟩
theorem lsf_upd {K : PySem.W.Frag} {L : List Addr} {f : Str} {x v : V} {H : Hp} {a : Addr} {n : Nat} {o o' : HO} (ha : H a = some o) (no : ∀ f, o ≠ .ext f) (r : (lsf a n (exF K L f x)).p H v) : (lsf a n (exF K L f x)).p (upd H a o') v := by
  obtain ⟨p, xs, e1, e2, e3, e4⟩ := r
  exact ⟨p, xs, e1, e2, by rw [upd_ne e2]; exact e3, e4.len, fun u hu => exF_upd ha no (e4.all u hu)⟩
theorem allP4 {H : Hp} {R1 R2 R3 R4 : MP} : ∀ {vs : List V}, AllP [R1, R2, R3, R4] H vs → ∃ v1 v2 v3 v4, vs = [v1, v2, v3, v4] ∧ R1.p H v1 ∧ R2.p H v2 ∧ R3.p H v3 ∧ R4.p H v4
  | [v1, v2, v3, v4], ⟨h1, h2, h3, h4, _⟩ => ⟨v1, v2, v3, v4, rfl, h1, h2, h3, h4⟩
  | [], h => h.elim
  | [_], ⟨_, h⟩ => h.elim
  | [_, _], ⟨_, _, h⟩ => h.elim
  | [_, _, _], ⟨_, _, _, h⟩ => h.elim
  | _ :: _ :: _ :: _ :: _ :: _, ⟨_, _, _, _, h⟩ => h.elim
theorem allP5 {H : Hp} {R1 R2 R3 R4 R5 : MP} {vs : List V} (h : AllP [R1, R2, R3, R4, R5] H vs) : ∃ v1 v2 v3 v4 v5, vs = [v1, v2, v3, v4, v5] ∧ R1.p H v1 ∧ R2.p H v2 ∧ R3.p H v3 ∧ R4.p H v4 ∧ R5.p H v5 := by
  cases vs with
  | nil => exact h.elim
  | cons v vs =>
    obtain ⟨a, b, c, d, rfl, k⟩ := allP4 h.2
    exact ⟨v, a, b, c, d, rfl, h.1, k⟩
/-- != says no of it and itself -/
def NeSelf (K : PySem.W.Frag) (o : HO) : Prop := ∀ (a : Addr) (H : Hp) (Q : VK), H a = some o → Q (.bl false) H → rNeO K (.ref a) (.ref a) H Q
theorem ne_lst {K : PySem.W.Frag} : NeSelf K (.lst [.str "x", .str "more"]) := fun a H Q ha q => .inl ⟨.list [.str "x", .str "more"], .list [.str "x", .str "more"], .lst (.inl (.inl ha)) (.cons (.str _) (.cons (.str _) .nil)), .lst (.inl (.inl ha)) (.cons (.str _) (.cons (.str _) .nil)), by decide +kernel, by decide +kernel, by
  have e : (!PyData.eqv (.list [.str "x", .str "more"]) (.list [.str "x", .str "more"])) = false := by decide +kernel
  rw [e]
  exact q⟩
theorem ne_dct {K : PySem.W.Frag} : NeSelf K (.dK [(.inr "k", .int 1), (.inr "more", .int 1)]) := fun a H Q ha q => .inr ⟨a, a, _, _, rfl, rfl, ha, ha, rfl, fun p hp => by
  simp only [List.mem_cons, List.not_mem_nil, or_false] at hp
  rcases hp with rfl | rfl
  · exact ⟨by decide +kernel, rfl⟩
  · exact ⟨by decide +kernel, rfl⟩, q⟩
theorem mut_if {K : PySem.W.Frag} {rest : TS} {D : Ends} {σ : L2.St} {H : Hp} {a : Addr} (h0 : σ[0]? = some (some (.ref a))) (ha : H a = some (.lst [.str "x"]) ∨ H a = some (.dK [(.inr "k", .int 1)])) (q : ∀ o', NeSelf K o' → rest D σ (upd H a o')) :
    tSeq (tIfS (tB (tCB (rIsi K) (tCons (tVar 0) (tCons (tC (.ty "list")) tNil)))) (tDrop (tBM K "list" rAppend (tVar 0) (tCons (tC (.str "more")) tNil))) (sDPut (tVar 0) (tC (.str "more")) (tC (.int 1)))) rest D σ H := by
  rcases ha with ha | ha
  · have r : Rp H (.ref a) (.list [.str "x"]) := .lst ha (.cons (.str _) .nil)
    refine ⟨.ref a, h0, .ref a, .ty "list", _, _, _, rfl, .ty _, r.ty, kit_lst _, true, rfl, iteT ?_⟩
    exact ⟨.ref a, h0, .inl ⟨rfl, _, .inl (.inl ha)⟩, a, _, .str "more", rfl, rfl, ha, by decide, q _ ne_lst⟩
  · have r : Rp H (.ref a) (.dict [(kD (.inr "k"), .int 1)]) := .dct ha (.cons (.int _) .nil)
    refine ⟨.ref a, h0, .ref a, .ty "list", _, _, _, rfl, .ty _, r.ty, kit_lst _, false, rfl, iteF ?_⟩
    exact ⟨.ref a, h0, a, _, rfl, .inl ⟨_, .inr "more", ha, rfl, by decide, rfl⟩, q _ ne_dct⟩
end Kx

set_option Elab.async false
set_option linter.all false
set_option maxRecDepth 100000
set_option maxHeartbeats 4000000
namespace Kx
open PySem PySem.Spec PyProof.Rows L2
section
variable {P : Program} {w : World} {K : PySem.W.Frag} {mg : Str → Option Value} {base : Heap}
theorem ok__law_objects_right (T : Top K mg) : FnOk P w K mg base CX0 4 (He.ga K "_law_objects_right") T.f__law_objects_right.d ["_law_thing"] spObj := by
  refine T.f__law_objects_right.F.ok sc__law_objects_right spObj_len (fun cdv A outer s H vs Q E hr h => ?_)
  obtain ⟨a, rfl, hax, q⟩ := h
  obtain ⟨o, ha, no⟩ : ∃ o, H a = some o ∧ ∀ f, o ≠ .ext f := by
    rcases hax with h | h
    · exact ⟨_, h, fun f z => by cases z⟩
    · exact ⟨_, h, fun f z => by cases z⟩
  refine ⟨_, (pss_cons (ps_set (i := 1) sc__law_objects_right.nd rfl (Or.inl rfl) (pe_lst (pa_cons (pe_call (ok__law_givens T) (hr.mono (by decide)) (by rfl) T.f__law_givens.g T.f__law_givens.F.kp T.f__law_givens.b .nil pass0 (pa_cons (pv 0) pa_nil)) (pa_cons (pe_call (ok__law_keys T) (hr.mono (by decide)) (by rfl) T.f__law_keys.g T.f__law_keys.F.kp T.f__law_keys.b .nil pass0 (pa_cons (pv 0) pa_nil)) (pa_cons (pe_call (ok__law_persons T) (hr.mono (by decide)) (by rfl) T.f__law_persons.g T.f__law_persons.F.kp T.f__law_persons.b .nil pass0 (pa_cons (pv 0) pa_nil)) (pa_cons (pe_call (ok__law_numbers T) (hr.mono (by decide)) (by rfl) T.f__law_numbers.g T.f__law_numbers.F.kp T.f__law_numbers.b .nil pass0 (pa_cons (pv 0) pa_nil)) pa_nil))))))
      (pss_cons (ps_set (i := 2) sc__law_objects_right.nd rfl (Or.inl rfl) (pe_lst (pa_cons (pe_exv T.k_UnknownRoom.x.oex T.k_UnknownRoom.iC T.k_UnknownRoom.tI T.k_UnknownRoom.ok (hr.mono (by decide)) T.k_UnknownRoom.b (by rfl) T.k_UnknownRoom.g (pa_cons (pv 0) pa_nil)) (pa_cons (pe_exv T.k_Lacking.x.oex T.k_Lacking.iC T.k_Lacking.tI T.k_Lacking.ok (hr.mono (by decide)) T.k_Lacking.b (by rfl) T.k_Lacking.g (pa_cons (pv 0) pa_nil)) (pa_cons (pe_exv T.k_NoLine.x.oex T.k_NoLine.iC T.k_NoLine.tI T.k_NoLine.ok (hr.mono (by decide)) T.k_NoLine.b (by rfl) T.k_NoLine.g (pa_cons (pv 0) pa_nil)) (pa_cons (pe_exv T.k_NotAhead.x.oex T.k_NotAhead.iC T.k_NotAhead.tI T.k_NotAhead.ok (hr.mono (by decide)) T.k_NotAhead.b (by rfl) T.k_NotAhead.g (pa_cons (pv 0) (pa_cons pe_int pa_nil))) (pa_cons (pe_exv T.k_NotWithin.x.oex T.k_NotWithin.iC T.k_NotWithin.tI T.k_NotWithin.ok (hr.mono (by decide)) T.k_NotWithin.b (by rfl) T.k_NotWithin.g (pa_cons pe_int (pa_cons (pv 0) pa_nil))) pa_nil)))))))
      (pss_cons (ps_if (pt_val (pe_callB (call_isiK1 (K := K)) (by rfl) T.m_isinstance (by decide +kernel) (pa_cons (pv 0) (pa_cons (pe_bltn (v := .ty "list") (by rfl) T.m_list (by decide +kernel) rfl) pa_nil)))) (pss_one (ps_expr (pe_bm PySem.F.plainAttrs_list PySem.F.slot_list_append PySem.F.type_list_append mt_append (pv 0) (pa_cons pe_str pa_nil)))) (pss_one (ps_dput (hu_of hr) (pv 0) pe_str pe_int (by rfl))))
      (pss_cons (ps_set (i := 3) sc__law_objects_right.nd rfl (Or.inl rfl) (pe_op op_cat (pe_op op_cat (pe_lc (own := [("_law_e", 4)]) (g := gName 4) rfl sc__law_objects_right.nd (pi_listK (K := K) (pe_ix (ix_listK (K := K)) (pv 1) pe_int (fun _ _ => rfl))) (blkOk_by (own := [("_law_e", 4)]) (N := n__law_objects_right) (sc := defScope s__law_objects_right) (by decide +kernel)) (fun _ _ _ _ _ => pg_name (i := 4) sc__law_objects_right.nd rfl (Or.inl rfl)) (fun _ _ _ _ _ => pts_nil) (fun _ _ _ _ _ => (pe_exf (K := K) (pv 4)))) (pe_lc (own := [("_law_e", 4)]) (g := gName 4) rfl sc__law_objects_right.nd (pi_listK (K := K) (pe_ix (ix_listK (K := K)) (pv 1) pe_int (fun _ _ => rfl))) (blkOk_by (own := [("_law_e", 4)]) (N := n__law_objects_right) (sc := defScope s__law_objects_right) (by decide +kernel)) (fun _ _ _ _ _ => pg_name (i := 4) sc__law_objects_right.nd rfl (Or.inl rfl)) (fun _ _ _ _ _ => pts_nil) (fun _ _ _ _ _ => (pe_exf (K := K) (pv 4))))) (pe_lc (own := [("_law_e", 4)]) (g := gName 4) rfl sc__law_objects_right.nd (pi_listK (K := K) (pe_ix (ix_listK (K := K)) (pv 1) pe_int (fun _ _ => rfl))) (blkOk_by (own := [("_law_e", 4)]) (N := n__law_objects_right) (sc := defScope s__law_objects_right) (by decide +kernel)) (fun _ _ _ _ _ => pg_name (i := 4) sc__law_objects_right.nd rfl (Or.inl rfl)) (fun _ _ _ _ _ => pts_nil) (fun _ _ _ _ _ => (pe_exf (K := K) (pv 4))))))
      (pss_cons (ps_set (i := 3) sc__law_objects_right.nd rfl (Or.inl rfl) (pe_op op_cat (pe_op op_cat (pv 3) (pe_lc (own := [("_law_e", 4)]) (g := gName 4) rfl sc__law_objects_right.nd (pi_listK (K := K) (pe_ix (ix_listK (K := K)) (pv 1) pe_int (fun _ _ => rfl))) (blkOk_by (own := [("_law_e", 4)]) (N := n__law_objects_right) (sc := defScope s__law_objects_right) (by decide +kernel)) (fun _ _ _ _ _ => pg_name (i := 4) sc__law_objects_right.nd rfl (Or.inl rfl)) (fun _ _ _ _ _ => pts_nil) (fun _ _ _ _ _ => (pe_exf (K := K) (pv 4))))) (pe_lst (pa_cons (pe_exf (K := K) (pe_ix (ix_listK (K := K)) (pv 2) pe_int (fun _ _ => rfl))) (pa_cons (pe_exf (K := K) (pe_ix (ix_listK (K := K)) (pv 2) pe_int (fun _ _ => rfl))) (pa_cons (pe_exf (K := K) (pe_ix (ix_listK (K := K)) (pv 2) pe_int (fun _ _ => rfl))) pa_nil))))))
      (pss_cons (ps_set (i := 3) sc__law_objects_right.nd rfl (Or.inl rfl) (pe_op op_cat (pv 3) (pe_lst (pa_cons (pe_exf (K := K) (pe_ix (ix_listK (K := K)) (pv 2) pe_int (fun _ _ => rfl))) (pa_cons (pe_exf (K := K) (pe_ix (ix_listK (K := K)) (pv 2) pe_int (fun _ _ => rfl))) pa_nil)))))
      (pss_one (ps_ret (pe_cmpR (op_eqDK (K := K) hr.units) (pe_lc (own := [("_law_one", 5)]) (g := gName 5) rfl sc__law_objects_right.nd (pi_listK (K := K) (pv 3)) (blkOk_by (own := [("_law_one", 5)]) (N := n__law_objects_right) (sc := defScope s__law_objects_right) (by decide +kernel)) (fun _ _ _ _ _ => pg_name (i := 5) sc__law_objects_right.nd rfl (Or.inl rfl)) (fun _ _ _ _ _ => (pts_one (pt_cmpR (op_neO (K := K) hr.units) (pv 5) (pv 0) (nomark _)))) (fun _ _ _ _ _ => (pv 5))) (pe_lst pa_nil) (nomark _)))))))))), ?_⟩
  refine EvSL.setσ (fun p => [some (.ref a), some (.ref p), none, none, none, none]) (H00 := H) (Same.refl _) (evs_lst (evs_cons ((eu_mk (evs_v rfl)).sf ha) (evs_cons ((eu_mk (evs_v rfl)).sf ha) (evs_cons ((eu_mk (evs_v rfl)).sf ha) (evs_cons ((eu_mk (evs_v rfl)).sf ha) evs_nil)))) (Nat.le_of_ble_eq_true rfl)) fun p1 xs1 H1 s1 n1 e1 r1 => ?_
  have a1 := s1 _ _ ha
  refine EvSL.setσ (fun p => [some (.ref a), some (.ref p1), some (.ref p), none, none, none]) (H00 := H1) (Same.refl _) (evs_lst (evs_cons (ev_X1 T.k_UnknownRoom (evs_v rfl)) (evs_cons (ev_X1 T.k_Lacking (evs_v rfl)) (evs_cons (ev_X1 T.k_NoLine (evs_v rfl)) (evs_cons (ev_X2 T.k_NotAhead (by decide) (evs_v rfl) evs_c) (evs_cons (ev_X2b T.k_NotWithin evs_c (evs_v rfl)) evs_nil))))) (Nat.le_of_ble_eq_true rfl)) fun p2 xs2 H2 s2 n2 e2 r2 => ?_
  have a2 := s2 _ _ a1
  have d1 : p1 ≠ a := ne_of_free n1 ha
  have d2 : p2 ≠ a := ne_of_free n2 a1
  obtain ⟨m1, m2, m3, m4, rfl, f1, f2, f3, f4⟩ := allP4 r1
  obtain ⟨l1, l2, l3, l4, l5, rfl, g1, g2, g3, g4, g5⟩ := allP5 r2
  have hax2 : H2 a = some (.lst [.str "x"]) ∨ H2 a = some (.dK [(.inr "k", .int 1)]) := hax.imp (fun h => s2 _ _ (s1 _ _ h)) (fun h => s2 _ _ (s1 _ _ h))
  refine mut_if rfl hax2 fun o' hno => ?_
  have b1 : upd H2 a o' p1 = some (.lst [m1, m2, m3, m4]) := by rw [upd_ne d1]; exact s2 _ _ e1
  have b2 : upd H2 a o' p2 = some (.lst [l1, l2, l3, l4, l5]) := by rw [upd_ne d2]; exact e2
  obtain ⟨q1, ys1, rfl, _, c1, t1⟩ := lsf_upd (o' := o') a2 no (MP.mono _ s2 f1)
  obtain ⟨q2, ys2, rfl, _, c2, t2⟩ := lsf_upd (o' := o') a2 no (MP.mono _ s2 f2)
  obtain ⟨q3, ys3, rfl, _, c3, t3⟩ := lsf_upd (o' := o') a2 no (MP.mono _ s2 f3)
  obtain ⟨q4, ys4, rfl, _, c4, t4⟩ := lsf_upd (o' := o') a2 no (MP.mono _ s2 f4)
  replace g1 := exF_upd (o' := o') a2 no g1
  replace g2 := exF_upd (o' := o') a2 no g2
  replace g3 := exF_upd (o' := o') a2 no g3
  replace g4 := exF_upd (o' := o') a2 no g4
  replace g5 := exF_upd (o' := o') a2 no g5
  have a3 : upd H2 a o' a = some o' := upd_same
  generalize upd H2 a o' = H3 at *
  refine EvU.setσ (fun p => [some (.ref a), some (.ref p1), some (.ref p2), some (.ref p), none, none]) (H00 := H3) (Same.refl _) (eu_cat (eu_cat (lc_map (by decide) (ew_ix (k := 0) rfl b1 rfl c1 t1) fun v H' Q' s' r' q' => fld_map r' rfl q').w (lc_map (by decide) (ew_ix (k := 1) rfl b1 rfl c2 t2) fun v H' Q' s' r' q' => fld_map r' rfl q').w).w (lc_map (by decide) (ew_ix (k := 2) rfl b1 rfl c3 t3) fun v H' Q' s' r' q' => fld_map r' rfl q').w) fun p4 xs4 H4 s4 n4 e4 r4 => ?_
  refine EvU.setσ (fun p => [some (.ref a), some (.ref p1), some (.ref p2), some (.ref p), none, none]) s4 (eu_cat (eu_cat (ew_var rfl e4 r4) (lc_map (by decide) (ew_ix (k := 3) rfl (s4 _ _ b1) rfl (s4 _ _ c4) (t4.mono s4)) fun v H' Q' s' r' q' => fld_map r' rfl q').w).w (eu_lst (en_cons (ev_fld (ev_ix (k := 0) rfl (s4 _ _ b2) rfl (MP.mono _ s4 g1))) (en_cons (ev_fld (ev_ix (k := 1) rfl (s4 _ _ b2) rfl (MP.mono _ s4 g2))) (en_cons (ev_fld (ev_ix (k := 2) rfl (s4 _ _ b2) rfl (MP.mono _ s4 g3))) en_nil)))).w) fun p5 xs5 H5 s5 n5 e5 r5 => ?_
  refine EvU.setσ (fun p => [some (.ref a), some (.ref p1), some (.ref p2), some (.ref p), none, none]) s5 (eu_cat (ew_var rfl e5 r5) (eu_lst (en_cons (ev_fld (ev_ix (k := 3) rfl (s5 _ _ b2) rfl (MP.mono _ s5 g4))) (en_cons (ev_fld (ev_ix (k := 4) rfl (s5 _ _ b2) rfl (MP.mono _ s5 g5))) en_nil))).w) fun p6 xs6 H6 s6 n6 e6 r6 => ?_
  exact eq_empty (lc_none (ew_var rfl e6 r6) fun v H' Q' s' r' q' => ⟨v, rfl, .ref a, rfl, by rw [show v = .ref a from r']; exact hno a H' _ (s' _ _ (s6 _ _ a3)) ⟨false, rfl, q' H' (Same.refl _)⟩⟩) fun H' s' => q H'
end
end Kx

set_option Elab.async false
set_option linter.all false
set_option maxRecDepth 100000
set_option maxHeartbeats 4000000
namespace Kx
open PySem PySem.Spec PyProof.Rows L2
/-- data whose repr can be laid, away from b -/
def shb (b : Addr) : MP := ⟨fun H v => ∃ d, Off (hid b H) v d ∧ Sh d ∧ Sh (.list [d, d]), fun e ⟨d, h1, h2⟩ => ⟨d, h1.mono (hid_mono e), h2⟩⟩
section
variable {b : Addr} {H0 : Hp} {σ : L2.St} {o : HO}
theorem sh_c {v : V} {d : PyData} (h : ∀ H, Off H v d) (s1 : Sh d) (s2 : Sh (.list [d, d])) : EvS H0 (tC v) σ (shb b) := fun H Q s q => q v H (Same.refl _) ⟨d, h _, s1, s2⟩
theorem sh_p : EvS H0 (tC (.str "p")) σ (shb b) := sh_c (fun _ => .str _) ⟨by decide +kernel, by decide +kernel, by decide +kernel⟩ ⟨by decide +kernel, by decide +kernel, by decide +kernel⟩
theorem sh_e : EvS H0 (tC (.str "")) σ (shb b) := sh_c (fun _ => .str _) ⟨by decide +kernel, by decide +kernel, by decide +kernel⟩ ⟨by decide +kernel, by decide +kernel, by decide +kernel⟩
theorem sh_0 : EvS H0 (tC (.int 0)) σ (shb b) := sh_c (fun _ => .int _) ⟨by decide +kernel, by decide +kernel, by decide +kernel⟩ ⟨by decide +kernel, by decide +kernel, by decide +kernel⟩
theorem sh_n : EvS H0 (tC .non) σ (shb b) := sh_c (fun _ => .non) ⟨by decide +kernel, by decide +kernel, by decide +kernel⟩ ⟨by decide +kernel, by decide +kernel, by decide +kernel⟩
theorem sh_t : EvS H0 (tC (.bl true)) σ (shb b) := sh_c (fun _ => .bl _) ⟨by decide +kernel, by decide +kernel, by decide +kernel⟩ ⟨by decide +kernel, by decide +kernel, by decide +kernel⟩
theorem sh_f : EvS H0 (tC (.bl false)) σ (shb b) := sh_c (fun _ => .bl _) ⟨by decide +kernel, by decide +kernel, by decide +kernel⟩ ⟨by decide +kernel, by decide +kernel, by decide +kernel⟩
theorem sh_m3 : EvS H0 (tUn (rU fun i => .int (-i)) (tC (.int 3))) σ (shb b) := fun H Q s q => ⟨3, rfl, q (.int (-3)) H (Same.refl _) ⟨.int (-3), .int _, ⟨by decide +kernel, by decide +kernel, by decide +kernel⟩, ⟨by decide +kernel, by decide +kernel, by decide +kernel⟩⟩⟩
theorem sh_big : EvS H0 (tOp (rI CPow fun i j => .int (i ^ j.toNat)) (tC (.int 10)) (tC (.int 29))) σ (shb b) := fun H Q s q => ⟨10, 29, rfl, rfl, ⟨by decide, by decide, by decide⟩, q (.int (10 ^ 29)) H (Same.refl _) ⟨.int (10 ^ 29), .int _, ⟨by decide +kernel, by decide +kernel, by decide +kernel⟩, ⟨by decide +kernel, by decide +kernel, by decide +kernel⟩⟩⟩
variable (hb : H0 b = some o)
include hb
theorem hid_at {H : Hp} {p : Addr} {u : HO} (s : Same H0 H) (hp : H p = none) : hid b (upd H p u) p = some u := by rw [hid_ne (ne_of_free hp (s _ _ hb)), upd_same]
theorem sh_tup2 {x y : V} {d e : PyData} (hx : ∀ H, Off H x d) (hy : ∀ H, Off H y e) (s1 : Sh (.tuple [d, e])) (s2 : Sh (.list [.tuple [d, e], .tuple [d, e]])) : EvS H0 (tTup (tCons (tC x) (tCons (tC y) tNil))) σ (shb b) := fun H Q s q =>
  ⟨show 2 ≤ sizeLine by decide, fun p hp => q _ _ (same_upd hp) ⟨_, .tup (hid_at hb s hp) (.cons (hx _) (.cons (hy _) .nil)), s1, s2⟩⟩
theorem sh_ann : EvS H0 (tTup (tCons (tC (.str "ann")) (tCons (tC (.int 2)) tNil))) σ (shb b) := sh_tup2 hb (fun _ => .str _) (fun _ => .int _) ⟨by decide +kernel, by decide +kernel, by decide +kernel⟩ ⟨by decide +kernel, by decide +kernel, by decide +kernel⟩
theorem sh_hall : EvS H0 (tTup (tCons (tC (.str "hall")) (tCons (tC (.str "lead")) tNil))) σ (shb b) := sh_tup2 hb (fun _ => .str _) (fun _ => .str _) ⟨by decide +kernel, by decide +kernel, by decide +kernel⟩ ⟨by decide +kernel, by decide +kernel, by decide +kernel⟩
theorem sh_lst : EvS H0 (tLstB (tCons (tC (.str "x")) tNil)) σ (shb b) := fun H Q s q =>
  ⟨show 1 ≤ sizeLine by decide, fun p hp np => q _ _ (same_upd hp) ⟨.list [.str "x"], .lst (hid_at hb s hp) np (.cons (.str _) .nil), ⟨by decide +kernel, by decide +kernel, by decide +kernel⟩, ⟨by decide +kernel, by decide +kernel, by decide +kernel⟩⟩⟩
theorem sh_dct : EvS H0 (tDisp [(tC (.str "k"), tC (.int 1))]) σ (shb b) := fun H Q s q => fun p hp => by
  refine ⟨upd_same, [(.inr "k", .int 1)], rfl, show 1 ≤ 15 by decide, q _ _ (free_upd (same_upd hp) hp) ⟨.dict [(kD (.inr "k"), .int 1)], .dct (kvs := [(.inr "k", .int 1)]) ?_ (.cons (.int _) .nil), ⟨by decide +kernel, by decide +kernel, by decide +kernel⟩, ⟨by decide +kernel, by decide +kernel, by decide +kernel⟩⟩⟩
  rw [hid_ne (ne_of_free hp (s _ _ hb)), upd_same]
  rfl
theorem sh_nest : EvS H0 (tTup (tCons (tTup (tCons (tC (.int 0)) tNil)) tNil)) σ (shb b) := fun H Q s q =>
  ⟨show 1 ≤ sizeLine by decide, fun p hp => ⟨show 1 ≤ sizeLine by decide, fun r hr => q _ _ ((same_upd hp).trans (same_upd hr)) ⟨.tuple [.tuple [.int 0]], .tup (hid_at hb (s.trans (same_upd hp)) hr) (.cons (.tup (hid_mono (same_upd hr) _ _ (hid_at hb s hp)) (.cons (.int _) .nil)) .nil), ⟨by decide +kernel, by decide +kernel, by decide +kernel⟩, ⟨by decide +kernel, by decide +kernel, by decide +kernel⟩⟩⟩⟩
end
end Kx

set_option Elab.async false
set_option linter.all false
set_option maxRecDepth 100000
set_option maxHeartbeats 4000000
namespace Kx
open PySem PySem.Spec PyProof.Rows L2
def spLaw (K : PySem.W.Frag) : Sp := fun vs H Q _ => ∃ (a : Addr) (ns : List Int), vs = [.ref a] ∧ SqL K H a (ns.map V.int) ∧ ns.length ≤ 63 ∧ ∀ H', Q (.bl true) H'
theorem spLaw_len {K : PySem.W.Frag} (vs : List V) (H : Hp) (Q : VK) (E : XK) (h : spLaw K vs H Q E) : vs.length = 1 := by
  obtain ⟨a, ns, rfl, _⟩ := h
  rfl
section
variable {P : Program} {w : World} {K : PySem.W.Frag} {mg : Str → Option Value} {base : Heap}
theorem ok_law (T : Top K mg) : FnG P w K mg base CX0 6 (He.ga K "law") T.f_law.d ["_law_script"] (spLaw K) := by
  refine Fun.okG T.f_law.F sc_law spLaw_len (fun cdv A outer s H vs Q E hgd hr h => ?_)
  obtain ⟨a, ns, rfl, hS, hlen, q⟩ := h
  refine ⟨_, (pss_cons (ps_for PassesOwn.never rfl (pi_range1 (by rfl) T.m_range (pa_cons pe_int pa_nil)) (pg_name (i := 1) sc_law.nd rfl (Or.inl rfl)) (pss_cons (ps_set (i := 2) sc_law.nd rfl (Or.inl rfl) (pe_call (ok__law_box T) (hr.mono (by decide)) (by rfl) T.f__law_box.g T.f__law_box.F.kp T.f__law_box.b .nil pass0 (pa_cons (pe_call (ok__law_cell T) (hr.mono (by decide)) (by rfl) T.f__law_cell.g T.f__law_cell.F.kp T.f__law_cell.b .nil pass0 (pa_cons (pv 0) (pa_cons (pv 1) pa_nil))) pa_nil)))
        (pss_cons (ps_set (i := 3) sc_law.nd rfl (Or.inl rfl) (pe_lst (pa_cons pe_str (pa_cons pe_int (pa_cons pe_non (pa_cons (pe_un un_neg pe_int) (pa_cons (pe_tup (pa_cons pe_str (pa_cons pe_int pa_nil))) (pa_cons (pe_lstB (pa_cons pe_str pa_nil)) (pa_cons pe_bl (pa_cons (pe_disp (pps_cons pe_str pe_int pps_nil) (by rfl) (by rfl) (fun z => by cases z) (by decide)) (pa_cons (pe_op op_pow pe_int pe_int) (pa_cons pe_str (pa_cons pe_bl pa_nil)))))))))))))
        (pss_cons (ps_set (i := 3) sc_law.nd rfl (Or.inl rfl) (pe_op op_cat (pv 3) (pe_lst (pa_cons (pe_tup (pa_cons (pe_tup (pa_cons pe_int pa_nil)) pa_nil)) (pa_cons (pe_tup (pa_cons pe_str (pa_cons pe_str pa_nil))) pa_nil)))))
        (pss_cons (ps_asg (pe_tup (pa_cons (pe_ix (ix_listK (K := K)) (pv 3) (pe_call (ok__law_take T) (hr.mono (by decide)) (by rfl) T.f__law_take.g T.f__law_take.F.kp T.f__law_take.b .nil pass0 (pa_cons (pv 2) (pa_cons pe_int pa_nil))) (fun _ _ => rfl)) (pa_cons (pe_ix (ix_listK (K := K)) (pv 3) (pe_call (ok__law_take T) (hr.mono (by decide)) (by rfl) T.f__law_take.g T.f__law_take.F.kp T.f__law_take.b .nil pass0 (pa_cons (pv 2) (pa_cons pe_int pa_nil))) (fun _ _ => rfl)) pa_nil))) (pg_tup rfl (pgs_cons (pg_name (i := 4) sc_law.nd rfl (Or.inr rfl)) (pgs_cons (pg_name (i := 5) sc_law.nd rfl (Or.inr rfl)) pgs_nil))))
        (pss_cons (ps_if (pt_not (pt_val (pe_callG (ok__law_fields_right T) hgd (hr.mono (by decide)) (by rfl) T.f__law_fields_right.g T.f__law_fields_right.F.kp T.f__law_fields_right.b .nil pass0 (pa_cons (pv 4) pa_nil)))) (pss_one (ps_ret pe_bl)) pss_nil)
        (pss_cons (ps_asg (pe_call (ok__law_pairs T) (hr.mono (by decide)) (by rfl) T.f__law_pairs.g T.f__law_pairs.F.kp T.f__law_pairs.b .nil pass0 (pa_cons (pv 4) (pa_cons (pv 5) pa_nil))) (pg_unl rfl (pgs_cons (pg_name (i := 6) sc_law.nd rfl (Or.inl rfl)) (pgs_cons (pg_name (i := 7) sc_law.nd rfl (Or.inl rfl)) pgs_nil))))
        (pss_cons (ps_if (pt_cmpR (op_neDK (K := K) hr.units) (pe_lc (own := [("_law_pair", 8)]) (g := gName 8) rfl sc_law.nd (pi_listK (K := K) (pv 6)) (blkOk_by (own := [("_law_pair", 8)]) (N := n_law) (sc := defScope s_law) (by decide +kernel)) (fun _ _ _ _ _ => pg_name (i := 8) sc_law.nd rfl (Or.inl rfl)) (fun _ _ _ _ _ => (pts_one (pt_not (pt_val (pe_callG (ok__law_same T) hgd (hr.mono (by decide)) (by rfl) T.f__law_same.g T.f__law_same.F.kp T.f__law_same.b .nil pass0 (pa_cons (pv 8) (pa_cons (pe_lstB (pa_cons (pv 4) (pa_cons (pv 4) pa_nil))) pa_nil))))))) (fun _ _ _ _ _ => (pv 8))) (pe_lst pa_nil) (nomark _)) (pss_one (ps_ret pe_bl)) pss_nil)
        (pss_one (ps_if (pt_cmpR (op_neDK (K := K) hr.units) (pe_lc (own := [("_law_pair", 8)]) (g := gName 8) rfl sc_law.nd (pi_listK (K := K) (pv 7)) (blkOk_by (own := [("_law_pair", 8)]) (N := n_law) (sc := defScope s_law) (by decide +kernel)) (fun _ _ _ _ _ => pg_name (i := 8) sc_law.nd rfl (Or.inl rfl)) (fun _ _ _ _ _ => (pts_one (pt_not (pt_val (pe_callG (ok__law_same T) hgd (hr.mono (by decide)) (by rfl) T.f__law_same.g T.f__law_same.F.kp T.f__law_same.b .nil pass0 (pa_cons (pv 8) (pa_cons (pe_lstB (pa_cons (pv 5) (pa_cons (pv 5) pa_nil))) pa_nil))))))) (fun _ _ _ _ _ => (pv 8))) (pe_lst pa_nil) (nomark _)) (pss_one (ps_ret pe_bl)) pss_nil))))))))))
      (pss_cons (ps_if (PW.pt (pw_or (pt_not (pt_val (pe_call (ok__law_objects_right T) (hr.mono (by decide)) (by rfl) T.f__law_objects_right.g T.f__law_objects_right.F.kp T.f__law_objects_right.b .nil pass0 (pa_cons (pe_lstB (pa_cons pe_str pa_nil)) pa_nil)))) (pw_or1 (pt_not (pt_val (pe_call (ok__law_objects_right T) (hr.mono (by decide)) (by rfl) T.f__law_objects_right.g T.f__law_objects_right.F.kp T.f__law_objects_right.b .nil pass0 (pa_cons (pe_disp (pps_cons pe_str pe_int pps_nil) (by rfl) (by rfl) (fun z => by cases z) (by decide)) pa_nil))))))) (pss_one (ps_ret pe_bl)) pss_nil)
      (pss_one (ps_ret (pe_call0 (ok__law_kinds_right T) (hr.mono (by decide)) (by rfl) T.f__law_kinds_right.g T.f__law_kinds_right.F.kp T.f__law_kinds_right.b .nil pass0))))), ?_⟩
  refine ⟨2, rfl, by decide, by decide, ?_⟩
  refine for_range (lo := 0) (n := 2) (fun i σ H2 => Same H H2 ∧ ∃ y1 y2 y3 y4 y5 y6 y7 y8, σ = [some (.ref a), y1, y2, y3, y4, y5, y6, y7, y8]) ⟨Same.refl _, _, _, _, _, _, _, _, _, rfl⟩ (fun i σ H2 hi h => ?_) (fun σ H2 h => ?_)
  · obtain ⟨h1, y1, y2, y3, y4, y5, y6, y7, y8, rfl⟩ := h
    refine ⟨_, rfl, _, rfl, a, ns, i, by simp, h1.seq hS, fun n => ⟨n, rfl, fun b H3 s3 nb B3 => ?_⟩⟩
    obtain ⟨ob, hb⟩ : ∃ o, H3 b = some o := by
      obtain ⟨n0, fl, n2, n3, e1, _⟩ := B3
      exact ⟨_, e1⟩
    refine EvU.setσ (fun p => [some (.ref a), some (.int (0 + (i : Int))), some (.ref b), some (.ref p), y4, y5, y6, y7, y8]) (H00 := H3) (Same.refl _)
      (eu_lst (en_cons sh_p (en_cons sh_0 (en_cons sh_n (en_cons sh_m3 (en_cons (sh_ann hb) (en_cons (sh_lst hb) (en_cons sh_t (en_cons (sh_dct hb) (en_cons sh_big (en_cons sh_e (en_cons sh_f en_nil)))))))))))) fun p4 xs4 H4 s4 n4 e4 r4 => ?_
    refine EvU.setσ (fun p => [some (.ref a), some (.int (0 + (i : Int))), some (.ref b), some (.ref p), y4, y5, y6, y7, y8]) (H00 := H3) s4
      (eu_cat (ew_var rfl e4 r4) (eu_lst (en_cons (sh_nest (s4 _ _ hb)) (en_cons (sh_hall (s4 _ _ hb)) en_nil))).w) fun p5 xs5 H5 s5 n5 e5 r5 => ?_
    have B5 : Box H5 b 0 := by
      obtain ⟨n0, fl, n2, n3, e1, e2⟩ := B3
      exact ⟨n0, fl, n2, n3, s5 _ _ e1, e2⟩
    have d5 : p5 ≠ b := ne_of_free n5 (s4 _ _ hb)
    have get : ∀ d : Int, 0 ≤ d → d < 13 → ∃ x, atI xs5 d = some x ∧ (shb b).p H5 x := fun d h0 h1 => by
      obtain ⟨k, rfl⟩ := Int.eq_ofNat_of_zero_le h0
      have hk : k < xs5.length := by rw [r5.len]; omega
      exact ⟨xs5[k], atI_nat (List.getElem?_eq_getElem hk), r5.all _ (List.getElem_mem hk)⟩
    have el : lim = 1000000000 := rfl
    refine ⟨.ref p5, rfl, .ref b, rfl, b, 0, 13, rfl, B5, by decide, by decide, by decide, by decide, fun k1 H6 s6 B6 k1a k1b => ?_⟩
    obtain ⟨x, gx, dx, ox, shx, shx2⟩ := get k1 k1a k1b
    refine ⟨p5, xs5, k1, x, rfl, rfl, .inl (.inl (hid_find s6 e5 d5)), gx, .ref p5, rfl, .ref b, rfl, b, 1, 13, rfl, B6, by decide, by decide, by decide, by decide, fun k2 H7 s7 B7 k2a k2b => ?_⟩
    obtain ⟨y, gy, dy, oy, shy, shy2⟩ := get k2 k2a k2b
    have s67 := s6.trans s7
    refine ⟨p5, xs5, k2, y, rfl, rfl, .inl (.inl (hid_find s67 e5 d5)), gy, show 2 ≤ sizeLine by decide, fun p8 hp8 => ?_⟩
    have ox7 := ((ox.mono s67).mono (hid_same _ _)).mono (same_upd (o := .tup [x, y]) hp8)
    have oy7 := ((oy.mono s67).mono (hid_same _ _)).mono (same_upd (o := .tup [x, y]) hp8)
    have hH : Same H (upd H7 p8 (.tup [x, y])) := fun c u e => by
      have e2 := h1 _ _ e
      exact same_upd hp8 _ _ (hid_find s67 (s5 _ _ (s3 _ _ e2)) (ne_of_none e2 nb))
    have t8 : upd H7 p8 (.tup [x, y]) p8 = some (.tup [x, y]) := upd_same
    generalize upd H7 p8 (.tup [x, y]) = H8 at *
    refine ⟨p8, _, rfl, .inl (.inl t8), rfl, x, _, rfl, y, _, rfl, rfl, ?_⟩
    refine ⟨x, rfl, x, dx, rfl, ox7, shx, shx2, fun H9 s9 => ⟨true, rfl, iteF ?_⟩⟩
    refine ⟨x, rfl, y, rfl, x, y, rfl, fun p p1 p2 us vs H10 s10 f0 f1 f2 g1 g2 => ?_⟩
    refine ⟨p, _, rfl, .inl (.inl f0), rfl, .ref p1, _, rfl, .ref p2, _, rfl, rfl, ?_⟩
    have s810 := s9.trans s10
    refine ne_empty (lc_none (ew_var rfl f1 g1) fun v H' Q' s' r' q' => same_pair rfl rfl r' (ox7.mono (s810.trans s')) shx2 q') fun H11 s11 => iteF ?_
    have s811 := s810.trans s11
    refine ne_empty (lc_none (ew_var rfl (s11 _ _ f2) (g2.mono s11)) fun v H' Q' s' r' q' => same_pair rfl rfl r' (oy7.mono (s811.trans s')) shy2 q') fun H12 s12 => iteF ?_
    exact ⟨hH.trans (s811.trans s12), _, _, _, _, _, _, _, _, rfl⟩
  · obtain ⟨h1, y1, y2, y3, y4, y5, y6, y7, y8, rfl⟩ := h
    refine ⟨show 1 ≤ sizeLine by decide, fun p hp np => ⟨p, rfl, .inl upd_same, fun H3 => ⟨true, rfl, iteF ?_⟩⟩⟩
    refine fun r hr => ⟨upd_same, [(.inr "k", .int 1)], rfl, show 1 ≤ 15 by decide, r, rfl, .inr (by rw [upd_same]; rfl), fun H4 => ⟨true, rfl, iteF ?_⟩⟩
    exact ⟨rfl, fun H5 => q H5⟩
end
end Kx

set_option Elab.async false
set_option linter.all false
set_option maxRecDepth 100000
set_option maxHeartbeats 4000000
namespace Kx
open PySem PySem.Spec PyProof.Rows L2
open HandSHeadRun (frNat frNat_eq)
/-- a class object under G: what clsL looks at -/
structure ClsAt (K : PySem.W.Frag) (G : Addr) (c : Str) (a N : Addr) (l : List DictEntry) : Prop where
  cls : ∃ q bs sn sub ab col dd k0 k1 k2 k3 k5, K.lookup a = some (excClassObj c q a N bs (.ref G :: PySem.HandSPX.veTail) true sn sub ab col dd k0 k1 k2 k3 k5 "ValueError.__new__")
  ns : ∃ oc od d ep sl, K.lookup N = some ⟨oc, od, .dict d ep, sl⟩ ∧ d.toList = l
  st : strL l = true
theorem clsL_ok {β : Type} {K : PySem.W.Frag} {G a : Addr} {c : Str} {z r : β} {k : Bool → List DictEntry → β} (h : clsL (fun a => K.lookup a) G c a z k = r) (hz : z ≠ r) (hk : ∀ l, k false l ≠ r) : ∃ N l, ClsAt K G c a N l ∧ k true l = r := by
  unfold clsL at h
  simp only [frNat_eq, frEnt_eq] at h
  split at h
  · rename_i t dd cd sl ho
    split at h
    · rename_i k0 k1 k2 k3 n k5 hs
      split at h
      · rename_i oc od d ep sl2 hN
        generalize hb : (decide (cd.name = c) && (decide (t = "type") && (decide (cd.mro = .ref a :: .ref G :: PySem.HandSPX.veTail) && (decide (n = "ValueError.__new__") && (!cd.hasDel && (cd.hasDict && strL d.toList)))))) = b at h
        cases b with
        | false => exact absurd h (hk _)
        | true =>
          simp only [Bool.and_eq_true, decide_eq_true_eq, Bool.not_eq_true'] at hb
          obtain ⟨rfl, rfl, h2, rfl, h4, h5, h6⟩ := hb
          obtain ⟨nm, bs, mro, ns, qn, hd, sn, sub, ab, col, del⟩ := cd
          dsimp only at h2 h4 h5 h hN
          subst h2 h4 h5
          have hsl : sl = #[k0, k1, k2, k3, some (.builtin "ValueError.__new__"), k5] := by
            obtain ⟨l⟩ := sl
            simp only at hs
            rw [hs]
          subst hsl
          exact ⟨ns, d.toList, ⟨⟨qn, bs, sn, sub, ab, col, dd, k0, k1, k2, k3, k5, ho⟩, ⟨oc, od, d, ep, sl2, hN, rfl⟩, h6⟩, h⟩
      · exact absurd h hz
    · exact absurd h hz
  · exact absurd h hz
theorem rowI_ok {K : PySem.W.Frag} {G : Addr} {es : List DictEntry} {c q : Str} {fs : List Str} {v : He.FnW} (h : rowI (fun a => K.lookup a) G es c fs q = (true, v)) :
    ∃ a N m l, valL es c = some (.ref a) ∧ ClsAt K G c a N l ∧ valL l "__init__" = some (.ref m) ∧ fnL1 (fun a => K.lookup a) q m = (true, v) ∧ freeL l names4 = true ∧ freeL l fs = true := by
  unfold rowI at h
  split at h
  · rename_i a0 ha
    rw [frNat_eq] at h
    obtain ⟨N, l, hc, h2⟩ := clsL_ok h (by simp) (fun l => by
      split
      · rw [frNat_eq]
        split
        simp
      · simp)
    split at h2
    · rename_i m0 hm
      rw [frNat_eq] at h2
      split at h2
      rename_i b2 v2 hf
      simp only [Prod.mk.injEq, Bool.and_eq_true, true_and] at h2
      obtain ⟨⟨rfl, h3, h4⟩, rfl⟩ := h2
      exact ⟨a0, N, m0, l, ha, hc, hm, hf, h3, h4⟩
    · simp at h2
  · simp at h
theorem row0_ok {K : PySem.W.Frag} {G : Addr} {es : List DictEntry} {c : Str} (h : row0 (fun a => K.lookup a) G es c = true) :
    ∃ a N l, valL es c = some (.ref a) ∧ ClsAt K G c a N l ∧ freeL l names4 = true ∧ freeL l ["__init__"] = true := by
  unfold row0 at h
  split at h
  · rename_i a0 ha
    rw [frNat_eq] at h
    obtain ⟨N, l, hc, h2⟩ := clsL_ok h (by simp) (fun l => by simp)
    simp only [Bool.and_eq_true, true_and] at h2
    exact ⟨a0, N, l, ha, hc, h2.1, h2.2⟩
  · simp at h
structure RootAt (K : PySem.W.Frag) (G N : Addr) (l : List DictEntry) (xs : List Str) : Prop where
  cls : ∃ dd cd sl, K.lookup G = some ⟨.type "type", dd, .cls cd, sl⟩ ∧ cd.ns = N ∧ cd.name = gGE
  ns : ∃ oc od d ep sl, K.lookup N = some ⟨oc, od, .dict d ep, sl⟩ ∧ d.toList = l
  st : strL l = true
  f4 : freeL l names4 = true
  f0 : freeL l ["__init__"] = true
  fx : freeL l xs = true
theorem rowR_ok {K : PySem.W.Frag} {G : Addr} {xs : List Str} (h : rowR (fun a => K.lookup a) G xs = true) : ∃ N l, RootAt K G N l xs := by
  unfold rowR at h
  split at h
  · rename_i t dd cd sl ho
    rw [frNat_eq] at h
    split at h
    · rename_i oc od d ep sl2 hN
      rw [frEnt_eq] at h
      simp only [Bool.and_eq_true, decide_eq_true_eq] at h
      obtain ⟨rfl, h2, h3, h4, h5, h6⟩ := h
      exact ⟨_, _, ⟨dd, cd, sl, ho, rfl, h2⟩, ⟨oc, od, d, ep, sl2, hN, rfl⟩, h3, h4, h5, h6⟩
    · cases h
  · cases h
/-- a function object: what fnL1 looks at -/
theorem fn1_ok {K : PySem.W.Frag} {q : Str} {m : Addr} {d : He.DefD} (hd : d.dfl = [] ∧ d.kwd = []) (hq : d.qual = q) (h : fnL1 (fun a => K.lookup a) q m = (true, d.val)) : ∃ fd, FunD K d.name d.qual d.params d.body d.scope [] [] m fd ∧ PySem.W.typeIn K (.ref m) = some (.type "function") := by
  unfold fnL1 at h
  split at h
  · rename_i t od fd osl ho
    obtain ⟨n1, n2, n3, n4, n5, n6, n7, n8, n9, n10, n11, n12, n13, n14, n15⟩ := fd
    simp only [Prod.mk.injEq, Bool.and_eq_true, decide_eq_true_eq, He.DefD.val, Option.some.injEq] at h
    obtain ⟨⟨rfl, h2, h3⟩, g1, g2, g3, g4, g5, g6, g7, g8⟩ := h
    subst g1 g2 g3 g4 g5 g6 g7 g8
    have e8 : n8 = .none := by
      cases n8 <;> simp_all
    subst e8
    have hc : PySem.W.codeIn K n13 d.qual = true := by
      rw [hq]
      cases n13 with
      | ref c =>
        simp only [frNat_eq] at h3
        exact h3
      | _ => exact absurd h3 (by simp)
    refine ⟨_, ⟨⟨_, od, .none, n9, n10, n11, n12, n13, n14, osl, rfl, ho, hc, .inl ⟨rfl, rfl⟩, .inl rfl⟩, ?_⟩, ?_⟩
    · have ho' : K.lookup m = _ := ho
      unfold PySem.W.keepIn
      dsimp only
      rw [ho']
    · have ho' : K.lookup m = _ := ho
      show (K.lookup m).map (·.cls) = _
      rw [ho']
      rfl
  · simp at h
/-! ### from the looks to the classes -/
theorem along_set (K : PySem.W.Frag) : PySem.W.alongIn K "__setattr__" PySem.HandSPX.veTail = some (some (.builtin "object.__setattr__")) := by kernel_rfl
theorem along_get (K : PySem.W.Frag) : PySem.W.alongIn K "__getattribute__" PySem.HandSPX.veTail = some (some (.builtin "BaseException.__getattribute__")) := by kernel_rfl
theorem along_gat (K : PySem.W.Frag) : PySem.W.alongIn K "__getattr__" PySem.HandSPX.veTail = some none := by kernel_rfl
theorem along_cls (K : PySem.W.Frag) : PySem.W.alongIn K "__class__" PySem.HandSPX.veTail = some (some (.builtin "object.__class__")) := by kernel_rfl
theorem spec_cls (K : PySem.W.Frag) : PySem.W.specialIn K (.builtin "object.__class__") "__get__" = some (some (.builtin "getset_descriptor.__get__")) := by kernel_rfl
theorem take_cls (K : PySem.W.Frag) : PySem.W.takesIn K (.builtin "object.__class__") = some true := by kernel_rfl
theorem call_ty (K : PySem.W.Frag) : PySem.W.findIn K (.type "type") "__call__" = some (some (.builtin "type.__call__")) := by kernel_rfl
section
variable {K : PySem.W.Frag} {G a N NG : Addr} {c : Str} {l lg : List DictEntry} {xs : List Str}
theorem ClsAt.free (h : ClsAt K G c a N l) {x : Str} (k : (l.find? (·.key.isStr x)).isNone = true) : PySem.W.nsIn K N x = some none := by
  obtain ⟨oc, od, d, ep, sl, h1, rfl⟩ := h.ns
  exact ns_free h1 (strL_ref h.st) k
theorem RootAt.free (h : RootAt K G NG lg xs) {x : Str} (k : (lg.find? (·.key.isStr x)).isNone = true) : PySem.W.nsIn K NG x = some none := by
  obtain ⟨oc, od, d, ep, sl, h1, rfl⟩ := h.ns
  exact ns_free h1 (strL_ref h.st) k
theorem find_val (h : ClsAt K G c a N l) {x : Str} {v : Value} (k : PySem.W.nsIn K N x = some (some v)) : PySem.W.findIn K (.ref a) x = some (some v) := by
  obtain ⟨q, bs, sn, sub, ab, col, dd, k0, k1, k2, k3, k5, h1⟩ := h.cls
  unfold PySem.W.findIn
  dsimp only
  rw [h1]
  dsimp only
  unfold PySem.W.alongIn PySem.W.ownIn
  dsimp only
  rw [h1]
  dsimp only
  rw [k]
theorem find_free (h : ClsAt K G c a N l) (r : RootAt K G NG lg xs) {x : Str} (k1 : PySem.W.nsIn K N x = some none) (k2 : PySem.W.nsIn K NG x = some none) : PySem.W.findIn K (.ref a) x = PySem.W.alongIn K x PySem.HandSPX.veTail := by
  obtain ⟨q, bs, sn, sub, ab, col, dd, z0, z1, z2, z3, z5, h1⟩ := h.cls
  obtain ⟨dd', cd, sl, h2, rfl, _⟩ := r.cls
  unfold PySem.W.findIn
  dsimp only
  rw [h1]
  dsimp only
  unfold PySem.W.alongIn PySem.W.ownIn
  dsimp only
  rw [h1]
  dsimp only
  rw [k1]
  dsimp only
  unfold PySem.W.alongIn PySem.W.ownIn
  dsimp only
  rw [h2]
  dsimp only
  rw [k2]
  rfl
theorem ClsAt.clsIn (h : ClsAt K G c a N l) : ∃ cd, PySem.W.clsIn K a = some cd ∧ cd.mro = .ref a :: .ref G :: PySem.HandSPX.veTail ∧ cd.hasDict = true ∧ cd.name = c := by
  obtain ⟨q, bs, sn, sub, ab, col, dd, z0, z1, z2, z3, z5, h1⟩ := h.cls
  refine ⟨_, by unfold PySem.W.clsIn; rw [h1] <;> rfl, rfl, rfl, rfl⟩
theorem exCls_at (h : ClsAt K G c a N l) (r : RootAt K G NG lg xs) (f : freeL l names4 = true) : ExCls K G a := by
  have look : ∀ x, x ∈ names4 → PySem.W.findIn K (.ref a) x = PySem.W.alongIn K x PySem.HandSPX.veTail := fun x hx => find_free h r (h.free (free_at f hx)) (r.free (free_at r.f4 hx))
  have hty : PySem.W.typeIn K (.ref a) = some (.type "type") := by
    obtain ⟨q, bs, sn, sub, ab, col, dd, z0, z1, z2, z3, z5, h1⟩ := h.cls
    show (K.lookup a).map (·.cls) = _
    rw [h1]
    rfl
  obtain ⟨cd, c1, c2, c3, _⟩ := h.clsIn
  have hmro : ∀ v, v ∈ PySem.HandSPX.veTail → PySem.W.mroIn K a v = some true := fun v hv => by
    unfold PySem.W.mroIn
    rw [c1, Option.bind_some, c2]
    simp only [List.isEmpty_cons, Bool.false_eq_true, if_false, Option.some.injEq]
    rw [List.contains_iff_mem]
    exact List.mem_cons_of_mem _ (List.mem_cons_of_mem _ hv)
  have hsub : PySem.W.subIn K (.ref a) (.type "BaseException") = some true := hmro _ (by simp [PySem.HandSPX.veTail])
  have hdict : PySem.W.hasDictIn K a = true := by
    unfold PySem.W.hasDictIn
    rw [c1]
    simpa using c3
  have hget := (look "__getattribute__" (by simp [names4])).trans (along_get K)
  have hgat := (look "__getattr__" (by simp [names4])).trans (along_gat K)
  refine ⟨?_, (look "__setattr__" (by simp [names4])).trans (along_set K), ⟨hget, hgat, hsub, hdict⟩, hty, ?_, ⟨hget, hgat, hsub, hdict, (look "__class__" (by simp [names4])).trans (along_cls K), spec_cls K, take_cls K, hmro _ (by simp [PySem.HandSPX.veTail])⟩⟩
  · obtain ⟨q, bs, sn, sub, ab, col, dd, z0, z1, z2, z3, z5, h1⟩ := h.cls
    exact ⟨_, _, _, _, _, _, _, _, _, _, _, _, _, _, h1⟩
  · obtain ⟨q, bs, sn, sub, ab, col, dd, z0, z1, z2, z3, z5, h1⟩ := h.cls
    unfold PySem.W.keepIn
    dsimp only
    rw [h1]
    dsimp only
    unfold PySem.W.specialIn
    rw [hty, Option.bind_some, call_ty K]
    exact beq_self_eq_true _
theorem exc_in (h : ClsAt K G c a N l) (r : RootAt K G NG lg xs) (f : freeL l ["__init__"] = true) : PySem.W.excIn K a [.type "ValueError", .type "Exception", .type "BaseException", .type "object"] "ValueError.__new__" = true := by
  have n1 := h.free (free_at f (x := "__init__") (by simp))
  have n2 := r.free (free_at r.f0 (x := "__init__") (by simp))
  obtain ⟨q, bs, sn, sub, ab, col, dd, z0, z1, z2, z3, z5, h1⟩ := h.cls
  obtain ⟨dd', cd, sl, h2, rfl, _⟩ := r.cls
  have ok1 : PySem.W.nsOkIn K N = true := by
    obtain ⟨oc, od, d, ep, sl, h3, h4⟩ := h.ns
    unfold PySem.W.nsOkIn
    rw [h3]
    have := h.st
    rw [← h4] at this
    dsimp only
    rw [← Array.all_toList]
    exact this
  have ok2 : PySem.W.nsOkIn K cd.ns = true := by
    obtain ⟨oc, od, d, ep, sl, h3, h4⟩ := r.ns
    unfold PySem.W.nsOkIn
    rw [h3]
    have := r.st
    rw [← h4] at this
    dsimp only
    rw [← Array.all_toList]
    exact this
  unfold PySem.W.excIn
  rw [h1]
  have ht : PySem.W.tailIn K [.type "ValueError", .type "Exception", .type "BaseException", .type "object"] (.ref G :: PySem.HandSPX.veTail) = true := by
    unfold PySem.W.tailIn
    dsimp only
    rw [h2]
    dsimp only
    rw [ok2, n2]
    simp [PySem.W.tailIn]
  simp [ht, ok1, n1]
end
end Kx

set_option Elab.async false
set_option linter.all false
set_option maxRecDepth 100000
set_option maxHeartbeats 4000000
namespace Kx
open PySem PySem.Spec PyProof.Rows L2
open HandSHeadRun (frNat frNat_eq)
structure EsAt (K : PySem.W.Frag) (G NG : Addr) (es lg : List DictEntry) : Prop where
  mg : ∃ oc od d ep sl, K.lookup mainGlobals = some ⟨oc, od, .dict d ep, sl⟩ ∧ d.toList = es
  g : valL es gGE = some (.ref G)
  st : strL es = true
  r : RootAt K G NG lg flds
  fr : freeL es frees = true
  n : ∀ c ∈ tabN, row0 (fun a => K.lookup a) G es c = true
  t : ∀ p ∈ tabT, rowT (fun a => K.lookup a) es p.1 = valT p
  a : ∀ p ∈ tabA, rowI (fun a => K.lookup a) G es p.1 p.2.1 p.2.2.1 = valI p
  b : ∀ p ∈ tabB, rowI (fun a => K.lookup a) G es p.1 p.2.1 p.2.2.1 = valI p
theorem es_of {K : PySem.W.Frag} (e : obAll (fun a => K.lookup a) = vlAll) : ∃ G NG es lg, EsAt K G NG es lg := by
  unfold obAll vlAll at e
  simp only [Prod.mk.injEq] at e
  obtain ⟨e1, e2, e3⟩ := e
  unfold ob1 withEs at e1
  unfold ob3 withEs at e2 e3
  dsimp only at e1 e2 e3
  cases hm : K.lookup mainGlobals with
  | none =>
    rw [hm] at e1
    simp at e1
  | some o =>
    obtain ⟨oc, od, dt, sl⟩ := o
    rw [hm] at e1 e2 e3
    cases dt with
    | dict d ep =>
      simp only [frEnt_eq] at e1 e2 e3
      cases hv : valL d.toList gGE with
      | none =>
        rw [hv] at e1
        simp at e1
      | some v =>
        rw [hv] at e1 e2 e3
        cases v with
        | ref G =>
          simp only [frNat_eq, Prod.mk.injEq, Bool.and_eq_true, List.all_eq_true] at e1 e2 e3
          obtain ⟨⟨h1, h2, h3, h4⟩, h5⟩ := e1
          obtain ⟨NG, lg, hr⟩ := rowR_ok h2
          exact ⟨G, NG, d.toList, lg, ⟨oc, od, d, ep, sl, hm, rfl⟩, hv, h1, hr, h3, h4, fun p hp => List.map_inj_left.mp h5 p hp, fun p hp => List.map_inj_left.mp e2 p hp, fun p hp => List.map_inj_left.mp e3 p hp⟩
        | _ => simp at e1
    | _ => simp at e1
section
variable {K : PySem.W.Frag} {G NG : Addr} {es lg : List DictEntry} {h : Heap} {mg : Str → Option Value}
theorem EsAt.at_ (E : EsAt K G NG es lg) {x : Str} {v : Value} (k : valL es x = some v) : PySem.W.nsIn K mainGlobals x = some (some v) := by
  obtain ⟨oc, od, d, ep, sl, h1, rfl⟩ := E.mg
  exact ns_val h1 k
theorem EsAt.free (E : EsAt K G NG es lg) {x : Str} (k : x ∈ frees) : PySem.W.nsIn K mainGlobals x = some none := by
  have := free_at E.fr k
  obtain ⟨oc, od, d, ep, sl, h1, rfl⟩ := E.mg
  exact ns_free h1 (strL_ref E.st) this
theorem ga_of {x : Str} {a : Addr} (k : PySem.W.nsIn K mainGlobals x = some (some (.ref a))) : He.ga K x = a := by
  unfold He.ga
  rw [k]
theorem EsAt.ga (E : EsAt K G NG es lg) {x : Str} {a : Addr} (k : valL es x = some (.ref a)) : He.ga K x = a := ga_of (E.at_ k)
theorem EsAt.root (E : EsAt K G NG es lg) : He.ga K gGE = G := E.ga E.g
variable {L : List Addr} {c f f2 q : Str} {i : Nat} {a N m : Addr} {l : List DictEntry}
theorem xcb_at (X : K.In h) (Gn : h.Ns mainGlobals mg) (E : EsAt K G NG es lg) (v : valL es c = some (.ref a)) (hc : ClsAt K G c a N l) (f4 : freeL l names4 = true) (hm : He.ga K c ∈ L) : XCb K mg L c := by
  refine ⟨?_, ?_, hm⟩
  · rw [E.ga v]
    exact PySem.W.mg_of X Gn (E.at_ v)
  · rw [E.ga v, E.root]
    exact exCls_at hc E.r f4
theorem ini_at (hc : ClsAt K G c a N l) (hi : valL l "__init__" = some (.ref m)) : PySem.W.findIn K (.ref a) "__init__" = some (some (.ref m)) ∧ He.ma K a "__init__" = m := by
  have e : PySem.W.findIn K (.ref a) "__init__" = some (some (.ref m)) := by
    obtain ⟨oc, od, d, ep, sl, h1, rfl⟩ := hc.ns
    exact find_val hc (ns_val h1 hi)
  refine ⟨e, ?_⟩
  unfold He.ma
  rw [e]
theorem xc1_at {p p' p1 p2 p3 p4 p5 : Pos} (X : K.In h) (Gn : h.Ns mainGlobals mg) (E : EsAt K G NG es lg) (F1 : Fk1 f) (hal : PySem.W.alongIn K f PySem.HandSPX.veTail = some none) (hfl : f ∈ flds) (hm : He.ga K c ∈ L) (hst : inClass (topS i) 0 = init1 f p p' p1 p2 p3 p4 p5)
    (k : rowI (fun a => K.lookup a) G es c [f] q = valI (c, [f], q, i)) : Nonempty (XC1 K mg L c f) := by
  obtain ⟨a, N, m, l, v, hc, hi, hf, f4, ff⟩ := rowI_ok k
  have xb := xcb_at (L := L) X Gn E v hc f4 hm
  obtain ⟨fd, F, ty⟩ := fn1_ok (d := mthD PW c "__init__" q i 0) ⟨rfl, rfl⟩ rfl hf
  have F' : Fun K "__init__" q (inClass (topS i) 0) m fd := fun_of F
  rw [hst] at F'
  obtain ⟨iC, hma⟩ := ini_at hc hi
  have hga := E.ga v
  subst hga hma
  have kn : PySem.W.findIn K (.ref (He.ga K c)) f = some none := (find_free hc E.r (hc.free (free_at ff (by simp))) (E.r.free (free_at E.r.fx hfl))).trans hal
  refine ⟨{ xb with e := fd, iC := iC, tI := ty, ok := init1_ok F' F1.S rfl xb.x.oex kn F1.d1 F1.d2, b := F'.binds fun kV doc pm an cdv ct us hl => F1.bd q p p' _ _ kV doc pm an cdv ct us hl, kb := ⟨fun s u ws X' hl => ?_, fun r => r⟩, n := kn }⟩
  obtain ⟨oc, od, kV, doc, pm, an, cdv, ct, osl, rfl, lk, hcd⟩ := F'.ex
  exact .of_eq (F1.kb q p p' _ _ kV doc pm an cdv ct u ws hl)
theorem xc2_at {p p' p'' p1 p2 p3 p4 q1 q2 q3 q4 p5 : Pos} (X : K.In h) (Gn : h.Ns mainGlobals mg) (E : EsAt K G NG es lg) (F1 : Fk2 f f2) (hal : PySem.W.alongIn K f PySem.HandSPX.veTail = some none) (hal2 : PySem.W.alongIn K f2 PySem.HandSPX.veTail = some none) (hfl : f ∈ flds) (hfl2 : f2 ∈ flds) (hm : He.ga K c ∈ L)
    (hst : inClass (topS i) 0 = init2 f f2 p p' p'' p1 p2 p3 p4 q1 q2 q3 q4 p5) (k : rowI (fun a => K.lookup a) G es c [f, f2] q = valI (c, [f, f2], q, i)) : Nonempty (XC2 K mg L c f f2) := by
  obtain ⟨a, N, m, l, v, hc, hi, hf, f4, ff⟩ := rowI_ok k
  have xb := xcb_at (L := L) X Gn E v hc f4 hm
  obtain ⟨fd, F, ty⟩ := fn1_ok (d := mthD PW c "__init__" q i 0) ⟨rfl, rfl⟩ rfl hf
  have F' : Fun K "__init__" q (inClass (topS i) 0) m fd := fun_of F
  rw [hst] at F'
  obtain ⟨iC, hma⟩ := ini_at hc hi
  have hga := E.ga v
  subst hga hma
  have kn : PySem.W.findIn K (.ref (He.ga K c)) f = some none := (find_free hc E.r (hc.free (free_at ff (by simp))) (E.r.free (free_at E.r.fx hfl))).trans hal
  have kn2 : PySem.W.findIn K (.ref (He.ga K c)) f2 = some none := (find_free hc E.r (hc.free (free_at ff (by simp))) (E.r.free (free_at E.r.fx hfl2))).trans hal2
  refine ⟨{ xb with e := fd, iC := iC, tI := ty, ok := init2_ok F' F1.S rfl xb.x.oex kn kn2 F1.d1 F1.d2 F1.d3 F1.d4, b := F'.binds fun kV doc pm an cdv ct us hl => F1.bd q p p' p'' _ _ kV doc pm an cdv ct us hl, kb := ⟨fun s u ws X' hl => ?_, fun r => r⟩, kr := ⟨fun s u ws X' hl => ?_, vals_rev⟩, n := kn, n2 := kn2 }⟩
  · obtain ⟨oc, od, kV, doc, pm, an, cdv, ct, osl, rfl, lk, hcd⟩ := F'.ex
    exact .of_eq (F1.kb q p p' p'' _ _ kV doc pm an cdv ct u ws hl)
  · obtain ⟨oc, od, kV, doc, pm, an, cdv, ct, osl, rfl, lk, hcd⟩ := F'.ex
    exact .of_eq (F1.kr q p p' p'' _ _ kV doc pm an cdv ct u ws hl)
theorem xc0_at (X : K.In h) (Gn : h.Ns mainGlobals mg) (E : EsAt K G NG es lg) (hm : He.ga K c ∈ L) (k : row0 (fun a => K.lookup a) G es c = true) : XC0 K mg L c := by
  obtain ⟨a, N, l, v, hc, f4, f0⟩ := row0_ok k
  refine { xcb_at X Gn E v hc f4 hm with e0 := ?_ }
  rw [E.ga v]
  exact exc_in hc E.r f0
theorem df_at {n : Str} {ps : List Str} (X : K.In h) (Gn : h.Ns mainGlobals mg) (E : EsAt K G NG es lg) (k : rowT (fun a => K.lookup a) es n = valT (n, i))
    (hb : ∀ (kV doc pm : Value) (an : Option Addr) (cdv ct : Value) (us : List Value), us.length = ps.length → bindArgs (PySem.W.fnOf n n (defArgs (topS i)) (defBody (topS i)) (defScope (topS i)) .none kV doc pm an cdv ct) ⟨us, []⟩ = pure (ps.zip us)) : Nonempty (DF K mg n ps (topS i)) := by
  unfold rowT at k
  split at k
  · rename_i a0 ha
    rw [frNat_eq] at k
    obtain ⟨fd, F, ty⟩ := fn1_ok (d := topD PW n i) ⟨rfl, rfl⟩ rfl k
    have hga := E.ga ha
    subst hga
    have F' : Fun K n n (topS i) (He.ga K n) fd := fun_of F
    exact ⟨⟨fd, F', F'.binds hb, PySem.W.mg_of X Gn (E.at_ ha)⟩⟩
  · exact absurd (congrArg Prod.fst k) (by simp [valT])
/-- what a name of the kinds stands for -/
theorem name_at (E : EsAt K G NG es lg) (hk : (∃ p ∈ tabA, p.1 = c) ∨ (∃ p ∈ tabB, p.1 = c) ∨ c ∈ tabN) : ∃ cd, PySem.W.clsIn K (He.ga K c) = some cd ∧ cd.name = c := by
  rcases hk with ⟨p, hp, rfl⟩ | ⟨p, hp, rfl⟩ | hk
  · obtain ⟨a, N, m, l, v, hc, _⟩ := rowI_ok (E.a p hp)
    rw [E.ga v]
    obtain ⟨cd, h1, _, _, h2⟩ := hc.clsIn
    exact ⟨cd, h1, h2⟩
  · obtain ⟨a, N, m, l, v, hc, _⟩ := rowI_ok (E.b p hp)
    rw [E.ga v]
    obtain ⟨cd, h1, _, _, h2⟩ := hc.clsIn
    exact ⟨cd, h1, h2⟩
  · obtain ⟨a, N, l, v, hc, _⟩ := row0_ok (E.n c hk)
    rw [E.ga v]
    obtain ⟨cd, h1, _, _, h2⟩ := hc.clsIn
    exact ⟨cd, h1, h2⟩
theorem allk_in : ∀ c ∈ allk, (∃ p ∈ tabA, p.1 = c) ∨ (∃ p ∈ tabB, p.1 = c) ∨ c ∈ tabN := by decide +kernel
theorem allk_nd : allk.Nodup := by decide +kernel
theorem allk_ng : gGE ∉ allk := by decide +kernel
theorem EsAt.nd (E : EsAt K G NG es lg) : (kindsL K).Nodup := by
  refine List.pairwise_map.mpr (List.Pairwise.imp_of_mem ?_ allk_nd)
  intro x y hx hy ne e
  refine ne ?_
  obtain ⟨c1, h1, h2⟩ := name_at E (allk_in x hx)
  obtain ⟨c2, h3, h4⟩ := name_at E (allk_in y hy)
  rw [e, h3] at h1
  cases h1
  rw [← h2, ← h4]
theorem EsAt.xG (E : EsAt K G NG es lg) : ∃ cd, PySem.W.clsIn K (He.ga K gGE) = some cd ∧ cd.name = gGE := by
  obtain ⟨dd, cd, sl, h1, _, h2⟩ := E.r.cls
  refine ⟨cd, ?_, h2⟩
  rw [E.root]
  unfold PySem.W.clsIn
  rw [h1]
theorem EsAt.tG (E : EsAt K G NG es lg) : PySem.W.typeIn K (.ref (He.ga K gGE)) = some (.type "type") := by
  obtain ⟨dd, cd, sl, h1, _, h2⟩ := E.r.cls
  rw [E.root]
  show (K.lookup G).map (·.cls) = _
  rw [h1]
  rfl
theorem EsAt.ng (E : EsAt K G NG es lg) : ∀ D ∈ kindsL K, D ≠ He.ga K gGE := by
  intro D hD z
  obtain ⟨x, hx, rfl⟩ := List.mem_map.mp hD
  obtain ⟨c1, h1, h2⟩ := name_at E (allk_in x hx)
  obtain ⟨c2, h3, h4⟩ := E.xG
  rw [z, h3] at h1
  cases h1
  have e : x = gGE := h2.symm.trans h4
  rw [e] at hx
  exact allk_ng hx
end
end Kx

set_option Elab.async false
set_option linter.all false
set_option maxRecDepth 100000
set_option maxHeartbeats 4000000
namespace Kx
open PySem PySem.Spec PyProof.Rows L2
theorem al_given (K : PySem.W.Frag) : PySem.W.alongIn K "given" PySem.HandSPX.veTail = some none := by kernel_rfl
theorem al_key (K : PySem.W.Frag) : PySem.W.alongIn K "key" PySem.HandSPX.veTail = some none := by kernel_rfl
theorem al_person (K : PySem.W.Frag) : PySem.W.alongIn K "person" PySem.HandSPX.veTail = some none := by kernel_rfl
theorem al_right (K : PySem.W.Frag) : PySem.W.alongIn K "right" PySem.HandSPX.veTail = some none := by kernel_rfl
theorem al_room (K : PySem.W.Frag) : PySem.W.alongIn K "room" PySem.HandSPX.veTail = some none := by kernel_rfl
theorem al_parts (K : PySem.W.Frag) : PySem.W.alongIn K "parts" PySem.HandSPX.veTail = some none := by kernel_rfl
theorem al_line (K : PySem.W.Frag) : PySem.W.alongIn K "line" PySem.HandSPX.veTail = some none := by kernel_rfl
theorem al_number (K : PySem.W.Frag) : PySem.W.alongIn K "number" PySem.HandSPX.veTail = some none := by kernel_rfl
theorem al_count (K : PySem.W.Frag) : PySem.W.alongIn K "count" PySem.HandSPX.veTail = some none := by kernel_rfl
theorem al_difference (K : PySem.W.Frag) : PySem.W.alongIn K "difference" PySem.HandSPX.veTail = some none := by kernel_rfl
theorem al_first (K : PySem.W.Frag) : PySem.W.alongIn K "first" PySem.HandSPX.veTail = some none := by kernel_rfl
theorem al_second (K : PySem.W.Frag) : PySem.W.alongIn K "second" PySem.HandSPX.veTail = some none := by kernel_rfl
theorem al_start (K : PySem.W.Frag) : PySem.W.alongIn K "start" PySem.HandSPX.veTail = some none := by kernel_rfl
theorem al_goal (K : PySem.W.Frag) : PySem.W.alongIn K "goal" PySem.HandSPX.veTail = some none := by kernel_rfl
theorem top_of {K : PySem.W.Frag} {h : Heap} {mg : Str → Option Value} (X : K.In h) (Gn : h.Ns mainGlobals mg) (e : obAll (fun a => K.lookup a) = vlAll) : Nonempty (Top K mg) := by
  obtain ⟨G, NG, es, lg, E⟩ := es_of e
  obtain ⟨k_InvalidPerson⟩ := xc1_at (L := kindsL K) (c := "InvalidPerson") (q := "InvalidPerson.__init__") (i := 7) X Gn E fk_given (al_given K) (List.mem_of_getElem? (i := 0) rfl) (List.mem_map_of_mem (List.mem_of_getElem? (i := 0) rfl)) rfl (E.a ("InvalidPerson", ["given"], "InvalidPerson.__init__", 7) (List.mem_of_getElem? (i := 0) rfl))
  obtain ⟨k_InvalidNumber⟩ := xc1_at (L := kindsL K) (c := "InvalidNumber") (q := "InvalidNumber.__init__") (i := 8) X Gn E fk_given (al_given K) (List.mem_of_getElem? (i := 0) rfl) (List.mem_map_of_mem (List.mem_of_getElem? (i := 1) rfl)) rfl (E.a ("InvalidNumber", ["given"], "InvalidNumber.__init__", 8) (List.mem_of_getElem? (i := 1) rfl))
  obtain ⟨k_InvalidSeen⟩ := xc1_at (L := kindsL K) (c := "InvalidSeen") (q := "InvalidSeen.__init__") (i := 9) X Gn E fk_given (al_given K) (List.mem_of_getElem? (i := 0) rfl) (List.mem_map_of_mem (List.mem_of_getElem? (i := 2) rfl)) rfl (E.a ("InvalidSeen", ["given"], "InvalidSeen.__init__", 9) (List.mem_of_getElem? (i := 2) rfl))
  obtain ⟨k_InvalidDeed⟩ := xc1_at (L := kindsL K) (c := "InvalidDeed") (q := "InvalidDeed.__init__") (i := 10) X Gn E fk_given (al_given K) (List.mem_of_getElem? (i := 0) rfl) (List.mem_map_of_mem (List.mem_of_getElem? (i := 3) rfl)) rfl (E.a ("InvalidDeed", ["given"], "InvalidDeed.__init__", 10) (List.mem_of_getElem? (i := 3) rfl))
  obtain ⟨k_InvalidChange⟩ := xc1_at (L := kindsL K) (c := "InvalidChange") (q := "InvalidChange.__init__") (i := 11) X Gn E fk_given (al_given K) (List.mem_of_getElem? (i := 0) rfl) (List.mem_map_of_mem (List.mem_of_getElem? (i := 4) rfl)) rfl (E.a ("InvalidChange", ["given"], "InvalidChange.__init__", 11) (List.mem_of_getElem? (i := 4) rfl))
  obtain ⟨k_InvalidHistory⟩ := xc1_at (L := kindsL K) (c := "InvalidHistory") (q := "InvalidHistory.__init__") (i := 12) X Gn E fk_given (al_given K) (List.mem_of_getElem? (i := 0) rfl) (List.mem_map_of_mem (List.mem_of_getElem? (i := 5) rfl)) rfl (E.a ("InvalidHistory", ["given"], "InvalidHistory.__init__", 12) (List.mem_of_getElem? (i := 5) rfl))
  obtain ⟨k_InvalidVector⟩ := xc1_at (L := kindsL K) (c := "InvalidVector") (q := "InvalidVector.__init__") (i := 13) X Gn E fk_given (al_given K) (List.mem_of_getElem? (i := 0) rfl) (List.mem_map_of_mem (List.mem_of_getElem? (i := 6) rfl)) rfl (E.a ("InvalidVector", ["given"], "InvalidVector.__init__", 13) (List.mem_of_getElem? (i := 6) rfl))
  obtain ⟨k_InvalidText⟩ := xc1_at (L := kindsL K) (c := "InvalidText") (q := "InvalidText.__init__") (i := 14) X Gn E fk_given (al_given K) (List.mem_of_getElem? (i := 0) rfl) (List.mem_map_of_mem (List.mem_of_getElem? (i := 7) rfl)) rfl (E.a ("InvalidText", ["given"], "InvalidText.__init__", 14) (List.mem_of_getElem? (i := 7) rfl))
  obtain ⟨k_InvalidRight⟩ := xc1_at (L := kindsL K) (c := "InvalidRight") (q := "InvalidRight.__init__") (i := 15) X Gn E fk_given (al_given K) (List.mem_of_getElem? (i := 0) rfl) (List.mem_map_of_mem (List.mem_of_getElem? (i := 8) rfl)) rfl (E.a ("InvalidRight", ["given"], "InvalidRight.__init__", 15) (List.mem_of_getElem? (i := 8) rfl))
  obtain ⟨k_InvalidRights⟩ := xc1_at (L := kindsL K) (c := "InvalidRights") (q := "InvalidRights.__init__") (i := 16) X Gn E fk_given (al_given K) (List.mem_of_getElem? (i := 0) rfl) (List.mem_map_of_mem (List.mem_of_getElem? (i := 9) rfl)) rfl (E.a ("InvalidRights", ["given"], "InvalidRights.__init__", 16) (List.mem_of_getElem? (i := 9) rfl))
  obtain ⟨k_InvalidFlag⟩ := xc1_at (L := kindsL K) (c := "InvalidFlag") (q := "InvalidFlag.__init__") (i := 17) X Gn E fk_given (al_given K) (List.mem_of_getElem? (i := 0) rfl) (List.mem_map_of_mem (List.mem_of_getElem? (i := 10) rfl)) rfl (E.a ("InvalidFlag", ["given"], "InvalidFlag.__init__", 17) (List.mem_of_getElem? (i := 10) rfl))
  obtain ⟨k_InvalidIds⟩ := xc1_at (L := kindsL K) (c := "InvalidIds") (q := "InvalidIds.__init__") (i := 18) X Gn E fk_given (al_given K) (List.mem_of_getElem? (i := 0) rfl) (List.mem_map_of_mem (List.mem_of_getElem? (i := 11) rfl)) rfl (E.a ("InvalidIds", ["given"], "InvalidIds.__init__", 18) (List.mem_of_getElem? (i := 11) rfl))
  obtain ⟨k_Forked⟩ := xc1_at (L := kindsL K) (c := "Forked") (q := "Forked.__init__") (i := 19) X Gn E fk_key (al_key K) (List.mem_of_getElem? (i := 1) rfl) (List.mem_map_of_mem (List.mem_of_getElem? (i := 42) rfl)) rfl (E.a ("Forked", ["key"], "Forked.__init__", 19) (List.mem_of_getElem? (i := 12) rfl))
  obtain ⟨k_Stranger⟩ := xc1_at (L := kindsL K) (c := "Stranger") (q := "Stranger.__init__") (i := 20) X Gn E fk_person (al_person K) (List.mem_of_getElem? (i := 2) rfl) (List.mem_map_of_mem (List.mem_of_getElem? (i := 51) rfl)) rfl (E.a ("Stranger", ["person"], "Stranger.__init__", 20) (List.mem_of_getElem? (i := 13) rfl))
  obtain ⟨k_Missing⟩ := xc1_at (L := kindsL K) (c := "Missing") (q := "Missing.__init__") (i := 21) X Gn E fk_key (al_key K) (List.mem_of_getElem? (i := 1) rfl) (List.mem_map_of_mem (List.mem_of_getElem? (i := 43) rfl)) rfl (E.a ("Missing", ["key"], "Missing.__init__", 21) (List.mem_of_getElem? (i := 14) rfl))
  obtain ⟨k_Blind⟩ := xc1_at (L := kindsL K) (c := "Blind") (q := "Blind.__init__") (i := 22) X Gn E fk_key (al_key K) (List.mem_of_getElem? (i := 1) rfl) (List.mem_map_of_mem (List.mem_of_getElem? (i := 44) rfl)) rfl (E.a ("Blind", ["key"], "Blind.__init__", 22) (List.mem_of_getElem? (i := 15) rfl))
  obtain ⟨k_NotAsked⟩ := xc1_at (L := kindsL K) (c := "NotAsked") (q := "NotAsked.__init__") (i := 23) X Gn E fk_person (al_person K) (List.mem_of_getElem? (i := 2) rfl) (List.mem_map_of_mem (List.mem_of_getElem? (i := 52) rfl)) rfl (E.a ("NotAsked", ["person"], "NotAsked.__init__", 23) (List.mem_of_getElem? (i := 16) rfl))
  obtain ⟨k_NotRight⟩ := xc1_at (L := kindsL K) (c := "NotRight") (q := "NotRight.__init__") (i := 24) X Gn E fk_right (al_right K) (List.mem_of_getElem? (i := 3) rfl) (List.mem_map_of_mem (List.mem_of_getElem? (i := 55) rfl)) rfl (E.a ("NotRight", ["right"], "NotRight.__init__", 24) (List.mem_of_getElem? (i := 17) rfl))
  obtain ⟨k_RoomTaken⟩ := xc1_at (L := kindsL K) (c := "RoomTaken") (q := "RoomTaken.__init__") (i := 25) X Gn E fk_room (al_room K) (List.mem_of_getElem? (i := 4) rfl) (List.mem_map_of_mem (List.mem_of_getElem? (i := 56) rfl)) rfl (E.a ("RoomTaken", ["room"], "RoomTaken.__init__", 25) (List.mem_of_getElem? (i := 18) rfl))
  obtain ⟨k_UnknownRoom⟩ := xc1_at (L := kindsL K) (c := "UnknownRoom") (q := "UnknownRoom.__init__") (i := 26) X Gn E fk_room (al_room K) (List.mem_of_getElem? (i := 4) rfl) (List.mem_map_of_mem (List.mem_of_getElem? (i := 57) rfl)) rfl (E.a ("UnknownRoom", ["room"], "UnknownRoom.__init__", 26) (List.mem_of_getElem? (i := 19) rfl))
  obtain ⟨k_UnknownChange⟩ := xc1_at (L := kindsL K) (c := "UnknownChange") (q := "UnknownChange.__init__") (i := 27) X Gn E fk_key (al_key K) (List.mem_of_getElem? (i := 1) rfl) (List.mem_map_of_mem (List.mem_of_getElem? (i := 45) rfl)) rfl (E.a ("UnknownChange", ["key"], "UnknownChange.__init__", 27) (List.mem_of_getElem? (i := 20) rfl))
  obtain ⟨k_NotStruck⟩ := xc1_at (L := kindsL K) (c := "NotStruck") (q := "NotStruck.__init__") (i := 28) X Gn E fk_key (al_key K) (List.mem_of_getElem? (i := 1) rfl) (List.mem_map_of_mem (List.mem_of_getElem? (i := 46) rfl)) rfl (E.a ("NotStruck", ["key"], "NotStruck.__init__", 28) (List.mem_of_getElem? (i := 21) rfl))
  obtain ⟨k_Old⟩ := xc1_at (L := kindsL K) (c := "Old") (q := "Old.__init__") (i := 29) X Gn E fk_key (al_key K) (List.mem_of_getElem? (i := 1) rfl) (List.mem_map_of_mem (List.mem_of_getElem? (i := 47) rfl)) rfl (E.a ("Old", ["key"], "Old.__init__", 29) (List.mem_of_getElem? (i := 22) rfl))
  obtain ⟨k_Lacking⟩ := xc1_at (L := kindsL K) (c := "Lacking") (q := "Lacking.__init__") (i := 30) X Gn E fk_parts (al_parts K) (List.mem_of_getElem? (i := 5) rfl) (List.mem_map_of_mem (List.mem_of_getElem? (i := 58) rfl)) rfl (E.a ("Lacking", ["parts"], "Lacking.__init__", 30) (List.mem_of_getElem? (i := 23) rfl))
  obtain ⟨k_Forgotten⟩ := xc1_at (L := kindsL K) (c := "Forgotten") (q := "Forgotten.__init__") (i := 31) X Gn E fk_key (al_key K) (List.mem_of_getElem? (i := 1) rfl) (List.mem_map_of_mem (List.mem_of_getElem? (i := 48) rfl)) rfl (E.a ("Forgotten", ["key"], "Forgotten.__init__", 31) (List.mem_of_getElem? (i := 24) rfl))
  obtain ⟨k_Beside⟩ := xc1_at (L := kindsL K) (c := "Beside") (q := "Beside.__init__") (i := 32) X Gn E fk_key (al_key K) (List.mem_of_getElem? (i := 1) rfl) (List.mem_map_of_mem (List.mem_of_getElem? (i := 49) rfl)) rfl (E.a ("Beside", ["key"], "Beside.__init__", 32) (List.mem_of_getElem? (i := 25) rfl))
  obtain ⟨k_Short⟩ := xc1_at (L := kindsL K) (c := "Short") (q := "Short.__init__") (i := 33) X Gn E fk_key (al_key K) (List.mem_of_getElem? (i := 1) rfl) (List.mem_map_of_mem (List.mem_of_getElem? (i := 50) rfl)) rfl (E.a ("Short", ["key"], "Short.__init__", 33) (List.mem_of_getElem? (i := 26) rfl))
  obtain ⟨k_NotGround⟩ := xc1_at (L := kindsL K) (c := "NotGround") (q := "NotGround.__init__") (i := 34) X Gn E fk_given (al_given K) (List.mem_of_getElem? (i := 0) rfl) (List.mem_map_of_mem (List.mem_of_getElem? (i := 12) rfl)) rfl (E.a ("NotGround", ["given"], "NotGround.__init__", 34) (List.mem_of_getElem? (i := 27) rfl))
  obtain ⟨k_InvalidName⟩ := xc1_at (L := kindsL K) (c := "InvalidName") (q := "InvalidName.__init__") (i := 35) X Gn E fk_given (al_given K) (List.mem_of_getElem? (i := 0) rfl) (List.mem_map_of_mem (List.mem_of_getElem? (i := 13) rfl)) rfl (E.a ("InvalidName", ["given"], "InvalidName.__init__", 35) (List.mem_of_getElem? (i := 28) rfl))
  obtain ⟨k_InvalidSheet⟩ := xc1_at (L := kindsL K) (c := "InvalidSheet") (q := "InvalidSheet.__init__") (i := 36) X Gn E fk_given (al_given K) (List.mem_of_getElem? (i := 0) rfl) (List.mem_map_of_mem (List.mem_of_getElem? (i := 14) rfl)) rfl (E.a ("InvalidSheet", ["given"], "InvalidSheet.__init__", 36) (List.mem_of_getElem? (i := 29) rfl))
  obtain ⟨k_InvalidWish⟩ := xc1_at (L := kindsL K) (c := "InvalidWish") (q := "InvalidWish.__init__") (i := 37) X Gn E fk_given (al_given K) (List.mem_of_getElem? (i := 0) rfl) (List.mem_map_of_mem (List.mem_of_getElem? (i := 15) rfl)) rfl (E.a ("InvalidWish", ["given"], "InvalidWish.__init__", 37) (List.mem_of_getElem? (i := 30) rfl))
  obtain ⟨k_InvalidReading⟩ := xc1_at (L := kindsL K) (c := "InvalidReading") (q := "InvalidReading.__init__") (i := 38) X Gn E fk_given (al_given K) (List.mem_of_getElem? (i := 0) rfl) (List.mem_map_of_mem (List.mem_of_getElem? (i := 16) rfl)) rfl (E.a ("InvalidReading", ["given"], "InvalidReading.__init__", 38) (List.mem_of_getElem? (i := 31) rfl))
  obtain ⟨k_InvalidLine⟩ := xc1_at (L := kindsL K) (c := "InvalidLine") (q := "InvalidLine.__init__") (i := 39) X Gn E fk_given (al_given K) (List.mem_of_getElem? (i := 0) rfl) (List.mem_map_of_mem (List.mem_of_getElem? (i := 17) rfl)) rfl (E.a ("InvalidLine", ["given"], "InvalidLine.__init__", 39) (List.mem_of_getElem? (i := 32) rfl))
  obtain ⟨k_InvalidPlan⟩ := xc1_at (L := kindsL K) (c := "InvalidPlan") (q := "InvalidPlan.__init__") (i := 40) X Gn E fk_given (al_given K) (List.mem_of_getElem? (i := 0) rfl) (List.mem_map_of_mem (List.mem_of_getElem? (i := 18) rfl)) rfl (E.a ("InvalidPlan", ["given"], "InvalidPlan.__init__", 40) (List.mem_of_getElem? (i := 33) rfl))
  obtain ⟨k_NoLine⟩ := xc1_at (L := kindsL K) (c := "NoLine") (q := "NoLine.__init__") (i := 41) X Gn E fk_line (al_line K) (List.mem_of_getElem? (i := 6) rfl) (List.mem_map_of_mem (List.mem_of_getElem? (i := 59) rfl)) rfl (E.b ("NoLine", ["line"], "NoLine.__init__", 41) (List.mem_of_getElem? (i := 0) rfl))
  obtain ⟨k_NoKnot⟩ := xc1_at (L := kindsL K) (c := "NoKnot") (q := "NoKnot.__init__") (i := 42) X Gn E fk_number (al_number K) (List.mem_of_getElem? (i := 7) rfl) (List.mem_map_of_mem (List.mem_of_getElem? (i := 60) rfl)) rfl (E.b ("NoKnot", ["number"], "NoKnot.__init__", 42) (List.mem_of_getElem? (i := 1) rfl))
  obtain ⟨k_NoReading⟩ := xc1_at (L := kindsL K) (c := "NoReading") (q := "NoReading.__init__") (i := 43) X Gn E fk_number (al_number K) (List.mem_of_getElem? (i := 7) rfl) (List.mem_map_of_mem (List.mem_of_getElem? (i := 61) rfl)) rfl (E.b ("NoReading", ["number"], "NoReading.__init__", 43) (List.mem_of_getElem? (i := 2) rfl))
  obtain ⟨k_RingThere⟩ := xc1_at (L := kindsL K) (c := "RingThere") (q := "RingThere.__init__") (i := 44) X Gn E fk_number (al_number K) (List.mem_of_getElem? (i := 7) rfl) (List.mem_map_of_mem (List.mem_of_getElem? (i := 62) rfl)) rfl (E.b ("RingThere", ["number"], "RingThere.__init__", 44) (List.mem_of_getElem? (i := 3) rfl))
  obtain ⟨k_NoThing⟩ := xc1_at (L := kindsL K) (c := "NoThing") (q := "NoThing.__init__") (i := 45) X Gn E fk_given (al_given K) (List.mem_of_getElem? (i := 0) rfl) (List.mem_map_of_mem (List.mem_of_getElem? (i := 19) rfl)) rfl (E.b ("NoThing", ["given"], "NoThing.__init__", 45) (List.mem_of_getElem? (i := 4) rfl))
  obtain ⟨k_UnknownColumn⟩ := xc1_at (L := kindsL K) (c := "UnknownColumn") (q := "UnknownColumn.__init__") (i := 46) X Gn E fk_given (al_given K) (List.mem_of_getElem? (i := 0) rfl) (List.mem_map_of_mem (List.mem_of_getElem? (i := 20) rfl)) rfl (E.b ("UnknownColumn", ["given"], "UnknownColumn.__init__", 46) (List.mem_of_getElem? (i := 5) rfl))
  obtain ⟨k_KeptTable⟩ := xc1_at (L := kindsL K) (c := "KeptTable") (q := "KeptTable.__init__") (i := 47) X Gn E fk_given (al_given K) (List.mem_of_getElem? (i := 0) rfl) (List.mem_map_of_mem (List.mem_of_getElem? (i := 21) rfl)) rfl (E.b ("KeptTable", ["given"], "KeptTable.__init__", 47) (List.mem_of_getElem? (i := 6) rfl))
  obtain ⟨k_NotClosed⟩ := xc1_at (L := kindsL K) (c := "NotClosed") (q := "NotClosed.__init__") (i := 48) X Gn E fk_given (al_given K) (List.mem_of_getElem? (i := 0) rfl) (List.mem_map_of_mem (List.mem_of_getElem? (i := 22) rfl)) rfl (E.b ("NotClosed", ["given"], "NotClosed.__init__", 48) (List.mem_of_getElem? (i := 7) rfl))
  obtain ⟨k_NoPurse⟩ := xc1_at (L := kindsL K) (c := "NoPurse") (q := "NoPurse.__init__") (i := 49) X Gn E fk_given (al_given K) (List.mem_of_getElem? (i := 0) rfl) (List.mem_map_of_mem (List.mem_of_getElem? (i := 23) rfl)) rfl (E.b ("NoPurse", ["given"], "NoPurse.__init__", 49) (List.mem_of_getElem? (i := 8) rfl))
  obtain ⟨k_CutPurse⟩ := xc1_at (L := kindsL K) (c := "CutPurse") (q := "CutPurse.__init__") (i := 50) X Gn E fk_given (al_given K) (List.mem_of_getElem? (i := 0) rfl) (List.mem_map_of_mem (List.mem_of_getElem? (i := 24) rfl)) rfl (E.b ("CutPurse", ["given"], "CutPurse.__init__", 50) (List.mem_of_getElem? (i := 9) rfl))
  obtain ⟨k_TooMuch⟩ := xc1_at (L := kindsL K) (c := "TooMuch") (q := "TooMuch.__init__") (i := 51) X Gn E fk_given (al_given K) (List.mem_of_getElem? (i := 0) rfl) (List.mem_map_of_mem (List.mem_of_getElem? (i := 25) rfl)) rfl (E.b ("TooMuch", ["given"], "TooMuch.__init__", 51) (List.mem_of_getElem? (i := 10) rfl))
  obtain ⟨k_InvalidCount⟩ := xc1_at (L := kindsL K) (c := "InvalidCount") (q := "InvalidCount.__init__") (i := 52) X Gn E fk_given (al_given K) (List.mem_of_getElem? (i := 0) rfl) (List.mem_map_of_mem (List.mem_of_getElem? (i := 26) rfl)) rfl (E.b ("InvalidCount", ["given"], "InvalidCount.__init__", 52) (List.mem_of_getElem? (i := 11) rfl))
  obtain ⟨k_InvalidGoal⟩ := xc1_at (L := kindsL K) (c := "InvalidGoal") (q := "InvalidGoal.__init__") (i := 53) X Gn E fk_given (al_given K) (List.mem_of_getElem? (i := 0) rfl) (List.mem_map_of_mem (List.mem_of_getElem? (i := 27) rfl)) rfl (E.b ("InvalidGoal", ["given"], "InvalidGoal.__init__", 53) (List.mem_of_getElem? (i := 12) rfl))
  obtain ⟨k_InvalidCrowd⟩ := xc1_at (L := kindsL K) (c := "InvalidCrowd") (q := "InvalidCrowd.__init__") (i := 54) X Gn E fk_given (al_given K) (List.mem_of_getElem? (i := 0) rfl) (List.mem_map_of_mem (List.mem_of_getElem? (i := 28) rfl)) rfl (E.b ("InvalidCrowd", ["given"], "InvalidCrowd.__init__", 54) (List.mem_of_getElem? (i := 13) rfl))
  obtain ⟨k_InvalidJournal⟩ := xc1_at (L := kindsL K) (c := "InvalidJournal") (q := "InvalidJournal.__init__") (i := 55) X Gn E fk_given (al_given K) (List.mem_of_getElem? (i := 0) rfl) (List.mem_map_of_mem (List.mem_of_getElem? (i := 29) rfl)) rfl (E.b ("InvalidJournal", ["given"], "InvalidJournal.__init__", 55) (List.mem_of_getElem? (i := 14) rfl))
  obtain ⟨k_NotKept⟩ := xc1_at (L := kindsL K) (c := "NotKept") (q := "NotKept.__init__") (i := 56) X Gn E fk_given (al_given K) (List.mem_of_getElem? (i := 0) rfl) (List.mem_map_of_mem (List.mem_of_getElem? (i := 30) rfl)) rfl (E.b ("NotKept", ["given"], "NotKept.__init__", 56) (List.mem_of_getElem? (i := 15) rfl))
  obtain ⟨k_NotBroken⟩ := xc1_at (L := kindsL K) (c := "NotBroken") (q := "NotBroken.__init__") (i := 57) X Gn E fk_given (al_given K) (List.mem_of_getElem? (i := 0) rfl) (List.mem_map_of_mem (List.mem_of_getElem? (i := 31) rfl)) rfl (E.b ("NotBroken", ["given"], "NotBroken.__init__", 57) (List.mem_of_getElem? (i := 16) rfl))
  obtain ⟨k_TooMany⟩ := xc1_at (L := kindsL K) (c := "TooMany") (q := "TooMany.__init__") (i := 58) X Gn E fk_count (al_count K) (List.mem_of_getElem? (i := 8) rfl) (List.mem_map_of_mem (List.mem_of_getElem? (i := 63) rfl)) rfl (E.b ("TooMany", ["count"], "TooMany.__init__", 58) (List.mem_of_getElem? (i := 17) rfl))
  obtain ⟨k_NotHidden⟩ := xc1_at (L := kindsL K) (c := "NotHidden") (q := "NotHidden.__init__") (i := 59) X Gn E fk_given (al_given K) (List.mem_of_getElem? (i := 0) rfl) (List.mem_map_of_mem (List.mem_of_getElem? (i := 32) rfl)) rfl (E.b ("NotHidden", ["given"], "NotHidden.__init__", 59) (List.mem_of_getElem? (i := 18) rfl))
  obtain ⟨k_InvalidRooms⟩ := xc1_at (L := kindsL K) (c := "InvalidRooms") (q := "InvalidRooms.__init__") (i := 60) X Gn E fk_given (al_given K) (List.mem_of_getElem? (i := 0) rfl) (List.mem_map_of_mem (List.mem_of_getElem? (i := 33) rfl)) rfl (E.b ("InvalidRooms", ["given"], "InvalidRooms.__init__", 60) (List.mem_of_getElem? (i := 19) rfl))
  obtain ⟨k_InvalidStrokes⟩ := xc1_at (L := kindsL K) (c := "InvalidStrokes") (q := "InvalidStrokes.__init__") (i := 61) X Gn E fk_given (al_given K) (List.mem_of_getElem? (i := 0) rfl) (List.mem_map_of_mem (List.mem_of_getElem? (i := 34) rfl)) rfl (E.b ("InvalidStrokes", ["given"], "InvalidStrokes.__init__", 61) (List.mem_of_getElem? (i := 20) rfl))
  obtain ⟨k_InvalidHistories⟩ := xc1_at (L := kindsL K) (c := "InvalidHistories") (q := "InvalidHistories.__init__") (i := 62) X Gn E fk_given (al_given K) (List.mem_of_getElem? (i := 0) rfl) (List.mem_map_of_mem (List.mem_of_getElem? (i := 35) rfl)) rfl (E.b ("InvalidHistories", ["given"], "InvalidHistories.__init__", 62) (List.mem_of_getElem? (i := 21) rfl))
  obtain ⟨k_Unfit⟩ := xc1_at (L := kindsL K) (c := "Unfit") (q := "Unfit.__init__") (i := 63) X Gn E fk_difference (al_difference K) (List.mem_of_getElem? (i := 9) rfl) (List.mem_map_of_mem (List.mem_of_getElem? (i := 64) rfl)) rfl (E.b ("Unfit", ["difference"], "Unfit.__init__", 63) (List.mem_of_getElem? (i := 22) rfl))
  obtain ⟨k_InvalidView⟩ := xc1_at (L := kindsL K) (c := "InvalidView") (q := "InvalidView.__init__") (i := 64) X Gn E fk_given (al_given K) (List.mem_of_getElem? (i := 0) rfl) (List.mem_map_of_mem (List.mem_of_getElem? (i := 36) rfl)) rfl (E.b ("InvalidView", ["given"], "InvalidView.__init__", 64) (List.mem_of_getElem? (i := 23) rfl))
  obtain ⟨k_InvalidVariable⟩ := xc1_at (L := kindsL K) (c := "InvalidVariable") (q := "InvalidVariable.__init__") (i := 65) X Gn E fk_given (al_given K) (List.mem_of_getElem? (i := 0) rfl) (List.mem_map_of_mem (List.mem_of_getElem? (i := 37) rfl)) rfl (E.b ("InvalidVariable", ["given"], "InvalidVariable.__init__", 65) (List.mem_of_getElem? (i := 24) rfl))
  obtain ⟨k_InvalidGiven⟩ := xc1_at (L := kindsL K) (c := "InvalidGiven") (q := "InvalidGiven.__init__") (i := 66) X Gn E fk_given (al_given K) (List.mem_of_getElem? (i := 0) rfl) (List.mem_map_of_mem (List.mem_of_getElem? (i := 38) rfl)) rfl (E.b ("InvalidGiven", ["given"], "InvalidGiven.__init__", 66) (List.mem_of_getElem? (i := 25) rfl))
  obtain ⟨k_NotPlain⟩ := xc1_at (L := kindsL K) (c := "NotPlain") (q := "NotPlain.__init__") (i := 67) X Gn E fk_given (al_given K) (List.mem_of_getElem? (i := 0) rfl) (List.mem_map_of_mem (List.mem_of_getElem? (i := 39) rfl)) rfl (E.b ("NotPlain", ["given"], "NotPlain.__init__", 67) (List.mem_of_getElem? (i := 26) rfl))
  obtain ⟨k_UnknownView⟩ := xc1_at (L := kindsL K) (c := "UnknownView") (q := "UnknownView.__init__") (i := 68) X Gn E fk_given (al_given K) (List.mem_of_getElem? (i := 0) rfl) (List.mem_map_of_mem (List.mem_of_getElem? (i := 40) rfl)) rfl (E.b ("UnknownView", ["given"], "UnknownView.__init__", 68) (List.mem_of_getElem? (i := 27) rfl))
  obtain ⟨k_HasCopy⟩ := xc1_at (L := kindsL K) (c := "HasCopy") (q := "HasCopy.__init__") (i := 69) X Gn E fk_person (al_person K) (List.mem_of_getElem? (i := 2) rfl) (List.mem_map_of_mem (List.mem_of_getElem? (i := 53) rfl)) rfl (E.b ("HasCopy", ["person"], "HasCopy.__init__", 69) (List.mem_of_getElem? (i := 28) rfl))
  obtain ⟨k_NoPerson⟩ := xc1_at (L := kindsL K) (c := "NoPerson") (q := "NoPerson.__init__") (i := 70) X Gn E fk_person (al_person K) (List.mem_of_getElem? (i := 2) rfl) (List.mem_map_of_mem (List.mem_of_getElem? (i := 54) rfl)) rfl (E.b ("NoPerson", ["person"], "NoPerson.__init__", 70) (List.mem_of_getElem? (i := 29) rfl))
  obtain ⟨k_InvalidLines⟩ := xc1_at (L := kindsL K) (c := "InvalidLines") (q := "InvalidLines.__init__") (i := 71) X Gn E fk_given (al_given K) (List.mem_of_getElem? (i := 0) rfl) (List.mem_map_of_mem (List.mem_of_getElem? (i := 41) rfl)) rfl (E.b ("InvalidLines", ["given"], "InvalidLines.__init__", 71) (List.mem_of_getElem? (i := 30) rfl))
  obtain ⟨k_NotAhead⟩ := xc2_at (L := kindsL K) (c := "NotAhead") (q := "NotAhead.__init__") (i := 72) X Gn E fk_first_second (al_first K) (al_second K) (List.mem_of_getElem? (i := 10) rfl) (List.mem_of_getElem? (i := 11) rfl) (List.mem_map_of_mem (List.mem_of_getElem? (i := 65) rfl)) rfl (E.b ("NotAhead", ["first", "second"], "NotAhead.__init__", 72) (List.mem_of_getElem? (i := 31) rfl))
  obtain ⟨k_Against⟩ := xc2_at (L := kindsL K) (c := "Against") (q := "Against.__init__") (i := 73) X Gn E fk_first_second (al_first K) (al_second K) (List.mem_of_getElem? (i := 10) rfl) (List.mem_of_getElem? (i := 11) rfl) (List.mem_map_of_mem (List.mem_of_getElem? (i := 66) rfl)) rfl (E.b ("Against", ["first", "second"], "Against.__init__", 73) (List.mem_of_getElem? (i := 32) rfl))
  obtain ⟨k_NotWithin⟩ := xc2_at (L := kindsL K) (c := "NotWithin") (q := "NotWithin.__init__") (i := 74) X Gn E fk_start_goal (al_start K) (al_goal K) (List.mem_of_getElem? (i := 12) rfl) (List.mem_of_getElem? (i := 13) rfl) (List.mem_map_of_mem (List.mem_of_getElem? (i := 67) rfl)) rfl (E.b ("NotWithin", ["start", "goal"], "NotWithin.__init__", 74) (List.mem_of_getElem? (i := 33) rfl))
  have k_UnlikeShown := xc0_at (L := kindsL K) (c := "UnlikeShown") X Gn E (List.mem_map_of_mem (List.mem_of_getElem? (i := 68) rfl)) (E.n "UnlikeShown" (List.mem_of_getElem? (i := 0) rfl))
  have k_NoShowing := xc0_at (L := kindsL K) (c := "NoShowing") X Gn E (List.mem_map_of_mem (List.mem_of_getElem? (i := 69) rfl)) (E.n "NoShowing" (List.mem_of_getElem? (i := 1) rfl))
  have k_NoParting := xc0_at (L := kindsL K) (c := "NoParting") X Gn E (List.mem_map_of_mem (List.mem_of_getElem? (i := 70) rfl)) (E.n "NoParting" (List.mem_of_getElem? (i := 2) rfl))
  have k_NothingToUndo := xc0_at (L := kindsL K) (c := "NothingToUndo") X Gn E (List.mem_map_of_mem (List.mem_of_getElem? (i := 71) rfl)) (E.n "NothingToUndo" (List.mem_of_getElem? (i := 3) rfl))
  have k_NothingToRedo := xc0_at (L := kindsL K) (c := "NothingToRedo") X Gn E (List.mem_map_of_mem (List.mem_of_getElem? (i := 72) rfl)) (E.n "NothingToRedo" (List.mem_of_getElem? (i := 4) rfl))
  obtain ⟨f__law_cell⟩ := df_at (n := "_law_cell") (ps := ["_law_script", "_law_k"]) (i := 76) X Gn E (E.t ("_law_cell", 76) (List.mem_of_getElem? (i := 0) rfl)) (fun _ _ _ _ _ _ us hl => match us, hl with | [_, _], _ => rfl)
  obtain ⟨f__law_box⟩ := df_at (n := "_law_box") (ps := ["_law_great"]) (i := 77) X Gn E (E.t ("_law_box", 77) (List.mem_of_getElem? (i := 1) rfl)) (fun _ _ _ _ _ _ us hl => match us, hl with | [_], _ => rfl)
  obtain ⟨f__law_take⟩ := df_at (n := "_law_take") (ps := ["_law_box_here", "_law_many"]) (i := 78) X Gn E (E.t ("_law_take", 78) (List.mem_of_getElem? (i := 2) rfl)) (fun _ _ _ _ _ _ us hl => match us, hl with | [_, _], _ => rfl)
  obtain ⟨f__law_kinds_one⟩ := df_at (n := "_law_kinds_one") (ps := ["_law_e"]) (i := 79) X Gn E (E.t ("_law_kinds_one", 79) (List.mem_of_getElem? (i := 3) rfl)) (fun _ _ _ _ _ _ us hl => match us, hl with | [_], _ => rfl)
  obtain ⟨f__law_kinds_two⟩ := df_at (n := "_law_kinds_two") (ps := ["_law_e"]) (i := 80) X Gn E (E.t ("_law_kinds_two", 80) (List.mem_of_getElem? (i := 4) rfl)) (fun _ _ _ _ _ _ us hl => match us, hl with | [_], _ => rfl)
  obtain ⟨f__law_kinds_three⟩ := df_at (n := "_law_kinds_three") (ps := ["_law_e"]) (i := 81) X Gn E (E.t ("_law_kinds_three", 81) (List.mem_of_getElem? (i := 5) rfl)) (fun _ _ _ _ _ _ us hl => match us, hl with | [_], _ => rfl)
  obtain ⟨f__law_givens⟩ := df_at (n := "_law_givens") (ps := ["_law_thing"]) (i := 82) X Gn E (E.t ("_law_givens", 82) (List.mem_of_getElem? (i := 6) rfl)) (fun _ _ _ _ _ _ us hl => match us, hl with | [_], _ => rfl)
  obtain ⟨f__law_keys⟩ := df_at (n := "_law_keys") (ps := ["_law_thing"]) (i := 83) X Gn E (E.t ("_law_keys", 83) (List.mem_of_getElem? (i := 7) rfl)) (fun _ _ _ _ _ _ us hl => match us, hl with | [_], _ => rfl)
  obtain ⟨f__law_persons⟩ := df_at (n := "_law_persons") (ps := ["_law_thing"]) (i := 84) X Gn E (E.t ("_law_persons", 84) (List.mem_of_getElem? (i := 8) rfl)) (fun _ _ _ _ _ _ us hl => match us, hl with | [_], _ => rfl)
  obtain ⟨f__law_numbers⟩ := df_at (n := "_law_numbers") (ps := ["_law_thing"]) (i := 85) X Gn E (E.t ("_law_numbers", 85) (List.mem_of_getElem? (i := 9) rfl)) (fun _ _ _ _ _ _ us hl => match us, hl with | [_], _ => rfl)
  obtain ⟨f__law_named⟩ := df_at (n := "_law_named") (ps := ["_law_thing"]) (i := 86) X Gn E (E.t ("_law_named", 86) (List.mem_of_getElem? (i := 10) rfl)) (fun _ _ _ _ _ _ us hl => match us, hl with | [_], _ => rfl)
  obtain ⟨f__law_named_keys⟩ := df_at (n := "_law_named_keys") (ps := ["_law_thing"]) (i := 87) X Gn E (E.t ("_law_named_keys", 87) (List.mem_of_getElem? (i := 11) rfl)) (fun _ _ _ _ _ _ us hl => match us, hl with | [_], _ => rfl)
  obtain ⟨f__law_named_persons⟩ := df_at (n := "_law_named_persons") (ps := ["_law_thing"]) (i := 88) X Gn E (E.t ("_law_named_persons", 88) (List.mem_of_getElem? (i := 12) rfl)) (fun _ _ _ _ _ _ us hl => match us, hl with | [_], _ => rfl)
  obtain ⟨f__law_named_numbers⟩ := df_at (n := "_law_named_numbers") (ps := ["_law_thing"]) (i := 89) X Gn E (E.t ("_law_named_numbers", 89) (List.mem_of_getElem? (i := 13) rfl)) (fun _ _ _ _ _ _ us hl => match us, hl with | [_], _ => rfl)
  obtain ⟨f__law_lone⟩ := df_at (n := "_law_lone") (ps := ["_law_thing"]) (i := 90) X Gn E (E.t ("_law_lone", 90) (List.mem_of_getElem? (i := 14) rfl)) (fun _ _ _ _ _ _ us hl => match us, hl with | [_], _ => rfl)
  obtain ⟨f__law_pairs⟩ := df_at (n := "_law_pairs") (ps := ["_law_one", "_law_other"]) (i := 91) X Gn E (E.t ("_law_pairs", 91) (List.mem_of_getElem? (i := 15) rfl)) (fun _ _ _ _ _ _ us hl => match us, hl with | [_, _], _ => rfl)
  obtain ⟨f__law_same⟩ := df_at (n := "_law_same") (ps := ["_law_found", "_law_thing"]) (i := 92) X Gn E (E.t ("_law_same", 92) (List.mem_of_getElem? (i := 16) rfl)) (fun _ _ _ _ _ _ us hl => match us, hl with | [_, _], _ => rfl)
  obtain ⟨f__law_all⟩ := df_at (n := "_law_all") (ps := ["_law_thing"]) (i := 93) X Gn E (E.t ("_law_all", 93) (List.mem_of_getElem? (i := 17) rfl)) (fun _ _ _ _ _ _ us hl => match us, hl with | [_], _ => rfl)
  obtain ⟨f__law_fields_right⟩ := df_at (n := "_law_fields_right") (ps := ["_law_thing"]) (i := 94) X Gn E (E.t ("_law_fields_right", 94) (List.mem_of_getElem? (i := 18) rfl)) (fun _ _ _ _ _ _ us hl => match us, hl with | [_], _ => rfl)
  obtain ⟨f__law_objects_right⟩ := df_at (n := "_law_objects_right") (ps := ["_law_thing"]) (i := 95) X Gn E (E.t ("_law_objects_right", 95) (List.mem_of_getElem? (i := 19) rfl)) (fun _ _ _ _ _ _ us hl => match us, hl with | [_], _ => rfl)
  obtain ⟨f__law_kinds_right⟩ := df_at (n := "_law_kinds_right") (ps := []) (i := 96) X Gn E (E.t ("_law_kinds_right", 96) (List.mem_of_getElem? (i := 20) rfl)) (fun _ _ _ _ _ _ us hl => match us, hl with | [], _ => rfl)
  obtain ⟨f_law⟩ := df_at (n := "law") (ps := ["_law_script"]) (i := 97) X Gn E (E.t ("law", 97) (List.mem_of_getElem? (i := 21) rfl)) (fun _ _ _ _ _ _ us hl => match us, hl with | [_], _ => rfl)
  exact ⟨{ m_len := PySem.W.mg_none_of X Gn (E.free (List.mem_of_getElem? (i := 0) rfl)), m_abs := PySem.W.mg_none_of X Gn (E.free (List.mem_of_getElem? (i := 1) rfl)), m_int := PySem.W.mg_none_of X Gn (E.free (List.mem_of_getElem? (i := 2) rfl)), m_isinstance := PySem.W.mg_none_of X Gn (E.free (List.mem_of_getElem? (i := 3) rfl)), m_repr := PySem.W.mg_none_of X Gn (E.free (List.mem_of_getElem? (i := 4) rfl)), m_bool := PySem.W.mg_none_of X Gn (E.free (List.mem_of_getElem? (i := 5) rfl)), m_list := PySem.W.mg_none_of X Gn (E.free (List.mem_of_getElem? (i := 6) rfl)), m_range := PySem.W.mg_none_of X Gn (E.free (List.mem_of_getElem? (i := 7) rfl)), m_ValueError := PySem.W.mg_none_of X Gn (E.free (List.mem_of_getElem? (i := 8) rfl)), gG := PySem.W.mg_of X Gn (by rw [E.root]; exact E.at_ E.g), xG := E.xG.imp fun _ z => z.1, tG := E.tG, nd := E.nd, ng := E.ng, k_InvalidPerson := k_InvalidPerson, k_InvalidNumber := k_InvalidNumber, k_InvalidSeen := k_InvalidSeen, k_InvalidDeed := k_InvalidDeed, k_InvalidChange := k_InvalidChange, k_InvalidHistory := k_InvalidHistory, k_InvalidVector := k_InvalidVector, k_InvalidText := k_InvalidText, k_InvalidRight := k_InvalidRight, k_InvalidRights := k_InvalidRights, k_InvalidFlag := k_InvalidFlag, k_InvalidIds := k_InvalidIds, k_Forked := k_Forked, k_Stranger := k_Stranger, k_Missing := k_Missing, k_Blind := k_Blind, k_NotAsked := k_NotAsked, k_NotRight := k_NotRight, k_RoomTaken := k_RoomTaken, k_UnknownRoom := k_UnknownRoom, k_UnknownChange := k_UnknownChange, k_NotStruck := k_NotStruck, k_Old := k_Old, k_Lacking := k_Lacking, k_Forgotten := k_Forgotten, k_Beside := k_Beside, k_Short := k_Short, k_NotGround := k_NotGround, k_InvalidName := k_InvalidName, k_InvalidSheet := k_InvalidSheet, k_InvalidWish := k_InvalidWish, k_InvalidReading := k_InvalidReading, k_InvalidLine := k_InvalidLine, k_InvalidPlan := k_InvalidPlan, k_NoLine := k_NoLine, k_NoKnot := k_NoKnot, k_NoReading := k_NoReading, k_RingThere := k_RingThere, k_NoThing := k_NoThing, k_UnknownColumn := k_UnknownColumn, k_KeptTable := k_KeptTable, k_NotClosed := k_NotClosed, k_NoPurse := k_NoPurse, k_CutPurse := k_CutPurse, k_TooMuch := k_TooMuch, k_InvalidCount := k_InvalidCount, k_InvalidGoal := k_InvalidGoal, k_InvalidCrowd := k_InvalidCrowd, k_InvalidJournal := k_InvalidJournal, k_NotKept := k_NotKept, k_NotBroken := k_NotBroken, k_TooMany := k_TooMany, k_NotHidden := k_NotHidden, k_InvalidRooms := k_InvalidRooms, k_InvalidStrokes := k_InvalidStrokes, k_InvalidHistories := k_InvalidHistories, k_Unfit := k_Unfit, k_InvalidView := k_InvalidView, k_InvalidVariable := k_InvalidVariable, k_InvalidGiven := k_InvalidGiven, k_NotPlain := k_NotPlain, k_UnknownView := k_UnknownView, k_HasCopy := k_HasCopy, k_NoPerson := k_NoPerson, k_InvalidLines := k_InvalidLines, k_NotAhead := k_NotAhead, k_Against := k_Against, k_NotWithin := k_NotWithin, k_UnlikeShown := k_UnlikeShown, k_NoShowing := k_NoShowing, k_NoParting := k_NoParting, k_NothingToUndo := k_NothingToUndo, k_NothingToRedo := k_NothingToRedo, f__law_cell := f__law_cell, f__law_box := f__law_box, f__law_take := f__law_take, f__law_kinds_one := f__law_kinds_one, f__law_kinds_two := f__law_kinds_two, f__law_kinds_three := f__law_kinds_three, f__law_givens := f__law_givens, f__law_keys := f__law_keys, f__law_persons := f__law_persons, f__law_numbers := f__law_numbers, f__law_named := f__law_named, f__law_named_keys := f__law_named_keys, f__law_named_persons := f__law_named_persons, f__law_named_numbers := f__law_named_numbers, f__law_lone := f__law_lone, f__law_pairs := f__law_pairs, f__law_same := f__law_same, f__law_all := f__law_all, f__law_fields_right := f__law_fields_right, f__law_objects_right := f__law_objects_right, f__law_kinds_right := f__law_kinds_right, f_law := f_law }⟩
end Kx

set_option Elab.async false
set_option linter.all false
set_option maxRecDepth 100000
set_option maxHeartbeats 0
namespace Kx
open PySem PySem.Spec PyProof.Rows L2
theorem join5 {α β1 β2 β3 β4 β5 : Type} {x : Option α} {f1 : α → β1} {f2 : α → β2} {f3 : α → β3} {f4 : α → β4} {f5 : α → β5} {v1 : β1} {v2 : β2} {v3 : β3} {v4 : β4} {v5 : β5}
    (h1 : x.map f1 = some v1) (h2 : x.map f2 = some v2) (h3 : x.map f3 = some v3) (h4 : x.map f4 = some v4) (h5 : x.map f5 = some v5) : x.map (fun s => (f1 s, f2 s, (f3 s, f4 s, f5 s))) = some (v1, v2, (v3, v4, v5)) := by
  cases x with
  | none => cases h1
  | some s =>
    simp only [Option.map_some, Option.some.injEq] at *
    rw [h1, h2, h3, h4, h5]
def obL (s : PySem.W.SharedT) := obAll (HandSHeadRun.getT s)
theorem obL_eq (s : PySem.W.SharedT) : obL s = hkL.obs s.abs := by
  have e : HandSHeadRun.getT s = s.abs.heap.get? := funext (HandSHeadRun.getT_eq s)
  unfold obL
  rw [e]
  rfl
theorem run_F (w : World) : HandSHeadRun.RunEq RR qvw hkL obL 40000 looseN (w.withFollow "special-get-raises" false) := fun os => join5 (run_looks_f w os) (run_seen_f w os) (run_ob1_f w os) (run_obA_f w os) (run_obB_f w os)
theorem run_T (w : World) : HandSHeadRun.RunEq RR qvw hkL obL 40000 looseN (w.withFollow "special-get-raises" true) := fun os => join5 (run_looks_t w os) (run_seen_t w os) (run_ob1_t w os) (run_obA_t w os) (run_obB_t w os)
end Kx
open PySem PySem.W PySem.Calls PyProof.Rows
theorem PySem.Challenge.cw_closedground_k00_exceptions_and_their_fi_holds : PySem.Challenge.rw_closedground_k00_exceptions_and_their_fi.Holds := by
  w_on; o_law
  refine HandSHeadRun.head_any (r := Kx.RR) (q := Kx.qvw) (H := Kx.hkL) (ob := Kx.obL) (M := 40000) (loose := Kx.looseN) (d := HandSHeadRun.topDef Kx.RR.prog 97) (kwd := []) Kx.obL_eq
    (by kernel_rfl) (fun s => by kernel_rfl) (fun w => PySem.W.byRow2 "special-get-raises" Kx.run_F Kx.run_T w) (by kernel_rfl) (by kernel_rfl) (by kernel_rfl) (by rfl) (by first | assumption | decide +kernel) (by decide +kernel) ⟨rfl, rfl, rfl, rfl, rfl, by decide +kernel⟩ ?hw ?hc
  case hw => w_witness2
  case hc =>
    refine Kx.walk_ofGE (l := PySem.Challenge.rw_closedground_k00_exceptions_and_their_fi) (n := 63) (k := 6) (x := "_law_script") rfl (by decide) (by kernel_rfl) ⟨rfl, by decide, by decide⟩ ?F
    intro w mg fa h Y G hmg0
    obtain ⟨K, KX, c⟩ := Y
    obtain ⟨T⟩ := Kx.top_of KX G c
    have hmg : mg ("law" : PySem.Str) = some (.ref fa) := by
      have e : (HandSHeadRun.topDef Kx.RR.prog 97).name = ("law" : PySem.Str) := by kernel_rfl
      rw [← e]
      exact hmg0
    have e := hmg.symm.trans T.f_law.g
    cases e
    refine ⟨K, T.f_law.d, Kx.spLaw K, KX, fun s u => ?_, fun H a ns hl _ hS => ⟨a, ns, rfl, hS, hl, fun _ => rfl⟩, fun base _ _ => Kx.ok_law T⟩
    obtain ⟨oc, od, kV, doc, pm, an, cdv, ct, osl, e, _⟩ := T.f_law.F.ex
    rw [e]
    exact .of_eq rfl
