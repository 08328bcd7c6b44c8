import PyProof.Rows.All
import Wide.All
import OpenK.AllK
import Wide.FinOn
import HandS.ForMost
import HandS.IsInst
import HandS.Defaults
import HandS.Deep
import HandS.Conv
import PySem.Challenge.RW_closedground_k01_people_rights_and_ids
set_option Elab.async false
set_option linter.all false
set_option maxRecDepth 100000
set_option maxHeartbeats 4000000
namespace Kx
open PySem PySem.Spec PyProof.Rows L2

/-! ### f(k = v, ..) without positional values -/
section
variable {X : Cx} {CX : CXT} {k : Nat} {f : Addr} {fd : FuncData} {ps ks : List Str} {sp : Sp} {E : XK} {x : Str} {p pos : Pos} {kws : List Keyword} {tk : TA} {g : List Value → List Value → List Value} {gV : List V → List V → List V}
theorem pe_callN0 (F : FnOk X.prog X.w X.K X.mg X.base CX k f fd ps sp) (hr : Room k X.A) (hg : Gl X x) (hm : X.mg x = some (.ref f)) (hk : PySem.W.keepIn X.K (.ref f) = true) (hb : KBn X.K fd ps 0 ks g gV) (hx : Passes CX X E)
    (hkw : PK X kws tk) (hall : (backToKw pos (keywordEach kws X.env)).all (·.1.isSome) = true := by rfl) (hks : (backToKw pos (keywordEach kws X.env)).filterMap (·.1) = ks := by rfl)
    (hdb : (x == ("__debug__" : Str)) = false := by decide)
    (hpl : ((backTo pos (starEach [] X.env)).any (·.1) || (backToKw pos (keywordEach kws X.env)).any (·.1.isNone)) = false := by rfl) :
    PE X (.Call (.Name x p) [] kws pos) (tCallN 0 ks.length sp gV E tNil tk) := by
  refine ⟨fun pins s σ H Q I h => ?_⟩
  refine wpAny_Call_Name_kw (ld_glob I hg hm ?_ hdb)
  refine PySem.W.callWith_KW0 (h₀ := X.base) I.ok.mod.kin hk hall ?_ hpl
  refine thn (hkw.run pos pins s σ H _ I h) fun ws s2 ⟨zs, H2, I2, rz, l1, l2, q2⟩ => ⟨I2.kIn, ?_⟩
  rw [hks]
  exact run_fnN (us := []) (vs := []) F hr hb hx I2 .nil rz rfl l2 q2
end
/-- one parameter, called by its name -/
theorem kbn1 {K : PySem.W.Frag} {x qual a : Str} {st : Stmt} {f : Addr} {fd : FuncData} (F : Fun K x qual st f fd)
    (h : ∀ (kV doc pm : Value) (an : Option Addr) (cdv ct : Value) (u : Value), bindArgs (PySem.W.fnOf x qual (defArgs st) (defBody st) (defScope st) .none kV doc pm an cdv ct) ⟨[], [(a, u)]⟩ = pure [(a, u)]) :
    KBn K fd [a] 0 [a] (fun _ ws => ws) (fun _ zs => zs) := by
  obtain ⟨oc, od, kV, doc, pm, an, cdv, ct, osl, rfl, lk, hcd⟩ := F.ex
  refine ⟨fun s us ws _ h1 h2 => ?_, fun _ r => r⟩
  match us, ws, h1, h2 with
  | [], [u], _, _ => exact .of_eq (h kV doc pm an cdv ct u)

/-! ### text * int -/
section
variable {X : Cx}
theorem op_mul_str : OpR X (binaryOp .Mult) (fun x y H Q => ∃ z n, x = .str z ∧ y = .int n ∧ MulOk z n ∧ Q (.str (Txt.mul z n)) H) := by
  intro pins s σ H x y v u Q I rx ry h
  obtain ⟨z, n, rfl, rfl, hok, q⟩ := h
  obtain ⟨t, rfl⟩ := rx
  obtain ⟨t', rfl⟩ := ry
  exact SB.mul hok fun t' k => ⟨.str _, H, I.tok k, ⟨t', rfl⟩, q⟩
end

/-! ### heaps -/
theorem same_upd {H : Hp} {p : Addr} {o : HO} (h : H p = none) : Same H (upd H p o) := fun b x e => by
  rw [upd_ne (ne_of_none e h)]
  exact e
theorem Same.mut {H H' : Hp} {p : Addr} {o : HO} (e : Same H H') (h : H p = none) : Same H (upd H' p o) := fun b x q => by
  rw [upd_ne (ne_of_none q h)]
  exact e b x q
theorem fresh_back {H H' : Hp} {p : Addr} (e : Same H H') (h : H' p = none) : H p = none := e.free h

/-! ### data -/
def kD : Key → PyData
  | .inl i => .int i
  | .inr x => .str x
mutual
/-- the value v stands for the data d -/
inductive Rp (H : Hp) : V → PyData → Prop
  | non : Rp H .non .none
  | bl (b : Bool) : Rp H (.bl b) (.bool b)
  | int (i : Int) : Rp H (.int i) (.int i)
  | str (x : Str) : Rp H (.str x) (.str x)
  | lst {a : Addr} {xs : List V} {ds : List PyData} : H a = some (.lst xs) → RpL H xs ds → Rp H (.ref a) (.list ds)
  | tup {a : Addr} {xs : List V} {ds : List PyData} : H a = some (.tup xs) → RpL H xs ds → Rp H (.ref a) (.tuple ds)
  | dct {a : Addr} {kvs : List (Key × V)} {es : List (PyData × PyData)} : H a = some (.dK kvs) → RpD H kvs es → Rp H (.ref a) (.dict es)
inductive RpL (H : Hp) : List V → List PyData → Prop
  | nil : RpL H [] []
  | cons {v : V} {vs : List V} {d : PyData} {ds : List PyData} : Rp H v d → RpL H vs ds → RpL H (v :: vs) (d :: ds)
inductive RpD (H : Hp) : List (Key × V) → List (PyData × PyData) → Prop
  | nil : RpD H [] []
  | cons {k : Key} {v : V} {vs : List (Key × V)} {d : PyData} {ds : List (PyData × PyData)} : Rp H v d → RpD H vs ds → RpD H ((k, v) :: vs) ((kD k, d) :: ds)
end
section
variable {H H' : Hp} (e : Same H H')
include e
mutual
theorem Rp.mono : ∀ {v : V} {d : PyData}, Rp H v d → Rp H' v d
  | _, _, .non => .non
  | _, _, .bl b => .bl b
  | _, _, .int i => .int i
  | _, _, .str x => .str x
  | _, _, .lst h r => .lst (e _ _ h) (RpL.mono r)
  | _, _, .tup h r => .tup (e _ _ h) (RpL.mono r)
  | _, _, .dct h r => .dct (e _ _ h) (RpD.mono r)
theorem RpL.mono : ∀ {v : List V} {d : List PyData}, RpL H v d → RpL H' v d
  | _, _, .nil => .nil
  | _, _, .cons a r => .cons (Rp.mono a) (RpL.mono r)
theorem RpD.mono : ∀ {v : List (Key × V)} {d : List (PyData × PyData)}, RpD H v d → RpD H' v d
  | _, _, .nil => .nil
  | _, _, .cons a r => .cons (Rp.mono a) (RpD.mono r)
end
end
theorem RpL.length {H : Hp} : ∀ {v : List V} {d : List PyData}, RpL H v d → v.length = d.length
  | _, _, .nil => rfl
  | _, _, .cons _ r => congrArg Nat.succ (RpL.length r)
theorem RpL.get {H : Hp} : ∀ {vs : List V} {ds : List PyData} {i : Nat} {d : PyData}, RpL H vs ds → ds[i]? = some d → ∃ v, vs[i]? = some v ∧ Rp H v d
  | _, _, _, _, .nil, h => by simp at h
  | _, _, 0, _, .cons a _, h => by
    simp at h
    subst h
    exact ⟨_, rfl, a⟩
  | _, _, i + 1, d, .cons _ r, h => by
    obtain ⟨v, h1, h2⟩ := RpL.get (i := i) (d := d) r (by simpa using h)
    exact ⟨v, by simpa using h1, h2⟩
theorem RpL.strs {H : Hp} : ∀ ys : List Str, RpL H (ys.map V.str) (ys.map PyData.str)
  | [] => .nil
  | y :: r => .cons (.str y) (RpL.strs r)
theorem RpL.append {H : Hp} : ∀ {v w : List V} {d e : List PyData}, RpL H v d → RpL H w e → RpL H (v ++ w) (d ++ e)
  | _, _, _, _, .nil, s => s
  | _, _, _, _, .cons a r, s => .cons a (RpL.append r s)

/-! ### isinstance by data -/
def tyD : PyData → String
  | .none => "NoneType"
  | .bool _ => "bool"
  | .int _ => "int"
  | .str _ => "str"
  | .list _ => "list"
  | .tuple _ => "tuple"
  | .dict _ => "dict"
theorem Rp.ty {K : PySem.W.Frag} {H : Hp} {v : V} {d : PyData} (h : Rp H v d) : TyX K H v (.type (tyD d)) := by
  cases h with
  | non => exact .base .non
  | bl b => exact .base (.bl b)
  | int i => exact .base (.int i)
  | str x => exact .base (.str x)
  | lst h _ => exact .base (.lst h)
  | tup h _ => exact .base (.tup h)
  | dct h _ => exact .base (.dK h)
def isTy (s T : String) : Bool := s == T || (T == "int" && s == "bool")
def tys : List String := ["NoneType", "bool", "int", "str", "list", "tuple", "dict"]
theorem tyD_mem (d : PyData) : tyD d ∈ tys := by cases d <;> simp [tyD, tys]
theorem kit_tys : (tys.all fun s => ["str", "int", "bool", "tuple", "list", "dict"].all fun T => decide (kitB s T = some (isTy s T))) = true := by decide +kernel
theorem kit_isTy {s T : String} (hs : s ∈ tys) (hT : T ∈ ["str", "int", "bool", "tuple", "list", "dict"]) : kitB s T = some (isTy s T) :=
  of_decide_eq_true (List.all_eq_true.mp (List.all_eq_true.mp kit_tys s hs) T hT)
theorem isi_rp {K : PySem.W.Frag} {H : Hp} {v : V} {d : PyData} {T : String} {Q : VK} (h : Rp H v d) (hT : T ∈ ["str", "int", "bool", "tuple", "list", "dict"]) (q : Q (.bl (isTy (tyD d) T)) H) : rIsi K [v, .ty T] H Q :=
  ⟨v, .ty T, _, _, _, rfl, .ty T, h.ty, kit_ty (kit_isTy (tyD_mem d) hT), q⟩

def isStrD : PyData → Bool
  | .str _ => true
  | _ => false
def isIntD : PyData → Bool
  | .int _ => true
  | .bool _ => true
  | _ => false
def isBoolD : PyData → Bool
  | .bool _ => true
  | _ => false
def isTupD : PyData → Bool
  | .tuple _ => true
  | _ => false
def isLstD : PyData → Bool
  | .list _ => true
  | _ => false
def isDctD : PyData → Bool
  | .dict _ => true
  | _ => false
theorem isi_of {K : PySem.W.Frag} {H : Hp} {v : V} {d : PyData} {T : String} {b : Bool} {Q : VK} (h : Rp H v d) (hT : T ∈ ["str", "int", "bool", "tuple", "list", "dict"]) (e : isTy (tyD d) T = b) (q : Q (.bl b) H) : rIsi K [v, .ty T] H Q :=
  isi_rp h hT (by rw [e]; exact q)
theorem kit_of_ty {K : PySem.W.Frag} (d : PyData) {T : String} {b : Bool} (hT : T ∈ ["str", "int", "bool", "tuple", "list", "dict"]) (e : isTy (tyD d) T = b) : PySem.W.kitOne K (.type (tyD d)) (.type T) = some b := by
  rw [← e]
  exact kit_ty (kit_isTy (tyD_mem d) hT)
section
variable {K : PySem.W.Frag}
theorem kit_str (d : PyData) : PySem.W.kitOne K (.type (tyD d)) (.type "str") = some (isStrD d) := kit_of_ty d (by decide) (by cases d <;> simp [isTy, tyD, isStrD])
theorem kit_int (d : PyData) : PySem.W.kitOne K (.type (tyD d)) (.type "int") = some (isIntD d) := kit_of_ty d (by decide) (by cases d <;> simp [isTy, tyD, isIntD])
theorem kit_bool (d : PyData) : PySem.W.kitOne K (.type (tyD d)) (.type "bool") = some (isBoolD d) := kit_of_ty d (by decide) (by cases d <;> simp [isTy, tyD, isBoolD])
theorem kit_tup (d : PyData) : PySem.W.kitOne K (.type (tyD d)) (.type "tuple") = some (isTupD d) := kit_of_ty d (by decide) (by cases d <;> simp [isTy, tyD, isTupD])
theorem kit_lst (d : PyData) : PySem.W.kitOne K (.type (tyD d)) (.type "list") = some (isLstD d) := kit_of_ty d (by decide) (by cases d <;> simp [isTy, tyD, isLstD])
theorem kit_dct (d : PyData) : PySem.W.kitOne K (.type (tyD d)) (.type "dict") = some (isDctD d) := kit_of_ty d (by decide) (by cases d <;> simp [isTy, tyD, isDctD])
end

/-! ### data without dicts, as the library has them -/
mutual
theorem Rp.dp {K : PySem.W.Frag} {H : Hp} : ∀ {v : V} {d : PyData}, Rp H v d → d.canLay0 = true → Dp K H v d
  | _, _, .non, _ => .non
  | _, _, .bl b, _ => .bl b
  | _, _, .int i, _ => .int i
  | _, _, .str x, _ => .str x
  | _, .list ds, .lst h r, c => .lst (.inl (.inl h)) (RpL.dp r (by simpa [PyData.canLay0] using c))
  | _, .tuple ds, .tup h r, c => .tup (.inl (.inl h)) (RpL.dp r (by simpa [PyData.canLay0] using c))
  | _, .dict es, .dct h r, c => by simp [PyData.canLay0] at c
theorem RpL.dp {K : PySem.W.Frag} {H : Hp} : ∀ {v : List V} {d : List PyData}, RpL H v d → PyData.canLayAll0 d = true → DpAll K H v d
  | _, _, .nil, _ => .nil
  | _, d :: ds, .cons a r, c => by
    simp [PyData.canLayAll0] at c
    exact .cons (Rp.dp a c.1) (RpL.dp r c.2)
end

/-! ### a text is no dict -/
theorem str_eq_declines_dict (b : Str) (u : Tok) (l : Addr) (o : Obj) (hc : o.cls = .type "dict") {es : Array DictEntry} {ep : Nat} (hd : o.data = .dict es ep) :
    Meets (Builtin.«str.__eq__» ⟨[.str b u, .ref l], []⟩) (fun _ R s => s.heap.get? l = some o ∧ R (.ok (.ret .notImplemented)) s) :=
  .of_wp fun prog w A R s h => by
    obtain ⟨cls, dd, data, sl⟩ := o
    simp only at hc hd
    subst hc hd
    obtain ⟨hp, g, d, tk, os⟩ := s; obtain ⟨hl, h⟩ := h; wp_walk using wpAny_loadPart' hl, wpAny_load hl; exact ⟨_, rfl, h⟩
theorem dict_eq_declines_str (l : Addr) (o : Obj) (hc : o.cls = .type "dict") (b : Str) (u : Tok) :
    Meets (Builtin.«dict.__eq__» ⟨[.ref l, .str b u], []⟩) (fun _ R s => s.heap.get? l = some o ∧ R (.ok (.ret .notImplemented)) s) :=
  .of_wp fun prog w A R s h => by
    obtain ⟨cls, dd, data, sl⟩ := o
    simp only at hc
    subst hc
    obtain ⟨hp, g, d, tk, os⟩ := s; obtain ⟨hl, h⟩ := h; have f1 := F.sub_str_dict; wp_walk using wpAny_loadPart' hl; exact ⟨_, rfl, h⟩
theorem eqAt_str_dict {A : Around} {s : Shared} {l : Addr} {o : Obj} (b : Str) (u : Tok) (ho : s.heap.get? l = some o) (hc : o.cls = .type "dict") {es : Array DictEntry} {ep : Nat} (hd : o.data = .dict es ep) (hu : A.units < cLine) : SeqAt.EqAt A s (.str b u) (.ref l) false := fun prog w E Q h => by
  unfold eqBool
  refine wpAny_holding ?_
  refine wpAny_ite_split (fun hab => absurd (eq_of_beq hab) nofun) (fun _ => ?_)
  refine wpAny_bind (SeqAt.rc_eq_decline_or (k := false) (typeIs_str s b u) ⟨_, ho, hc⟩ (by decide) F.sub_dict_str F.slot_str_eq F.slot_dict_eq_refl
    (fun _ hq => call_meets F.slot_str_eq (typeIs_str s b u) F.entry_str_eq (F.args_str_eq_2 _ _) (str_eq_declines_dict b u l o hc hd) ⟨ho, hq⟩)
    (fun _ hq => call_meets F.slot_dict_eq_refl ⟨_, ho, hc⟩ F.entry_dict_eq (F.args_dict_eq_2 _ _) (dict_eq_declines_str l o hc b u) ⟨ho, hq⟩)
    (fun _ hq => wpAny_of_eq (rfl : isSame (.str b u) (.ref l) = pure false) hq) (.inr hu) (wpAny_truthy_bool h))

/-! ### x in a list or tuple of texts, x any data -/
def strIs (w : Str) : PyData → Bool
  | .str x => w == x
  | _ => false
section
variable {X : Cx} {pins : List (Addr × Obj)} {σ : L2.St} {H : Hp} {s : Shared}
theorem eqAt_strIs (I : Inv X pins σ H s) {v : V} {d : PyData} {u : Value} (h : Rp H v d) (r : RelV v u) (hu : X.A.units + 1 < cLine) (b : Str) (t : Tok) : SeqAt.EqAt X.A.in1 s (.str b t) u (strIs b d) := by
  have hu1 : X.A.in1.units < cLine := hu
  cases h with
  | non => cases r; exact SeqAt.EqAt.str_none b t
  | bl k => cases r; exact SeqAt.EqAt.str_bool b t k
  | int i => obtain ⟨t', rfl⟩ := r; exact SeqAt.EqAt.str_int b t i t'
  | str x => obtain ⟨t', rfl⟩ := r; exact SeqAt.EqAt.str_str b t x t'
  | lst h _ =>
    cases r
    obtain ⟨its, _, pl, _⟩ := I.list (.inl (.inl h))
    exact SeqAt.EqAt.str_list b t pl.isList hu1
  | tup h _ =>
    cases r
    obtain ⟨its, _, pl, _⟩ := I.tuple (.inl (.inl h))
    exact SeqAt.EqAt.str_tuple b t pl hu1
  | @dct a kvs es h _ =>
    cases r
    obtain ⟨_, _, vs, _, o, es, ep, h1, h2, h3, _⟩ := (show ObjOk X.prog X.w H s.heap a (.dK kvs) from I.hok a _ h)
    exact eqAt_str_dict b t h1 h2.1 h3 hu1
def eqW (d : PyData) : Value → Bool
  | .str z _ => strIs z d
  | _ => false
theorem any_eqW (d : PyData) : ∀ {ws : List Str} {us : List Value}, Vals (ws.map V.str) us → us.any (eqW d) = ws.any (strIs · d)
  | [], _, .nil => rfl
  | w :: ws, _, .cons r t => by
    obtain ⟨k, rfl⟩ := r
    rw [List.any_cons, List.any_cons, any_eqW d t]
    rfl
theorem mem_eqW (I : Inv X pins σ H s) {v : V} {d : PyData} {u : Value} (h : Rp H v d) (r : RelV v u) (hu : X.A.units + 1 < cLine) : ∀ {ws : List Str} {us : List Value}, Vals (ws.map V.str) us → ∀ z ∈ us, SeqAt.EqAt X.A.in1 s z u (eqW d z)
  | [], _, .nil => fun z hz => by cases hz
  | w :: ws, _, .cons q t => fun z hz => by
    obtain ⟨k, rfl⟩ := q
    rcases List.mem_cons.mp hz with rfl | hz
    · exact eqAt_strIs I h r hu w k
    · exact mem_eqW I h r hu t z hz
def rInAny (K : PySem.W.Frag) : R2 := fun x y H Q => ∃ (p : Addr) (ws : List Str) (d : PyData), y = .ref p ∧ (SqL K H p (ws.map V.str) ∨ SqT K H p (ws.map V.str)) ∧ Rp H x d ∧ Q (.bl (ws.any (strIs · d))) H
theorem op_in_any (hu : X.A.units + 1 < cLine) : OpR X (compareOp .In) (rInAny X.K) := by
  intro pins s σ H x y v u Q I rx ry h
  obtain ⟨p, ws, d, rfl, hq, hx, q⟩ := h
  cases ry
  rcases hq with hq | hq
  · obtain ⟨its, r, pl, hz⟩ := I.list hq
    refine SeqAt.in_listAt (eqW d) pl.isList (fun w hw => mem_eqW I hx rx hu r w (by simpa using hw)) ⟨.bl _, H, I, rfl, ?_⟩
    rw [show its.toArray.any (eqW d) = its.any (eqW d) by simp, any_eqW d r]
    exact q
  · obtain ⟨its, r, pl, hz⟩ := I.tuple hq
    refine SeqAt.in_tupleAt (eqW d) pl (fun w hw => mem_eqW I hx rx hu r w (by simpa using hw)) ⟨.bl _, H, I, rfl, ?_⟩
    rw [show its.toArray.any (eqW d) = its.any (eqW d) by simp, any_eqW d r]
    exact q
end

/-! ### comprehensions whose steps only add to the heap -/
/-- what the i-th turn gives: none (left out), or a value -/
def outs (n : Nat) (o : Nat → Option V) : List V := (List.range n).filterMap o
theorem outs_succ (n : Nat) (o : Nat → Option V) : outs (n + 1) o = outs n o ++ (o n).toList := by
  unfold outs
  rw [List.range_succ, List.filterMap_append]
  cases h : o n <;> simp [h]
theorem outs_len (n : Nat) (o : Nat → Option V) : (outs n o).length ≤ n := by
  unfold outs
  exact Nat.le_trans (List.length_filterMap_le _ _) (by simp)
theorem range_get {α : Type} (l : List α) : (List.range l.length).filterMap (fun i => l[i]?) = l := by
  induction l with
  | nil => rfl
  | cons a r ih =>
    rw [List.length_cons, List.range_succ_eq_map, List.filterMap_cons]
    simp only [List.getElem?_cons_zero, List.filterMap_map]
    congr 1
theorem outs_list {α : Type} (l : List α) (f : α → Option V) : outs l.length (fun i => (l[i]?).bind f) = l.filterMap f := by
  unfold outs
  rw [← List.filterMap_filterMap, range_get]
theorem outs_arr {α : Type} (l : Array α) (f : α → Option V) : outs l.size (fun i => (l[i]?).bind f) = l.toList.filterMap f := by
  rw [← outs_list]
  simp
section
variable {g : TG} {tt : TT} {te : TE} {vs : List Nat} {σ : L2.St} {H1 : Hp} {D : Addr} {Qd : Hp → Prop}
theorem lc_str {x : Str} (Pv : Nat → Hp → Prop) (h0 : Pv 0 (upd H1 D (.lst [])))
    (hs : ∀ i c H, x.cps[i]? = some c → Pv i H → g (.str ⟨#[c]⟩) (wipe σ vs) H fun σ2 H2 => wipe σ2 vs = wipe σ vs ∧ tt σ2 H2 fun b H3 =>
      if b = true then te σ2 H3 fun y H4 => ∃ acc, H4 D = some (.lst acc) ∧ acc.length < sizeLine ∧ Pv (i + 1) (upd H4 D (.lst (acc ++ [y]))) else Pv (i + 1) H3) (hd : ∀ H, Pv x.cps.size H → Qd H) :
    ∃ W : Nat → Nat → Hp → Prop, (∃ m, W 0 m (upd H1 D (.lst []))) ∧ ∀ i m H, W i m H →
      ((Its x).stop i H ∧ Qd H) ∨ ((Its x).go i H ∧ ∃ Nx : Hp → Prop, (∀ H', Nx H' → ∃ m', m' < m ∧ W (i + 1) m' H') ∧ ∀ y H', (Its x).yld i H y H' → g y (wipe σ vs) H' fun σ2 H2 => wipe σ2 vs = wipe σ vs ∧ tt σ2 H2 fun b H3 =>
        if b = true then te σ2 H3 fun y H4 => ∃ acc, H4 D = some (.lst acc) ∧ acc.length < sizeLine ∧ Nx (upd H4 D (.lst (acc ++ [y]))) else Nx H3) := by
  refine ⟨fun i m H => m = x.cps.size - i ∧ i ≤ x.cps.size ∧ Pv i H, ⟨x.cps.size, by simp, Nat.zero_le _, h0⟩, ?_⟩
  rintro i m H ⟨rfl, hi, p⟩
  by_cases hlt : i < x.cps.size
  · refine .inr ⟨hlt, Pv (i + 1), fun H' p' => ⟨x.cps.size - (i + 1), by omega, rfl, hlt, p'⟩, fun y H' z => ?_⟩
    obtain ⟨e, c, hc, rfl⟩ := z
    subst e
    exact hs i c _ hc p
  · have e : i = x.cps.size := by omega
    subst e
    exact .inl ⟨Nat.le_refl _, hd _ p⟩
/-- the invariant of a comprehension that only adds -/
def Adds (H1 : Hp) (D : Addr) (o : Nat → Option V) (i : Nat) (H : Hp) : Prop := Same H1 H ∧ H D = some (.lst (outs i o))
theorem adds0 {o : Nat → Option V} (hD : H1 D = none) : Adds H1 D o 0 (upd H1 D (.lst [])) := ⟨same_upd hD, upd_same⟩
theorem adds_some {o : Nat → Option V} {i : Nat} {H H4 : Hp} {y : V} (hD : H1 D = none) (a : Adds H1 D o i H) (hi : i < 100000) (e : Same H H4) (ho : o i = some y) :
    ∃ acc, H4 D = some (.lst acc) ∧ acc.length < sizeLine ∧ Adds H1 D o (i + 1) (upd H4 D (.lst (acc ++ [y]))) := by
  refine ⟨outs i o, e _ _ a.2, Nat.lt_of_le_of_lt (outs_len i o) (Nat.lt_of_lt_of_le hi (by decide)), Kx.Same.mut (a.1.trans e) hD, ?_⟩
  rw [upd_same, outs_succ, ho]
  rfl
theorem adds_none {o : Nat → Option V} {i : Nat} {H H4 : Hp} (a : Adds H1 D o i H) (e : Same H H4) (ho : o i = none) : Adds H1 D o (i + 1) H4 := by
  refine ⟨a.1.trans e, ?_⟩
  rw [e _ _ a.2, outs_succ, ho]
  simp
end
/-! ### the rules with the written part by its own name -/
section
variable {X : Cx} {K : PySem.W.Frag}
theorem ix_listK (e : X.K = K := by rfl) : IxR X (rIxL K) := by subst e; exact ix_list
theorem ix_tupK (e : X.K = K := by rfl) : IxR X (rIxT K) := by subst e; exact ix_tup
theorem sl_listK (e : X.K = K := by rfl) : SlR X (rSlL K) := by subst e; exact sl_list
theorem sl_tupK (e : X.K = K := by rfl) : SlR X (rSlT K) := by subst e; exact sl_tup
def rLenK (K : PySem.W.Frag) : List V → Hp → VK → Prop := fun xs H Q => ∃ x n, xs = [x] ∧ LenV K x H n ∧ Q (.int (n : Nat)) H
theorem call_lenK (e : X.K = K := by rfl) : CallR X (.builtin "len") (rLenK K) := by subst e; exact call_len
theorem cr_allK (hc : X.calm = true) (e : X.K = K := by rfl) : CallR X (.builtin "all") (rAll K) := by subst e; exact cr_all hc
theorem cr_anyK (hc : X.calm = true) (e : X.K = K := by rfl) : CallR X (.builtin "any") (rAny K) := by subst e; exact cr_any hc
theorem call_isiK1 (e : X.K = K := by rfl) : CallR X (.builtin "isinstance") (rIsi K) := by subst e; exact call_isi
theorem call_isiTK (e : X.K = K := by rfl) : CallR X (.builtin "isinstance") (rIsiT K) := by subst e; exact call_isiT
theorem op_eqDK (hu : X.A.units + 64 < cLine) (e : X.K = K := by rfl) : OpR X (compareOp .Eq) (rEqD K) := by subst e; exact op_eqD hu
theorem op_neDK (hu : X.A.units + 64 < cLine) (e : X.K = K := by rfl) : OpR X (compareOp .NotEq) (rNeD K) := by subst e; exact op_neD hu
theorem op_in_seqK (e : X.K = K := by rfl) : OpR X (compareOp .In) (rIn K false) := by subst e; exact op_in_seq
theorem op_notIn_seqK (e : X.K = K := by rfl) : OpR X (compareOp .NotIn) (rIn K true) := by subst e; exact op_notIn_seq
theorem op_in_anyK (hu : X.A.units + 1 < cLine) (e : X.K = K := by rfl) : OpR X (compareOp .In) (rInAny K) := by subst e; exact op_in_any hu
def rListK (K : PySem.W.Frag) : List V → Hp → VK → Prop := fun xs H Q => ∃ p ys, xs = [.ref p] ∧ (SqL K H p ys ∨ SqT K H p ys) ∧ ∀ l, H l = none → Q (.ref l) (upd H l (.lst ys))
theorem call_list_ofK (e : X.K = K := by rfl) : CallR X (.type "list") (rListK K) := by subst e; exact call_list_of
def rTupleK (K : PySem.W.Frag) : List V → Hp → VK → Prop := fun xs H Q => ∃ p ys, xs = [.ref p] ∧ ((SqL K H p ys ∧ ∀ l, H l = none → Q (.ref l) (upd H l (.tup ys))) ∨ (SqT K H p ys ∧ Q (.ref p) H))
theorem call_tuple_ofK (e : X.K = K := by rfl) : CallR X (.type "tuple") (rTupleK K) := by subst e; exact call_tuple_of
theorem pi_listK {tg l : Expr} {tl : TE} (hl : PE X l tl) (e : X.K = K := by rfl) : PI X tg l (iList K tl) := by subst e; exact pi_list hl
theorem pi_tupK {tg l : Expr} {tl : TE} (hl : PE X l tl) (e : X.K = K := by rfl) : PI X tg l (iTup K tl) := by subst e; exact pi_tup hl
def rJoinK (K : PySem.W.Frag) : V → List V → Hp → VK → Prop := fun x xs H Q => ∃ a p, ∃ ys : List Str, x = .str a ∧ xs = [.ref p] ∧ (SqL K H p (ys.map V.str) ∨ SqT K H p (ys.map V.str)) ∧
    (ys.map (·.length)).sum + ys.length * a.length ≤ 16777216 ∧ Q (.str (Txt.join a ys)) H
theorem mt_joinK (e : X.K = K := by rfl) : MtR X "str.join" (rJoinK K) := by subst e; exact mt_join
theorem pe_joinK {o e1 : Expr} {to te : TE} {apos pos : Pos} (ho : PE X o to) (he : PE X e1 te) (e : X.K = K := by rfl) (hs : starEach [e1] X.env = [(false, eval e1 X.env)] := by rfl) (hbase : attributeBase o "join" X.env (eval o X.env) = eval o X.env := by rfl) (hline : (apos.endLine == pos.line) = true := by rfl) :
    PE X (.Call (.Attribute o "join" apos) [e1] [] pos) (tM1 (rJoinK K) to te) := pe_m1 F.slot_str_join F.type_str_join (mt_joinK e) ho he hs hbase hline
end
end Kx

set_option Elab.async false
set_option linter.all false
set_option maxRecDepth 100000
set_option maxHeartbeats 4000000
namespace Kx
open PySem PySem.Spec PyProof.Rows L2
def topS (i : Nat) : Stmt := PySem.Challenge.pw_closedground_k01_people_rights_and_ids.main.body.getD i (.Pass ⟨0, 0, 0, 0⟩)
abbrev s_is_integer : Stmt := topS 5
abbrev n_is_integer : List Str := ["value"]
theorem sc_is_integer : FnScope n_is_integer ["value"] (defScope s_is_integer) := ⟨rfl, rfl, rfl, by decide +kernel, rfl, by decide +kernel, by decide +kernel⟩
abbrev s_is_count : Stmt := topS 6
abbrev n_is_count : List Str := ["value"]
theorem sc_is_count : FnScope n_is_count ["value"] (defScope s_is_count) := ⟨rfl, rfl, rfl, by decide +kernel, rfl, by decide +kernel, by decide +kernel⟩
abbrev s_is_name : Stmt := topS 7
abbrev n_is_name : List Str := ["value", "char"]
theorem sc_is_name : FnScope n_is_name ["value"] (defScope s_is_name) := ⟨rfl, rfl, rfl, by decide +kernel, rfl, by decide +kernel, by decide +kernel⟩
abbrev s_is_person : Stmt := topS 8
abbrev n_is_person : List Str := ["value", "names", "name"]
theorem sc_is_person : FnScope n_is_person ["value"] (defScope s_is_person) := ⟨rfl, rfl, rfl, by decide +kernel, rfl, by decide +kernel, by decide +kernel⟩
abbrev s_is_right : Stmt := topS 9
abbrev n_is_right : List Str := ["value"]
theorem sc_is_right : FnScope n_is_right ["value"] (defScope s_is_right) := ⟨rfl, rfl, rfl, by decide +kernel, rfl, by decide +kernel, by decide +kernel⟩
abbrev s_is_id : Stmt := topS 10
abbrev n_is_id : List Str := ["value"]
theorem sc_is_id : FnScope n_is_id ["value"] (defScope s_is_id) := ⟨rfl, rfl, rfl, by decide +kernel, rfl, by decide +kernel, by decide +kernel⟩
abbrev s_above : Stmt := topS 11
abbrev n_above : List Str := ["person", "names", "count"]
theorem sc_above : FnScope n_above ["person"] (defScope s_above) := ⟨rfl, rfl, rfl, by decide +kernel, rfl, by decide +kernel, by decide +kernel⟩
abbrev s__law_cell : Stmt := topS 13
abbrev n__law_cell : List Str := ["_law_script", "_law_k"]
theorem sc__law_cell : FnScope n__law_cell ["_law_script", "_law_k"] (defScope s__law_cell) := ⟨rfl, rfl, rfl, by decide +kernel, rfl, by decide +kernel, by decide +kernel⟩
abbrev s__law_box : Stmt := topS 14
abbrev n__law_box : List Str := ["_law_great"]
theorem sc__law_box : FnScope n__law_box ["_law_great"] (defScope s__law_box) := ⟨rfl, rfl, rfl, by decide +kernel, rfl, by decide +kernel, by decide +kernel⟩
abbrev s__law_take : Stmt := topS 15
abbrev n__law_take : List Str := ["_law_box_here", "_law_many", "_law_digit", "_law_mixed"]
theorem sc__law_take : FnScope n__law_take ["_law_box_here", "_law_many"] (defScope s__law_take) := ⟨rfl, rfl, rfl, by decide +kernel, rfl, by decide +kernel, by decide +kernel⟩
abbrev s__law_word : Stmt := topS 16
abbrev n__law_word : List Str := ["_law_box_here", "_law_signs", "_law_many", "_law_k"]
theorem sc__law_word : FnScope n__law_word ["_law_box_here"] (defScope s__law_word) := ⟨rfl, rfl, rfl, by decide +kernel, rfl, by decide +kernel, by decide +kernel⟩
abbrev s__law_is_name : Stmt := topS 17
abbrev n__law_is_name : List Str := ["_law_thing", "_law_sign"]
theorem sc__law_is_name : FnScope n__law_is_name ["_law_thing"] (defScope s__law_is_name) := ⟨rfl, rfl, rfl, by decide +kernel, rfl, by decide +kernel, by decide +kernel⟩
abbrev s__law_is_person : Stmt := topS 18
abbrev n__law_is_person : List Str := ["_law_thing", "_law_names", "_law_name"]
theorem sc__law_is_person : FnScope n__law_is_person ["_law_thing"] (defScope s__law_is_person) := ⟨rfl, rfl, rfl, by decide +kernel, rfl, by decide +kernel, by decide +kernel⟩
abbrev s__law_is_number : Stmt := topS 19
abbrev n__law_is_number : List Str := ["_law_thing"]
theorem sc__law_is_number : FnScope n__law_is_number ["_law_thing"] (defScope s__law_is_number) := ⟨rfl, rfl, rfl, by decide +kernel, rfl, by decide +kernel, by decide +kernel⟩
abbrev s__law_is_id : Stmt := topS 20
abbrev n__law_is_id : List Str := ["_law_thing"]
theorem sc__law_is_id : FnScope n__law_is_id ["_law_thing"] (defScope s__law_is_id) := ⟨rfl, rfl, rfl, by decide +kernel, rfl, by decide +kernel, by decide +kernel⟩
abbrev s__law_is_right : Stmt := topS 21
abbrev n__law_is_right : List Str := ["_law_thing"]
theorem sc__law_is_right : FnScope n__law_is_right ["_law_thing"] (defScope s__law_is_right) := ⟨rfl, rfl, rfl, by decide +kernel, rfl, by decide +kernel, by decide +kernel⟩
abbrev s__law_person : Stmt := topS 22
abbrev n__law_person : List Str := ["_law_box_here", "_law_many", "_law_k"]
theorem sc__law_person : FnScope n__law_person ["_law_box_here"] (defScope s__law_person) := ⟨rfl, rfl, rfl, by decide +kernel, rfl, by decide +kernel, by decide +kernel⟩
abbrev s__law_value : Stmt := topS 23
abbrev n__law_value : List Str := ["_law_box_here", "_law_way", "_law_number", "_law_word_here", "_law_odd"]
theorem sc__law_value : FnScope n__law_value ["_law_box_here"] (defScope s__law_value) := ⟨rfl, rfl, rfl, by decide +kernel, rfl, by decide +kernel, by decide +kernel⟩
abbrev s__law_right : Stmt := topS 24
abbrev n__law_right : List Str := ["_law_thing", "_law_names", "_law_found", "_law_due", "_law_kept", "_law_k"]
theorem sc__law_right : FnScope n__law_right ["_law_thing"] (defScope s__law_right) := ⟨rfl, rfl, rfl, by decide +kernel, rfl, by decide +kernel, by decide +kernel⟩
abbrev s_law : Stmt := topS 25
abbrev n_law : List Str := ["_law_script", "_law_thing", "_law_k", "_law_box_here", "_law_turn"]
theorem sc_law : FnScope n_law ["_law_script"] (defScope s_law) := ⟨rfl, rfl, rfl, by decide +kernel, rfl, by decide +kernel, by decide +kernel⟩
structure Top (K : PySem.W.Frag) (mg : Str → Option Value) where
  m_isinstance : mg "isinstance" = none
  m_int : mg "int" = none
  m_bool : mg "bool" = none
  m_all : mg "all" = none
  m_str : mg "str" = none
  m_len : mg "len" = none
  m_tuple : mg "tuple" = none
  m_range : mg "range" = none
  m_abs : mg "abs" = none
  m_list : mg "list" = none
  m_max : mg "max" = none
  m_min : mg "min" = none
  t_LETTERS : Tok
  c_LETTERS : mg "LETTERS" = some (.str "abcdefghijklmnopqrstuvwxyz" t_LETTERS)
  a_WORDS : Addr
  c_WORDS : mg "WORDS" = some (.ref a_WORDS)
  q_WORDS : ∀ H, SqT K H a_WORDS [(.str "write"), (.str "mend"), (.str "lead")]
  t_MOST_LETTERS : Tok
  c_MOST_LETTERS : mg "MOST_LETTERS" = some (.int 8 t_MOST_LETTERS)
  t_MOST_NAMES : Tok
  c_MOST_NAMES : mg "MOST_NAMES" = some (.int 5 t_MOST_NAMES)
  a_is_integer : Addr
  d_is_integer : FuncData
  F_is_integer : Fun K "is_integer" "is_integer" s_is_integer a_is_integer d_is_integer
  b_is_integer : Binds K d_is_integer ["value"] []
  g_is_integer : mg "is_integer" = some (.ref a_is_integer)
  a_is_count : Addr
  d_is_count : FuncData
  F_is_count : Fun K "is_count" "is_count" s_is_count a_is_count d_is_count
  b_is_count : Binds K d_is_count ["value"] []
  g_is_count : mg "is_count" = some (.ref a_is_count)
  a_is_name : Addr
  d_is_name : FuncData
  F_is_name : Fun K "is_name" "is_name" s_is_name a_is_name d_is_name
  b_is_name : Binds K d_is_name ["value"] []
  g_is_name : mg "is_name" = some (.ref a_is_name)
  a_is_person : Addr
  d_is_person : FuncData
  F_is_person : Fun K "is_person" "is_person" s_is_person a_is_person d_is_person
  b_is_person : Binds K d_is_person ["value"] []
  g_is_person : mg "is_person" = some (.ref a_is_person)
  a_is_right : Addr
  d_is_right : FuncData
  F_is_right : Fun K "is_right" "is_right" s_is_right a_is_right d_is_right
  b_is_right : Binds K d_is_right ["value"] []
  g_is_right : mg "is_right" = some (.ref a_is_right)
  a_is_id : Addr
  d_is_id : FuncData
  F_is_id : Fun K "is_id" "is_id" s_is_id a_is_id d_is_id
  b_is_id : Binds K d_is_id ["value"] []
  g_is_id : mg "is_id" = some (.ref a_is_id)
  kb_is_id : KBn K d_is_id ["value"] 0 ["value"] (fun _ ws => ws) (fun _ zs => zs)
  a_above : Addr
  d_above : FuncData
  F_above : Fun K "above" "above" s_above a_above d_above
  b_above : Binds K d_above ["person"] []
  g_above : mg "above" = some (.ref a_above)
  kb_above : KBn K d_above ["person"] 0 ["person"] (fun _ ws => ws) (fun _ zs => zs)
  a__law_cell : Addr
  d__law_cell : FuncData
  F__law_cell : Fun K "_law_cell" "_law_cell" s__law_cell a__law_cell d__law_cell
  b__law_cell : Binds K d__law_cell ["_law_script", "_law_k"] []
  g__law_cell : mg "_law_cell" = some (.ref a__law_cell)
  a__law_box : Addr
  d__law_box : FuncData
  F__law_box : Fun K "_law_box" "_law_box" s__law_box a__law_box d__law_box
  b__law_box : Binds K d__law_box ["_law_great"] []
  g__law_box : mg "_law_box" = some (.ref a__law_box)
  a__law_take : Addr
  d__law_take : FuncData
  F__law_take : Fun K "_law_take" "_law_take" s__law_take a__law_take d__law_take
  b__law_take : Binds K d__law_take ["_law_box_here", "_law_many"] []
  g__law_take : mg "_law_take" = some (.ref a__law_take)
  a__law_word : Addr
  d__law_word : FuncData
  F__law_word : Fun K "_law_word" "_law_word" s__law_word a__law_word d__law_word
  b__law_word : Binds K d__law_word ["_law_box_here"] []
  g__law_word : mg "_law_word" = some (.ref a__law_word)
  a__law_is_name : Addr
  d__law_is_name : FuncData
  F__law_is_name : Fun K "_law_is_name" "_law_is_name" s__law_is_name a__law_is_name d__law_is_name
  b__law_is_name : Binds K d__law_is_name ["_law_thing"] []
  g__law_is_name : mg "_law_is_name" = some (.ref a__law_is_name)
  a__law_is_person : Addr
  d__law_is_person : FuncData
  F__law_is_person : Fun K "_law_is_person" "_law_is_person" s__law_is_person a__law_is_person d__law_is_person
  b__law_is_person : Binds K d__law_is_person ["_law_thing"] []
  g__law_is_person : mg "_law_is_person" = some (.ref a__law_is_person)
  a__law_is_number : Addr
  d__law_is_number : FuncData
  F__law_is_number : Fun K "_law_is_number" "_law_is_number" s__law_is_number a__law_is_number d__law_is_number
  b__law_is_number : Binds K d__law_is_number ["_law_thing"] []
  g__law_is_number : mg "_law_is_number" = some (.ref a__law_is_number)
  a__law_is_id : Addr
  d__law_is_id : FuncData
  F__law_is_id : Fun K "_law_is_id" "_law_is_id" s__law_is_id a__law_is_id d__law_is_id
  b__law_is_id : Binds K d__law_is_id ["_law_thing"] []
  g__law_is_id : mg "_law_is_id" = some (.ref a__law_is_id)
  a__law_is_right : Addr
  d__law_is_right : FuncData
  F__law_is_right : Fun K "_law_is_right" "_law_is_right" s__law_is_right a__law_is_right d__law_is_right
  b__law_is_right : Binds K d__law_is_right ["_law_thing"] []
  g__law_is_right : mg "_law_is_right" = some (.ref a__law_is_right)
  a__law_person : Addr
  d__law_person : FuncData
  F__law_person : Fun K "_law_person" "_law_person" s__law_person a__law_person d__law_person
  b__law_person : Binds K d__law_person ["_law_box_here"] []
  g__law_person : mg "_law_person" = some (.ref a__law_person)
  a__law_value : Addr
  d__law_value : FuncData
  F__law_value : Fun K "_law_value" "_law_value" s__law_value a__law_value d__law_value
  b__law_value : Binds K d__law_value ["_law_box_here"] []
  g__law_value : mg "_law_value" = some (.ref a__law_value)
  a__law_right : Addr
  d__law_right : FuncData
  F__law_right : Fun K "_law_right" "_law_right" s__law_right a__law_right d__law_right
  b__law_right : Binds K d__law_right ["_law_thing"] []
  g__law_right : mg "_law_right" = some (.ref a__law_right)
  a_law : Addr
  d_law : FuncData
  F_law : Fun K "law" "law" s_law a_law d_law
  b_law : Binds K d_law ["_law_script"] []
  g_law : mg "law" = some (.ref a_law)
end Kx

set_option Elab.async false
set_option linter.all false
set_option maxRecDepth 100000
set_option maxHeartbeats 4000000
namespace Kx
open PySem PySem.Spec PyProof.Rows L2
inductive OkD : PyData → Prop
  | non : OkD .none
  | bl (b : Bool) : OkD (.bool b)
  | int (i : Int) : OkD (.int i)
  | str (x : Str) (h : x.length ≤ 1000) (o : PyData.strOk x = true) : OkD (.str x)
  | lst (ds : List PyData) (h : ∀ d ∈ ds, OkD d) : OkD (.list ds)
  | tup (ds : List PyData) (h : ∀ d ∈ ds, OkD d) : OkD (.tuple ds)
  | dct (es : List (PyData × PyData)) : OkD (.dict es)
/-- a pure question of one value -/
def spP (f : PyData → Bool) : Sp := fun vs H Q _ => ∃ v d, vs = [v] ∧ Rp H v d ∧ OkD d ∧ ∀ H', Same H H' → Q (.bl (f d)) H'
theorem spP_len {f : PyData → Bool} (vs : List V) (H : Hp) (Q : VK) (E : XK) (h : spP f vs H Q E) : vs.length = 1 := by
  obtain ⟨v, d, rfl, _⟩ := h
  rfl
def intD : PyData → Bool
  | .int _ => true
  | _ => false
def cntD : PyData → Bool
  | .int i => decide (0 ≤ i)
  | _ => false
def letters : Str := "abcdefghijklmnopqrstuvwxyz"
def isLet (c : Nat) : Bool := decide (c ∈ letters.cps.toList)
def nameS (x : Str) : Bool := decide ((1 : Int) ≤ x.length) && decide ((x.length : Int) ≤ 8) && x.cps.toList.all isLet
def nameD : PyData → Bool
  | .str x => nameS x
  | _ => false
theorem sz1000 {n : Nat} (h : n ≤ 1000) : n ≤ sizeLine := Nat.le_trans h (by decide)
theorem any_filter (p : Nat → Bool) (l : List Nat) : PyData.eqv (.list ((l.filter fun c => !p c).map fun c => .str ⟨#[c]⟩)) (.list []) = l.all p := by
  induction l with
  | nil => rfl
  | cons a r ih =>
    rw [List.filter_cons, List.all_cons]
    cases h : p a
    · simp [PyData.eqv, PyData.eqvAll]
    · simpa using ih
theorem lay_strs : ∀ l : List Str, (∀ x ∈ l, PyData.strOk x = true) → PyData.canLayAll0 (l.map PyData.str) = true
  | [], _ => by simp [PyData.canLayAll0]
  | a :: r, h => by simp [PyData.canLayAll0, PyData.canLay0, lay_strs r (fun x hx => h x (List.mem_cons_of_mem _ hx)), h a (List.mem_cons_self ..)]
theorem depth_strs : ∀ l : List Str, PyData.depthAll (l.map PyData.str) ≤ 1
  | [] => by simp [PyData.depthAll]
  | a :: r => by
    have := depth_strs r
    simp [PyData.depthAll, PyData.depth]
    omega
theorem shaped_strs (l : List Str) (h : ∀ x ∈ l, PyData.strOk x = true) : SeqAt.shaped (.list (l.map PyData.str)) = true := by
  have h1 := lay_strs l h
  have h2 := depth_strs l
  unfold SeqAt.shaped
  rw [PyData.canLay0, h1, PyData.depth]
  simp
  omega
theorem eq_strs {K : PySem.W.Frag} {H : Hp} {a : Addr} (l : List Str) (ho : ∀ x ∈ l, PyData.strOk x = true) (h : H a = some (.lst (l.map V.str))) : Dp K H (.ref a) (.list (l.map PyData.str)) :=
  (Rp.lst h (RpL.strs l)).dp (by rw [PyData.canLay0]; exact lay_strs l ho)
section
variable {P : Program} {w : World} {K : PySem.W.Frag} {mg : Str → Option Value} {base : Heap}
theorem ok_is_integer (T : Top K mg) : FnOk P w K mg base CX0 1 T.a_is_integer T.d_is_integer ["value"] (spP intD) := by
  refine T.F_is_integer.ok sc_is_integer spP_len (fun cdv A outer s H vs Q E hr h => ?_)
  obtain ⟨v, d, rfl, hv, hd, q⟩ := h
  refine ⟨_, (pss_one (ps_ret (pe_and (pe_callB (call_isiK1 (K := K)) (by rfl) T.m_isinstance (by decide +kernel) (pa_cons (pv 0) (pa_cons (pe_bltn (v := .ty "int") (by rfl) T.m_int (by decide +kernel) rfl) pa_nil))) (pe_one (pe_not (pe_callB (call_isiK1 (K := K)) (by rfl) T.m_isinstance (by decide +kernel) (pa_cons (pv 0) (pa_cons (pe_bltn (v := .ty "bool") (by rfl) T.m_bool (by decide +kernel) rfl) pa_nil)))))))), ?_⟩
  refine ⟨v, rfl, v, .ty "int", _, _, _, rfl, .ty _, hv.ty, kit_int d, _, rfl, ?_⟩
  have ht := hv.ty (K := K)
  cases d <;> first | exact iteF (q _ (Same.refl _)) | exact iteT ⟨v, rfl, v, .ty "bool", _, _, _, rfl, .ty _, ht, kit_bool _, _, rfl, q _ (Same.refl _)⟩
theorem ok_is_count (T : Top K mg) : FnOk P w K mg base CX0 2 T.a_is_count T.d_is_count ["value"] (spP cntD) := by
  refine T.F_is_count.ok sc_is_count spP_len (fun cdv A outer s H vs Q E hr h => ?_)
  obtain ⟨v, d, rfl, hv, hd, q⟩ := h
  refine ⟨_, (pss_one (ps_ret (pe_and (pe_call (ok_is_integer T) (hr.mono (by decide)) (by rfl) T.g_is_integer T.F_is_integer.kp T.b_is_integer .nil pass0 (pa_cons (pv 0) pa_nil)) (pe_one (pe_cmpR op_ge (pv 0) pe_int (nomark _)))))), ?_⟩
  refine ⟨v, rfl, v, d, rfl, hv, hd, fun H1 s1 => ⟨_, rfl, ?_⟩⟩
  cases hv <;> first | exact iteF (q _ s1) | exact iteT ⟨_, rfl, _, _, rfl, rfl, q _ s1⟩
theorem ok__law_is_number (T : Top K mg) : FnOk P w K mg base CX0 1 T.a__law_is_number T.d__law_is_number ["_law_thing"] (spP cntD) := by
  refine T.F__law_is_number.ok sc__law_is_number spP_len (fun cdv A outer s H vs Q E hr h => ?_)
  obtain ⟨v, d, rfl, hv, hd, q⟩ := h
  refine ⟨_, (pss_one (ps_ret (pe_and (pe_callB (call_isiK1 (K := K)) (by rfl) T.m_isinstance (by decide +kernel) (pa_cons (pv 0) (pa_cons (pe_bltn (v := .ty "int") (by rfl) T.m_int (by decide +kernel) rfl) pa_nil))) (pe_and (pe_not (pe_callB (call_isiK1 (K := K)) (by rfl) T.m_isinstance (by decide +kernel) (pa_cons (pv 0) (pa_cons (pe_bltn (v := .ty "bool") (by rfl) T.m_bool (by decide +kernel) rfl) pa_nil)))) (pe_one (pe_cmpR op_ge (pv 0) pe_int (nomark _))))))), ?_⟩
  refine ⟨v, rfl, v, .ty "int", _, _, _, rfl, .ty _, hv.ty, kit_int d, _, rfl, ?_⟩
  have ht := hv.ty (K := K)
  cases hv <;> first | exact iteF (q _ (Same.refl _)) | (refine iteT ⟨_, rfl, _, .ty "bool", _, _, _, rfl, .ty _, ht, kit_bool _, _, rfl, _, rfl, ?_⟩; first | exact iteF (q _ (Same.refl _)) | exact iteT ⟨_, rfl, _, _, rfl, rfl, q _ (Same.refl _)⟩)
theorem ok_is_name (T : Top K mg) : FnOk P w K mg base CX0 1 T.a_is_name T.d_is_name ["value"] (spP nameD) := by
  refine T.F_is_name.ok sc_is_name spP_len (fun cdv A outer s H vs Q E hr h => ?_)
  obtain ⟨v, d, rfl, hv, hd, q⟩ := h
  refine ⟨_, (pss_cons (ps_if (PW.pt (pw_or (pt_not (pt_val (pe_callB (call_isiK1 (K := K)) (by rfl) T.m_isinstance (by decide +kernel) (pa_cons (pv 0) (pa_cons (pe_bltn (v := .ty "str") (by rfl) T.m_str (by decide +kernel) rfl) pa_nil))))) (pw_or1 (pt_not (pt_chain op_le op_le pe_int (pe_callB (call_lenK (K := K)) (by rfl) T.m_len (by decide +kernel) (pa_cons (pv 0) pa_nil)) (pe_glob (v := (.int 8)) (by rfl) T.c_MOST_LETTERS ⟨_, rfl⟩)))))) (pss_one (ps_ret pe_bl)) pss_nil)
      (pss_one (ps_ret (pe_callB (cr_allK (K := K) rfl) (by rfl) T.m_all (by decide +kernel) (pa_cons (pe_lc (own := [("char", 1)]) (g := gName 1) rfl sc_is_name.nd (pi_str (pv 0)) (blkOk_by (own := [("char", 1)]) (N := n_is_name) (sc := defScope s_is_name) (by decide +kernel)) (fun _ _ _ _ _ => pg_name (i := 1) sc_is_name.nd rfl (Or.inl rfl)) (fun _ _ _ _ _ => pts_nil) (fun _ _ _ _ _ => (pe_cmpR op_in_sign (pv 1) (pe_glob (v := (.str "abcdefghijklmnopqrstuvwxyz")) (by rfl) T.c_LETTERS ⟨_, rfl⟩) (by rfl)))) pa_nil))))), ?_⟩
  refine ⟨v, rfl, v, .ty "str", _, _, _, rfl, .ty _, hv.ty, kit_str d, _, rfl, ?_⟩
  cases hv with
  | str x =>
    cases hd with
    | str _ hx ho =>
    refine iteF ⟨_, rfl, .str x, x.length, rfl, ⟨sz1000 hx, rfl⟩, 1, x.length, rfl, rfl, _, rfl, ?_⟩
    have en : nameD (.str x) = (decide ((1 : Int) ≤ x.length) && decide ((x.length : Int) ≤ 8) && x.cps.toList.all isLet) := rfl
    rw [en] at q
    cases h1 : decide ((1 : Int) ≤ x.length)
    · rw [h1] at q
      exact iteF ⟨_, rfl, iteT (q _ (Same.refl _))⟩
    refine iteT ⟨x.length, 8, rfl, rfl, _, rfl, ?_⟩
    cases h2 : decide ((x.length : Int) ≤ 8)
    · rw [h1, h2] at q
      exact iteT (q _ (Same.refl _))
    rw [h1, h2] at q
    refine iteF ⟨_, rfl, x, rfl, fun D hD => ?_⟩
    refine lc_str (Adds H D fun i => (x.cps[i]?).bind fun c => some (.bl (isLet c))) (adds0 hD) (fun i c H3 hc a => ?_) (fun H3 a => ?_)
    · have hi : i < 100000 := by
        have := (Array.getElem?_eq_some_iff.mp hc).1
        have e : x.length = x.cps.size := rfl
        omega
      exact ⟨rfl, _, rfl, c, letters, rfl, rfl, adds_some hD a hi (Same.refl _) (by rw [hc]; rfl)⟩
    · refine ⟨D, x.cps.toList.map isLet, rfl, .inl (.inl ?_), ?_⟩
      · rw [a.2, outs_arr, List.map_map]
        congr 2
        simp
      · have e : (x.cps.toList.map isLet).all id = x.cps.toList.all isLet := by
          rw [List.all_map]
          rfl
        rw [e]
        exact q _ a.1
  | _ => exact iteT (iteT (q _ (Same.refl _)))
theorem ok__law_is_name (T : Top K mg) : FnOk P w K mg base CX0 1 T.a__law_is_name T.d__law_is_name ["_law_thing"] (spP nameD) := by
  refine T.F__law_is_name.ok sc__law_is_name spP_len (fun cdv A outer s H vs Q E hr h => ?_)
  obtain ⟨v, d, rfl, hv, hd, q⟩ := h
  refine ⟨_, (pss_cons (ps_if (PW.pt (pw_or (pt_not (pt_val (pe_callB (call_isiK1 (K := K)) (by rfl) T.m_isinstance (by decide +kernel) (pa_cons (pv 0) (pa_cons (pe_bltn (v := .ty "str") (by rfl) T.m_str (by decide +kernel) rfl) pa_nil))))) (pw_or (pt_cmpR op_lt (pe_callB (call_lenK (K := K)) (by rfl) T.m_len (by decide +kernel) (pa_cons (pv 0) pa_nil)) pe_int (nomark _)) (pw_or1 (pt_cmpR op_gt (pe_callB (call_lenK (K := K)) (by rfl) T.m_len (by decide +kernel) (pa_cons (pv 0) pa_nil)) pe_int (nomark _)))))) (pss_one (ps_ret pe_bl)) pss_nil)
      (pss_one (ps_ret (pe_cmpR (op_eqDK (K := K) hr.units) (pe_lc (own := [("_law_sign", 1)]) (g := gName 1) rfl sc__law_is_name.nd (pi_str (pv 0)) (blkOk_by (own := [("_law_sign", 1)]) (N := n__law_is_name) (sc := defScope s__law_is_name) (by decide +kernel)) (fun _ _ _ _ _ => pg_name (i := 1) sc__law_is_name.nd rfl (Or.inl rfl)) (fun _ _ _ _ _ => (pts_one (pt_cmpR op_notIn_sign (pv 1) pe_str (by rfl)))) (fun _ _ _ _ _ => (pv 1))) (pe_lst pa_nil) (nomark _))))), ?_⟩
  refine ⟨v, rfl, v, .ty "str", _, _, _, rfl, .ty _, hv.ty, kit_str d, _, rfl, ?_⟩
  cases hv with
  | str x =>
    cases hd with
    | str _ hx ho =>
    refine iteF ⟨_, rfl, .str x, x.length, rfl, ⟨sz1000 hx, rfl⟩, x.length, 1, rfl, rfl, _, rfl, ?_⟩
    have en : nameD (.str x) = (decide ((1 : Int) ≤ x.length) && decide ((x.length : Int) ≤ 8) && x.cps.toList.all isLet) := rfl
    rw [en] at q
    by_cases h1 : (x.length : Int) < 1
    · rw [show decide ((1 : Int) ≤ x.length) = false from decide_eq_false (by omega)] at q
      rw [decide_eq_true h1]
      exact iteT (iteT (q _ (Same.refl _)))
    rw [show decide ((1 : Int) ≤ x.length) = true from decide_eq_true (by omega)] at q
    rw [decide_eq_false h1]
    refine iteF ⟨_, rfl, .str x, x.length, rfl, ⟨sz1000 hx, rfl⟩, x.length, 8, rfl, rfl, _, rfl, ?_⟩
    by_cases h2 : (8 : Int) < x.length
    · rw [show decide ((x.length : Int) ≤ 8) = false from decide_eq_false (by omega)] at q
      rw [decide_eq_true h2]
      exact iteT (q _ (Same.refl _))
    rw [show decide ((x.length : Int) ≤ 8) = true from decide_eq_true (by omega)] at q
    rw [decide_eq_false h2]
    refine iteF ⟨_, rfl, x, rfl, fun D hD => ?_⟩
    refine lc_str (Adds H D fun i => (x.cps[i]?).bind fun c => if isLet c then none else some (.str ⟨#[c]⟩)) (adds0 hD) (fun i c H3 hc a => ?_) (fun H3 a => ?_)
    · have hi : i < 100000 := by
        have := (Array.getElem?_eq_some_iff.mp hc).1
        have e : x.length = x.cps.size := rfl
        omega
      refine ⟨rfl, _, rfl, c, letters, rfl, rfl, _, rfl, ?_⟩
      show if (!isLet c) = true then _ else _
      cases hl : isLet c
      · exact iteT ⟨_, rfl, adds_some hD a hi (Same.refl _) (by rw [hc, Option.bind_some, hl]; rfl)⟩
      · exact iteF (adds_none a (Same.refl _) (by rw [hc, Option.bind_some, hl]; rfl))
    · have e1 : x.cps.toList.filterMap (fun c => if isLet c then none else some (V.str ⟨#[c]⟩)) = ((x.cps.toList.filter fun c => !isLet c).map fun c => (⟨#[c]⟩ : Str)).map V.str := by
        rw [List.map_map]
        induction x.cps.toList with
        | nil => rfl
        | cons c r ih =>
          cases hl : isLet c
          · simp [hl, ih]
          · simp [hl, ih]
      have hk : ∀ z ∈ (x.cps.toList.filter fun c => !isLet c).map fun c => (⟨#[c]⟩ : Str), PyData.strOk z = true := by
        intro z hz
        obtain ⟨c, hc, rfl⟩ := List.mem_map.mp hz
        have hc' := (List.mem_filter.mp hc).1
        have := Array.all_eq_true'.mp ho c (by simpa using hc')
        simpa [PyData.strOk] using this
      have hl := a.2
      rw [outs_arr, e1] at hl
      refine ⟨Nat.zero_le _, fun p hp => ⟨_, _, eq_strs _ hk (same_upd hp _ _ hl), .lst (.inl (.inl upd_same)) .nil, shaped_strs _ hk, rfl, ?_⟩⟩
      rw [List.map_map, show (PyData.str ∘ fun c => (⟨#[c]⟩ : Str)) = fun c => PyData.str ⟨#[c]⟩ from rfl, any_filter]
      exact q _ (a.1.trans (same_upd hp))
  | _ => first | exact iteT (q _ (Same.refl _)) | exact iteT (iteT (q _ (Same.refl _)))
end
/-! ### people -/
theorem sub_len (x : Str) (i j : Nat) : (Builtin.Str.strSub x i j).length ≤ x.length := by
  show (x.cps.extract i j).size ≤ x.cps.size
  rw [Array.size_extract]
  omega
theorem sub_mem (x : Str) (i j : Nat) (c : Nat) (h : c ∈ (Builtin.Str.strSub x i j).cps) : c ∈ x.cps := by
  obtain ⟨k, hk, rfl⟩ := Array.mem_iff_getElem.mp (show c ∈ x.cps.extract i j from h)
  rw [Array.getElem_extract]
  exact Array.getElem_mem _
theorem split_len (x s y : Str) (h : y ∈ Txt.split x s) : y.length ≤ x.length := by
  unfold Txt.split at h
  split at h
  · rw [List.mem_singleton.mp h]; exact Nat.le_refl _
  split at h
  · rw [List.mem_singleton.mp h]; exact Nat.le_refl _
  unfold Builtin.Str.partsBetween at h
  obtain ⟨⟨i, j⟩, _, rfl⟩ := List.mem_map.mp h
  exact sub_len x i j
theorem split_ok (x s y : Str) (hx : PyData.strOk x = true) (h : y ∈ Txt.split x s) : PyData.strOk y = true := by
  unfold Txt.split at h
  split at h
  · rw [List.mem_singleton.mp h]; exact hx
  split at h
  · rw [List.mem_singleton.mp h]; exact hx
  unfold Builtin.Str.partsBetween at h
  obtain ⟨⟨i, j⟩, _, rfl⟩ := List.mem_map.mp h
  refine Array.all_eq_true'.mpr fun c hc => ?_
  exact Array.all_eq_true'.mp hx c (sub_mem x i j c hc)
theorem sz2 {n : Nat} (h : n ≤ 1000) : n + 2 ≤ sizeLine := Nat.le_trans (Nat.add_le_add_right h 2) (by decide)
def splitP (x : Str) : List Str := Txt.split x "."
def personD : PyData → Bool
  | .str x => decide (((splitP x).length : Int) ≤ 5) && (splitP x).all nameS
  | _ => false
theorem split_many (x : Str) (h : x.length ≤ 1000) : (splitP x).length ≤ 1002 := Nat.le_trans (PyProof.Rows.split_le x ".") (by omega)
section
variable {P : Program} {w : World} {K : PySem.W.Frag} {mg : Str → Option Value} {base : Heap}
theorem ok_is_person (T : Top K mg) : FnOk P w K mg base CX0 2 T.a_is_person T.d_is_person ["value"] (spP personD) := by
  refine T.F_is_person.ok sc_is_person spP_len (fun cdv A outer s H vs Q E hr h => ?_)
  obtain ⟨v, d, rfl, hv, hd, q⟩ := h
  refine ⟨_, (pss_cons (ps_if (pt_not (pt_val (pe_callB (call_isiK1 (K := K)) (by rfl) T.m_isinstance (by decide +kernel) (pa_cons (pv 0) (pa_cons (pe_bltn (v := .ty "str") (by rfl) T.m_str (by decide +kernel) rfl) pa_nil))))) (pss_one (ps_ret pe_bl)) pss_nil)
      (pss_cons (ps_set (i := 1) sc_is_person.nd rfl (Or.inl rfl) (pe_split (pv 0) pe_str))
      (pss_one (ps_ret (pe_and (pe_cmpR op_le (pe_callB (call_lenK (K := K)) (by rfl) T.m_len (by decide +kernel) (pa_cons (pv 1) pa_nil)) (pe_glob (v := (.int 5)) (by rfl) T.c_MOST_NAMES ⟨_, rfl⟩) (nomark _)) (pe_one (pe_callB (cr_allK (K := K) rfl) (by rfl) T.m_all (by decide +kernel) (pa_cons (pe_lc (own := [("name", 2)]) (g := gName 2) rfl sc_is_person.nd (pi_listK (K := K) (pv 1)) (blkOk_by (own := [("name", 2)]) (N := n_is_person) (sc := defScope s_is_person) (by decide +kernel)) (fun _ _ _ _ _ => pg_name (i := 2) sc_is_person.nd rfl (Or.inl rfl)) (fun _ _ _ _ _ => pts_nil) (fun _ _ _ _ _ => (pe_call (ok_is_name T) (hr.mono (by decide)) (by rfl) T.g_is_name T.F_is_name.kp T.b_is_name .nil pass0 (pa_cons (pv 2) pa_nil)))) pa_nil)))))))), ?_⟩
  refine ⟨v, rfl, v, .ty "str", _, _, _, rfl, .ty _, hv.ty, kit_str d, _, rfl, ?_⟩
  cases hv with
  | str x =>
    cases hd with
    | str _ hx ho =>
    refine iteF ⟨_, rfl, ⟨x, rfl⟩, x, ".", rfl, rfl, rfl, sz2 hx, fun p hp => ?_⟩
    have s1 : Same H (upd H p (.lst ((splitP x).map V.str))) := same_upd hp
    have hm := split_many x hx
    have en : personD (.str x) = (decide (((splitP x).length : Int) ≤ 5) && (splitP x).all nameS) := rfl
    rw [en] at q
    refine ⟨.ref p, rfl, .ref p, (splitP x).length, rfl, .inl ⟨_, .inl (.inl upd_same), (List.length_map ..).symm⟩, _, 5, rfl, rfl, _, rfl, ?_⟩
    cases h1 : decide (((splitP x).length : Int) ≤ 5)
    · rw [h1] at q
      exact iteF (q _ s1)
    rw [h1] at q
    refine iteT ⟨.ref p, rfl, p, rfl, ⟨_, .inl (.inl upd_same)⟩, fun D hD => ?_⟩
    refine lc_list (K := K) (a := p) (xs := (splitP x).map V.str) (Adds (upd H p (.lst ((splitP x).map V.str))) D fun i => ((splitP x)[i]?).bind fun y => some (.bl (nameS y))) (adds0 hD)
      (fun i H3 _ a => .inl (.inl (a.1 _ _ upd_same))) (fun i y H3 hy a => ?_) (fun H3 a => ?_)
    · rw [List.getElem?_map] at hy
      cases hz : (splitP x)[i]? with
      | none => rw [hz] at hy; cases hy
      | some z =>
      rw [hz] at hy
      cases hy
      have hi : i < 100000 := by
        have := (List.getElem?_eq_some_iff.mp hz).1
        omega
      have hzm : z ∈ splitP x := List.mem_of_getElem? hz
      exact ⟨rfl, _, rfl, .str z, .str z, rfl, .str z, .str z (Nat.le_trans (split_len x _ z hzm) hx) (split_ok x _ z ho hzm), fun H4 s4 => adds_some hD a hi s4 (by rw [hz]; rfl)⟩
    · refine ⟨D, (splitP x).map nameS, rfl, .inl (.inl ?_), ?_⟩
      · have h2 := a.2
        rw [List.length_map, outs_list] at h2
        rw [h2, List.map_map]
        congr 2
        simp
      · have e : ((splitP x).map nameS).all id = (splitP x).all nameS := by
          rw [List.all_map]
          rfl
        rw [e]
        exact q _ (s1.trans a.1)
  | _ => exact iteT (q _ (Same.refl _))
theorem ok__law_is_person (T : Top K mg) : FnOk P w K mg base CX0 2 T.a__law_is_person T.d__law_is_person ["_law_thing"] (spP personD) := by
  refine T.F__law_is_person.ok sc__law_is_person spP_len (fun cdv A outer s H vs Q E hr h => ?_)
  obtain ⟨v, d, rfl, hv, hd, q⟩ := h
  refine ⟨_, (pss_cons (ps_if (pt_not (pt_val (pe_callB (call_isiK1 (K := K)) (by rfl) T.m_isinstance (by decide +kernel) (pa_cons (pv 0) (pa_cons (pe_bltn (v := .ty "str") (by rfl) T.m_str (by decide +kernel) rfl) pa_nil))))) (pss_one (ps_ret pe_bl)) pss_nil)
      (pss_cons (ps_set (i := 1) sc__law_is_person.nd rfl (Or.inl rfl) (pe_split (pv 0) pe_str))
      (pss_one (ps_ret (pe_and (pe_cmpR op_lt (pe_callB (call_lenK (K := K)) (by rfl) T.m_len (by decide +kernel) (pa_cons (pv 1) pa_nil)) pe_int (nomark _)) (pe_one (pe_cmpR (op_eqDK (K := K) hr.units) (pe_lc (own := [("_law_name", 2)]) (g := gName 2) rfl sc__law_is_person.nd (pi_listK (K := K) (pv 1)) (blkOk_by (own := [("_law_name", 2)]) (N := n__law_is_person) (sc := defScope s__law_is_person) (by decide +kernel)) (fun _ _ _ _ _ => pg_name (i := 2) sc__law_is_person.nd rfl (Or.inl rfl)) (fun _ _ _ _ _ => (pts_one (pt_not (pt_val (pe_call (ok__law_is_name T) (hr.mono (by decide)) (by rfl) T.g__law_is_name T.F__law_is_name.kp T.b__law_is_name .nil pass0 (pa_cons (pv 2) pa_nil)))))) (fun _ _ _ _ _ => (pv 2))) (pe_lst pa_nil) (nomark _)))))))), ?_⟩
  refine ⟨v, rfl, v, .ty "str", _, _, _, rfl, .ty _, hv.ty, kit_str d, _, rfl, ?_⟩
  cases hv with
  | str x =>
    cases hd with
    | str _ hx ho =>
    refine iteF ⟨_, rfl, ⟨x, rfl⟩, x, ".", rfl, rfl, rfl, sz2 hx, fun p hp => ?_⟩
    have s1 : Same H (upd H p (.lst ((splitP x).map V.str))) := same_upd hp
    have hm := split_many x hx
    have en : personD (.str x) = (decide (((splitP x).length : Int) ≤ 5) && (splitP x).all nameS) := rfl
    rw [en] at q
    refine ⟨.ref p, rfl, .ref p, (splitP x).length, rfl, .inl ⟨_, .inl (.inl upd_same), (List.length_map ..).symm⟩, _, 6, rfl, rfl, _, rfl, ?_⟩
    by_cases h1 : ((splitP x).length : Int) < 6
    case neg =>
      rw [decide_eq_false h1]
      rw [show decide (((splitP x).length : Int) ≤ 5) = false from decide_eq_false (by omega)] at q
      exact iteF (q _ s1)
    rw [decide_eq_true h1]
    rw [show decide (((splitP x).length : Int) ≤ 5) = true from decide_eq_true (by omega)] at q
    refine iteT ⟨.ref p, rfl, p, rfl, ⟨_, .inl (.inl upd_same)⟩, fun D hD => ?_⟩
    refine lc_list (K := K) (a := p) (xs := (splitP x).map V.str) (Adds (upd H p (.lst ((splitP x).map V.str))) D fun i => ((splitP x)[i]?).bind fun y => if nameS y then none else some (.str y)) (adds0 hD)
      (fun i H3 _ a => .inl (.inl (a.1 _ _ upd_same))) (fun i y H3 hy a => ?_) (fun H3 a => ?_)
    · rw [List.getElem?_map] at hy
      cases hz : (splitP x)[i]? with
      | none => rw [hz] at hy; cases hy
      | some z =>
      rw [hz] at hy
      cases hy
      have hi : i < 100000 := by
        have := (List.getElem?_eq_some_iff.mp hz).1
        omega
      have hzm : z ∈ splitP x := List.mem_of_getElem? hz
      refine ⟨rfl, _, rfl, .str z, .str z, rfl, .str z, .str z (Nat.le_trans (split_len x _ z hzm) hx) (split_ok x _ z ho hzm), fun H4 s4 => ⟨_, rfl, ?_⟩⟩
      show if (!nameS z) = true then _ else _
      cases hl : nameS z
      · exact iteT ⟨_, rfl, adds_some hD a hi s4 (by rw [hz, Option.bind_some, hl]; rfl)⟩
      · exact iteF (adds_none a s4 (by rw [hz, Option.bind_some, hl]; rfl))
    · have e1 : (splitP x).filterMap (fun y => if nameS y then none else some (V.str y)) = ((splitP x).filter fun y => !nameS y).map V.str := by
        induction splitP x with
        | nil => rfl
        | cons c r ih =>
          cases hl : nameS c
          · simp [hl, ih]
          · simp [hl, ih]
      have hk : ∀ z ∈ (splitP x).filter fun y => !nameS y, PyData.strOk z = true := fun z hz => split_ok x _ z ho (List.mem_filter.mp hz).1
      have hl := a.2
      rw [List.length_map, outs_list, e1] at hl
      refine ⟨Nat.zero_le _, fun p2 hp2 => ⟨_, _, eq_strs _ hk (same_upd hp2 _ _ hl), .lst (.inl (.inl upd_same)) .nil, shaped_strs _ hk, rfl, ?_⟩⟩
      have e2 : PyData.eqv (.list (((splitP x).filter fun y => !nameS y).map PyData.str)) (.list []) = (splitP x).all nameS := by
        induction splitP x with
        | nil => rfl
        | cons a r ih =>
          rw [List.filter_cons, List.all_cons]
          cases h : nameS a
          · simp [PyData.eqv, PyData.eqvAll]
          · simpa using ih
      rw [e2]
      exact q _ ((s1.trans a.1).trans (same_upd hp2))
  | _ => exact iteT (q _ (Same.refl _))
/-! ### rights, ids -/
def wordsL : List Str := ["write", "mend", "lead"]
def wordD (d : PyData) : Bool := wordsL.any (strIs · d)
def rightD : PyData → Bool
  | .tuple [a, b] => nameD a && wordD b
  | _ => false
def idD : PyData → Bool
  | .tuple [a, b] => personD a && cntD b
  | _ => false
theorem OkD.mem {ds : List PyData} (h : OkD (.tuple ds)) : ∀ d ∈ ds, OkD d := by
  cases h with
  | tup _ h => exact h
theorem RpL.two {H : Hp} {xs : List V} {ds : List PyData} (r : RpL H xs ds) (h : ds.length = 2) : ∃ x y a b, xs = [x, y] ∧ ds = [a, b] ∧ Rp H x a ∧ Rp H y b := by
  match ds, r, h with
  | [_, _], .cons a (.cons b .nil), _ => exact ⟨_, _, _, _, rfl, rfl, a, b⟩
theorem right_not {ds : List PyData} (h : ds.length ≠ 2) : rightD (.tuple ds) = false := by
  match ds, h with
  | [], _ => rfl
  | [_], _ => rfl
  | [_, _], h => exact absurd rfl h
  | _ :: _ :: _ :: _, _ => rfl
theorem id_not {ds : List PyData} (h : ds.length ≠ 2) : idD (.tuple ds) = false := by
  match ds, h with
  | [], _ => rfl
  | [_], _ => rfl
  | [_, _], h => exact absurd rfl h
  | _ :: _ :: _ :: _, _ => rfl
theorem int2 {n : Nat} (h : n ≠ 2) : ¬ V.int (n : Int) = V.int 2 := fun e => h (by injection e with e; omega)
theorem ok_is_right (T : Top K mg) : FnOk P w K mg base CX0 2 T.a_is_right T.d_is_right ["value"] (spP rightD) := by
  refine T.F_is_right.ok sc_is_right spP_len (fun cdv A outer s H vs Q E hr h => ?_)
  obtain ⟨v, d, rfl, hv, hd, q⟩ := h
  refine ⟨_, (pss_one (ps_ret (pe_and (pe_callB (call_isiK1 (K := K)) (by rfl) T.m_isinstance (by decide +kernel) (pa_cons (pv 0) (pa_cons (pe_bltn (v := .ty "tuple") (by rfl) T.m_tuple (by decide +kernel) rfl) pa_nil))) (pe_and (pe_cmpR op_eq (pe_callB (call_lenK (K := K)) (by rfl) T.m_len (by decide +kernel) (pa_cons (pv 0) pa_nil)) pe_int (nomark _)) (pe_and (pe_call (ok_is_name T) (hr.mono (by decide)) (by rfl) T.g_is_name T.F_is_name.kp T.b_is_name .nil pass0 (pa_cons (pe_ix (ix_tupK (K := K)) (pv 0) pe_int (fun _ _ => rfl)) pa_nil)) (pe_one (pe_cmpR (op_in_anyK (K := K) (hu_of hr)) (pe_ix (ix_tupK (K := K)) (pv 0) pe_int (fun _ _ => rfl)) (pe_glob (v := .ref T.a_WORDS) (by rfl) T.c_WORDS rfl) (by rfl)))))))), ?_⟩
  refine ⟨v, rfl, v, .ty "tuple", _, _, _, rfl, .ty _, hv.ty, kit_tup d, _, rfl, ?_⟩
  cases hv with
  | @tup a xs ds ha r =>
    refine iteT ⟨_, rfl, .ref a, ds.length, rfl, .inr ⟨xs, .inl (.inl ha), r.length.symm⟩, rfl, _, rfl, ?_⟩
    by_cases h2 : ds.length = 2
    · obtain ⟨x, y, a1, b1, rfl, rfl, rx, ry⟩ := r.two h2
      refine iteT ⟨_, rfl, a, _, 0, x, rfl, rfl, .inl (.inl ha), rfl, x, a1, rfl, rx, hd.mem _ (by simp), fun H1 s1 => ⟨_, rfl, ?_⟩⟩
      cases hn : nameD a1
      · refine iteF ?_
        have e : rightD (.tuple [a1, b1]) = false := by simp [rightD, hn]
        rw [e] at q
        exact q _ s1
      · have e : rightD (.tuple [a1, b1]) = wordD b1 := by simp [rightD, hn]
        rw [e] at q
        exact iteT ⟨_, rfl, a, _, 1, y, rfl, rfl, .inl (.inl (s1 _ _ ha)), rfl, T.a_WORDS, wordsL, b1, rfl, .inr (T.q_WORDS _), ry.mono s1, q _ s1⟩
    · rw [decide_eq_false (int2 h2)]
      rw [right_not h2] at q
      exact iteF (q _ (Same.refl _))
  | _ => exact iteF (q _ (Same.refl _))
end
end Kx

set_option Elab.async false
set_option linter.all false
set_option maxRecDepth 100000
set_option maxHeartbeats 4000000
namespace Kx
open PySem PySem.Spec PyProof.Rows L2
section
variable {P : Program} {w : World} {K : PySem.W.Frag} {mg : Str → Option Value} {base : Heap}
theorem ok__law_is_right (T : Top K mg) : FnOk P w K mg base CX0 2 T.a__law_is_right T.d__law_is_right ["_law_thing"] (spP rightD) := by
  refine T.F__law_is_right.ok sc__law_is_right spP_len (fun cdv A outer s H vs Q E hr h => ?_)
  obtain ⟨v, d, rfl, hv, hd, q⟩ := h
  refine ⟨_, (pss_cons (ps_if (PW.pt (pw_or (pt_not (pt_val (pe_callB (call_isiK1 (K := K)) (by rfl) T.m_isinstance (by decide +kernel) (pa_cons (pv 0) (pa_cons (pe_bltn (v := .ty "tuple") (by rfl) T.m_tuple (by decide +kernel) rfl) pa_nil))))) (pw_or1 (pt_cmpR op_ne (pe_callB (call_lenK (K := K)) (by rfl) T.m_len (by decide +kernel) (pa_cons (pv 0) pa_nil)) pe_int (nomark _))))) (pss_one (ps_ret pe_bl)) pss_nil)
      (pss_one (ps_ret (pe_and (pe_call (ok__law_is_name T) (hr.mono (by decide)) (by rfl) T.g__law_is_name T.F__law_is_name.kp T.b__law_is_name .nil pass0 (pa_cons (pe_ix (ix_tupK (K := K)) (pv 0) pe_int (fun _ _ => rfl)) pa_nil)) (pe_one (pe_cmpR (op_in_anyK (K := K) (hu_of hr)) (pe_ix (ix_tupK (K := K)) (pv 0) pe_int (fun _ _ => rfl)) (pe_lst (pa_cons pe_str (pa_cons pe_str (pa_cons pe_str pa_nil)))) (by rfl))))))), ?_⟩
  refine ⟨v, rfl, v, .ty "tuple", _, _, _, rfl, .ty _, hv.ty, kit_tup d, _, rfl, ?_⟩
  cases hv with
  | @tup a xs ds ha r =>
    refine iteF ⟨_, rfl, .ref a, ds.length, rfl, .inr ⟨xs, .inl (.inl ha), r.length.symm⟩, rfl, _, rfl, ?_⟩
    by_cases h2 : ds.length = 2
    · obtain ⟨x, y, a1, b1, rfl, rfl, rx, ry⟩ := r.two h2
      refine iteF ⟨_, rfl, a, _, 0, x, rfl, rfl, .inl (.inl ha), rfl, x, a1, rfl, rx, hd.mem _ (by simp), fun H1 s1 => ⟨_, rfl, ?_⟩⟩
      cases hn : nameD a1
      · refine iteF ?_
        have e : rightD (.tuple [a1, b1]) = false := by simp [rightD, hn]
        rw [e] at q
        exact q _ s1
      · have e : rightD (.tuple [a1, b1]) = wordD b1 := by simp [rightD, hn]
        rw [e] at q
        exact iteT ⟨_, rfl, a, _, 1, y, rfl, rfl, .inl (.inl (s1 _ _ ha)), rfl, by decide, fun p hp => ⟨p, wordsL, b1, rfl, .inl (.inl (.inl upd_same)), (ry.mono s1).mono (same_upd hp), q _ (s1.trans (same_upd hp))⟩⟩
    · rw [decide_eq_false (int2 h2)]
      rw [right_not h2] at q
      exact iteT (q _ (Same.refl _))
  | _ => exact iteT (q _ (Same.refl _))
theorem ok_is_id (T : Top K mg) : FnOk P w K mg base CX0 3 T.a_is_id T.d_is_id ["value"] (spP idD) := by
  refine T.F_is_id.ok sc_is_id spP_len (fun cdv A outer s H vs Q E hr h => ?_)
  obtain ⟨v, d, rfl, hv, hd, q⟩ := h
  refine ⟨_, (pss_one (ps_ret (pe_and (pe_callB (call_isiK1 (K := K)) (by rfl) T.m_isinstance (by decide +kernel) (pa_cons (pv 0) (pa_cons (pe_bltn (v := .ty "tuple") (by rfl) T.m_tuple (by decide +kernel) rfl) pa_nil))) (pe_and (pe_cmpR op_eq (pe_callB (call_lenK (K := K)) (by rfl) T.m_len (by decide +kernel) (pa_cons (pv 0) pa_nil)) pe_int (nomark _)) (pe_and (pe_call (ok_is_person T) (hr.mono (by decide)) (by rfl) T.g_is_person T.F_is_person.kp T.b_is_person .nil pass0 (pa_cons (pe_ix (ix_tupK (K := K)) (pv 0) pe_int (fun _ _ => rfl)) pa_nil)) (pe_one (pe_call (ok_is_count T) (hr.mono (by decide)) (by rfl) T.g_is_count T.F_is_count.kp T.b_is_count .nil pass0 (pa_cons (pe_ix (ix_tupK (K := K)) (pv 0) pe_int (fun _ _ => rfl)) pa_nil)))))))), ?_⟩
  refine ⟨v, rfl, v, .ty "tuple", _, _, _, rfl, .ty _, hv.ty, kit_tup d, _, rfl, ?_⟩
  cases hv with
  | @tup a xs ds ha r =>
    refine iteT ⟨_, rfl, .ref a, ds.length, rfl, .inr ⟨xs, .inl (.inl ha), r.length.symm⟩, rfl, _, rfl, ?_⟩
    by_cases h2 : ds.length = 2
    · obtain ⟨x, y, a1, b1, rfl, rfl, rx, ry⟩ := r.two h2
      refine iteT ⟨_, rfl, a, _, 0, x, rfl, rfl, .inl (.inl ha), rfl, x, a1, rfl, rx, hd.mem _ (by simp), fun H1 s1 => ⟨_, rfl, ?_⟩⟩
      cases hn : personD a1
      · refine iteF ?_
        have e : idD (.tuple [a1, b1]) = false := by simp [idD, hn]
        rw [e] at q
        exact q _ s1
      · have e : idD (.tuple [a1, b1]) = cntD b1 := by simp [idD, hn]
        rw [e] at q
        exact iteT ⟨_, rfl, a, _, 1, y, rfl, rfl, .inl (.inl (s1 _ _ ha)), rfl, y, b1, rfl, ry.mono s1, hd.mem _ (by simp), fun H2 s2 => q _ (s1.trans s2)⟩
    · rw [decide_eq_false (int2 h2)]
      rw [id_not h2] at q
      exact iteF (q _ (Same.refl _))
  | _ => exact iteF (q _ (Same.refl _))
theorem ok__law_is_id (T : Top K mg) : FnOk P w K mg base CX0 3 T.a__law_is_id T.d__law_is_id ["_law_thing"] (spP idD) := by
  refine T.F__law_is_id.ok sc__law_is_id spP_len (fun cdv A outer s H vs Q E hr h => ?_)
  obtain ⟨v, d, rfl, hv, hd, q⟩ := h
  refine ⟨_, (pss_one (ps_ret (pe_and (pe_callB (call_isiK1 (K := K)) (by rfl) T.m_isinstance (by decide +kernel) (pa_cons (pv 0) (pa_cons (pe_bltn (v := .ty "tuple") (by rfl) T.m_tuple (by decide +kernel) rfl) pa_nil))) (pe_and (pe_cmpR op_eq (pe_callB (call_lenK (K := K)) (by rfl) T.m_len (by decide +kernel) (pa_cons (pv 0) pa_nil)) pe_int (nomark _)) (pe_and (pe_call (ok__law_is_person T) (hr.mono (by decide)) (by rfl) T.g__law_is_person T.F__law_is_person.kp T.b__law_is_person .nil pass0 (pa_cons (pe_ix (ix_tupK (K := K)) (pv 0) pe_int (fun _ _ => rfl)) pa_nil)) (pe_one (pe_call (ok__law_is_number T) (hr.mono (by decide)) (by rfl) T.g__law_is_number T.F__law_is_number.kp T.b__law_is_number .nil pass0 (pa_cons (pe_ix (ix_tupK (K := K)) (pv 0) pe_int (fun _ _ => rfl)) pa_nil)))))))), ?_⟩
  refine ⟨v, rfl, v, .ty "tuple", _, _, _, rfl, .ty _, hv.ty, kit_tup d, _, rfl, ?_⟩
  cases hv with
  | @tup a xs ds ha r =>
    refine iteT ⟨_, rfl, .ref a, ds.length, rfl, .inr ⟨xs, .inl (.inl ha), r.length.symm⟩, rfl, _, rfl, ?_⟩
    by_cases h2 : ds.length = 2
    · obtain ⟨x, y, a1, b1, rfl, rfl, rx, ry⟩ := r.two h2
      refine iteT ⟨_, rfl, a, _, 0, x, rfl, rfl, .inl (.inl ha), rfl, x, a1, rfl, rx, hd.mem _ (by simp), fun H1 s1 => ⟨_, rfl, ?_⟩⟩
      cases hn : personD a1
      · refine iteF ?_
        have e : idD (.tuple [a1, b1]) = false := by simp [idD, hn]
        rw [e] at q
        exact q _ s1
      · have e : idD (.tuple [a1, b1]) = cntD b1 := by simp [idD, hn]
        rw [e] at q
        exact iteT ⟨_, rfl, a, _, 1, y, rfl, rfl, .inl (.inl (s1 _ _ ha)), rfl, y, b1, rfl, ry.mono s1, hd.mem _ (by simp), fun H2 s2 => q _ (s1.trans s2)⟩
    · rw [decide_eq_false (int2 h2)]
      rw [id_not h2] at q
      exact iteF (q _ (Same.refl _))
  | _ => exact iteF (q _ (Same.refl _))
end
/-! ### above -/
theorem fold_ok (g : Array Nat) (hg : ∀ c ∈ g, c < 0x110000) : ∀ (ys : List Str) (a : Array Nat), (∀ c ∈ a, c < 0x110000) → (∀ y ∈ ys, PyData.strOk y = true) → ∀ c ∈ ys.foldl (fun acc p => acc ++ g ++ p.cps) a, c < 0x110000
  | [], a, ha, _, c, hc => ha c hc
  | y :: r, a, ha, h, c, hc => by
    refine fold_ok g hg r (a ++ g ++ y.cps) (fun c hc => ?_) (fun z hz => h z (List.mem_cons_of_mem _ hz)) c hc
    rcases Array.mem_append.mp hc with hc | hc
    · rcases Array.mem_append.mp hc with hc | hc
      · exact ha c hc
      · exact hg c hc
    · have := Array.all_eq_true'.mp (h y (List.mem_cons_self ..)) c hc
      simpa using this
theorem ok_mem {y : Str} (h : PyData.strOk y = true) (c : Nat) (hc : c ∈ y.cps) : c < 0x110000 := by
  have := Array.all_eq_true'.mp h c hc
  simpa using this
theorem ok_of {y : Str} (h : ∀ c ∈ y.cps, c < 0x110000) : PyData.strOk y = true := Array.all_eq_true'.mpr fun c hc => by simpa using h c hc
theorem join_ok (g : Str) (hg : PyData.strOk g = true) (ys : List Str) (h : ∀ y ∈ ys, PyData.strOk y = true) : PyData.strOk (Txt.join g ys) = true := by
  refine ok_of fun c hc => ?_
  refine fold_ok g.cps (ok_mem hg) (ys.drop 1) (ys.headD Str.empty).cps (fun c hc => ?_) (fun y hy => h y (List.mem_of_mem_drop hy)) c hc
  cases ys with
  | nil => exact absurd hc (by simp [Str.empty])
  | cons y r => exact ok_mem (h y (List.mem_cons_self ..)) c hc
theorem fold_len (g : Array Nat) : ∀ (ys : List Str) (a : Array Nat), (ys.foldl (fun acc p => acc ++ g ++ p.cps) a).size = a.size + ys.length * g.size + (ys.map (·.length)).sum
  | [], a => by simp
  | y :: r, a => by
    have e : y.length = y.cps.size := rfl
    rw [List.foldl_cons, fold_len g r]
    simp [Nat.add_mul, e]
    omega
theorem join_len (g : Str) (ys : List Str) : (Txt.join g ys).length ≤ (ys.map (·.length)).sum + ys.length * g.length := by
  show (List.foldl (fun acc p => acc ++ g.cps ++ p.cps) (ys.headD Str.empty).cps (ys.drop 1)).size ≤ _
  rw [fold_len]
  cases ys with
  | nil => simp [Str.empty]
  | cons y r =>
    have e : y.length = y.cps.size := rfl
    have e2 : g.length = g.cps.size := rfl
    simp [Nat.add_mul, e, e2]
    omega
def aboveL (x : Str) : List Str := (List.range ((splitP x).length - 1)).map fun i => Txt.join "." ((splitP x).take (i + 1))
theorem dot_ok : PyData.strOk "." = true := by decide +kernel
theorem above_ok (x : Str) (hx : PyData.strOk x = true) : ∀ y ∈ aboveL x, PyData.strOk y = true := fun y hy => by
  obtain ⟨i, _, rfl⟩ := List.mem_map.mp hy
  exact join_ok _ dot_ok _ fun z hz => split_ok x _ z hx (List.mem_of_mem_take hz)
theorem sum_le (ys : List Str) (n : Nat) (h : ∀ y ∈ ys, y.length ≤ n) : (ys.map (·.length)).sum ≤ ys.length * n := by
  induction ys with
  | nil => simp
  | cons y r ih =>
    have h1 := ih fun z hz => h z (List.mem_cons_of_mem _ hz)
    have h2 := h y (List.mem_cons_self ..)
    rw [List.map_cons, List.sum_cons, List.length_cons, Nat.add_mul]
    omega
theorem take_room (x : Str) (hx : x.length ≤ 1000) (n : Nat) : (((splitP x).take n).map (·.length)).sum + ((splitP x).take n).length * 1 ≤ 16777216 := by
  have h1 := sum_le ((splitP x).take n) 1000 fun y hy => Nat.le_trans (split_len x _ y (List.mem_of_mem_take hy)) hx
  have h2 : ((splitP x).take n).length ≤ 1002 := Nat.le_trans (List.length_take_le' ..) (split_many x hx)
  have h3 : ((splitP x).take n).length * 1000 ≤ 1002 * 1000 := Nat.mul_le_mul_right _ h2
  omega
theorem cut_take (xs : List V) (n : Nat) : cutV xs none (some (n : Int)) = xs.take n := by
  unfold cutV
  rw [HT.sIx_nat, HT.sIx_none, List.drop_zero, Nat.sub_zero]
  by_cases h : n ≤ xs.length
  · rw [Nat.min_eq_left h]
  · rw [Nat.min_eq_right (by omega), List.take_length, List.take_of_length_le (by omega)]
def spAbove : Sp := fun vs H Q _ => ∃ x, vs = [.str x] ∧ x.length ≤ 1000 ∧ ∀ H' p, Same H H' → H p = none → H' p = some (.lst ((aboveL x).map V.str)) → Q (.ref p) H'
section
variable {P : Program} {w : World} {K : PySem.W.Frag} {mg : Str → Option Value} {base : Heap}
theorem ok_above (T : Top K mg) : FnOk P w K mg base CX0 1 T.a_above T.d_above ["person"] spAbove := by
  refine T.F_above.ok sc_above (fun vs H Q E h => ?_) (fun cdv A outer s H vs Q E hr h => ?_)
  · obtain ⟨x, rfl, _⟩ := h
    rfl
  obtain ⟨x, rfl, hx, q⟩ := h
  refine ⟨_, (pss_cons (ps_set (i := 1) sc_above.nd rfl (Or.inr rfl) (pe_split (pv 0) pe_str))
      (pss_one (ps_ret (pe_lc (own := [("count", 2)]) (g := gName 2) rfl sc_above.nd (pi_range2 (by rfl) T.m_range (pa_cons pe_int (pa_cons (pe_callB (call_lenK (K := K)) (by rfl) T.m_len (by decide +kernel) (pa_cons (pv 1) pa_nil)) pa_nil))) (blkOk_by (own := [("count", 2)]) (N := n_above) (sc := defScope s_above) (by decide +kernel)) (fun _ _ _ _ _ => pg_name (i := 2) sc_above.nd rfl (Or.inl rfl)) (fun _ _ _ _ _ => pts_nil) (fun _ _ _ _ _ => (pe_joinK (K := K) pe_str (pe_slice (sl_listK (K := K)) (pv 1) po_none (po_some (pv 2))))))))), ?_⟩
  refine ⟨_, rfl, ⟨x, rfl⟩, x, ".", rfl, rfl, rfl, sz2 hx, fun p hp => ?_⟩
  have s1 : Same H (upd H p (.lst ((splitP x).map V.str))) := same_upd hp
  have hm := split_many x hx
  refine ⟨.ref p, rfl, .ref p, (splitP x).length, rfl, .inl ⟨_, .inl (.inl upd_same), (List.length_map ..).symm⟩, 1, (splitP x).length, rfl, ⟨by decide, by decide, by omega, by omega⟩, fun D hD => ?_⟩
  have e0 : ((splitP x).length - 1 : Int).toNat = (splitP x).length - 1 := by omega
  rw [e0]
  refine lc_range (lo := 1) (n := (splitP x).length - 1) (Adds (upd H p (.lst ((splitP x).map V.str))) D fun i => some (.str (Txt.join "." ((splitP x).take (i + 1))))) (adds0 hD) (fun i H3 hi a => ?_) (fun H3 a => ?_)
  · refine ⟨rfl, ⟨_, rfl⟩, .ref p, rfl, _, rfl, _, rfl, p, _, rfl, .inl (.inl (a.1 _ _ upd_same)), fun c hc => ?_⟩
    refine ⟨".", c, (splitP x).take (i + 1), rfl, rfl, .inl (.inl (.inl ?_)), take_room x hx _, adds_some hD a (by omega) (same_upd hc) rfl⟩
    rw [upd_same, show (1 : Int) + (i : Int) = ((i + 1 : Nat) : Int) by omega, cut_take, List.map_take]
  · refine q _ _ (s1.trans a.1) (s1.free hD) ?_
    rw [a.2]
    unfold outs aboveL
    rw [List.map_map]
    simp
end
end Kx

set_option Elab.async false
set_option linter.all false
set_option maxRecDepth 100000
set_option maxHeartbeats 4000000
namespace Kx
open PySem PySem.Spec PyProof.Rows L2
/-! ### the box: a list that turns; all else stands -/
def hid (b : Addr) (H : Hp) : Hp := fun a => if a = b then none else H a
theorem hid_same (b : Addr) (H : Hp) : Same (hid b H) H := fun a o h => by
  unfold hid at h
  split at h
  · cases h
  · exact h
theorem hid_ne {b a : Addr} {H : Hp} (h : a ≠ b) : hid b H a = H a := by
  unfold hid
  rw [if_neg h]
theorem hid_upd {b : Addr} {H : Hp} {o : HO} : hid b (upd H b o) = hid b H := by
  funext a
  unfold hid upd
  split <;> simp_all
theorem hid_none {b p : Addr} {H : Hp} (h : H p = none) : hid b H p = none := by
  unfold hid
  split
  · rfl
  · exact h
theorem hid_new {b p : Addr} {H : Hp} {o : HO} (h : H p = none) : Same (hid b H) (hid b (upd H p o)) := fun a u e => by
  have e2 := hid_same b H a u e
  have hab : a ≠ b := fun z => by
    subst z
    unfold hid at e
    rw [if_pos rfl] at e
    cases e
  rw [hid_ne hab, upd_ne (ne_of_none e2 h)]
  exact e2
theorem hid_mono {b : Addr} {H H' : Hp} (e : Same H H') : Same (hid b H) (hid b H') := fun a u h => by
  have h2 := hid_same b H a u h
  have hab : a ≠ b := fun z => by
    subst z
    unfold hid at h
    rw [if_pos rfl] at h
    cases h
  rw [hid_ne hab]
  exact e _ _ h2
theorem hid_get {b a : Addr} {H : Hp} {o : HO} (h : H a = some o) (hab : a ≠ b) : hid b H a = some o := by
  rw [hid_ne hab]
  exact h
def Box (H : Hp) (b : Addr) (c : Int) : Prop := ∃ (n0 : Int) (fl : Bool) (n2 n3 : Int), H b = some (.lst [.int n0, .bl fl, .int n2, .int n3]) ∧ 0 ≤ n0 ∧ 0 ≤ n2 ∧ n2 < 2147483629 ∧ 0 ≤ n3 ∧ n3 ≤ c
theorem Box.mono {H : Hp} {b : Addr} {c c' : Int} (h : Box H b c) (e : c ≤ c') : Box H b c' := by
  obtain ⟨n0, fl, n2, n3, h1, h2, h3, h4, h5, h6⟩ := h
  exact ⟨n0, fl, n2, n3, h1, h2, h3, h4, h5, by omega⟩
theorem Box.new {H : Hp} {b p : Addr} {c : Int} {o : HO} (h : Box H b c) (hp : H p = none) : Box (upd H p o) b c := by
  obtain ⟨n0, fl, n2, n3, h1, h2⟩ := h
  refine ⟨n0, fl, n2, n3, ?_, h2⟩
  rw [upd_ne (ne_of_none h1 hp)]
  exact h1
theorem Box.ne {H : Hp} {b p : Addr} {c : Int} (h : Box H b c) (hp : H p = none) : p ≠ b := by
  obtain ⟨n0, fl, n2, n3, h1, _⟩ := h
  exact (ne_of_none h1 hp).symm
theorem Box.upd {H : Hp} {b p : Addr} {c : Int} {o : HO} (h : Box H b c) (hp : p ≠ b) : Box (upd H p o) b c := by
  obtain ⟨n0, fl, n2, n3, h1, h2⟩ := h
  refine ⟨n0, fl, n2, n3, ?_, h2⟩
  rw [upd_ne hp.symm]
  exact h1
theorem hid_mut {b p : Addr} {H H' : Hp} {o : HO} (e : Same (hid b H) (hid b H')) (hp : H p = none) : Same (hid b H) (hid b (L2.upd H' p o)) := fun a u h => by
  have h2 := hid_same b H a u h
  have h3 := hid_same b H' a u (e a u h)
  have hab : a ≠ b := fun z => by
    subst z
    unfold hid at h
    rw [if_pos rfl] at h
    cases h
  rw [hid_ne hab, upd_ne (ne_of_none h2 hp)]
  exact h3
theorem hid_find {b p : Addr} {H H' : Hp} {o : HO} (e : Same (hid b H) (hid b H')) (h : H p = some o) (hp : p ≠ b) : H' p = some o := hid_same b H' _ _ (e _ _ (hid_get h hp))
theorem ite_str {c : Prop} [Decidable c] {a b : Str} {σ : L2.St} {H : Hp} {k : VK} (h : ∀ z, (z = a ∨ z = b) → tC (.str z) σ H k) : if c then tC (.str a) σ H k else tC (.str b) σ H k := by
  split
  · exact h a (.inl rfl)
  · exact h b (.inr rfl)
def lim : Int := 1000000000
/-- a def that draws from the box at b at most k times, and gives what R tells -/
def spD (k : Int) (R : Hp → V → Prop) : Sp := fun vs H Q _ => ∃ b c, vs = [.ref b] ∧ Box H b c ∧ 0 ≤ c ∧ c + k ≤ lim ∧ ∀ v H', Same (hid b H) (hid b H') → Box H' b (c + k) → R (hid b H') v → Q v H'
theorem spD_len {k : Int} {R : Hp → V → Prop} (vs : List V) (H : Hp) (Q : VK) (E : XK) (h : spD k R vs H Q E) : vs.length = 1 := by
  obtain ⟨b, c, rfl, _⟩ := h
  rfl
def spTake : Sp := fun vs H Q _ => ∃ b c m, vs = [.ref b, .int m] ∧ Box H b c ∧ 0 < m ∧ m < 1073741824 ∧ 0 ≤ c ∧ c + 1 ≤ lim ∧ ∀ d H', Same (hid b H) (hid b H') → Box H' b (c + 1) → 0 ≤ d → d < m → Q (.int d) H'
def spCell (K : PySem.W.Frag) : Sp := fun vs H Q _ => ∃ (a : Addr) (ns : List Int) (k : Nat), vs = [.ref a, .int k] ∧ SqL K H a (ns.map V.int) ∧ ∀ n, Q (.int n) H
def spBox : Sp := fun vs H Q _ => ∃ n, vs = [.int n] ∧ ∀ p H', Same H H' → H p = none → Box H' p 0 → Q (.ref p) H'
theorem pow_small {i : Int} (h0 : 0 ≤ i) (h : i < 18446744073709551616) (j : Int) (hj : 0 ≤ j) (hj2 : j ≤ 1000000) : CPow i j := ⟨hj, hj2, by omega⟩
section
variable {P : Program} {w : World} {K : PySem.W.Frag} {mg : Str → Option Value} {base : Heap}
theorem ok__law_cell (T : Top K mg) : FnOk P w K mg base CX0 1 T.a__law_cell T.d__law_cell ["_law_script", "_law_k"] (spCell K) := by
  refine T.F__law_cell.ok sc__law_cell (fun vs H Q E h => ?_) (fun cdv A outer s H vs Q E hr h => ?_)
  · obtain ⟨a, ns, k, rfl, _⟩ := h
    rfl
  obtain ⟨a, ns, k, rfl, hS, q⟩ := h
  refine ⟨_, (pss_one (ps_ret (pe_ifExp (pt_cmpR op_lt (pv 1) (pe_callB (call_lenK (K := K)) (by rfl) T.m_len (by decide +kernel) (pa_cons (pv 0) pa_nil)) (nomark _)) (pe_ix (ix_listK (K := K)) (pv 0) (pv 1) (fun _ _ => rfl)) pe_int))), ?_⟩
  refine ⟨_, rfl, _, rfl, .ref a, ns.length, rfl, .inl ⟨_, hS, (List.length_map ..).symm⟩, _, _, rfl, rfl, _, rfl, ?_⟩
  by_cases h : (k : Int) < ns.length
  · rw [decide_eq_true h]
    have hk : k < ns.length := by omega
    refine iteT ⟨_, rfl, _, rfl, a, _, k, .int ns[k], rfl, rfl, hS, atI_nat ?_, q _⟩
    rw [List.getElem?_map, List.getElem?_eq_getElem hk]
    rfl
  · rw [decide_eq_false h]
    exact iteF (q _)
theorem ok__law_box (T : Top K mg) : FnOk P w K mg base CX0 1 T.a__law_box T.d__law_box ["_law_great"] spBox := by
  refine T.F__law_box.ok sc__law_box (fun vs H Q E h => ?_) (fun cdv A outer s H vs Q E hr h => ?_)
  · obtain ⟨n, rfl, _⟩ := h
    rfl
  obtain ⟨n, rfl, q⟩ := h
  refine ⟨_, (pss_one (ps_ret (pe_lst (pa_cons (pe_callB call_abs (by rfl) T.m_abs (by decide +kernel) (pa_cons (pv 0) pa_nil)) (pa_cons (pe_cmpR op_ge (pe_callB call_abs (by rfl) T.m_abs (by decide +kernel) (pa_cons (pv 0) pa_nil)) (pe_op op_pow pe_int pe_int) (nomark _)) (pa_cons (pe_op op_mod (pe_callTy call_int1 (by rfl) T.m_int (by decide +kernel) (pa_cons (pe_callB call_abs (by rfl) T.m_abs (by decide +kernel) (pa_cons (pv 0) pa_nil)) pa_nil)) pe_int) (pa_cons pe_int pa_nil))))))), ?_⟩
  refine ⟨_, rfl, n, rfl, _, rfl, n, rfl, 10, 18, rfl, rfl, ⟨by decide, by decide, by decide⟩, _, _, rfl, rfl, _, rfl, n, rfl, .inl ⟨_, rfl, _, 2147483629, rfl, rfl, show (0 : Int) < 2147483629 by decide, show 4 ≤ sizeLine by decide, fun p hp => ?_⟩⟩
  refine q p _ (same_upd hp) hp ⟨_, _, _, _, upd_same, ?_, ?_, ?_, by decide, by decide⟩
  · split <;> omega
  · exact Int.emod_nonneg _ (by decide)
  · exact Int.emod_lt_of_pos _ (by decide)
theorem ok__law_take (T : Top K mg) : FnOk P w K mg base CX0 1 T.a__law_take T.d__law_take ["_law_box_here", "_law_many"] spTake := by
  refine T.F__law_take.ok sc__law_take (fun vs H Q E h => ?_) (fun cdv A outer s H vs Q E hr h => ?_)
  · obtain ⟨b, c, m, rfl, _⟩ := h
    rfl
  obtain ⟨b, c, m, rfl, ⟨n0, fl, n2, n3, hb, h0, h2, h2', h3, h3'⟩, hm, hm', hc, hcl, q⟩ := h
  have el : lim = 1000000000 := rfl
  refine ⟨_, (pss_cons (ps_if (pt_val (pe_ix (ix_listK (K := K)) (pv 0) pe_int (fun _ _ => rfl))) (pss_cons (ps_set (i := 2) sc__law_take.nd rfl (Or.inl rfl) (pe_op op_mod (pe_callTy call_int1 (by rfl) T.m_int (by decide +kernel) (pa_cons (pe_ix (ix_listK (K := K)) (pv 0) pe_int (fun _ _ => rfl)) pa_nil)) (pv 1)))
        (pss_cons (ps_asg (pe_op op_fdiv (pe_ix (ix_listK (K := K)) (pv 0) pe_int (fun _ _ => rfl)) (pv 1)) (pg_sub (pv 0) pe_int set_list))
        (pss_one (ps_ret (pv 2))))) pss_nil)
      (pss_cons (ps_asg (pe_op op_add (pe_ix (ix_listK (K := K)) (pv 0) pe_int (fun _ _ => rfl)) pe_int) (pg_sub (pv 0) pe_int set_list))
      (pss_cons (ps_set (i := 3) sc__law_take.nd rfl (Or.inl rfl) (pe_op op_mod (pe_callTy call_int1 (by rfl) T.m_int (by decide +kernel) (pa_cons (pe_op op_pow (pe_op op_add (pe_op op_add (pe_ix (ix_listK (K := K)) (pv 0) pe_int (fun _ _ => rfl)) (pe_op op_mul pe_int (pe_ix (ix_listK (K := K)) (pv 0) pe_int (fun _ _ => rfl)))) pe_int) pe_int) pa_nil)) pe_int))
      (pss_one (ps_ret (pe_op op_mod (pe_op op_fdiv (pe_op op_mod (pe_callTy call_int1 (by rfl) T.m_int (by decide +kernel) (pa_cons (pe_op op_pow (pe_op op_add (pe_op op_mul (pv 3) pe_int) (pe_op op_mul pe_int (pe_ix (ix_listK (K := K)) (pv 0) pe_int (fun _ _ => rfl)))) pe_int) pa_nil)) pe_int) pe_int) (pv 1))))))), ?_⟩
  refine ⟨.ref b, rfl, b, _, 1, .bl fl, rfl, rfl, .inl (.inl hb), rfl, _, rfl, ?_⟩
  cases fl with
  | true =>
    refine iteT ⟨.ref b, rfl, b, _, 0, .int n0, rfl, rfl, .inl (.inl hb), rfl, .inl ⟨n0, rfl, .int m, rfl, n0, m, rfl, rfl, hm, ?_⟩⟩
    refine ⟨.ref b, rfl, b, _, 0, .int n0, rfl, rfl, .inl (.inl hb), rfl, .int m, rfl, n0, m, rfl, rfl, ⟨hm, hm'⟩, .ref b, rfl, b, _, 0, 0, rfl, rfl, hb, rfl, ?_⟩
    refine ⟨_, rfl, ?_⟩
    refine q _ _ (by rw [hid_upd]; exact Same.refl _) ⟨n0 / m, true, n2, n3, upd_same, Int.ediv_nonneg h0 (by omega), h2, h2', h3, by omega⟩ (Int.emod_nonneg _ (by omega)) (Int.emod_lt_of_pos _ hm)
  | false =>
    refine iteF ?_
    refine ⟨.ref b, rfl, b, _, 3, .int n3, rfl, rfl, .inl (.inl hb), rfl, _, _, rfl, rfl, .ref b, rfl, b, _, 3, 3, rfl, rfl, hb, rfl, ?_⟩
    have hb2 : (upd H b (.lst [.int n0, .bl false, .int n2, .int (n3 + 1)])) b = some (.lst [.int n0, .bl false, .int n2, .int (n3 + 1)]) := upd_same
    refine ⟨.ref b, rfl, b, _, 2, .int n2, rfl, rfl, .inl (.inl hb2), rfl, .ref b, rfl, b, _, 3, .int (n3 + 1), rfl, rfl, .inl (.inl hb2), rfl, _, _, rfl, rfl, .inl ⟨by decide, by decide⟩, _, _, rfl, rfl, _, _, rfl, rfl, _, _, rfl, rfl, pow_small (by omega) (by omega) _ (by decide) (by decide), .inl ⟨_, rfl, _, _, rfl, rfl, show (0 : Int) < 2147483647 by decide, ?_⟩⟩
    generalize hM : ((n2 + 15485867 * (n3 + 1) + 179424691) ^ (5 : Int).toNat) % 2147483647 = M
    have hM0 : 0 ≤ M := by rw [← hM]; exact Int.emod_nonneg _ (by decide)
    have hM1 : M < 2147483647 := by rw [← hM]; exact Int.emod_lt_of_pos _ (by decide)
    refine ⟨_, rfl, _, _, rfl, rfl, .inr ⟨by decide, by decide⟩, .ref b, rfl, b, _, 3, .int (n3 + 1), rfl, rfl, .inl (.inl hb2), rfl, _, _, rfl, rfl, .inl ⟨by decide, by decide⟩, _, _, rfl, rfl, _, _, rfl, rfl, pow_small (by omega) (by omega) _ (by decide) (by decide), .inl ⟨_, rfl, _, _, rfl, rfl, show (0 : Int) < 2147483587 by decide, _, _, rfl, rfl, ⟨by decide, by decide⟩, .int m, rfl, _, _, rfl, rfl, hm, ?_⟩⟩
    refine q _ _ (by rw [hid_upd]; exact Same.refl _) ⟨n0, false, n2, n3 + 1, upd_same, h0, h2, h2', by omega, by omega⟩ (Int.emod_nonneg _ (by omega)) (Int.emod_lt_of_pos _ hm)
end
end Kx

set_option Elab.async false
set_option linter.all false
set_option maxRecDepth 100000
set_option maxHeartbeats 4000000
namespace Kx
open PySem PySem.Spec PyProof.Rows L2
theorem atI_mem {α : Type} {xs : List α} {d : Int} (h0 : 0 ≤ d) (h1 : d < xs.length) : ∃ v, v ∈ xs ∧ atI xs d = some v := by
  obtain ⟨k, rfl⟩ := Int.eq_ofNat_of_zero_le h0
  have hk : k < xs.length := by omega
  exact ⟨xs[k], List.getElem_mem hk, atI_nat (List.getElem?_eq_getElem hk)⟩
/-- a text of at most n signs -/
def isTxt (n : Nat) (_ : Hp) (v : V) : Prop := ∃ x, v = .str x ∧ x.length ≤ n ∧ PyData.strOk x = true
theorem one_ok {z : Str} (hz : PyData.strOk z = true) {c : Nat} (h : c ∈ z.cps.toList) : PyData.strOk ⟨#[c]⟩ = true := ok_of fun k hk => by
  have e : k = c := by simpa using hk
  rw [e]
  exact ok_mem hz c (by simpa using h)
theorem sum_ones (ys : List Str) (h : ∀ y ∈ ys, y.length = 1) : (ys.map (·.length)).sum = ys.length := by
  induction ys with
  | nil => rfl
  | cons y r ih =>
    rw [List.map_cons, List.sum_cons, List.length_cons, ih fun z hz => h z (List.mem_cons_of_mem _ hz), h y (List.mem_cons_self ..)]
    omega
section
variable {P : Program} {w : World} {K : PySem.W.Frag} {mg : Str → Option Value} {base : Heap}
theorem ok__law_word (T : Top K mg) : FnOk P w K mg base CX0 2 T.a__law_word T.d__law_word ["_law_box_here"] (spD 11 (isTxt 9)) := by
  refine T.F__law_word.ok sc__law_word spD_len (fun cdv A outer s H vs Q E hr h => ?_)
  obtain ⟨b, c, rfl, hB, hc, hcl, q⟩ := h
  refine ⟨_, (pss_cons (ps_set (i := 1) sc__law_word.nd rfl (Or.inr rfl) (pe_ifExp (pt_cmpR op_gt (pe_call (ok__law_take T) (hr.mono (by decide)) (by rfl) T.g__law_take T.F__law_take.kp T.b__law_take .nil pass0 (pa_cons (pv 0) (pa_cons pe_int pa_nil))) pe_int (nomark _)) pe_str pe_str))
      (pss_cons (ps_set (i := 2) sc__law_word.nd rfl (Or.inl rfl) (pe_ix (ix_listK (K := K)) (pe_lst (pa_cons pe_int (pa_cons pe_int (pa_cons pe_int (pa_cons pe_int (pa_cons pe_int (pa_cons pe_int (pa_cons pe_int (pa_cons pe_int pa_nil))))))))) (pe_call (ok__law_take T) (hr.mono (by decide)) (by rfl) T.g__law_take T.F__law_take.kp T.b__law_take .nil pass0 (pa_cons (pv 0) (pa_cons pe_int pa_nil))) (fun _ _ => rfl)))
      (pss_one (ps_ret (pe_joinK (K := K) pe_str (pe_lc (own := [("_law_k", 3)]) (g := gName 3) rfl sc__law_word.nd (pi_range1 (by rfl) T.m_range (pa_cons (pv 2) pa_nil)) (blkOk_by (own := [("_law_k", 3)]) (N := n__law_word) (sc := defScope s__law_word) (by decide +kernel)) (fun _ _ _ _ _ => pg_name (i := 3) sc__law_word.nd rfl (Or.inl rfl)) (fun _ _ _ _ _ => pts_nil) (fun _ _ _ _ _ => (pe_ix ix_str (pv 1) (pe_call (ok__law_take T) (hr.mono (by decide)) (by rfl) T.g__law_take T.F__law_take.kp T.b__law_take .nil pass0 (pa_cons (pv 0) (pa_cons (pe_callB (call_lenK (K := K)) (by rfl) T.m_len (by decide +kernel) (pa_cons (pv 1) pa_nil)) pa_nil))) (fun _ _ => rfl))))))))), ?_⟩
  refine ⟨_, rfl, b, c, 3, rfl, hB, by decide, by decide, hc, by omega, fun d1 H1 s1 B1 _ _ => ⟨_, _, rfl, rfl, _, rfl, ?_⟩⟩
  refine ite_str fun z hz => ?_
  obtain ⟨z1, z2, z3⟩ : z.length ≤ 100 ∧ 0 < z.length ∧ PyData.strOk z = true := by
    rcases hz with rfl | rfl
    · exact ⟨by decide, by decide, by decide +kernel⟩
    · exact ⟨by decide, by decide, by decide +kernel⟩
  refine ⟨show 8 ≤ sizeLine by decide, fun p hp => ?_⟩
  refine ⟨_, rfl, b, c + 1, 8, rfl, B1.new hp, by decide, by decide, by omega, by omega, fun d2 H2 s2 B2 g0 g1 => ?_⟩
  have hpb : p ≠ b := B1.ne hp
  have h2p := hid_same b H2 _ _ (s2 _ _ (hid_get upd_same hpb))
  obtain ⟨v, hv, hat⟩ := atI_mem (xs := [V.int 1, V.int 2, V.int 3, V.int 8, V.int 9, V.int 0, V.int 7, V.int 1]) g0 g1
  obtain ⟨m, rfl, m9⟩ : ∃ m : Nat, v = .int m ∧ m ≤ 9 := by
    simp only [List.mem_cons, List.not_mem_nil, or_false] at hv
    rcases hv with rfl | rfl | rfl | rfl | rfl | rfl | rfl | rfl
    · exact ⟨1, rfl, by decide⟩
    · exact ⟨2, rfl, by decide⟩
    · exact ⟨3, rfl, by decide⟩
    · exact ⟨8, rfl, by decide⟩
    · exact ⟨9, rfl, by decide⟩
    · exact ⟨0, rfl, by decide⟩
    · exact ⟨7, rfl, by decide⟩
    · exact ⟨1, rfl, by decide⟩
  refine ⟨p, _, d2, .int m, rfl, rfl, .inl (.inl h2p), hat, ?_⟩
  have s12 : Same (hid b H) (hid b H2) := (s1.trans (hid_new hp)).trans s2
  refine ⟨⟨_, rfl⟩, _, rfl, m, rfl, by omega, by omega, fun D hD => ?_⟩
  have hDb : D ≠ b := B2.ne hD
  refine lc_range (lo := 0) (n := m) (fun i H3 => Same (hid b H2) (hid b H3) ∧ Box H3 b (c + 2 + i) ∧ ∃ ys : List Str, ys.length = i ∧ (∀ y ∈ ys, y.length = 1) ∧ (∀ y ∈ ys, PyData.strOk y = true) ∧ H3 D = some (.lst (ys.map V.str)))
    ⟨hid_new hD, (B2.new hD).mono (by omega), [], rfl, fun y hy => (nomatch hy), fun y hy => (nomatch hy), upd_same⟩ (fun i H3 hi a => ?_) (fun H3 a => ?_)
  · obtain ⟨a1, a2, ys, y1, y2, y3, hy⟩ := a
    refine ⟨rfl, _, rfl, _, rfl, _, rfl, .str z, z.length, rfl, ⟨sz1000 (by omega), rfl⟩, b, c + 2 + i, z.length, rfl, a2, by omega, by omega, by omega, by omega, fun d3 H4 s4 B4 k0 k1 => ?_⟩
    obtain ⟨e, he, hae⟩ := atI_mem (xs := z.cps.toList) (d := d3) k0 (by have e : z.length = z.cps.toList.length := by simp [Str.length]
                                                                         omega)
    refine ⟨z, d3, e, rfl, rfl, sz1000 (by omega), hae, ys.map V.str, hid_same b H4 _ _ (s4 _ _ (hid_get hy hDb)), ?_, ?_, ?_, ys ++ [⟨#[e]⟩], ?_, ?_, ?_, ?_⟩
    · rw [List.length_map]
      exact small1000 (by omega)
    · exact hid_mut (a1.trans s4) hD
    · exact (B4.upd hDb).mono (by omega)
    · simp [y1]
    · intro y hy
      rcases List.mem_append.mp hy with h | h
      · exact y2 y h
      · rw [List.mem_singleton.mp h]; rfl
    · intro y hy
      rcases List.mem_append.mp hy with h | h
      · exact y3 y h
      · rw [List.mem_singleton.mp h]; exact one_ok z3 he
    · rw [upd_same, List.map_append]
      rfl
  · obtain ⟨a1, a2, ys, y1, y2, y3, hy⟩ := a
    have hs := sum_ones ys y2
    have e0 : ys.length * ("" : Str).length = 0 := by
      rw [show ("" : Str).length = 0 from rfl, Nat.mul_zero]
    refine ⟨"", D, ys, rfl, rfl, .inl (.inl (.inl hy)), by omega, ?_⟩
    have hl := join_len "" ys
    refine q _ _ (s12.trans a1) (a2.mono (by omega)) ⟨_, rfl, by omega, join_ok _ (by decide +kernel) ys y3⟩
end
end Kx

set_option Elab.async false
set_option linter.all false
set_option maxRecDepth 100000
set_option maxHeartbeats 4000000
namespace Kx
open PySem PySem.Spec PyProof.Rows L2
theorem fold_app_size : ∀ (l : List (Array Nat)) (a : Array Nat), (l.foldl (· ++ ·) a).size = a.size + (l.map (·.size)).sum
  | [], a => by simp
  | x :: r, a => by
    rw [List.foldl_cons, fold_app_size r, Array.size_append, List.map_cons, List.sum_cons]
    omega
theorem fold_app_mem : ∀ (l : List (Array Nat)) (a : Array Nat) (c : Nat), c ∈ l.foldl (· ++ ·) a → c ∈ a ∨ ∃ x ∈ l, c ∈ x
  | [], a, c, h => .inl h
  | x :: r, a, c, h => by
    rw [List.foldl_cons] at h
    rcases fold_app_mem r (a ++ x) c h with h | ⟨y, hy, h⟩
    · rcases Array.mem_append.mp h with h | h
      · exact .inl h
      · exact .inr ⟨x, List.mem_cons_self .., h⟩
    · exact .inr ⟨y, List.mem_cons_of_mem _ hy, h⟩
theorem sum_rep (n k : Nat) : (List.replicate n k).sum = n * k := by
  induction n with
  | zero => simp
  | succ n ih => rw [List.replicate_succ, List.sum_cons, ih, Nat.add_mul]; omega
theorem mul_len (x : Str) (n : Int) (h : 1 ≤ n) : (Txt.mul x n).length ≤ n.toNat * x.length := by
  unfold Txt.mul
  rw [if_neg (by omega)]
  split
  · have : 1 ≤ n.toNat := by omega
    calc x.length = 1 * x.length := (Nat.one_mul _).symm
      _ ≤ n.toNat * x.length := Nat.mul_le_mul_right _ this
  · show ((List.replicate n.toNat x.cps).foldl (· ++ ·) #[]).size ≤ _
    rw [fold_app_size, List.map_replicate, sum_rep]
    simp [Str.length]
theorem mul_ok (x : Str) (n : Int) (h : PyData.strOk x = true) : PyData.strOk (Txt.mul x n) = true := by
  unfold Txt.mul
  split
  · decide +kernel
  split
  · exact h
  · refine ok_of fun c hc => ?_
    rcases fold_app_mem _ _ c hc with hc | ⟨y, hy, hc⟩
    · simp at hc
    · rw [(List.mem_replicate.mp hy).2] at hc
      exact ok_mem h c hc
theorem mulOk (x : Str) (n : Int) (h1 : 1 ≤ n) (h2 : n ≤ 100) (hx : x.length ≤ 1000) : MulOk x n := by
  refine ⟨?_, fun _ _ => ?_, fun _ _ => ?_⟩
  · simp
    omega
  · have : (92233720368547758 : Int) ≤ (2 ^ 63 - 1) / n := (Int.le_ediv_iff_mul_le (by omega)).mpr (by omega)
    omega
  · have h3 : x.length * n.toNat ≤ 1000 * 100 := Nat.mul_le_mul hx (by omega)
    have e : sizeLine = 16777216 := sizeLine_eq
    unfold Builtin.Str.tooLong
    simp
    omega
theorem ints6 {xs : List V} (h : ∀ v ∈ xs, ∃ m : Nat, v = .int m ∧ m ≤ 6) {d : Int} (h0 : 0 ≤ d) (h1 : d < xs.length) : ∃ m : Nat, atI xs d = some (.int m) ∧ m ≤ 6 := by
  obtain ⟨v, hv, ha⟩ := atI_mem h0 h1
  obtain ⟨m, rfl, hm⟩ := h v hv
  exact ⟨m, ha, hm⟩
theorem all6 {ns : List Nat} (h : ns.all (· ≤ 6) = true) : ∀ v ∈ ns.map (fun n : Nat => V.int n), ∃ m : Nat, v = .int m ∧ m ≤ 6 := fun v hv => by
  obtain ⟨n, hn, rfl⟩ := List.mem_map.mp hv
  exact ⟨n, rfl, by simpa using List.all_eq_true.mp h n hn⟩
section
variable {P : Program} {w : World} {K : PySem.W.Frag} {mg : Str → Option Value} {base : Heap}
theorem ok__law_person (T : Top K mg) : FnOk P w K mg base CX0 3 T.a__law_person T.d__law_person ["_law_box_here"] (spD 68 (isTxt 100)) := by
  refine T.F__law_person.ok sc__law_person spD_len (fun cdv A outer s H vs Q E hr h => ?_)
  obtain ⟨b, c, rfl, hB, hc, hcl, q⟩ := h
  refine ⟨_, (pss_cons (ps_if (pt_cmpR op_eq (pe_call (ok__law_take T) (hr.mono (by decide)) (by rfl) T.g__law_take T.F__law_take.kp T.b__law_take .nil pass0 (pa_cons (pv 0) (pa_cons pe_int pa_nil))) pe_int (nomark _)) (pss_cons (ps_set (i := 1) sc__law_person.nd rfl (Or.inl rfl) (pe_ix (ix_listK (K := K)) (pe_lst (pa_cons pe_int (pa_cons pe_int (pa_cons pe_int (pa_cons pe_int (pa_cons pe_int (pa_cons pe_int pa_nil))))))) (pe_call (ok__law_take T) (hr.mono (by decide)) (by rfl) T.g__law_take T.F__law_take.kp T.b__law_take .nil pass0 (pa_cons (pv 0) (pa_cons pe_int pa_nil))) (fun _ _ => rfl)))
        (pss_one (ps_ret (pe_joinK (K := K) pe_str (pe_lc (own := [("_law_k", 2)]) (g := gName 2) rfl sc__law_person.nd (pi_range1 (by rfl) T.m_range (pa_cons (pv 1) pa_nil)) (blkOk_by (own := [("_law_k", 2)]) (N := n__law_person) (sc := defScope s__law_person) (by decide +kernel)) (fun _ _ _ _ _ => pg_name (i := 2) sc__law_person.nd rfl (Or.inl rfl)) (fun _ _ _ _ _ => pts_nil) (fun _ _ _ _ _ => (pe_op op_mul_str (pe_ix ix_str pe_str (pe_call (ok__law_take T) (hr.mono (by decide)) (by rfl) T.g__law_take T.F__law_take.kp T.b__law_take .nil pass0 (pa_cons (pv 0) (pa_cons pe_int pa_nil))) (fun _ _ => rfl)) (pe_op op_add pe_int (pe_call (ok__law_take T) (hr.mono (by decide)) (by rfl) T.g__law_take T.F__law_take.kp T.b__law_take .nil pass0 (pa_cons (pv 0) (pa_cons pe_int pa_nil))))))))))) pss_nil)
      (pss_one (ps_ret (pe_joinK (K := K) pe_str (pe_lc (own := [("_law_k", 2)]) (g := gName 2) rfl sc__law_person.nd (pi_range1 (by rfl) T.m_range (pa_cons (pe_ix (ix_listK (K := K)) (pe_lst (pa_cons pe_int (pa_cons pe_int (pa_cons pe_int (pa_cons pe_int (pa_cons pe_int (pa_cons pe_int pa_nil))))))) (pe_call (ok__law_take T) (hr.mono (by decide)) (by rfl) T.g__law_take T.F__law_take.kp T.b__law_take .nil pass0 (pa_cons (pv 0) (pa_cons pe_int pa_nil))) (fun _ _ => rfl)) pa_nil)) (blkOk_by (own := [("_law_k", 2)]) (N := n__law_person) (sc := defScope s__law_person) (by decide +kernel)) (fun _ _ _ _ _ => pg_name (i := 2) sc__law_person.nd rfl (Or.inl rfl)) (fun _ _ _ _ _ => pts_nil) (fun _ _ _ _ _ => (pe_call (ok__law_word T) (hr.mono (by decide)) (by rfl) T.g__law_word T.F__law_word.kp T.b__law_word .nil pass0 (pa_cons (pv 0) pa_nil)))))))), ?_⟩
  refine ⟨_, rfl, b, c, 2, rfl, hB, by decide, by decide, hc, by omega, fun d1 H1 s1 B1 _ _ => ⟨rfl, _, rfl, ite2 (fun _ => ?_) (fun _ => ?_)⟩⟩
  · refine ⟨show 6 ≤ sizeLine by decide, fun p hp => ?_⟩
    refine ⟨_, rfl, b, c + 1, 6, rfl, B1.new hp, by decide, by decide, by omega, by omega, fun d2 H2 s2 B2 g0 g1 => ?_⟩
    have h2p := hid_find s2 upd_same (B1.ne hp)
    obtain ⟨m, hat, m6⟩ := ints6 (all6 (ns := [1, 2, 4, 5, 6, 5]) (by decide)) g0 g1
    refine ⟨p, _, d2, .int m, rfl, rfl, .inl (.inl h2p), hat, ?_⟩
    have s12 : Same (hid b H) (hid b H2) := (s1.trans (hid_new hp)).trans s2
    refine ⟨⟨_, rfl⟩, _, rfl, m, rfl, by omega, by omega, fun D hD => ?_⟩
    have hDb : D ≠ b := B2.ne hD
    refine lc_range (lo := 0) (n := m) (fun i H3 => Same (hid b H2) (hid b H3) ∧ Box H3 b (c + 2 + 2 * i) ∧ ∃ ys : List Str, ys.length = i ∧ (∀ y ∈ ys, y.length ≤ 9) ∧ (∀ y ∈ ys, PyData.strOk y = true) ∧ H3 D = some (.lst (ys.map V.str)))
      ⟨hid_new hD, (B2.new hD).mono (by omega), [], rfl, fun y hy => (nomatch hy), fun y hy => (nomatch hy), upd_same⟩ (fun i H3 hi a => ?_) (fun H3 a => ?_)
    · obtain ⟨a1, a2, ys, y1, y2, y3, hy⟩ := a
      refine ⟨rfl, _, rfl, b, c + 2 + 2 * i, 3, rfl, a2, by decide, by decide, by omega, by omega, fun d3 H4 s4 B4 k0 k1 => ?_⟩
      obtain ⟨e, he, hae⟩ := atI_mem (xs := ("abz" : Str).cps.toList) (d := d3) k0 k1
      refine ⟨"abz", d3, e, rfl, rfl, by decide, hae, _, rfl, b, c + 2 + 2 * i + 1, 8, rfl, B4, by decide, by decide, by omega, by omega, fun d4 H5 s5 B5 j0 j1 => ⟨_, _, rfl, rfl, _, _, rfl, rfl, mulOk _ _ (by omega) (by omega) (show 1 ≤ 1000 by decide), ?_⟩⟩
      refine ⟨ys.map V.str, hid_find (s4.trans s5) hy hDb, ?_, hid_mut (a1.trans (s4.trans s5)) hD, (B5.upd hDb).mono (by omega), ys ++ [Txt.mul ⟨#[e]⟩ (1 + d4)], ?_, ?_, ?_, ?_⟩
      · rw [List.length_map]
        exact small1000 (by omega)
      · simp [y1]
      · intro y hy
        rcases List.mem_append.mp hy with h | h
        · exact y2 y h
        · rw [List.mem_singleton.mp h]
          refine Nat.le_trans (mul_len _ _ (by omega)) ?_
          show _ * 1 ≤ 9
          omega
      · intro y hy
        rcases List.mem_append.mp hy with h | h
        · exact y3 y h
        · rw [List.mem_singleton.mp h]
          exact mul_ok _ _ (one_ok (z := "abz") (by decide +kernel) he)
      · rw [upd_same, List.map_append]
        rfl
    · obtain ⟨a1, a2, ys, y1, y2, y3, hy⟩ := a
      have hs := sum_le ys 9 y2
      have e0 : ys.length * ("." : Str).length = ys.length := by
        rw [show ("." : Str).length = 1 from rfl, Nat.mul_one]
      refine ⟨".", D, ys, rfl, rfl, .inl (.inl (.inl hy)), by omega, ?_⟩
      have hl := join_len "." ys
      exact q _ _ (s12.trans a1) (a2.mono (by omega)) ⟨_, rfl, by omega, join_ok _ dot_ok ys y3⟩
  · refine ⟨⟨_, rfl⟩, show 6 ≤ sizeLine by decide, fun p hp => ?_⟩
    refine ⟨_, rfl, b, c + 1, 6, rfl, B1.new hp, by decide, by decide, by omega, by omega, fun d2 H2 s2 B2 g0 g1 => ?_⟩
    have h2p := hid_find s2 upd_same (B1.ne hp)
    obtain ⟨m, hat, m6⟩ := ints6 (all6 (ns := [1, 2, 3, 5, 6, 4]) (by decide)) g0 g1
    refine ⟨p, _, d2, .int m, rfl, rfl, .inl (.inl h2p), hat, ?_⟩
    have s12 : Same (hid b H) (hid b H2) := (s1.trans (hid_new hp)).trans s2
    refine ⟨m, rfl, by omega, by omega, fun D hD => ?_⟩
    have hDb : D ≠ b := B2.ne hD
    refine lc_range (lo := 0) (n := m) (fun i H3 => Same (hid b H2) (hid b H3) ∧ Box H3 b (c + 2 + 11 * i) ∧ ∃ ys : List Str, ys.length = i ∧ (∀ y ∈ ys, y.length ≤ 9) ∧ (∀ y ∈ ys, PyData.strOk y = true) ∧ H3 D = some (.lst (ys.map V.str)))
      ⟨hid_new hD, (B2.new hD).mono (by omega), [], rfl, fun y hy => (nomatch hy), fun y hy => (nomatch hy), upd_same⟩ (fun i H3 hi a => ?_) (fun H3 a => ?_)
    · obtain ⟨a1, a2, ys, y1, y2, y3, hy⟩ := a
      refine ⟨rfl, _, rfl, b, c + 2 + 11 * i, rfl, a2, by omega, by omega, fun v H4 s4 B4 ⟨x, ex, x1, x2⟩ => ?_⟩
      subst ex
      refine ⟨ys.map V.str, hid_find s4 hy hDb, ?_, hid_mut (a1.trans s4) hD, (B4.upd hDb).mono (by omega), ys ++ [x], ?_, ?_, ?_, ?_⟩
      · rw [List.length_map]
        exact small1000 (by omega)
      · simp [y1]
      · intro y hy
        rcases List.mem_append.mp hy with h | h
        · exact y2 y h
        · rw [List.mem_singleton.mp h]; exact x1
      · intro y hy
        rcases List.mem_append.mp hy with h | h
        · exact y3 y h
        · rw [List.mem_singleton.mp h]; exact x2
      · rw [upd_same, List.map_append]
        rfl
    · obtain ⟨a1, a2, ys, y1, y2, y3, hy⟩ := a
      have hs := sum_le ys 9 y2
      have e0 : ys.length * ("." : Str).length = ys.length := by
        rw [show ("." : Str).length = 1 from rfl, Nat.mul_one]
      refine ⟨".", D, ys, rfl, rfl, .inl (.inl (.inl hy)), by omega, ?_⟩
      have hl := join_len "." ys
      exact q _ _ (s12.trans a1) (a2.mono (by omega)) ⟨_, rfl, by omega, join_ok _ dot_ok ys y3⟩
end
end Kx

set_option Elab.async false
set_option linter.all false
set_option maxRecDepth 100000
set_option maxHeartbeats 4000000
namespace Kx
open PySem PySem.Spec PyProof.Rows L2
/-! ### things -/
def Tg (H : Hp) (v : V) : Prop := ∃ d, Rp H v d ∧ OkD d
def Tgs (H : Hp) (xs : List V) : Prop := ∀ v ∈ xs, Tg H v
theorem Tg.mono {H H' : Hp} {v : V} (e : Same H H') (h : Tg H v) : Tg H' v := by
  obtain ⟨d, h1, h2⟩ := h
  exact ⟨d, h1.mono e, h2⟩
theorem Tgs.mono {H H' : Hp} {xs : List V} (e : Same H H') (h : Tgs H xs) : Tgs H' xs := fun v hv => (h v hv).mono e
theorem Tgs.rp {H : Hp} : ∀ {xs : List V}, Tgs H xs → ∃ ds, RpL H xs ds ∧ ∀ d ∈ ds, OkD d
  | [], _ => ⟨[], .nil, fun d hd => (nomatch hd)⟩
  | x :: xs, h => by
    obtain ⟨d, h1, h2⟩ := h x (List.mem_cons_self ..)
    obtain ⟨ds, h3, h4⟩ := Tgs.rp (xs := xs) fun v hv => h v (List.mem_cons_of_mem _ hv)
    refine ⟨d :: ds, .cons h1 h3, fun e he => ?_⟩
    rcases List.mem_cons.mp he with rfl | he
    · exact h2
    · exact h4 e he
theorem Tgs.nil {H : Hp} : Tgs H [] := fun v hv => (nomatch hv)
theorem Tgs.cons {H : Hp} {x : V} {xs : List V} (h : Tg H x) (t : Tgs H xs) : Tgs H (x :: xs) := fun v hv => by
  rcases List.mem_cons.mp hv with rfl | hv
  · exact h
  · exact t v hv
theorem Tgs.append {H : Hp} {xs ys : List V} (h : Tgs H xs) (t : Tgs H ys) : Tgs H (xs ++ ys) := fun v hv => by
  rcases List.mem_append.mp hv with hv | hv
  · exact h v hv
  · exact t v hv
theorem Tg.tup {H : Hp} {a : Addr} {xs : List V} (h : H a = some (.tup xs)) (t : Tgs H xs) : Tg H (.ref a) := by
  obtain ⟨ds, h1, h2⟩ := t.rp
  exact ⟨_, .tup h h1, .tup _ h2⟩
theorem Tg.lst {H : Hp} {a : Addr} {xs : List V} (h : H a = some (.lst xs)) (t : Tgs H xs) : Tg H (.ref a) := by
  obtain ⟨ds, h1, h2⟩ := t.rp
  exact ⟨_, .lst h h1, .lst _ h2⟩
theorem Tg.dct {H : Hp} {a : Addr} (h : H a = some (.dK [])) : Tg H (.ref a) := ⟨_, .dct h .nil, .dct _⟩
theorem Tg.non {H : Hp} : Tg H .non := ⟨_, .non, .non⟩
theorem Tg.bl {H : Hp} (b : Bool) : Tg H (.bl b) := ⟨_, .bl b, .bl b⟩
theorem Tg.int {H : Hp} (i : Int) : Tg H (.int i) := ⟨_, .int i, .int i⟩
theorem Tg.str {H : Hp} (x : Str) (h : x.length ≤ 1000) (o : PyData.strOk x = true) : Tg H (.str x) := ⟨_, .str x, .str x h o⟩
theorem Tg.txt {n : Nat} {H H' : Hp} {v : V} (h : isTxt n H v) (hn : n ≤ 1000) : Tg H' v := by
  obtain ⟨x, rfl, h1, h2⟩ := h
  exact .str x (by omega) h2
/-- a new object beside the box -/
theorem hid_at {b p : Addr} {H : Hp} {o : HO} (hp : p ≠ b) : hid b (upd H p o) p = some o := hid_get upd_same hp
/-! ### expressions that draw from the box and give things -/
def EvD (b : Addr) (H0 : Hp) (te : TE) (σ : L2.St) (k : Int) : Prop := 0 ≤ k ∧ ∀ H c (Q : VK), Same (hid b H0) (hid b H) → Box H b c → 0 ≤ c → c + k ≤ lim → (∀ v H', Same (hid b H) (hid b H') → Box H' b (c + k) → Tg (hid b H') v → Q v H') → te σ H Q
def EvDA (b : Addr) (H0 : Hp) (ta : TA) (σ : L2.St) (n : Nat) (k : Int) : Prop := 0 ≤ k ∧ ∀ H c (Q : List V → Hp → Prop), Same (hid b H0) (hid b H) → Box H b c → 0 ≤ c → c + k ≤ lim → (∀ vs H', Same (hid b H) (hid b H') → Box H' b (c + k) → Tgs (hid b H') vs → vs.length = n → Q vs H') → ta σ H Q
def EvDL (b : Addr) (H0 : Hp) (te : TE) (σ : L2.St) (n : Nat) (k : Int) : Prop := 0 ≤ k ∧ ∀ H c (Q : VK), Same (hid b H0) (hid b H) → Box H b c → 0 ≤ c → c + k ≤ lim → (∀ p xs H', Same (hid b H) (hid b H') → Box H' b (c + k) → H' p = some (.lst xs) → p ≠ b → Tgs (hid b H') xs → xs.length = n → Q (.ref p) H') → te σ H Q
section
variable {b : Addr} {H0 : Hp} {σ : L2.St}
theorem evd_var {i : Nat} {v : V} (h : σ[i]? = some (some v)) (t : Tg (hid b H0) v) : EvD b H0 (tVar i) σ 0 :=
  ⟨by decide, fun H c Q s B _ _ q => ⟨v, h, q v H (Same.refl _) (B.mono (by omega)) (t.mono s)⟩⟩
theorem evd_c {v : V} (t : ∀ H, Tg H v) : EvD b H0 (tC v) σ 0 := ⟨by decide, fun H c Q s B _ _ q => q v H (Same.refl _) (B.mono (by omega)) (t _)⟩
theorem evd_dnew : EvD b H0 tDNewK σ 0 := ⟨by decide, fun H c Q s B _ _ q => fun p hp => q _ _ (hid_new hp) ((B.new hp).mono (by omega)) (.dct (hid_at (B.ne hp)))⟩
theorem evd_call {i : Nat} {k : Int} {R : Hp → V → Prop} (h : σ[i]? = some (some (.ref b))) (hk : 0 ≤ k) (hR : ∀ H v, R H v → Tg H v) : EvD b H0 (tCall (spD k R) [] E0 (tCons (tVar i) tNil)) σ k :=
  ⟨hk, fun H c Q s B hc hl q => ⟨_, h, b, c, rfl, B, hc, hl, fun v H' s' B' r => q v H' s' B' (hR _ _ r)⟩⟩
theorem evd_nil : EvDA b H0 tNil σ 0 0 := ⟨by decide, fun H c Q s B _ _ q => q [] H (Same.refl _) (B.mono (by omega)) .nil rfl⟩
theorem evd_cons {te : TE} {ta : TA} {n : Nat} {k1 k2 : Int} (h1 : EvD b H0 te σ k1) (h2 : EvDA b H0 ta σ n k2) : EvDA b H0 (tCons te ta) σ (n + 1) (k1 + k2) := by
  obtain ⟨p1, h1⟩ := h1
  obtain ⟨p2, h2⟩ := h2
  refine ⟨by omega, fun H c Q s B hc hl q => h1 H c _ s B hc (by omega) fun v H1 s1 B1 t1 => h2 H1 (c + k1) _ (s.trans s1) B1 (by omega) (by omega) fun vs H2 s2 B2 t2 e => ?_⟩
  exact q (v :: vs) H2 (s1.trans s2) (B2.mono (by omega)) (.cons (t1.mono s2) t2) (by rw [List.length_cons, e])
theorem evd_tup {ta : TA} {n : Nat} {k : Int} (h : EvDA b H0 ta σ n k) (hn : n ≤ 1000) : EvD b H0 (tTup ta) σ k :=
  ⟨h.1, fun H c Q s B hc hl q => h.2 H c _ s B hc hl fun vs H1 s1 B1 t1 e => ⟨sz1000 (by omega), fun p hp => q _ _ (s1.trans (hid_new hp)) (B1.new hp) (.tup (hid_at (B1.ne hp)) (t1.mono (hid_new hp)))⟩⟩
theorem evd_lst {ta : TA} {n : Nat} {k : Int} (h : EvDA b H0 ta σ n k) (hn : n ≤ 1000) : EvDL b H0 (tLst ta) σ n k :=
  ⟨h.1, fun H c Q s B hc hl q => h.2 H c _ s B hc hl fun vs H1 s1 B1 t1 e => ⟨sz1000 (by omega), fun p hp => q _ vs _ (s1.trans (hid_new hp)) (B1.new hp) upd_same (B1.ne hp) (t1.mono (hid_new hp)) e⟩⟩
theorem EvDL.ev {te : TE} {n : Nat} {k : Int} (h : EvDL b H0 te σ n k) : EvD b H0 te σ k :=
  ⟨h.1, fun H c Q s B hc hl q => h.2 H c _ s B hc hl fun p xs H1 s1 B1 hp np t1 e => q _ _ s1 B1 (.lst (hid_get hp np) t1)⟩
theorem evd_cat {ta tb : TE} {n m : Nat} {k1 k2 : Int} (h1 : EvDL b H0 ta σ n k1) (h2 : EvDL b H0 tb σ m k2) (hn : n + m ≤ 1000) : EvDL b H0 (tOp rCat ta tb) σ (n + m) (k1 + k2) := by
  obtain ⟨p1, h1⟩ := h1
  obtain ⟨p2, h2⟩ := h2
  refine ⟨by omega, fun H c Q s B hc hl q => h1 H c _ s B hc (by omega) fun p xs H1 s1 B1 hp np t1 e1 => h2 H1 (c + k1) _ (s.trans s1) B1 (by omega) (by omega) fun r ys H2 s2 B2 hr nr t2 e2 => ?_⟩
  refine ⟨p, r, xs, ys, rfl, rfl, hid_find s2 hp np, hr, sz1000 (by omega), fun l hl => ?_⟩
  exact q l _ _ ((s1.trans s2).trans (hid_new hl)) ((B2.new hl).mono (by omega)) upd_same (B2.ne hl) (((t1.mono s2).append t2).mono (hid_new hl)) (by rw [List.length_append]; omega)
theorem evd_varL {i : Nat} {a : Addr} {xs : List V} (h : σ[i]? = some (some (.ref a))) (ha : H0 a = some (.lst xs)) (na : a ≠ b) (t : Tgs (hid b H0) xs) : EvDL b H0 (tVar i) σ xs.length 0 :=
  ⟨by decide, fun H c Q s B _ _ q => ⟨_, h, q a xs H (Same.refl _) (B.mono (by omega)) (hid_find s ha na) na (t.mono s) rfl⟩⟩
theorem EvDL.set {te : TE} {n i : Nat} {k c : Int} {H : Hp} {rest : TS} {D : Ends} (B : Box H b c) (hc : 0 ≤ c) (hl : c + k ≤ lim) (h : EvDL b H te σ n k) (q : ∀ p xs H', Same (hid b H) (hid b H') → Box H' b (c + k) → H' p = some (.lst xs) → p ≠ b → Tgs (hid b H') xs → xs.length = n → rest D (σ.set i (some (.ref p))) H') : tSeq (tAsg te (gName i)) rest D σ H :=
  h.2 H c _ (Same.refl _) B hc hl q
end
theorem lit_ok (x : Str) (h : x.length ≤ 1000) (o : PyData.strOk x = true) : ∀ H, Tg H (.str x) := fun _ => .str x h o
section
variable {P : Program} {w : World} {K : PySem.W.Frag} {mg : Str → Option Value} {base : Heap}
set_option maxHeartbeats 16000000 in
theorem ok__law_value (T : Top K mg) : FnOk P w K mg base CX0 4 T.a__law_value T.d__law_value ["_law_box_here"] (spD 320 Tg) := by
  refine T.F__law_value.ok sc__law_value spD_len (fun cdv A outer s H vs Q E hr h => ?_)
  obtain ⟨b, c, rfl, hB, hc, hcl, q⟩ := h
  refine ⟨_, (pss_cons (ps_set (i := 1) sc__law_value.nd rfl (Or.inl rfl) (pe_call (ok__law_take T) (hr.mono (by decide)) (by rfl) T.g__law_take T.F__law_take.kp T.b__law_take .nil pass0 (pa_cons (pv 0) (pa_cons pe_int pa_nil))))
      (pss_cons (ps_set (i := 2) sc__law_value.nd rfl (Or.inl rfl) (pe_ix (ix_listK (K := K)) (pe_lst (pa_cons pe_int (pa_cons pe_int (pa_cons pe_int (pa_cons (pe_un un_neg pe_int) (pa_cons pe_bl (pa_cons pe_non (pa_cons (pe_op op_pow pe_int pe_int) (pa_cons pe_str pa_nil))))))))) (pe_call (ok__law_take T) (hr.mono (by decide)) (by rfl) T.g__law_take T.F__law_take.kp T.b__law_take .nil pass0 (pa_cons (pv 0) (pa_cons pe_int pa_nil))) (fun _ _ => rfl)))
      (pss_cons (ps_set (i := 3) sc__law_value.nd rfl (Or.inl rfl) (pe_ix (ix_listK (K := K)) (pe_lst (pa_cons pe_str (pa_cons pe_str (pa_cons pe_str (pa_cons pe_str (pa_cons pe_str (pa_cons pe_non (pa_cons (pe_lst (pa_cons pe_str pa_nil)) (pa_cons pe_str pa_nil))))))))) (pe_call (ok__law_take T) (hr.mono (by decide)) (by rfl) T.g__law_take T.F__law_take.kp T.b__law_take .nil pass0 (pa_cons (pv 0) (pa_cons pe_int pa_nil))) (fun _ _ => rfl)))
      (pss_cons (ps_if (pt_cmpR op_lt (pv 1) pe_int (nomark _)) (pss_one (ps_ret (pe_call (ok__law_word T) (hr.mono (by decide)) (by rfl) T.g__law_word T.F__law_word.kp T.b__law_word .nil pass0 (pa_cons (pv 0) pa_nil)))) pss_nil)
      (pss_cons (ps_if (pt_cmpR op_lt (pv 1) pe_int (nomark _)) (pss_one (ps_ret (pe_call (ok__law_person T) (hr.mono (by decide)) (by rfl) T.g__law_person T.F__law_person.kp T.b__law_person .nil pass0 (pa_cons (pv 0) pa_nil)))) pss_nil)
      (pss_cons (ps_if (pt_cmpR op_lt (pv 1) pe_int (nomark _)) (pss_one (ps_ret (pe_tup (pa_cons (pe_call (ok__law_person T) (hr.mono (by decide)) (by rfl) T.g__law_person T.F__law_person.kp T.b__law_person .nil pass0 (pa_cons (pv 0) pa_nil)) (pa_cons (pv 2) pa_nil))))) pss_nil)
      (pss_cons (ps_if (pt_cmpR op_lt (pv 1) pe_int (nomark _)) (pss_one (ps_ret (pe_tup (pa_cons (pe_call (ok__law_word T) (hr.mono (by decide)) (by rfl) T.g__law_word T.F__law_word.kp T.b__law_word .nil pass0 (pa_cons (pv 0) pa_nil)) (pa_cons (pv 3) pa_nil))))) pss_nil)
      (pss_cons (ps_set (i := 4) sc__law_value.nd rfl (Or.inl rfl) (pe_lst (pa_cons pe_non (pa_cons pe_bl (pa_cons pe_int (pa_cons (pe_tup pa_nil) (pa_cons (pe_lst pa_nil) (pa_cons pe_dnewK (pa_cons (pe_lst (pa_cons (pe_call (ok__law_person T) (hr.mono (by decide)) (by rfl) T.g__law_person T.F__law_person.kp T.b__law_person .nil pass0 (pa_cons (pv 0) pa_nil)) (pa_cons (pv 2) pa_nil))) pa_nil)))))))))
      (pss_cons (ps_set (i := 4) sc__law_value.nd rfl (Or.inl rfl) (pe_op op_cat (pv 4) (pe_lst (pa_cons (pe_tup (pa_cons (pe_call (ok__law_person T) (hr.mono (by decide)) (by rfl) T.g__law_person T.F__law_person.kp T.b__law_person .nil pass0 (pa_cons (pv 0) pa_nil)) (pa_cons (pv 2) (pa_cons pe_int pa_nil)))) (pa_cons (pe_tup (pa_cons (pv 2) (pa_cons (pv 3) pa_nil))) pa_nil)))))
      (pss_cons (ps_set (i := 4) sc__law_value.nd rfl (Or.inl rfl) (pe_op op_cat (pv 4) (pe_lst (pa_cons (pe_tup (pa_cons (pe_call (ok__law_word T) (hr.mono (by decide)) (by rfl) T.g__law_word T.F__law_word.kp T.b__law_word .nil pass0 (pa_cons (pv 0) pa_nil)) (pa_cons (pv 3) (pa_cons (pv 3) pa_nil)))) (pa_cons (pe_tup (pa_cons (pe_call (ok__law_person T) (hr.mono (by decide)) (by rfl) T.g__law_person T.F__law_person.kp T.b__law_person .nil pass0 (pa_cons (pv 0) pa_nil)) pa_nil)) pa_nil)))))
      (pss_cons (ps_set (i := 4) sc__law_value.nd rfl (Or.inl rfl) (pe_op op_cat (pv 4) (pe_lst (pa_cons (pe_tup (pa_cons (pe_tup (pa_cons (pe_call (ok__law_word T) (hr.mono (by decide)) (by rfl) T.g__law_word T.F__law_word.kp T.b__law_word .nil pass0 (pa_cons (pv 0) pa_nil)) pa_nil)) (pa_cons (pv 3) pa_nil))) pa_nil))))
      (pss_cons (ps_set (i := 4) sc__law_value.nd rfl (Or.inl rfl) (pe_op op_cat (pv 4) (pe_lst (pa_cons (pe_tup (pa_cons (pe_lst (pa_cons (pe_call (ok__law_person T) (hr.mono (by decide)) (by rfl) T.g__law_person T.F__law_person.kp T.b__law_person .nil pass0 (pa_cons (pv 0) pa_nil)) pa_nil)) (pa_cons pe_int pa_nil))) (pa_cons (pe_tup (pa_cons pe_dnewK (pa_cons (pv 2) pa_nil))) (pa_cons (pe_tup (pa_cons (pe_lst (pa_cons (pe_call (ok__law_word T) (hr.mono (by decide)) (by rfl) T.g__law_word T.F__law_word.kp T.b__law_word .nil pass0 (pa_cons (pv 0) pa_nil)) pa_nil)) (pa_cons pe_str pa_nil))) pa_nil))))))
      (pss_cons (ps_set (i := 4) sc__law_value.nd rfl (Or.inl rfl) (pe_op op_cat (pv 4) (pe_lst (pa_cons (pe_tup (pa_cons (pe_call (ok__law_word T) (hr.mono (by decide)) (by rfl) T.g__law_word T.F__law_word.kp T.b__law_word .nil pass0 (pa_cons (pv 0) pa_nil)) (pa_cons pe_dnewK pa_nil))) pa_nil))))
      (pss_cons (ps_set (i := 4) sc__law_value.nd rfl (Or.inl rfl) (pe_op op_cat (pv 4) (pe_lst (pa_cons pe_str (pa_cons pe_str (pa_cons (pe_tup (pa_cons pe_str (pa_cons pe_int pa_nil))) (pa_cons (pe_tup (pa_cons pe_str (pa_cons pe_str pa_nil))) (pa_cons (pe_tup (pa_cons pe_str (pa_cons pe_str pa_nil))) pa_nil))))))))
      (pss_one (ps_ret (pe_ix (ix_listK (K := K)) (pv 4) (pe_call (ok__law_take T) (hr.mono (by decide)) (by rfl) T.g__law_take T.F__law_take.kp T.b__law_take .nil pass0 (pa_cons (pv 0) (pa_cons pe_int pa_nil))) (fun _ _ => rfl)))))))))))))))))), ?_⟩
  -- way
  refine ⟨_, rfl, b, c, 12, rfl, hB, by decide, by decide, hc, by omega, fun d1 H1 s1 B1 w0 w1 => ?_⟩
  -- number
  refine ⟨1, rfl, 10, 20, rfl, rfl, ⟨by decide, by decide, by decide⟩, show 8 ≤ sizeLine by decide, fun p hp => ⟨_, rfl, b, c + 1, 8, rfl, B1.new hp, by decide, by decide, by omega, by omega, fun d2 H2 s2 B2 g0 g1 => ?_⟩⟩
  have h2p := hid_find s2 upd_same (B1.ne hp)
  obtain ⟨v2, hv2, hat2⟩ := atI_mem (xs := [V.int 0, V.int 1, V.int 7, V.int (-1), V.bl true, V.non, V.int (10 ^ (20 : Int).toNat), V.str "1"]) g0 g1
  have t2 : ∀ H', Tg H' v2 := fun H' => by
    have : Tgs H' [V.int 0, V.int 1, V.int 7, V.int (-1), V.bl true, V.non, V.int (10 ^ (20 : Int).toNat), V.str "1"] :=
      .cons (.int _) (.cons (.int _) (.cons (.int _) (.cons (.int _) (.cons (.bl _) (.cons .non (.cons (.int _) (.cons (.str _ (by decide) (by decide +kernel)) .nil)))))))
    exact this v2 hv2
  refine ⟨p, _, d2, v2, rfl, rfl, .inl (.inl h2p), hat2, ?_⟩
  clear hat2 hv2 h2p
  have S2 : Same (hid b H) (hid b H2) := (s1.trans (hid_new hp)).trans s2
  -- word
  refine ⟨show 1 ≤ sizeLine by decide, fun p2 hp2 => ⟨show 8 ≤ sizeLine by decide, fun p3 hp3 => ?_⟩⟩
  have n2 := B2.ne hp2
  have B2' := B2.new (o := .lst [.str "write"]) hp2
  have n3 := B2'.ne hp3
  refine ⟨_, rfl, b, c + 1 + 1, 8, rfl, B2'.new hp3, by decide, by decide, by omega, by omega, fun d3 H3 s3 B3 g2 g3 => ?_⟩
  have h3p := hid_find s3 upd_same n3
  obtain ⟨v3, hv3, hat3⟩ := atI_mem (xs := [V.str "write", V.str "mend", V.str "lead", V.str "read", V.str "", V.non, V.ref p2, V.str "Write"]) g2 g3
  have S3 : Same (hid b H) (hid b H3) := ((S2.trans (hid_new hp2)).trans (hid_new hp3)).trans s3
  have t3 : Tg (hid b H3) v3 := by
    have h2p : hid b H3 p2 = some (.lst [.str "write"]) := s3 _ _ (hid_new hp3 _ _ (hid_at n2))
    have : Tgs (hid b H3) [V.str "write", V.str "mend", V.str "lead", V.str "read", V.str "", V.non, V.ref p2, V.str "Write"] :=
      .cons (.str _ (by decide) (by decide +kernel)) (.cons (.str _ (by decide) (by decide +kernel)) (.cons (.str _ (by decide) (by decide +kernel)) (.cons (.str _ (by decide) (by decide +kernel)) (.cons (.str _ (by decide) (by decide +kernel)) (.cons .non (.cons (.lst h2p (.cons (.str _ (by decide) (by decide +kernel)) .nil)) (.cons (.str _ (by decide) (by decide +kernel)) .nil)))))))
    exact this v3 hv3
  refine ⟨p3, _, d3, v3, rfl, rfl, .inl (.inl h3p), hat3, ?_⟩
  clear hat3 hv3 h3p
  -- way < 2
  refine ⟨_, rfl, _, _, rfl, rfl, _, rfl, ite2 (fun _ => ?_) (fun _ => ?_)⟩
  · exact ⟨_, rfl, b, c + 3, rfl, B3.mono (by omega), by omega, by omega, fun v H' s' B' r => q _ _ (S3.trans s') (B'.mono (by omega)) (.txt r (by decide))⟩
  refine ⟨_, rfl, _, _, rfl, rfl, _, rfl, ite2 (fun _ => ?_) (fun _ => ?_)⟩
  · exact ⟨_, rfl, b, c + 3, rfl, B3.mono (by omega), by omega, by omega, fun v H' s' B' r => q _ _ (S3.trans s') (B'.mono (by omega)) (.txt r (by decide))⟩
  refine ⟨_, rfl, _, _, rfl, rfl, _, rfl, ite2 (fun _ => ?_) (fun _ => ?_)⟩
  · exact ⟨_, rfl, b, c + 3, rfl, B3.mono (by omega), by omega, by omega, fun v H' s' B' r => ⟨v2, rfl, show 2 ≤ sizeLine by decide, fun t ht =>
      q _ _ (S3.trans (s'.trans (hid_new ht))) ((B'.new ht).mono (by omega)) (.tup (hid_at (B'.ne ht)) (.cons (.txt r (by decide)) (.cons (t2 _) .nil)))⟩⟩
  refine ⟨_, rfl, _, _, rfl, rfl, _, rfl, ite2 (fun _ => ?_) (fun _ => ?_)⟩
  · exact ⟨_, rfl, b, c + 3, rfl, B3.mono (by omega), by omega, by omega, fun v H' s' B' r => ⟨v3, rfl, show 2 ≤ sizeLine by decide, fun t ht =>
      q _ _ (S3.trans (s'.trans (hid_new ht))) ((B'.new ht).mono (by omega)) (.tup (hid_at (B'.ne ht)) (.cons (.txt r (by decide)) (.cons (t3.mono (s'.trans (hid_new ht))) .nil)))⟩⟩
  -- odd
  have Rw : ∀ (H : Hp) (v : V), isTxt 9 H v → Tg H v := fun H v h => .txt h (by decide)
  have Rq : ∀ (H : Hp) (v : V), isTxt 100 H v → Tg H v := fun H v h => .txt h (by decide)
  have l1 : ∀ H, Tg H (.str "ann\n") := lit_ok _ (by decide) (by decide +kernel)
  have l2 : ∀ H, Tg H (.str "ann.bob\n") := lit_ok _ (by decide) (by decide +kernel)
  have l3 : ∀ H, Tg H (.str "hall\n") := lit_ok _ (by decide) (by decide +kernel)
  have l4 : ∀ H, Tg H (.str "hall") := lit_ok _ (by decide) (by decide +kernel)
  have l5 : ∀ H, Tg H (.str "write") := lit_ok _ (by decide) (by decide +kernel)
  have l6 : ∀ H, Tg H (.str "write\n") := lit_ok _ (by decide) (by decide +kernel)
  have B3' : Box H3 b (c + 3) := B3.mono (by omega)
  dsimp only [tNext]
  refine EvDL.set (n := 7) (k := 68) B3' (by omega) (by omega) ?ev1 fun a1 x1 G1 f1 D1 e1 na1 T1 len1 => ?_
  case ev1 => exact (evd_lst (evd_cons (evd_c fun _ => .non) (evd_cons (evd_c fun _ => .bl _) (evd_cons (evd_c fun _ => .int _) (evd_cons (evd_tup evd_nil (by decide)) (evd_cons (evd_lst evd_nil (by decide)).ev (evd_cons evd_dnew (evd_cons (evd_lst (evd_cons (evd_call (k := 68) rfl (by decide) Rq) (evd_cons (evd_var rfl (t2 _)) evd_nil)) (by decide)).ev evd_nil))))))) (by decide))
  have t31 := t3.mono f1
  refine EvDL.set (n := x1.length + 2) (k := 68) D1 (by omega) (by omega) ?ev2 fun a2 x2 G2 f2 D2 e2 na2 T2 len2 => ?_
  case ev2 => exact (evd_cat (evd_varL rfl e1 na1 T1) (evd_lst (evd_cons (evd_tup (evd_cons (evd_call (k := 68) rfl (by decide) Rq) (evd_cons (evd_var rfl (t2 _)) (evd_cons (evd_c fun _ => .int _) evd_nil))) (by decide)) (evd_cons (evd_tup (evd_cons (evd_var rfl (t2 _)) (evd_cons (evd_var rfl t31) evd_nil)) (by decide)) evd_nil)) (by decide)) (by omega))
  have t32 := t31.mono f2
  refine EvDL.set (n := x2.length + 2) (k := 79) D2 (by omega) (by omega) ?ev3 fun a3 x3 G3 f3 D3 e3 na3 T3 len3 => ?_
  case ev3 => exact (evd_cat (evd_varL rfl e2 na2 T2) (evd_lst (evd_cons (evd_tup (evd_cons (evd_call (k := 11) rfl (by decide) Rw) (evd_cons (evd_var rfl t32) (evd_cons (evd_var rfl t32) evd_nil))) (by decide)) (evd_cons (evd_tup (evd_cons (evd_call (k := 68) rfl (by decide) Rq) evd_nil) (by decide)) evd_nil)) (by decide)) (by omega))
  have t33 := t32.mono f3
  refine EvDL.set (n := x3.length + 1) (k := 11) D3 (by omega) (by omega) ?ev4 fun a4 x4 G4 f4 D4 e4 na4 T4 len4 => ?_
  case ev4 => exact (evd_cat (evd_varL rfl e3 na3 T3) (evd_lst (evd_cons (evd_tup (evd_cons (evd_tup (evd_cons (evd_call (k := 11) rfl (by decide) Rw) evd_nil) (by decide)) (evd_cons (evd_var rfl t33) evd_nil)) (by decide)) evd_nil) (by decide)) (by omega))
  refine EvDL.set (n := x4.length + 3) (k := 79) D4 (by omega) (by omega) ?ev5 fun a5 x5 G5 f5 D5 e5 na5 T5 len5 => ?_
  case ev5 => exact (evd_cat (evd_varL rfl e4 na4 T4) (evd_lst (evd_cons (evd_tup (evd_cons (evd_lst (evd_cons (evd_call (k := 68) rfl (by decide) Rq) evd_nil) (by decide)).ev (evd_cons (evd_c fun _ => .int _) evd_nil)) (by decide)) (evd_cons (evd_tup (evd_cons evd_dnew (evd_cons (evd_var rfl (t2 _)) evd_nil)) (by decide)) (evd_cons (evd_tup (evd_cons (evd_lst (evd_cons (evd_call (k := 11) rfl (by decide) Rw) evd_nil) (by decide)).ev (evd_cons (evd_c l5) evd_nil)) (by decide)) evd_nil))) (by decide)) (by omega))
  refine EvDL.set (n := x5.length + 1) (k := 11) D5 (by omega) (by omega) ?ev6 fun a6 x6 G6 f6 D6 e6 na6 T6 len6 => ?_
  case ev6 => exact (evd_cat (evd_varL rfl e5 na5 T5) (evd_lst (evd_cons (evd_tup (evd_cons (evd_call (k := 11) rfl (by decide) Rw) (evd_cons evd_dnew evd_nil)) (by decide)) evd_nil) (by decide)) (by omega))
  refine EvDL.set (n := x6.length + 5) (k := 0) D6 (by omega) (by omega) ?ev7 fun a7 x7 G7 f7 D7 e7 na7 T7 len7 => ?_
  case ev7 => exact (evd_cat (evd_varL rfl e6 na6 T6) (evd_lst (evd_cons (evd_c l1) (evd_cons (evd_c l2) (evd_cons (evd_tup (evd_cons (evd_c l1) (evd_cons (evd_c fun _ => .int _) evd_nil)) (by decide)) (evd_cons (evd_tup (evd_cons (evd_c l3) (evd_cons (evd_c l5) evd_nil)) (by decide)) (evd_cons (evd_tup (evd_cons (evd_c l4) (evd_cons (evd_c l6) evd_nil)) (by decide)) evd_nil))))) (by decide)) (by omega))
  refine ⟨_, rfl, _, rfl, b, _, 21, rfl, D7, by decide, by decide, by omega, by omega, fun d8 H8 s8 B8 k0 k1 => ?_⟩
  obtain ⟨v, hv, hat⟩ := atI_mem (xs := x7) k0 (by omega)
  exact ⟨a7, x7, d8, v, rfl, rfl, .inl (.inl (hid_find s8 e7 na7)), hat, q v _ (S3.trans (f1.trans (f2.trans (f3.trans (f4.trans (f5.trans (f6.trans (f7.trans s8)))))))) (B8.mono (by omega)) ((T7 v hv).mono s8)⟩
end
end Kx

set_option Elab.async false
set_option linter.all false
set_option maxRecDepth 100000
set_option maxHeartbeats 4000000
namespace Kx
open PySem PySem.Spec PyProof.Rows L2
def spR : Sp := fun vs H Q _ => ∃ v, vs = [v] ∧ Tg H v ∧ ∀ H', Same H H' → Q (.bl true) H'
theorem neS {c A B : Prop} {b : Bool} (h : B) : if (!decide (V.bl b = V.bl b)) = true then A else B := iteNS rfl h
theorem person_str {d : PyData} (h : personD d = true) : ∃ x, d = .str x := by
  cases d with
  | str x => exact ⟨x, rfl⟩
  | _ => cases h
theorem eqv_strs (l : List Str) (h : ∀ x ∈ l, PyData.strOk x = true) : PyData.eqv (.list (l.map PyData.str)) (.list (l.map PyData.str)) = true :=
  SeqAt.eqv_refl _ (by rw [PyData.canLay0]; exact lay_strs l h)
section
variable {P : Program} {w : World} {K : PySem.W.Frag} {mg : Str → Option Value} {base : Heap}
theorem ok__law_right (T : Top K mg) : FnOk P w K mg base CX0 4 T.a__law_right T.d__law_right ["_law_thing"] spR := by
  refine T.F__law_right.ok sc__law_right (fun vs H Q E h => ?_) (fun cdv A outer s H vs Q E hr h => ?_)
  · obtain ⟨v, rfl, _⟩ := h
    rfl
  obtain ⟨v, rfl, ⟨d, hv, hd⟩, q⟩ := h
  refine ⟨_, (pss_cons (ps_if (PW.pt (pw_or (pt_cmpR op_ne (pe_call (ok_is_name T) (hr.mono (by decide)) (by rfl) T.g_is_name T.F_is_name.kp T.b_is_name .nil pass0 (pa_cons (pv 0) pa_nil)) (pe_call (ok__law_is_name T) (hr.mono (by decide)) (by rfl) T.g__law_is_name T.F__law_is_name.kp T.b__law_is_name .nil pass0 (pa_cons (pv 0) pa_nil)) (nomark _)) (pw_or1 (pt_cmpR op_ne (pe_call (ok_is_person T) (hr.mono (by decide)) (by rfl) T.g_is_person T.F_is_person.kp T.b_is_person .nil pass0 (pa_cons (pv 0) pa_nil)) (pe_call (ok__law_is_person T) (hr.mono (by decide)) (by rfl) T.g__law_is_person T.F__law_is_person.kp T.b__law_is_person .nil pass0 (pa_cons (pv 0) pa_nil)) (nomark _))))) (pss_one (ps_ret pe_bl)) pss_nil)
      (pss_cons (ps_if (PW.pt (pw_or (pt_cmpR op_ne (pe_call (ok_is_right T) (hr.mono (by decide)) (by rfl) T.g_is_right T.F_is_right.kp T.b_is_right .nil pass0 (pa_cons (pv 0) pa_nil)) (pe_call (ok__law_is_right T) (hr.mono (by decide)) (by rfl) T.g__law_is_right T.F__law_is_right.kp T.b__law_is_right .nil pass0 (pa_cons (pv 0) pa_nil)) (nomark _)) (pw_or1 (pt_cmpR op_ne (pe_callN0 (ok_is_id T) (hr.mono (by decide)) (by rfl) T.g_is_id T.F_is_id.kp T.kb_is_id pass0 (pk_cons (pv 0) pk_nil)) (pe_call (ok__law_is_id T) (hr.mono (by decide)) (by rfl) T.g__law_is_id T.F__law_is_id.kp T.b__law_is_id .nil pass0 (pa_cons (pv 0) pa_nil)) (nomark _))))) (pss_one (ps_ret pe_bl)) pss_nil)
      (pss_cons (ps_if (pt_not (pt_val (pe_call (ok__law_is_person T) (hr.mono (by decide)) (by rfl) T.g__law_is_person T.F__law_is_person.kp T.b__law_is_person .nil pass0 (pa_cons (pv 0) pa_nil)))) (pss_one (ps_ret pe_bl)) pss_nil)
      (pss_cons (ps_set (i := 1) sc__law_right.nd rfl (Or.inr rfl) (pe_split (pv 0) pe_str))
      (pss_cons (ps_set (i := 2) sc__law_right.nd rfl (Or.inl rfl) (pe_call (ok_above T) (hr.mono (by decide)) (by rfl) T.g_above T.F_above.kp T.b_above .nil pass0 (pa_cons (pv 0) pa_nil)))
      (pss_cons (ps_setLc (i := 3) (own := [("_law_k", 5)]) (g := gName 5) rfl sc__law_right.nd rfl rfl (sw_true rfl rfl rfl (by decide +kernel)) (pi_range1 (by rfl) T.m_range (pa_cons (pe_op op_sub (pe_callB (call_lenK (K := K)) (by rfl) T.m_len (by decide +kernel) (pa_cons (pv 1) pa_nil)) pe_int) pa_nil)) (blkOk_by (own := [("_law_k", 5)]) (N := n__law_right) (sc := defScope s__law_right) (by decide +kernel)) (fun _ _ _ _ _ => pg_name (i := 5) sc__law_right.nd rfl (Or.inl rfl)) (fun _ _ _ _ _ => pts_nil) (fun _ _ _ _ _ => (pe_joinK (K := K) pe_str (pe_slice (sl_listK (K := K)) (pv 1) po_none (po_some (pe_op op_add (pv 5) pe_int))))))
      (pss_cons (ps_set (i := 4) sc__law_right.nd rfl (Or.inl rfl) (pe_callTy (call_list_ofK (K := K)) (by rfl) T.m_list (by decide +kernel) (pa_cons (pv 2) pa_nil)))
      (pss_cons (ps_expr (pe_bm PySem.F.plainAttrs_list PySem.F.slot_list_append PySem.F.type_list_append mt_append (pv 2) (pa_cons (pv 0) pa_nil)))
      (pss_one (ps_ret (pe_and (pe_cmpR (op_eqDK (K := K) hr.units) (pv 4) (pv 3) (nomark _)) (pe_one (pe_cmpR (op_eqDK (K := K) hr.units) (pe_callN0 (ok_above T) (hr.mono (by decide)) (by rfl) T.g_above T.F_above.kp T.kb_above pass0 (pk_cons (pv 0) pk_nil)) (pv 3) (nomark _)))))))))))))), ?_⟩
  refine ⟨v, rfl, v, d, rfl, hv, hd, fun H1 s1 => ⟨v, rfl, v, d, rfl, hv.mono s1, hd, fun H2 s2 => ⟨rfl, _, rfl, iteNS rfl ?_⟩⟩⟩
  have hv2 := (hv.mono s1).mono s2
  refine ⟨v, rfl, v, d, rfl, hv2, hd, fun H3 s3 => ⟨v, rfl, v, d, rfl, hv2.mono s3, hd, fun H4 s4 => ⟨rfl, _, rfl, iteNS rfl ?_⟩⟩⟩
  have hv4 := (hv2.mono s3).mono s4
  refine ⟨v, rfl, v, d, rfl, hv4, hd, fun H5 s5 => ⟨v, rfl, v, d, rfl, hv4.mono s5, hd, fun H6 s6 => ⟨rfl, _, rfl, iteNS rfl ?_⟩⟩⟩
  have hv6 := (hv4.mono s5).mono s6
  refine ⟨v, rfl, rfl, rfl, v, d, rfl, hv6, hd, fun H7 s7 => ⟨v, rfl, v, d, rfl, hv6.mono s7, hd, fun H8 s8 => ⟨rfl, _, rfl, iteNS rfl ?_⟩⟩⟩
  have hv8 := (hv6.mono s7).mono s8
  have S8 : Same H H8 := s1.trans (s2.trans (s3.trans (s4.trans (s5.trans (s6.trans (s7.trans s8))))))
  refine ⟨v, rfl, v, d, rfl, hv8, hd, fun H9 s9 => ⟨_, rfl, ?_⟩⟩
  cases hp : personD d
  · exact iteT (q _ (S8.trans s9))
  refine iteF ?_
  obtain ⟨x, rfl⟩ := person_str hp
  cases hv
  cases hd with
  | str _ hx ho =>
  have S9 := S8.trans s9
  clear hv8 hv6 hv4 hv2 S8 s1 s2 s3 s4 s5 s6 s7 s8 s9
  have hm := split_many x hx
  -- names
  refine ⟨_, rfl, ⟨x, rfl⟩, x, ".", rfl, rfl, rfl, sz2 hx, fun p hp => ?_⟩
  have Sp : Same H9 (upd H9 p (.lst ((splitP x).map V.str))) := same_upd hp
  have hpn : (upd H9 p (.lst ((splitP x).map V.str))) p = some (.lst ((splitP x).map V.str)) := upd_same
  -- found
  refine ⟨_, rfl, x, rfl, hx, fun H10 f s10 nf ef => ?_⟩
  have hp10 := s10 _ _ hpn
  have S10 : Same H9 H10 := Sp.trans s10
  -- due
  refine ⟨.ref p, rfl, .ref p, (splitP x).length, rfl, .inl ⟨_, .inl (.inl hp10), (List.length_map ..).symm⟩, _, _, rfl, rfl, _, rfl, by omega, by omega, fun D hD => ?_⟩
  have e0 : ((splitP x).length - 1 : Int).toNat = (splitP x).length - 1 := by omega
  rw [e0]
  refine lc_range (lo := 0) (n := (splitP x).length - 1) (Adds H10 D fun i => some (.str (Txt.join "." ((splitP x).take (i + 1))))) (adds0 hD) (fun i H3 hi a => ?_) (fun H11 a => ?_)
  · refine ⟨rfl, ⟨_, rfl⟩, .ref p, rfl, _, rfl, _, _, rfl, rfl, _, rfl, p, _, rfl, .inl (.inl (a.1 _ _ hp10)), fun c hc => ?_⟩
    refine ⟨".", c, (splitP x).take (i + 1), rfl, rfl, .inl (.inl (.inl ?_)), take_room x hx _, adds_some hD a (by omega) (same_upd hc) rfl⟩
    rw [upd_same, show (0 : Int) + (i : Int) + 1 = ((i + 1 : Nat) : Int) by omega, cut_take, List.map_take]
  have hdue : H11 D = some (.lst ((aboveL x).map V.str)) := by
    rw [a.2]
    unfold outs aboveL
    rw [List.map_map]
    simp
  have s11 := a.1
  have ef11 := s11 _ _ ef
  have hok := above_ok x ho
  have hlen : (aboveL x).length ≤ 1002 := by
    unfold aboveL
    rw [List.length_map, List.length_range]
    omega
  -- kept
  refine ⟨.ref f, rfl, f, (aboveL x).map V.str, rfl, .inl (.inl (.inl ef11)), fun l hl => ?_⟩
  have nlf : l ≠ f := (ne_of_none ef11 hl).symm
  have nlD : l ≠ D := (ne_of_none hdue hl).symm
  have nfD : f ≠ D := ne_of_none ef hD
  have ef12 := same_upd (o := .lst ((aboveL x).map V.str)) hl _ _ ef11
  have hd12 := same_upd (o := .lst ((aboveL x).map V.str)) hl _ _ hdue
  -- append
  refine ⟨.ref f, rfl, .inl ⟨rfl, _, .inl (.inl ef12)⟩, _, rfl, f, _, _, rfl, rfl, ef12, ?_, ?_⟩
  · rw [List.length_map]
    exact Nat.lt_of_le_of_lt hlen (by decide)
  have hl13 : (upd (upd H11 l (.lst ((aboveL x).map V.str))) f (.lst ((aboveL x).map V.str ++ [V.str x]))) l = some (.lst ((aboveL x).map V.str)) := by
    rw [upd_ne nlf, upd_same]
  have hd13 : (upd (upd H11 l (.lst ((aboveL x).map V.str))) f (.lst ((aboveL x).map V.str ++ [V.str x]))) D = some (.lst ((aboveL x).map V.str)) := by
    rw [upd_ne nfD.symm]
    exact hd12
  have nf9 : H9 f = none := Sp.free nf
  have S13 : Same H9 (upd (upd H11 l (.lst ((aboveL x).map V.str))) f (.lst ((aboveL x).map V.str ++ [V.str x]))) := Kx.Same.mut ((S10.trans s11).trans (same_upd hl)) nf9
  refine ⟨_, rfl, _, rfl, _, _, eq_strs _ hok hl13, eq_strs _ hok hd13, shaped_strs _ hok, shaped_strs _ hok, _, rfl, ?_⟩
  rw [eqv_strs _ hok]
  refine ⟨_, rfl, rfl, rfl, x, rfl, hx, fun H14 g s14 ng eg => ⟨_, rfl, _, _, eq_strs _ hok eg, eq_strs _ hok (s14 _ _ hd13), shaped_strs _ hok, shaped_strs _ hok, ?_⟩⟩
  rw [eqv_strs _ hok]
  exact q _ (S9.trans (S13.trans s14))
end
/-! ### the law -/
def spLaw (K : PySem.W.Frag) : Sp := fun vs H Q _ => ∃ (a : Addr) (ns : List Int), vs = [.ref a] ∧ SqL K H a (ns.map V.int) ∧ ns.length ≤ 63 ∧ ∀ H', Q (.bl true) H'
section
variable {P : Program} {w : World} {K : PySem.W.Frag} {mg : Str → Option Value} {base : Heap}
theorem ok_law (T : Top K mg) : FnOk P w K mg base CX0 5 T.a_law T.d_law ["_law_script"] (spLaw K) := by
  refine T.F_law.ok sc_law (fun vs H Q E h => ?_) (fun cdv A outer s H vs Q E hr h => ?_)
  · obtain ⟨a, ns, rfl, _⟩ := h
    rfl
  obtain ⟨a, ns, rfl, hS, hlen, q⟩ := h
  refine ⟨_, (pss_cons (ps_for PassesOwn.never rfl (pi_listK (K := K) (pe_lst (pa_cons pe_str (pa_cons pe_str (pa_cons (pe_tup (pa_cons pe_str (pa_cons pe_int pa_nil))) (pa_cons (pe_tup (pa_cons pe_str (pa_cons pe_str pa_nil))) (pa_cons (pe_tup (pa_cons pe_str (pa_cons pe_str pa_nil))) (pa_cons pe_str pa_nil)))))))) (pg_name (i := 1) sc_law.nd rfl (Or.inl rfl)) (pss_one (ps_if (pt_not (pt_val (pe_call (ok__law_right T) (hr.mono (by decide)) (by rfl) T.g__law_right T.F__law_right.kp T.b__law_right .nil pass0 (pa_cons (pv 1) pa_nil)))) (pss_one (ps_ret pe_bl)) pss_nil)))
      (pss_cons (ps_for PassesOwn.never rfl (pi_range1 (by rfl) T.m_range (pa_cons (pe_callB (call_max2 rfl) (by rfl) T.m_max (by decide +kernel) (pa_cons pe_int (pa_cons (pe_callB (call_min2 rfl) (by rfl) T.m_min (by decide +kernel) (pa_cons pe_int (pa_cons (pe_callB (call_lenK (K := K)) (by rfl) T.m_len (by decide +kernel) (pa_cons (pv 0) pa_nil)) pa_nil))) pa_nil))) pa_nil)) (pg_name (i := 2) sc_law.nd rfl (Or.inl rfl)) (pss_cons (ps_set (i := 3) sc_law.nd rfl (Or.inl rfl) (pe_call (ok__law_box T) (hr.mono (by decide)) (by rfl) T.g__law_box T.F__law_box.kp T.b__law_box .nil pass0 (pa_cons (pe_call (ok__law_cell T) (hr.mono (by decide)) (by rfl) T.g__law_cell T.F__law_cell.kp T.b__law_cell .nil pass0 (pa_cons (pv 0) (pa_cons (pv 2) pa_nil))) pa_nil)))
        (pss_one (ps_for PassesOwn.never rfl (pi_range1 (by rfl) T.m_range (pa_cons pe_int pa_nil)) (pg_name (i := 4) sc_law.nd rfl (Or.inl rfl)) (pss_one (ps_if (pt_not (pt_val (pe_call (ok__law_right T) (hr.mono (by decide)) (by rfl) T.g__law_right T.F__law_right.kp T.b__law_right .nil pass0 (pa_cons (pe_call (ok__law_value T) (hr.mono (by decide)) (by rfl) T.g__law_value T.F__law_value.kp T.b__law_value .nil pass0 (pa_cons (pv 3) pa_nil)) pa_nil)))) (pss_one (ps_ret pe_bl)) pss_nil))))))
      (pss_one (ps_ret pe_bl)))), ?_⟩
  refine ⟨show 2 ≤ sizeLine by decide, fun p1 hp1 => ⟨show 2 ≤ sizeLine by decide, fun p2 hp2 => ⟨show 2 ≤ sizeLine by decide, fun p3 hp3 => ⟨show 6 ≤ sizeLine by decide, fun l hl => ?_⟩⟩⟩⟩
  have s0 : Same H (upd (upd (upd (upd H p1 (.tup [.str "ann\n", .int 0])) p2 (.tup [.str "hall\n", .str "write"])) p3 (.tup [.str "hall", .str "write\n"])) l (.lst [.str "ann\n", .str "ann.bob\n", .ref p1, .ref p2, .ref p3, .str "\nann"])) :=
    (((same_upd hp1).trans (same_upd hp2)).trans (same_upd hp3)).trans (same_upd hl)
  have k1 := same_upd (o := .lst [.str "ann\n", .str "ann.bob\n", .ref p1, .ref p2, .ref p3, .str "\nann"]) hl _ _ (same_upd (o := .tup [.str "hall", .str "write\n"]) hp3 _ _ (same_upd (o := .tup [.str "hall\n", .str "write"]) hp2 _ _ (upd_same (H := H) (a := p1) (o := .tup [.str "ann\n", .int 0]))))
  have k2 := same_upd (o := .lst [.str "ann\n", .str "ann.bob\n", .ref p1, .ref p2, .ref p3, .str "\nann"]) hl _ _ (same_upd (o := .tup [.str "hall", .str "write\n"]) hp3 _ _ (upd_same (a := p2) (o := .tup [.str "hall\n", .str "write"])))
  have k3 := same_upd (o := .lst [.str "ann\n", .str "ann.bob\n", .ref p1, .ref p2, .ref p3, .str "\nann"]) hl _ _ (upd_same (a := p3) (o := .tup [.str "hall", .str "write\n"]))
  have k4 := upd_same (H := upd (upd (upd H p1 (.tup [.str "ann\n", .int 0])) p2 (.tup [.str "hall\n", .str "write"])) p3 (.tup [.str "hall", .str "write\n"])) (a := l) (o := .lst [.str "ann\n", .str "ann.bob\n", .ref p1, .ref p2, .ref p3, .str "\nann"])
  generalize upd (upd (upd (upd H p1 (.tup [.str "ann\n", .int 0])) p2 (.tup [.str "hall\n", .str "write"])) p3 (.tup [.str "hall", .str "write\n"])) l (.lst [.str "ann\n", .str "ann.bob\n", .ref p1, .ref p2, .ref p3, .str "\nann"]) = H0 at s0 k1 k2 k3 k4 ⊢
  have l1 : ∀ H, Tg H (.str "ann\n") := lit_ok _ (by decide) (by decide +kernel)
  have l2 : ∀ H, Tg H (.str "ann.bob\n") := lit_ok _ (by decide) (by decide +kernel)
  have l3 : ∀ H, Tg H (.str "hall\n") := lit_ok _ (by decide) (by decide +kernel)
  have l4 : ∀ H, Tg H (.str "hall") := lit_ok _ (by decide) (by decide +kernel)
  have l5 : ∀ H, Tg H (.str "write") := lit_ok _ (by decide) (by decide +kernel)
  have l6 : ∀ H, Tg H (.str "write\n") := lit_ok _ (by decide) (by decide +kernel)
  have l7 : ∀ H, Tg H (.str "\nann") := lit_ok _ (by decide) (by decide +kernel)
  have t0 : Tgs H0 [.str "ann\n", .str "ann.bob\n", .ref p1, .ref p2, .ref p3, .str "\nann"] :=
    .cons (l1 _) (.cons (l2 _) (.cons (.tup k1 (.cons (l1 _) (.cons (.int _) .nil))) (.cons (.tup k2 (.cons (l3 _) (.cons (l5 _) .nil))) (.cons (.tup k3 (.cons (l4 _) (.cons (l6 _) .nil))) (.cons (l7 _) .nil)))))
  clear hl hp3 hp2 hp1 k1 k2 k3 l1 l2 l3 l4 l5 l6 l7
  generalize [V.str "ann\n", .str "ann.bob\n", .ref p1, .ref p2, .ref p3, .str "\nann"] = xs at k4 t0
  have hS0 : SqL K H0 a (ns.map V.int) := s0.seq hS
  refine ⟨l, rfl, ⟨_, .inl (.inl k4)⟩, ?_⟩
  refine for_list (K := K) (a := l) (xs := xs) (fun i σ H' => Same H0 H' ∧ ∃ y, σ = [some (.ref a), y, none, none, none]) ⟨Same.refl _, none, rfl⟩ (fun i σ H' _ h => .inl (.inl (h.1 _ _ k4))) (fun i x σ H' hx h => ?_) (fun σ H' h => ?_)
  · obtain ⟨h1, y, rfl⟩ := h
    exact ⟨x, rfl, x, rfl, (t0 x (List.mem_of_getElem? hx)).mono h1, fun H2 s2 => ⟨true, rfl, iteF ⟨h1.trans s2, _, rfl⟩⟩⟩
  obtain ⟨h1, y, rfl⟩ := h
  have hS1 : SqL K H' a (ns.map V.int) := h1.seq hS0
  refine ⟨.ref a, rfl, .ref a, ns.length, rfl, .inl ⟨_, hS1, (List.length_map ..).symm⟩, _, _, rfl, _, _, rfl, _, rfl, ?_, ?_, ?_⟩
  · split <;> split <;> omega
  · split <;> split <;> omega
  clear k4 t0 hS0 s0 h1
  generalize (if (if ((ns.length : Nat) : Int) < 12 then ((ns.length : Nat) : Int) else 12) > 1 then (if ((ns.length : Nat) : Int) < 12 then ((ns.length : Nat) : Int) else 12) else 1 : Int).toNat = m
  refine for_range (lo := 0) (n := m) (fun i σ H2 => Same H' H2 ∧ ∃ y y2 y3 y4, σ = [some (.ref a), y, y2, y3, y4]) ⟨Same.refl _, _, _, _, _, rfl⟩ (fun i σ H2 hi h => ?_) (fun σ H2 h => ?_)
  · obtain ⟨h1, y, y2, y3, y4, rfl⟩ := h
    refine ⟨_, rfl, _, rfl, a, ns, i, by simp, h1.seq hS1, fun n => ⟨n, rfl, fun b H3 s3 nb B3 => ?_⟩⟩
    refine ⟨8, rfl, by decide, by decide, ?_⟩
    refine for_range (lo := 0) (n := 8) (fun j σ H4 => Same (hid b H3) (hid b H4) ∧ Box H4 b (320 * j) ∧ ∃ y y2 y4, σ = [some (.ref a), y, y2, some (.ref b), y4]) ⟨Same.refl _, B3.mono (by decide), _, _, _, rfl⟩ (fun j σ H4 hj h => ?_) (fun σ H4 h => ?_)
    · obtain ⟨g1, B4, z, z2, z4, rfl⟩ := h
      have el : lim = 1000000000 := rfl
      refine ⟨_, rfl, b, 320 * j, rfl, B4, by omega, by omega, fun v H5 s5 B5 t5 => ⟨v, rfl, t5.mono (hid_same _ _), fun H6 s6 => ⟨true, rfl, iteF ⟨(g1.trans s5).trans (hid_mono s6), ?_, _, _, _, rfl⟩⟩⟩⟩
      obtain ⟨n0, fl, n2, n3, e1, e2, e3, e4, e5, e6⟩ := B5
      exact ⟨n0, fl, n2, n3, s6 _ _ e1, e2, e3, e4, e5, by omega⟩
    · obtain ⟨g1, B4, z, z2, z4, rfl⟩ := h
      refine ⟨fun b' o e => ?_, _, _, _, _, rfl⟩
      have e2 := h1 _ _ e
      exact hid_find g1 (s3 _ _ e2) (ne_of_none e2 nb)
  · obtain ⟨h1, y, y2, y3, y4, rfl⟩ := h
    exact q _
end
end Kx

set_option Elab.async false
set_option linter.all false
set_option maxRecDepth 100000
set_option maxHeartbeats 4000000
namespace Kx
open PySem PySem.Spec PyProof.Rows L2
def top_of {K : PySem.W.Frag} {h : Heap} {mg : Str → Option Value} {t_LETTERS : Tok} {a_WORDS : Addr} {k_WORDS : Nat} {t_WORDS_0 t_WORDS_1 t_WORDS_2 : Tok} {od_WORDS : Option Addr} {sl_WORDS : Array (Option Value)} {t_MOST_LETTERS : Tok} {t_MOST_NAMES : Tok} {f_is_integer : Addr} {od_is_integer an_is_integer : Option Addr} {sl_is_integer : Array (Option Value)} {oc_is_integer kV_is_integer dc_is_integer pm_is_integer cd_is_integer ct_is_integer : Value} {f_is_count : Addr} {od_is_count an_is_count : Option Addr} {sl_is_count : Array (Option Value)} {oc_is_count kV_is_count dc_is_count pm_is_count cd_is_count ct_is_count : Value} {f_is_name : Addr} {od_is_name an_is_name : Option Addr} {sl_is_name : Array (Option Value)} {oc_is_name kV_is_name dc_is_name pm_is_name cd_is_name ct_is_name : Value} {f_is_person : Addr} {od_is_person an_is_person : Option Addr} {sl_is_person : Array (Option Value)} {oc_is_person kV_is_person dc_is_person pm_is_person cd_is_person ct_is_person : Value} {f_is_right : Addr} {od_is_right an_is_right : Option Addr} {sl_is_right : Array (Option Value)} {oc_is_right kV_is_right dc_is_right pm_is_right cd_is_right ct_is_right : Value} {f_is_id : Addr} {od_is_id an_is_id : Option Addr} {sl_is_id : Array (Option Value)} {oc_is_id kV_is_id dc_is_id pm_is_id cd_is_id ct_is_id : Value} {f_above : Addr} {od_above an_above : Option Addr} {sl_above : Array (Option Value)} {oc_above kV_above dc_above pm_above cd_above ct_above : Value} {f__law_cell : Addr} {od__law_cell an__law_cell : Option Addr} {sl__law_cell : Array (Option Value)} {oc__law_cell kV__law_cell dc__law_cell pm__law_cell cd__law_cell ct__law_cell : Value} {f__law_box : Addr} {od__law_box an__law_box : Option Addr} {sl__law_box : Array (Option Value)} {oc__law_box kV__law_box dc__law_box pm__law_box cd__law_box ct__law_box : Value} {f__law_take : Addr} {od__law_take an__law_take : Option Addr} {sl__law_take : Array (Option Value)} {oc__law_take kV__law_take dc__law_take pm__law_take cd__law_take ct__law_take : Value} {f__law_word : Addr} {od__law_word an__law_word : Option Addr} {sl__law_word : Array (Option Value)} {oc__law_word kV__law_word dc__law_word pm__law_word cd__law_word ct__law_word : Value} {f__law_is_name : Addr} {od__law_is_name an__law_is_name : Option Addr} {sl__law_is_name : Array (Option Value)} {oc__law_is_name kV__law_is_name dc__law_is_name pm__law_is_name cd__law_is_name ct__law_is_name : Value} {f__law_is_person : Addr} {od__law_is_person an__law_is_person : Option Addr} {sl__law_is_person : Array (Option Value)} {oc__law_is_person kV__law_is_person dc__law_is_person pm__law_is_person cd__law_is_person ct__law_is_person : Value} {f__law_is_number : Addr} {od__law_is_number an__law_is_number : Option Addr} {sl__law_is_number : Array (Option Value)} {oc__law_is_number kV__law_is_number dc__law_is_number pm__law_is_number cd__law_is_number ct__law_is_number : Value} {f__law_is_id : Addr} {od__law_is_id an__law_is_id : Option Addr} {sl__law_is_id : Array (Option Value)} {oc__law_is_id kV__law_is_id dc__law_is_id pm__law_is_id cd__law_is_id ct__law_is_id : Value} {f__law_is_right : Addr} {od__law_is_right an__law_is_right : Option Addr} {sl__law_is_right : Array (Option Value)} {oc__law_is_right kV__law_is_right dc__law_is_right pm__law_is_right cd__law_is_right ct__law_is_right : Value} {f__law_person : Addr} {od__law_person an__law_person : Option Addr} {sl__law_person : Array (Option Value)} {oc__law_person kV__law_person dc__law_person pm__law_person cd__law_person ct__law_person : Value} {f__law_value : Addr} {od__law_value an__law_value : Option Addr} {sl__law_value : Array (Option Value)} {oc__law_value kV__law_value dc__law_value pm__law_value cd__law_value ct__law_value : Value} {f__law_right : Addr} {od__law_right an__law_right : Option Addr} {sl__law_right : Array (Option Value)} {oc__law_right kV__law_right dc__law_right pm__law_right cd__law_right ct__law_right : Value} {f_law : Addr} {od_law an_law : Option Addr} {sl_law : Array (Option Value)} {oc_law kV_law dc_law pm_law cd_law ct_law : Value}
    (X : K.In h)
    (G : h.Ns mainGlobals mg)
    (z_isinstance : PySem.W.nsIn K mainGlobals "isinstance" = some none)
    (z_int : PySem.W.nsIn K mainGlobals "int" = some none)
    (z_bool : PySem.W.nsIn K mainGlobals "bool" = some none)
    (z_all : PySem.W.nsIn K mainGlobals "all" = some none)
    (z_str : PySem.W.nsIn K mainGlobals "str" = some none)
    (z_len : PySem.W.nsIn K mainGlobals "len" = some none)
    (z_tuple : PySem.W.nsIn K mainGlobals "tuple" = some none)
    (z_range : PySem.W.nsIn K mainGlobals "range" = some none)
    (z_abs : PySem.W.nsIn K mainGlobals "abs" = some none)
    (z_list : PySem.W.nsIn K mainGlobals "list" = some none)
    (z_max : PySem.W.nsIn K mainGlobals "max" = some none)
    (z_min : PySem.W.nsIn K mainGlobals "min" = some none)
    (v_LETTERS : PySem.W.nsIn K mainGlobals "LETTERS" = some (some (.str "abcdefghijklmnopqrstuvwxyz" t_LETTERS)))
    (v_WORDS : PySem.W.nsIn K mainGlobals "WORDS" = some (some (.ref a_WORDS)))
    (w_WORDS : K.lookup a_WORDS = some ⟨.type "tuple", od_WORDS, .seq #[.str "write" t_WORDS_0, .str "mend" t_WORDS_1, .str "lead" t_WORDS_2] k_WORDS, sl_WORDS⟩)
    (v_MOST_LETTERS : PySem.W.nsIn K mainGlobals "MOST_LETTERS" = some (some (.int 8 t_MOST_LETTERS)))
    (v_MOST_NAMES : PySem.W.nsIn K mainGlobals "MOST_NAMES" = some (some (.int 5 t_MOST_NAMES)))
    (a_is_integer : PySem.W.nsIn K mainGlobals "is_integer" = some (some (.ref f_is_integer)))
    (l_is_integer : K.lookup f_is_integer = some ⟨oc_is_integer, od_is_integer, .func (PySem.W.fnOf "is_integer" "is_integer" (defArgs s_is_integer) (defBody s_is_integer) (defScope s_is_integer) .none kV_is_integer dc_is_integer pm_is_integer an_is_integer cd_is_integer ct_is_integer), sl_is_integer⟩)
    (c_is_integer : PySem.W.codeIn K cd_is_integer "is_integer" = true)
    (k_is_integer : PySem.W.keepIn K (.ref f_is_integer) = true)
    (a_is_count : PySem.W.nsIn K mainGlobals "is_count" = some (some (.ref f_is_count)))
    (l_is_count : K.lookup f_is_count = some ⟨oc_is_count, od_is_count, .func (PySem.W.fnOf "is_count" "is_count" (defArgs s_is_count) (defBody s_is_count) (defScope s_is_count) .none kV_is_count dc_is_count pm_is_count an_is_count cd_is_count ct_is_count), sl_is_count⟩)
    (c_is_count : PySem.W.codeIn K cd_is_count "is_count" = true)
    (k_is_count : PySem.W.keepIn K (.ref f_is_count) = true)
    (a_is_name : PySem.W.nsIn K mainGlobals "is_name" = some (some (.ref f_is_name)))
    (l_is_name : K.lookup f_is_name = some ⟨oc_is_name, od_is_name, .func (PySem.W.fnOf "is_name" "is_name" (defArgs s_is_name) (defBody s_is_name) (defScope s_is_name) .none kV_is_name dc_is_name pm_is_name an_is_name cd_is_name ct_is_name), sl_is_name⟩)
    (c_is_name : PySem.W.codeIn K cd_is_name "is_name" = true)
    (k_is_name : PySem.W.keepIn K (.ref f_is_name) = true)
    (a_is_person : PySem.W.nsIn K mainGlobals "is_person" = some (some (.ref f_is_person)))
    (l_is_person : K.lookup f_is_person = some ⟨oc_is_person, od_is_person, .func (PySem.W.fnOf "is_person" "is_person" (defArgs s_is_person) (defBody s_is_person) (defScope s_is_person) .none kV_is_person dc_is_person pm_is_person an_is_person cd_is_person ct_is_person), sl_is_person⟩)
    (c_is_person : PySem.W.codeIn K cd_is_person "is_person" = true)
    (k_is_person : PySem.W.keepIn K (.ref f_is_person) = true)
    (a_is_right : PySem.W.nsIn K mainGlobals "is_right" = some (some (.ref f_is_right)))
    (l_is_right : K.lookup f_is_right = some ⟨oc_is_right, od_is_right, .func (PySem.W.fnOf "is_right" "is_right" (defArgs s_is_right) (defBody s_is_right) (defScope s_is_right) .none kV_is_right dc_is_right pm_is_right an_is_right cd_is_right ct_is_right), sl_is_right⟩)
    (c_is_right : PySem.W.codeIn K cd_is_right "is_right" = true)
    (k_is_right : PySem.W.keepIn K (.ref f_is_right) = true)
    (a_is_id : PySem.W.nsIn K mainGlobals "is_id" = some (some (.ref f_is_id)))
    (l_is_id : K.lookup f_is_id = some ⟨oc_is_id, od_is_id, .func (PySem.W.fnOf "is_id" "is_id" (defArgs s_is_id) (defBody s_is_id) (defScope s_is_id) .none kV_is_id dc_is_id pm_is_id an_is_id cd_is_id ct_is_id), sl_is_id⟩)
    (c_is_id : PySem.W.codeIn K cd_is_id "is_id" = true)
    (k_is_id : PySem.W.keepIn K (.ref f_is_id) = true)
    (a_above : PySem.W.nsIn K mainGlobals "above" = some (some (.ref f_above)))
    (l_above : K.lookup f_above = some ⟨oc_above, od_above, .func (PySem.W.fnOf "above" "above" (defArgs s_above) (defBody s_above) (defScope s_above) .none kV_above dc_above pm_above an_above cd_above ct_above), sl_above⟩)
    (c_above : PySem.W.codeIn K cd_above "above" = true)
    (k_above : PySem.W.keepIn K (.ref f_above) = true)
    (a__law_cell : PySem.W.nsIn K mainGlobals "_law_cell" = some (some (.ref f__law_cell)))
    (l__law_cell : K.lookup f__law_cell = some ⟨oc__law_cell, od__law_cell, .func (PySem.W.fnOf "_law_cell" "_law_cell" (defArgs s__law_cell) (defBody s__law_cell) (defScope s__law_cell) .none kV__law_cell dc__law_cell pm__law_cell an__law_cell cd__law_cell ct__law_cell), sl__law_cell⟩)
    (c__law_cell : PySem.W.codeIn K cd__law_cell "_law_cell" = true)
    (k__law_cell : PySem.W.keepIn K (.ref f__law_cell) = true)
    (a__law_box : PySem.W.nsIn K mainGlobals "_law_box" = some (some (.ref f__law_box)))
    (l__law_box : K.lookup f__law_box = some ⟨oc__law_box, od__law_box, .func (PySem.W.fnOf "_law_box" "_law_box" (defArgs s__law_box) (defBody s__law_box) (defScope s__law_box) .none kV__law_box dc__law_box pm__law_box an__law_box cd__law_box ct__law_box), sl__law_box⟩)
    (c__law_box : PySem.W.codeIn K cd__law_box "_law_box" = true)
    (k__law_box : PySem.W.keepIn K (.ref f__law_box) = true)
    (a__law_take : PySem.W.nsIn K mainGlobals "_law_take" = some (some (.ref f__law_take)))
    (l__law_take : K.lookup f__law_take = some ⟨oc__law_take, od__law_take, .func (PySem.W.fnOf "_law_take" "_law_take" (defArgs s__law_take) (defBody s__law_take) (defScope s__law_take) .none kV__law_take dc__law_take pm__law_take an__law_take cd__law_take ct__law_take), sl__law_take⟩)
    (c__law_take : PySem.W.codeIn K cd__law_take "_law_take" = true)
    (k__law_take : PySem.W.keepIn K (.ref f__law_take) = true)
    (a__law_word : PySem.W.nsIn K mainGlobals "_law_word" = some (some (.ref f__law_word)))
    (l__law_word : K.lookup f__law_word = some ⟨oc__law_word, od__law_word, .func (PySem.W.fnOf "_law_word" "_law_word" (defArgs s__law_word) (defBody s__law_word) (defScope s__law_word) .none kV__law_word dc__law_word pm__law_word an__law_word cd__law_word ct__law_word), sl__law_word⟩)
    (c__law_word : PySem.W.codeIn K cd__law_word "_law_word" = true)
    (k__law_word : PySem.W.keepIn K (.ref f__law_word) = true)
    (a__law_is_name : PySem.W.nsIn K mainGlobals "_law_is_name" = some (some (.ref f__law_is_name)))
    (l__law_is_name : K.lookup f__law_is_name = some ⟨oc__law_is_name, od__law_is_name, .func (PySem.W.fnOf "_law_is_name" "_law_is_name" (defArgs s__law_is_name) (defBody s__law_is_name) (defScope s__law_is_name) .none kV__law_is_name dc__law_is_name pm__law_is_name an__law_is_name cd__law_is_name ct__law_is_name), sl__law_is_name⟩)
    (c__law_is_name : PySem.W.codeIn K cd__law_is_name "_law_is_name" = true)
    (k__law_is_name : PySem.W.keepIn K (.ref f__law_is_name) = true)
    (a__law_is_person : PySem.W.nsIn K mainGlobals "_law_is_person" = some (some (.ref f__law_is_person)))
    (l__law_is_person : K.lookup f__law_is_person = some ⟨oc__law_is_person, od__law_is_person, .func (PySem.W.fnOf "_law_is_person" "_law_is_person" (defArgs s__law_is_person) (defBody s__law_is_person) (defScope s__law_is_person) .none kV__law_is_person dc__law_is_person pm__law_is_person an__law_is_person cd__law_is_person ct__law_is_person), sl__law_is_person⟩)
    (c__law_is_person : PySem.W.codeIn K cd__law_is_person "_law_is_person" = true)
    (k__law_is_person : PySem.W.keepIn K (.ref f__law_is_person) = true)
    (a__law_is_number : PySem.W.nsIn K mainGlobals "_law_is_number" = some (some (.ref f__law_is_number)))
    (l__law_is_number : K.lookup f__law_is_number = some ⟨oc__law_is_number, od__law_is_number, .func (PySem.W.fnOf "_law_is_number" "_law_is_number" (defArgs s__law_is_number) (defBody s__law_is_number) (defScope s__law_is_number) .none kV__law_is_number dc__law_is_number pm__law_is_number an__law_is_number cd__law_is_number ct__law_is_number), sl__law_is_number⟩)
    (c__law_is_number : PySem.W.codeIn K cd__law_is_number "_law_is_number" = true)
    (k__law_is_number : PySem.W.keepIn K (.ref f__law_is_number) = true)
    (a__law_is_id : PySem.W.nsIn K mainGlobals "_law_is_id" = some (some (.ref f__law_is_id)))
    (l__law_is_id : K.lookup f__law_is_id = some ⟨oc__law_is_id, od__law_is_id, .func (PySem.W.fnOf "_law_is_id" "_law_is_id" (defArgs s__law_is_id) (defBody s__law_is_id) (defScope s__law_is_id) .none kV__law_is_id dc__law_is_id pm__law_is_id an__law_is_id cd__law_is_id ct__law_is_id), sl__law_is_id⟩)
    (c__law_is_id : PySem.W.codeIn K cd__law_is_id "_law_is_id" = true)
    (k__law_is_id : PySem.W.keepIn K (.ref f__law_is_id) = true)
    (a__law_is_right : PySem.W.nsIn K mainGlobals "_law_is_right" = some (some (.ref f__law_is_right)))
    (l__law_is_right : K.lookup f__law_is_right = some ⟨oc__law_is_right, od__law_is_right, .func (PySem.W.fnOf "_law_is_right" "_law_is_right" (defArgs s__law_is_right) (defBody s__law_is_right) (defScope s__law_is_right) .none kV__law_is_right dc__law_is_right pm__law_is_right an__law_is_right cd__law_is_right ct__law_is_right), sl__law_is_right⟩)
    (c__law_is_right : PySem.W.codeIn K cd__law_is_right "_law_is_right" = true)
    (k__law_is_right : PySem.W.keepIn K (.ref f__law_is_right) = true)
    (a__law_person : PySem.W.nsIn K mainGlobals "_law_person" = some (some (.ref f__law_person)))
    (l__law_person : K.lookup f__law_person = some ⟨oc__law_person, od__law_person, .func (PySem.W.fnOf "_law_person" "_law_person" (defArgs s__law_person) (defBody s__law_person) (defScope s__law_person) .none kV__law_person dc__law_person pm__law_person an__law_person cd__law_person ct__law_person), sl__law_person⟩)
    (c__law_person : PySem.W.codeIn K cd__law_person "_law_person" = true)
    (k__law_person : PySem.W.keepIn K (.ref f__law_person) = true)
    (a__law_value : PySem.W.nsIn K mainGlobals "_law_value" = some (some (.ref f__law_value)))
    (l__law_value : K.lookup f__law_value = some ⟨oc__law_value, od__law_value, .func (PySem.W.fnOf "_law_value" "_law_value" (defArgs s__law_value) (defBody s__law_value) (defScope s__law_value) .none kV__law_value dc__law_value pm__law_value an__law_value cd__law_value ct__law_value), sl__law_value⟩)
    (c__law_value : PySem.W.codeIn K cd__law_value "_law_value" = true)
    (k__law_value : PySem.W.keepIn K (.ref f__law_value) = true)
    (a__law_right : PySem.W.nsIn K mainGlobals "_law_right" = some (some (.ref f__law_right)))
    (l__law_right : K.lookup f__law_right = some ⟨oc__law_right, od__law_right, .func (PySem.W.fnOf "_law_right" "_law_right" (defArgs s__law_right) (defBody s__law_right) (defScope s__law_right) .none kV__law_right dc__law_right pm__law_right an__law_right cd__law_right ct__law_right), sl__law_right⟩)
    (c__law_right : PySem.W.codeIn K cd__law_right "_law_right" = true)
    (k__law_right : PySem.W.keepIn K (.ref f__law_right) = true)
    (a_law : PySem.W.nsIn K mainGlobals "law" = some (some (.ref f_law)))
    (l_law : K.lookup f_law = some ⟨oc_law, od_law, .func (PySem.W.fnOf "law" "law" (defArgs s_law) (defBody s_law) (defScope s_law) .none kV_law dc_law pm_law an_law cd_law ct_law), sl_law⟩)
    (c_law : PySem.W.codeIn K cd_law "law" = true)
    (k_law : PySem.W.keepIn K (.ref f_law) = true) : Top K mg where
  m_isinstance := PySem.W.mg_none_of X G z_isinstance
  m_int := PySem.W.mg_none_of X G z_int
  m_bool := PySem.W.mg_none_of X G z_bool
  m_all := PySem.W.mg_none_of X G z_all
  m_str := PySem.W.mg_none_of X G z_str
  m_len := PySem.W.mg_none_of X G z_len
  m_tuple := PySem.W.mg_none_of X G z_tuple
  m_range := PySem.W.mg_none_of X G z_range
  m_abs := PySem.W.mg_none_of X G z_abs
  m_list := PySem.W.mg_none_of X G z_list
  m_max := PySem.W.mg_none_of X G z_max
  m_min := PySem.W.mg_none_of X G z_min
  t_LETTERS := t_LETTERS
  c_LETTERS := PySem.W.mg_of X G v_LETTERS
  a_WORDS := a_WORDS
  c_WORDS := PySem.W.mg_of X G v_WORDS
  q_WORDS := fun H => .inr ⟨_, _, _, w_WORDS, rfl, rfl, show 3 ≤ sizeLine by decide, (.cons ⟨_, rfl⟩ (.cons ⟨_, rfl⟩ (.cons ⟨_, rfl⟩ .nil)))⟩
  t_MOST_LETTERS := t_MOST_LETTERS
  c_MOST_LETTERS := PySem.W.mg_of X G v_MOST_LETTERS
  t_MOST_NAMES := t_MOST_NAMES
  c_MOST_NAMES := PySem.W.mg_of X G v_MOST_NAMES
  a_is_integer := f_is_integer
  d_is_integer := _
  F_is_integer := fun_mk (st := s_is_integer) l_is_integer c_is_integer k_is_integer
  b_is_integer := (fun_mk (st := s_is_integer) l_is_integer c_is_integer k_is_integer).binds (ps := ["value"]) fun _ _ _ _ _ _ us hl => match us, hl with | [_], _ => rfl
  g_is_integer := PySem.W.mg_of X G a_is_integer
  a_is_count := f_is_count
  d_is_count := _
  F_is_count := fun_mk (st := s_is_count) l_is_count c_is_count k_is_count
  b_is_count := (fun_mk (st := s_is_count) l_is_count c_is_count k_is_count).binds (ps := ["value"]) fun _ _ _ _ _ _ us hl => match us, hl with | [_], _ => rfl
  g_is_count := PySem.W.mg_of X G a_is_count
  a_is_name := f_is_name
  d_is_name := _
  F_is_name := fun_mk (st := s_is_name) l_is_name c_is_name k_is_name
  b_is_name := (fun_mk (st := s_is_name) l_is_name c_is_name k_is_name).binds (ps := ["value"]) fun _ _ _ _ _ _ us hl => match us, hl with | [_], _ => rfl
  g_is_name := PySem.W.mg_of X G a_is_name
  a_is_person := f_is_person
  d_is_person := _
  F_is_person := fun_mk (st := s_is_person) l_is_person c_is_person k_is_person
  b_is_person := (fun_mk (st := s_is_person) l_is_person c_is_person k_is_person).binds (ps := ["value"]) fun _ _ _ _ _ _ us hl => match us, hl with | [_], _ => rfl
  g_is_person := PySem.W.mg_of X G a_is_person
  a_is_right := f_is_right
  d_is_right := _
  F_is_right := fun_mk (st := s_is_right) l_is_right c_is_right k_is_right
  b_is_right := (fun_mk (st := s_is_right) l_is_right c_is_right k_is_right).binds (ps := ["value"]) fun _ _ _ _ _ _ us hl => match us, hl with | [_], _ => rfl
  g_is_right := PySem.W.mg_of X G a_is_right
  a_is_id := f_is_id
  d_is_id := _
  F_is_id := fun_mk (st := s_is_id) l_is_id c_is_id k_is_id
  b_is_id := (fun_mk (st := s_is_id) l_is_id c_is_id k_is_id).binds (ps := ["value"]) fun _ _ _ _ _ _ us hl => match us, hl with | [_], _ => rfl
  g_is_id := PySem.W.mg_of X G a_is_id
  kb_is_id := kbn1 (fun_mk (st := s_is_id) l_is_id c_is_id k_is_id) fun _ _ _ _ _ _ _ => rfl
  a_above := f_above
  d_above := _
  F_above := fun_mk (st := s_above) l_above c_above k_above
  b_above := (fun_mk (st := s_above) l_above c_above k_above).binds (ps := ["person"]) fun _ _ _ _ _ _ us hl => match us, hl with | [_], _ => rfl
  g_above := PySem.W.mg_of X G a_above
  kb_above := kbn1 (fun_mk (st := s_above) l_above c_above k_above) fun _ _ _ _ _ _ _ => rfl
  a__law_cell := f__law_cell
  d__law_cell := _
  F__law_cell := fun_mk (st := s__law_cell) l__law_cell c__law_cell k__law_cell
  b__law_cell := (fun_mk (st := s__law_cell) l__law_cell c__law_cell k__law_cell).binds (ps := ["_law_script", "_law_k"]) fun _ _ _ _ _ _ us hl => match us, hl with | [_, _], _ => rfl
  g__law_cell := PySem.W.mg_of X G a__law_cell
  a__law_box := f__law_box
  d__law_box := _
  F__law_box := fun_mk (st := s__law_box) l__law_box c__law_box k__law_box
  b__law_box := (fun_mk (st := s__law_box) l__law_box c__law_box k__law_box).binds (ps := ["_law_great"]) fun _ _ _ _ _ _ us hl => match us, hl with | [_], _ => rfl
  g__law_box := PySem.W.mg_of X G a__law_box
  a__law_take := f__law_take
  d__law_take := _
  F__law_take := fun_mk (st := s__law_take) l__law_take c__law_take k__law_take
  b__law_take := (fun_mk (st := s__law_take) l__law_take c__law_take k__law_take).binds (ps := ["_law_box_here", "_law_many"]) fun _ _ _ _ _ _ us hl => match us, hl with | [_, _], _ => rfl
  g__law_take := PySem.W.mg_of X G a__law_take
  a__law_word := f__law_word
  d__law_word := _
  F__law_word := fun_mk (st := s__law_word) l__law_word c__law_word k__law_word
  b__law_word := (fun_mk (st := s__law_word) l__law_word c__law_word k__law_word).binds (ps := ["_law_box_here"]) fun _ _ _ _ _ _ us hl => match us, hl with | [_], _ => rfl
  g__law_word := PySem.W.mg_of X G a__law_word
  a__law_is_name := f__law_is_name
  d__law_is_name := _
  F__law_is_name := fun_mk (st := s__law_is_name) l__law_is_name c__law_is_name k__law_is_name
  b__law_is_name := (fun_mk (st := s__law_is_name) l__law_is_name c__law_is_name k__law_is_name).binds (ps := ["_law_thing"]) fun _ _ _ _ _ _ us hl => match us, hl with | [_], _ => rfl
  g__law_is_name := PySem.W.mg_of X G a__law_is_name
  a__law_is_person := f__law_is_person
  d__law_is_person := _
  F__law_is_person := fun_mk (st := s__law_is_person) l__law_is_person c__law_is_person k__law_is_person
  b__law_is_person := (fun_mk (st := s__law_is_person) l__law_is_person c__law_is_person k__law_is_person).binds (ps := ["_law_thing"]) fun _ _ _ _ _ _ us hl => match us, hl with | [_], _ => rfl
  g__law_is_person := PySem.W.mg_of X G a__law_is_person
  a__law_is_number := f__law_is_number
  d__law_is_number := _
  F__law_is_number := fun_mk (st := s__law_is_number) l__law_is_number c__law_is_number k__law_is_number
  b__law_is_number := (fun_mk (st := s__law_is_number) l__law_is_number c__law_is_number k__law_is_number).binds (ps := ["_law_thing"]) fun _ _ _ _ _ _ us hl => match us, hl with | [_], _ => rfl
  g__law_is_number := PySem.W.mg_of X G a__law_is_number
  a__law_is_id := f__law_is_id
  d__law_is_id := _
  F__law_is_id := fun_mk (st := s__law_is_id) l__law_is_id c__law_is_id k__law_is_id
  b__law_is_id := (fun_mk (st := s__law_is_id) l__law_is_id c__law_is_id k__law_is_id).binds (ps := ["_law_thing"]) fun _ _ _ _ _ _ us hl => match us, hl with | [_], _ => rfl
  g__law_is_id := PySem.W.mg_of X G a__law_is_id
  a__law_is_right := f__law_is_right
  d__law_is_right := _
  F__law_is_right := fun_mk (st := s__law_is_right) l__law_is_right c__law_is_right k__law_is_right
  b__law_is_right := (fun_mk (st := s__law_is_right) l__law_is_right c__law_is_right k__law_is_right).binds (ps := ["_law_thing"]) fun _ _ _ _ _ _ us hl => match us, hl with | [_], _ => rfl
  g__law_is_right := PySem.W.mg_of X G a__law_is_right
  a__law_person := f__law_person
  d__law_person := _
  F__law_person := fun_mk (st := s__law_person) l__law_person c__law_person k__law_person
  b__law_person := (fun_mk (st := s__law_person) l__law_person c__law_person k__law_person).binds (ps := ["_law_box_here"]) fun _ _ _ _ _ _ us hl => match us, hl with | [_], _ => rfl
  g__law_person := PySem.W.mg_of X G a__law_person
  a__law_value := f__law_value
  d__law_value := _
  F__law_value := fun_mk (st := s__law_value) l__law_value c__law_value k__law_value
  b__law_value := (fun_mk (st := s__law_value) l__law_value c__law_value k__law_value).binds (ps := ["_law_box_here"]) fun _ _ _ _ _ _ us hl => match us, hl with | [_], _ => rfl
  g__law_value := PySem.W.mg_of X G a__law_value
  a__law_right := f__law_right
  d__law_right := _
  F__law_right := fun_mk (st := s__law_right) l__law_right c__law_right k__law_right
  b__law_right := (fun_mk (st := s__law_right) l__law_right c__law_right k__law_right).binds (ps := ["_law_thing"]) fun _ _ _ _ _ _ us hl => match us, hl with | [_], _ => rfl
  g__law_right := PySem.W.mg_of X G a__law_right
  a_law := f_law
  d_law := _
  F_law := fun_mk (st := s_law) l_law c_law k_law
  b_law := (fun_mk (st := s_law) l_law c_law k_law).binds (ps := ["_law_script"]) fun _ _ _ _ _ _ us hl => match us, hl with | [_], _ => rfl
  g_law := PySem.W.mg_of X G a_law
theorem all_mk {l : PySem.W.OpenLaw} {w : World} {K : PySem.W.Frag} {mg : Str → Option Value} {fa : Addr} (T : Top K mg) (hfa : mg "law" = some (.ref fa)) :
    ∃ fd : FuncData, (∀ (s : Shared) (v : Value), BindsTo s fd ⟨[v], []⟩ [("_law_script", v)]) ∧ ∀ base : Heap, K.In base → base.Ns mainGlobals mg → FnOk l.prog w K mg base CX0 5 fa fd ["_law_script"] (spLaw K) := by
  have e := hfa.symm.trans T.g_law
  cases e
  refine ⟨T.d_law, fun s v => ?_, fun base _ _ => ok_law T⟩
  obtain ⟨oc, od, kV, doc, pm, an, cdv, ct, osl, e, _⟩ := T.F_law.ex
  rw [e]
  exact .of_eq rfl
end Kx
open PySem PySem.W PyProof.Rows
set_option maxHeartbeats 0 in
theorem PySem.Challenge.cw_closedground_k01_people_rights_and_ids_holds : PySem.Challenge.rw_closedground_k01_people_rights_and_ids.Holds := by
  w_on; o_law; k_head; (case hw => w_witness2)
  k_fill
  refine L2.walk_of (l := PySem.Challenge.rw_closedground_k01_people_rights_and_ids) (n := 63) (k := 5) (x := "_law_script") (CX := fun _ => L2.CX0) (sp := fun w => Kx.spLaw _) rfl (by decide) rfl ⟨rfl, by decide, by decide⟩ (fun w h Y => PySem.W.kIn_of Y) ?F (fun _ _ a ns hl _ hS => ⟨a, ns, rfl, hS, hl, fun _ => rfl⟩) (fun _ _ _ _ _ h => h)
  case F =>
    intro w mg fa h KX G hmg
    refine' Kx.all_mk (Kx.top_of KX G ?z_isinstance ?z_int ?z_bool ?z_all ?z_str ?z_len ?z_tuple ?z_range ?z_abs ?z_list ?z_max ?z_min ?v_LETTERS ?v_WORDS ?w_WORDS ?v_MOST_LETTERS ?v_MOST_NAMES ?a_is_integer ?l_is_integer ?c_is_integer ?k_is_integer ?a_is_count ?l_is_count ?c_is_count ?k_is_count ?a_is_name ?l_is_name ?c_is_name ?k_is_name ?a_is_person ?l_is_person ?c_is_person ?k_is_person ?a_is_right ?l_is_right ?c_is_right ?k_is_right ?a_is_id ?l_is_id ?c_is_id ?k_is_id ?a_above ?l_above ?c_above ?k_above ?a__law_cell ?l__law_cell ?c__law_cell ?k__law_cell ?a__law_box ?l__law_box ?c__law_box ?k__law_box ?a__law_take ?l__law_take ?c__law_take ?k__law_take ?a__law_word ?l__law_word ?c__law_word ?k__law_word ?a__law_is_name ?l__law_is_name ?c__law_is_name ?k__law_is_name ?a__law_is_person ?l__law_is_person ?c__law_is_person ?k__law_is_person ?a__law_is_number ?l__law_is_number ?c__law_is_number ?k__law_is_number ?a__law_is_id ?l__law_is_id ?c__law_is_id ?k__law_is_id ?a__law_is_right ?l__law_is_right ?c__law_is_right ?k__law_is_right ?a__law_person ?l__law_person ?c__law_person ?k__law_person ?a__law_value ?l__law_value ?c__law_value ?k__law_value ?a__law_right ?l__law_right ?c__law_right ?k__law_right ?a_law ?l_law ?c_law ?k_law) hmg
    (case z_isinstance => k_is); (case z_int => k_is); (case z_bool => k_is); (case z_all => k_is); (case z_str => k_is); (case z_len => k_is); (case z_tuple => k_is); (case z_range => k_is); (case z_abs => k_is); (case z_list => k_is); (case z_max => k_is); (case z_min => k_is); (case v_LETTERS => k_is); (case v_WORDS => k_is); (case w_WORDS => k_is); (case v_MOST_LETTERS => k_is); (case v_MOST_NAMES => k_is); (case a_is_integer => k_is); (case l_is_integer => k_is); (case c_is_integer => k_is); (case k_is_integer => k_is); (case a_is_count => k_is); (case l_is_count => k_is); (case c_is_count => k_is); (case k_is_count => k_is); (case a_is_name => k_is); (case l_is_name => k_is); (case c_is_name => k_is); (case k_is_name => k_is); (case a_is_person => k_is); (case l_is_person => k_is); (case c_is_person => k_is); (case k_is_person => k_is); (case a_is_right => k_is); (case l_is_right => k_is); (case c_is_right => k_is); (case k_is_right => k_is); (case a_is_id => k_is); (case l_is_id => k_is); (case c_is_id => k_is); (case k_is_id => k_is); (case a_above => k_is); (case l_above => k_is); (case c_above => k_is); (case k_above => k_is); (case a__law_cell => k_is); (case l__law_cell => k_is); (case c__law_cell => k_is); (case k__law_cell => k_is); (case a__law_box => k_is); (case l__law_box => k_is); (case c__law_box => k_is); (case k__law_box => k_is); (case a__law_take => k_is); (case l__law_take => k_is); (case c__law_take => k_is); (case k__law_take => k_is); (case a__law_word => k_is); (case l__law_word => k_is); (case c__law_word => k_is); (case k__law_word => k_is); (case a__law_is_name => k_is); (case l__law_is_name => k_is); (case c__law_is_name => k_is); (case k__law_is_name => k_is); (case a__law_is_person => k_is); (case l__law_is_person => k_is); (case c__law_is_person => k_is); (case k__law_is_person => k_is); (case a__law_is_number => k_is); (case l__law_is_number => k_is); (case c__law_is_number => k_is); (case k__law_is_number => k_is); (case a__law_is_id => k_is); (case l__law_is_id => k_is); (case c__law_is_id => k_is); (case k__law_is_id => k_is); (case a__law_is_right => k_is); (case l__law_is_right => k_is); (case c__law_is_right => k_is); (case k__law_is_right => k_is); (case a__law_person => k_is); (case l__law_person => k_is); (case c__law_person => k_is); (case k__law_person => k_is); (case a__law_value => k_is); (case l__law_value => k_is); (case c__law_value => k_is); (case k__law_value => k_is); (case a__law_right => k_is); (case l__law_right => k_is); (case c__law_right => k_is); (case k__law_right => k_is); (case a_law => k_is); (case l_law => k_is); (case c_law => k_is); (case k_law => k_is)
