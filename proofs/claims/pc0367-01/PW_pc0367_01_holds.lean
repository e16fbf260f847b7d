import PyProof.Rows.All
import Wide.All
import OpenK.AllK
import Wide.FinOn
import PySem.Challenge.RW_pc0367_01
open PySem PySem.W PyProof.Rows
set_option Elab.async false
set_option maxRecDepth 100000
set_option autoImplicit false
set_option linter.unusedVariables false
namespace Mine
noncomputable abbrev view : Program := { PySem.Challenge.pw_pc0367_01 with main := { PySem.Challenge.pw_pc0367_01.main with body := PySem.Challenge.pw_pc0367_01.main.body.drop 34 } }
noncomputable abbrev free : List Str := PySem.Challenge.pw_pc0367_01.boundNames.filter fun x => !(x == Str.ofString "law")
local macro_rules | `(tactic| o_head $H) => `(tactic| (
  refine holds_open (q := Mine.view) (loose := Mine.free) (Xt := fun s => xlAt Mine.view [] s && recOk (RowW.records PySem.Challenge.rw_pc0367_01.row.toRowW) s) (XP := XL Mine.view []) (Yf := Hook.obs $H) (Ya := Hook.val $H) (YP := Hook.says $H) (N := 3398) ?hl (Hook.of $H) (Hook.keeps $H) (fun s e => xl_of s (Bool.and_eq_true_iff.mp e).1) XL.keeps (by rfl) (by rfl) (by rfl) (fun s e => recFacts_of (Bool.and_eq_true_iff.mp e).2) (by rfl) (by first | assumption | decide +kernel) (by decide +kernel) ⟨rfl, rfl, rfl, rfl, rfl, by decide +kernel⟩ ?hw ?hc
  (case hl => intro w; kernel_rfl)))
local macro_rules | `(tactic| o_law) => `(tactic| refine holds_law (by decide +kernel) fun said => ?_)
set_option maxHeartbeats 0 in
open_top hd for PySem.Challenge.rw_pc0367_01
end Mine

namespace Mine

inductive PV where
  | none
  | bool (b : Bool)
  | int (i : Int)
  | str (x : Str)
  | tup (ps : List PV)
  | list (ps : List PV)
  | rng (n : Int)
  | obj (a : Addr)

noncomputable abbrev Store := Addr → Option Obj
noncomputable def Store.le (B B' : Store) : Prop := ∀ a o, B a = some o → B' a = some o
theorem Store.le_refl (B : Store) : B.le B := fun _ _ e => e
theorem Store.le_trans {B B' B'' : Store} (x : B.le B') (y : B'.le B'') : B.le B'' := fun a o e => y a o (x a o e)
noncomputable def Store.put (B : Store) (a : Addr) (o : Obj) : Store := fun b => if b = a then some o else B b
theorem Store.put_le {B : Store} {a : Addr} {o : Obj} (h : B a = Option.none) : B.le (B.put a o) := fun b o' e => by
  unfold Store.put
  split
  · rename_i q; rw [q, h] at e; cases e
  · exact e
theorem Store.put_self (B : Store) (a : Addr) (o : Obj) : B.put a o a = some o := by simp [Store.put]
theorem Store.put_ne {B : Store} {a b : Addr} {o : Obj} (h : b ≠ a) : B.put a o b = B b := by simp [Store.put, h]

noncomputable def listObj (vs : List Value) (n : Nat) : Obj := { cls := .type "list", data := .seq vs.toArray n }

mutual
noncomputable def VR (B : Store) : PV → Value → Prop
  | .none, v => v = .none
  | .bool b, v => v = .bool b
  | .int i, v => ∃ t, v = .int i t
  | .str x, v => ∃ t, v = .str x t
  | .tup ps, v => ∃ a vs o n, v = .ref a ∧ B a = some o ∧ o.cls = .type "tuple" ∧ o.data = .seq vs.toArray n ∧ VRs B ps vs
  | .list ps, v => ∃ a vs n, v = .ref a ∧ B a = some (listObj vs n) ∧ VRs B ps vs
  | .rng n, v => ∃ a t u k, v = .ref a ∧ B a = some { cls := .type "range", data := .fields #[.int 0 t, .int n u, .int 1 k] }
  | .obj a, v => v = .ref a
noncomputable def VRs (B : Store) : List PV → List Value → Prop
  | [], vs => vs = []
  | p :: ps, vs => ∃ v vs', vs = v :: vs' ∧ VR B p v ∧ VRs B ps vs'
end

noncomputable def Seen (o : Obj) : Prop := (∃ xs n, o.data = .seq xs n) ∨ (o.cls = .type "range" ∧ ∃ vs, o.data = .fields vs)
noncomputable def Store.sees (B B' : Store) : Prop := ∀ a o, B a = some o → Seen o → B' a = some o
theorem Store.le.sees {B B' : Store} (h : B.le B') : B.sees B' := fun a o e _ => h a o e
mutual
theorem VR.mono' {B B' : Store} (hB : B.sees B') : ∀ (p : PV) {v : Value}, VR B p v → VR B' p v
  | .none, _, h => by unfold VR at h ⊢; exact h
  | .bool _, _, h => by unfold VR at h ⊢; exact h
  | .int _, _, h => by unfold VR at h ⊢; exact h
  | .str _, _, h => by unfold VR at h ⊢; exact h
  | .tup ps, _, h => by
    unfold VR at h ⊢
    obtain ⟨a, vs, o, n, h1, h2, h3, h4, h5⟩ := h
    exact ⟨a, vs, o, n, h1, hB _ _ h2 (.inl ⟨_, _, h4⟩), h3, h4, VRs.mono' hB ps h5⟩
  | .list ps, _, h => by
    unfold VR at h ⊢
    obtain ⟨a, vs, n, h1, h2, h5⟩ := h
    exact ⟨a, vs, n, h1, hB _ _ h2 (.inl ⟨_, _, rfl⟩), VRs.mono' hB ps h5⟩
  | .rng n, _, h => by
    unfold VR at h ⊢
    obtain ⟨a, t, u, k, h1, h2⟩ := h
    exact ⟨a, t, u, k, h1, hB _ _ h2 (.inr ⟨rfl, _, rfl⟩)⟩
  | .obj _, _, h => by unfold VR at h ⊢; exact h
theorem VRs.mono' {B B' : Store} (hB : B.sees B') : ∀ (ps : List PV) {vs : List Value}, VRs B ps vs → VRs B' ps vs
  | [], _, h => by unfold VRs at h ⊢; exact h
  | p :: ps, _, h => by
    unfold VRs at h ⊢
    obtain ⟨v, vs', h1, h2, h3⟩ := h
    exact ⟨v, vs', h1, VR.mono' hB p h2, VRs.mono' hB ps h3⟩
end

theorem VR.mono {B B' : Store} (hB : B.le B') (p : PV) {v : Value} (h : VR B p v) : VR B' p v := VR.mono' hB.sees p h
theorem VRs.mono {B B' : Store} (hB : B.le B') (ps : List PV) {vs : List Value} (h : VRs B ps vs) : VRs B' ps vs := VRs.mono' hB.sees ps h

section vr
variable {B : Store}
theorem VRs.nil : VRs B [] [] := by unfold VRs; rfl
theorem VRs.cons {p : PV} {v : Value} {ps : List PV} {vs : List Value} (h : VR B p v) (t : VRs B ps vs) : VRs B (p :: ps) (v :: vs) := by
  unfold VRs; exact ⟨v, vs, rfl, h, t⟩
theorem VRs.length : ∀ {ps : List PV} {vs : List Value}, VRs B ps vs → vs.length = ps.length
  | [], _, h => by unfold VRs at h; subst h; rfl
  | _ :: ps, _, h => by unfold VRs at h; obtain ⟨v, vs', rfl, _, t⟩ := h; simp [VRs.length t]
theorem VRs.nil_inv {vs : List Value} (h : VRs B [] vs) : vs = [] := by unfold VRs at h; exact h
theorem VRs.cons_inv {p : PV} {ps : List PV} {vs : List Value} (h : VRs B (p :: ps) vs) : ∃ v vs', vs = v :: vs' ∧ VR B p v ∧ VRs B ps vs' := by unfold VRs at h; exact h
theorem VRs.get : ∀ {ps : List PV} {vs : List Value} {i : Nat} {p : PV}, VRs B ps vs → ps[i]? = some p → ∃ v, vs[i]? = some v ∧ VR B p v
  | [], _, _, _, _, e => by simp at e
  | q :: ps, _, i, p, h, e => by
    obtain ⟨v, vs', rfl, h1, h2⟩ := h.cons_inv
    cases i with
    | zero => simp at e; subst e; exact ⟨v, by simp, h1⟩
    | succ i => simp at e; obtain ⟨u, hu, h3⟩ := VRs.get h2 e; exact ⟨u, by simpa using hu, h3⟩
theorem VRs.append : ∀ {ps qs : List PV} {vs us : List Value}, VRs B ps vs → VRs B qs us → VRs B (ps ++ qs) (vs ++ us)
  | [], _, _, _, h, k => by rw [h.nil_inv]; exact k
  | p :: ps, _, _, _, h, k => by obtain ⟨v, vs', rfl, h1, h2⟩ := h.cons_inv; exact .cons h1 (VRs.append h2 k)
theorem VRs.set : ∀ {ps : List PV} {vs : List Value} {i : Nat} {p : PV} {v : Value}, VRs B ps vs → VR B p v → VRs B (ps.set i p) (vs.set i v)
  | [], _, _, _, _, h, _ => by rw [h.nil_inv]; exact .nil
  | q :: ps, _, i, _, _, h, k => by
    obtain ⟨v, vs', rfl, h1, h2⟩ := h.cons_inv
    cases i with
    | zero => exact .cons k h2
    | succ i => exact .cons h1 (VRs.set h2 k)
theorem VRs.take : ∀ {ps : List PV} {vs : List Value} (n : Nat), VRs B ps vs → VRs B (ps.take n) (vs.take n)
  | _, _, 0, _ => by simp; exact .nil
  | [], _, n+1, h => by rw [h.nil_inv]; simp; exact .nil
  | p :: ps, _, n+1, h => by obtain ⟨v, vs', rfl, h1, h2⟩ := h.cons_inv; exact .cons h1 (VRs.take n h2)
theorem VR.none : VR B .none .none := by unfold VR; rfl
theorem VR.bool {b : Bool} : VR B (.bool b) (.bool b) := by unfold VR; rfl
theorem VR.int {i : Int} {t : Tok} : VR B (.int i) (.int i t) := by unfold VR; exact ⟨t, rfl⟩
theorem VR.str {x : Str} {t : Tok} : VR B (.str x) (.str x t) := by unfold VR; exact ⟨t, rfl⟩
theorem VR.obj {a : Addr} : VR B (.obj a) (.ref a) := by unfold VR; rfl
theorem VR.none_inv {v : Value} (h : VR B .none v) : v = .none := by unfold VR at h; exact h
theorem VR.bool_inv {v : Value} {b : Bool} (h : VR B (.bool b) v) : v = .bool b := by unfold VR at h; exact h
theorem VR.int_inv {v : Value} {i : Int} (h : VR B (.int i) v) : ∃ t, v = .int i t := by unfold VR at h; exact h
theorem VR.str_inv {v : Value} {x : Str} (h : VR B (.str x) v) : ∃ t, v = .str x t := by unfold VR at h; exact h
theorem VR.rng_inv {v : Value} {n : Int} (h : VR B (.rng n) v) : ∃ a t u k, v = .ref a ∧ B a = some { cls := .type "range", data := .fields #[.int 0 t, .int n u, .int 1 k] } := by unfold VR at h; exact h
theorem VR.obj_inv {v : Value} {a : Addr} (h : VR B (.obj a) v) : v = .ref a := by unfold VR at h; exact h
theorem VR.tup_inv {v : Value} {ps : List PV} (h : VR B (.tup ps) v) : ∃ a vs o n, v = .ref a ∧ B a = some o ∧ o.cls = .type "tuple" ∧ o.data = .seq vs.toArray n ∧ VRs B ps vs := by unfold VR at h; exact h
theorem VR.list_inv {v : Value} {ps : List PV} (h : VR B (.list ps) v) : ∃ a vs n, v = .ref a ∧ B a = some (listObj vs n) ∧ VRs B ps vs := by unfold VR at h; exact h
end vr

inductive MO where
  | list (ps : List PV)
  | dictI (ep : Nat) (kvs : List (Int × PV))
  | dictT (ep : Nat) (kvs : List ((Int × Int) × PV))
  | inst (c d : Addr)
  | attrs (at_ : List (Str × PV))

noncomputable abbrev Led := Addr → Option MO
noncomputable def Led.upd (D : Led) (a : Addr) (m : MO) : Led := fun b => if b = a then some m else D b
theorem Led.upd_self (D : Led) (a : Addr) (m : MO) : D.upd a m a = some m := by simp [Led.upd]
theorem Led.upd_ne {D : Led} {a b : Addr} {m : MO} (h : b ≠ a) : D.upd a m b = D b := by simp [Led.upd, h]
noncomputable def Led.le (D D' : Led) : Prop := ∀ a m, D a = some m → D' a = some m
theorem Led.le_refl (D : Led) : D.le D := fun _ _ e => e

section mr
variable (prog : Program) (w : World)
noncomputable def KVI (B : Store) : List (Int × PV) → List (Int × Value) → Prop
  | [], l => l = []
  | (k, p) :: r, l => ∃ v l', l = (k, v) :: l' ∧ VR B p v ∧ KVI B r l'
noncomputable def KVT (B : Store) : List ((Int × Int) × PV) → List (List Int × Addr × Value) → Prop
  | [], l => l = []
  | (k, p) :: r, l => ∃ a v l', l = ([k.1, k.2], a, v) :: l' ∧ VR B (.tup [.int k.1, .int k.2]) (.ref a) ∧ VR B p v ∧ KVT B r l'
noncomputable def ATT (B : Store) : List (Str × PV) → List DictEntry → Prop
  | [], l => l = []
  | (x, p) :: r, l => ∃ hs t v l', l = ⟨hs, .str x t, v⟩ :: l' ∧ VR B p v ∧ ATT B r l'
noncomputable def MR (B : Store) : MO → Obj → Prop
  | .list ps, o => ∃ vs n, o = listObj vs n ∧ VRs B ps vs
  | .dictI ep kvs, o => ∃ es kv', o.ExactDict ∧ o.data = .dict es ep ∧ KeysOf (intKind prog w) es ∧ Pairs (intKind prog w) es.toList kv' ∧ (kv'.map (·.1)).Nodup ∧ KVI B kvs kv'
  | .dictT ep kvs, o => ∃ xs es, o.ExactDict ∧ o.data = .dict es ep ∧ es.toList = xs.map (entryOfKey (tupleKind (intKind prog w))) ∧ (xs.map (·.1)).Nodup ∧ KVT B kvs xs
  | .inst c d, o => o = instObj c d
  | .attrs at_, o => ∃ es ep, o = { cls := .type "dict", data := .dict es.toArray ep } ∧ ATT B at_ es
variable {prog w}
theorem KVI.mono' {B B' : Store} (hB : B.sees B') : ∀ {kvs : List (Int × PV)} {l : List (Int × Value)}, KVI B kvs l → KVI B' kvs l
  | [], _, h => h
  | (_, _) :: _, _, h => by obtain ⟨v, l', rfl, h1, h2⟩ := h; exact ⟨v, l', rfl, h1.mono' hB, KVI.mono' hB h2⟩
theorem KVT.mono' {B B' : Store} (hB : B.sees B') : ∀ {kvs : List ((Int × Int) × PV)} {l : List (List Int × Addr × Value)}, KVT B kvs l → KVT B' kvs l
  | [], _, h => h
  | (_, _) :: _, _, h => by obtain ⟨a, v, l', rfl, h0, h1, h2⟩ := h; exact ⟨a, v, l', rfl, h0.mono' hB, h1.mono' hB, KVT.mono' hB h2⟩
theorem ATT.mono' {B B' : Store} (hB : B.sees B') : ∀ {kvs : List (Str × PV)} {l : List DictEntry}, ATT B kvs l → ATT B' kvs l
  | [], _, h => h
  | (_, _) :: _, _, h => by obtain ⟨a, t, v, l', rfl, h1, h2⟩ := h; exact ⟨a, t, v, l', rfl, h1.mono' hB, ATT.mono' hB h2⟩
theorem MR.mono' {B B' : Store} (hB : B.sees B') {m : MO} {o : Obj} (h : MR prog w B m o) : MR prog w B' m o := by
  cases m with
  | list ps => obtain ⟨vs, n, e, h⟩ := h; exact ⟨vs, n, e, h.mono' hB⟩
  | dictI ep kvs => obtain ⟨es, kv', h1, h2, h3, h4, h5, h⟩ := h; exact ⟨es, kv', h1, h2, h3, h4, h5, h.mono' hB⟩
  | dictT ep kvs => obtain ⟨xs, es, h1, h2, h3, h4, h⟩ := h; exact ⟨xs, es, h1, h2, h3, h4, h.mono' hB⟩
  | inst c d => exact h
  | attrs at_ => obtain ⟨es, ep, e, h⟩ := h; exact ⟨es, ep, e, h.mono' hB⟩
theorem MR.mono {B B' : Store} (hB : B.le B') {m : MO} {o : Obj} (h : MR prog w B m o) : MR prog w B' m o := MR.mono' hB.sees h
end mr

noncomputable def notSeq (o : Obj) : Prop := ¬ Seen o
theorem notSeq_dict {o : Obj} {es : Array DictEntry} {n : Nat} (h : o.data = .dict es n) : notSeq o := by
  rintro (⟨_, _, e⟩ | ⟨_, _, e⟩) <;> (rw [h] at e; cases e)
theorem notSeq_cell {o : Obj} {v : Option Value} (h : o.data = .cell v) : notSeq o := by
  rintro (⟨_, _, e⟩ | ⟨_, _, e⟩) <;> (rw [h] at e; cases e)
structure Gnd (prog : Program) (w : World) (Kf : Frag) (H : Heap) : Prop where
  kin : Kf.In H
  ns : ∃ mg mb, H.Ns mainGlobals mg ∧ H.Ns builtinsNs mb ∧ ∀ x : Str, x ≠ "__name__" → mb x = bootBuiltins x
  nolimit : H.NoLimit

set_option genInjectivity false in
set_option genSizeOf false in
structure Bx (prog : Program) (w : World) (Kf : Frag) where
  A : Around
  s : Shared
  K : Store
  S0 : Store
  H : Heap
  room : Nat
  hand : A.handled = Option.none
  depth : A.depth + room < recursionLimit
  units : A.units + 10 * room + 200 < cLine
  gnd : Gnd prog w Kf H
  hK : ∀ a o, H.get? a = some o → K a = some o
  tups : ∀ a o, H.get? a = some o → o.cls = .type "tuple" → S0 a = some o

section ab
variable {prog : Program} {w : World} {Kf : Frag}

structure Abs0 (D : Bx prog w Kf) (own : List Addr) (B : Store) (Δ : Led) (h : Heap) : Prop where
  keepK : ∀ a o, D.K a = some o → h.get? a = some o
  keepB : ∀ a o, B a = some o → h.get? a = some o
  owned : ∀ a m, Δ a = some m → ∃ o, h.get? a = some o ∧ MR prog w B m o
  offΔ : ∀ a m, Δ a = some m → D.K a = Option.none ∧ B a = Option.none ∧ a ∉ own
  big : ∀ a m, Δ a = some m → (a == sysModules) = false
  offO : ∀ a ∈ own, D.K a = Option.none ∧ B a = Option.none ∧ ∃ o, h.get? a = some o ∧ notSeq o
  apart : ∀ a o, B a = some o → D.K a = Option.none ∨ D.S0 a = some o
  s0 : D.S0.le B
end ab

set_option genInjectivity false in
set_option genSizeOf false in
structure Cx (prog : Program) (w : World) (Kf : Frag) (sc : Scope) extends Bx prog w Kf where
  env : Env
  own : List Addr
  hsc : env.scope = sc
  kind : sc.kind = .function
  globals : env.globals = mainGlobals
  builtins : env.builtins = builtinsNs
  nodup : (sc.names.map (·.1)).Nodup
  isFn : Bool
  cellsOwn : isFn = true → ∀ x, sc.names.lookup x = some .cell → ∃ c, env.cells.lookup x = some c ∧ c ∈ own
  locOwn : env.locals ∈ own
  locCell : ∀ x c, env.cells.lookup x = some c → c ≠ env.locals
  cellApart : ∀ x y c, env.cells.lookup x = some c → env.cells.lookup y = some c → x = y
  cellKept : ∀ x c, env.cells.lookup x = some c → c ∈ own ∨ (K c).isSome

section
variable {prog : Program} {w : World} {Kf : Frag} {sc : Scope}

noncomputable def SlotHas (env : Env) (m cm : Str → Option Value) (B : Store) (x : Str) (k : NameKind) (p : PV) : Prop :=
  match k with
  | .local => ∃ v, m x = some v ∧ VR B p v
  | .cell | .free => ∃ c v, env.cells.lookup x = some c ∧ cm x = some v ∧ VR B p v
  | _ => False

noncomputable def FrameOk (C : Cx prog w Kf sc) (B : Store) (l : List (Option PV)) (h : Heap) : Prop :=
  ∃ m cm, h.Ns C.env.locals m ∧ (∀ x c, C.env.cells.lookup x = some c → h.IsCell c (cm x)) ∧
    ∀ (i : Nat) (x : Str) (k : NameKind) (p : PV), sc.names[i]? = some (x, k) → l[i]? = some (some p) → SlotHas C.env m cm B x k p

structure Abs (C : Cx prog w Kf sc) (B : Store) (l : List (Option PV)) (Δ : Led) (h : Heap) : Prop where
  base : Abs0 C.toBx C.own B Δ h
  frame : FrameOk C B l h

theorem SlotHas.mono {env : Env} {m cm : Str → Option Value} {B B' : Store} (hB : B.le B') {x : Str} {k : NameKind} {p : PV} (h : SlotHas env m cm B x k p) : SlotHas env m cm B' x k p := by
  cases k <;> first | exact h.elim | skip
  · obtain ⟨v, a, b⟩ := h; exact ⟨v, a, b.mono hB⟩
  · obtain ⟨c, v, a, b, d⟩ := h; exact ⟨c, v, a, b, d.mono hB⟩
  · obtain ⟨c, v, a, b, d⟩ := h; exact ⟨c, v, a, b, d.mono hB⟩

theorem Abs0.grow {D : Bx prog w Kf} {own : List Addr} {B : Store} {Δ : Led} {h h' : Heap} (x : Abs0 D own B Δ h) (k : ∀ b o, h.get? b = some o → h'.get? b = some o) : Abs0 D own B Δ h' where
  keepK := fun a o e => k _ _ (x.keepK a o e)
  keepB := fun a o e => k _ _ (x.keepB a o e)
  owned := fun a m e => let ⟨o, ho, r⟩ := x.owned a m e; ⟨o, k _ _ ho, r⟩
  offΔ := x.offΔ
  big := x.big
  offO := fun a ha => let ⟨h1, h2, o, h3, h4⟩ := x.offO a ha; ⟨h1, h2, o, k _ _ h3, h4⟩
  apart := x.apart
  s0 := x.s0
theorem FrameOk.grow {C : Cx prog w Kf sc} {B : Store} {l : List (Option PV)} {h h' : Heap} (x : FrameOk C B l h) (k : ∀ b o, h.get? b = some o → h'.get? b = some o) : FrameOk C B l h' :=
  let ⟨m, cm, a, b, c⟩ := x; ⟨m, cm, a.keeps k, fun y cc e => (b y cc e).keeps k, c⟩
theorem FrameOk.mono {C : Cx prog w Kf sc} {B B' : Store} {l : List (Option PV)} {h : Heap} (hB : B.le B') (x : FrameOk C B l h) : FrameOk C B' l h :=
  let ⟨m, cm, a, b, c⟩ := x; ⟨m, cm, a, b, fun i y k p e1 e2 => (c i y k p e1 e2).mono hB⟩
theorem Abs.grow {C : Cx prog w Kf sc} {B : Store} {l : List (Option PV)} {Δ : Led} {h h' : Heap} (x : Abs C B l Δ h) (k : ∀ b o, h.get? b = some o → h'.get? b = some o) : Abs C B l Δ h' :=
  ⟨x.base.grow k, x.frame.grow k⟩

theorem fresh_of {h : Heap} {B : Store} (k : ∀ a o, B a = some o → h.get? a = some o) : B h.objs.size = Option.none := by
  cases e : B h.objs.size with
  | none => rfl
  | some o => exact absurd (Heap.lt_size (k _ _ e)) (Nat.lt_irrefl _)

theorem Abs0.freeze {D : Bx prog w Kf} {own : List Addr} {B : Store} {Δ : Led} {h : Heap} {o : Obj} (x : Abs0 D own B Δ h) (hf : o.isFreed = false) : Abs0 D own (B.put h.objs.size o) Δ (h.push o) ∧ B.le (B.put h.objs.size o) := by
  have hB := Store.put_le (B := B) (a := h.objs.size) (o := o) (fresh_of x.keepB)
  refine ⟨⟨fun a o' e => Heap.get?_push_of_some _ (x.keepK a o' e), fun a o' e => ?_, fun a m e => ?_, fun a m e => ?_, x.big, fun a ha => ?_, fun a o' e => ?_, Store.le_trans x.s0 hB⟩, hB⟩
  · by_cases q : a = h.objs.size
    · subst q; rw [Store.put_self] at e; cases e; exact Heap.get?_push_size _ hf
    · rw [Store.put_ne q] at e; exact Heap.get?_push_of_some _ (x.keepB a o' e)
  · obtain ⟨o', ho, r⟩ := x.owned a m e
    exact ⟨o', Heap.get?_push_of_some _ ho, r.mono hB⟩
  · obtain ⟨h1, h2, h3⟩ := x.offΔ a m e
    obtain ⟨o', ho, _⟩ := x.owned a m e
    exact ⟨h1, by rw [Store.put_ne (Nat.ne_of_lt (Heap.lt_size ho))]; exact h2, h3⟩
  · obtain ⟨h1, h2, o', h3, h4⟩ := x.offO a ha
    exact ⟨h1, by rw [Store.put_ne (Nat.ne_of_lt (Heap.lt_size h3))]; exact h2, o', Heap.get?_push_of_some _ h3, h4⟩
  · by_cases q : a = h.objs.size
    · subst q; exact .inl (fresh_of x.keepK)
    · rw [Store.put_ne q] at e; exact x.apart a o' e

theorem Abs0.alloc {D : Bx prog w Kf} {own : List Addr} {B : Store} {Δ : Led} {h : Heap} {o : Obj} {m : MO} (x : Abs0 D own B Δ h) (hf : o.isFreed = false) (hm : MR prog w B m o) :
    Abs0 D own B (Δ.upd h.objs.size m) (h.push o) ∧ Δ h.objs.size = Option.none := by
  have hΔ : Δ h.objs.size = Option.none := by
    cases e : Δ h.objs.size with
    | none => rfl
    | some m' => obtain ⟨o', ho, _⟩ := x.owned _ _ e; exact absurd (Heap.lt_size ho) (Nat.lt_irrefl _)
  refine ⟨⟨fun a o' e => Heap.get?_push_of_some _ (x.keepK a o' e), fun a o' e => Heap.get?_push_of_some _ (x.keepB a o' e), fun a m' e => ?_, fun a m' e => ?_, fun a m' e => ?_, fun a ha => ?_, x.apart, x.s0⟩, hΔ⟩
  · by_cases q : a = h.objs.size
    · subst q; rw [Led.upd_self] at e; cases e; exact ⟨o, Heap.get?_push_size _ hf, hm⟩
    · rw [Led.upd_ne q] at e; obtain ⟨o', ho, r⟩ := x.owned a m' e; exact ⟨o', Heap.get?_push_of_some _ ho, r⟩
  · by_cases q : a = h.objs.size
    · subst q
      exact ⟨fresh_of x.keepK, fresh_of x.keepB, fun ha => let ⟨_, _, o', h3, _⟩ := x.offO _ ha; absurd (Heap.lt_size h3) (Nat.lt_irrefl _)⟩
    · rw [Led.upd_ne q] at e; exact x.offΔ a m' e
  · by_cases q : a = h.objs.size
    · subst q
      obtain ⟨mg, _, ⟨o3, _, _, h3, _⟩, _⟩ := D.gnd.ns
      have := Heap.lt_size (x.keepK _ _ (D.hK _ _ h3))
      rw [beq_eq_false_iff_ne]
      intro e1; rw [e1] at this; exact absurd this (by decide)
    · rw [Led.upd_ne q] at e; exact x.big a m' e
  · obtain ⟨h1, h2, o', h3, h4⟩ := x.offO a ha
    exact ⟨h1, h2, o', Heap.get?_push_of_some _ h3, h4⟩

theorem Abs0.turn {D : Bx prog w Kf} {own : List Addr} {B : Store} {Δ : Led} {h h' : Heap} {a : Addr} {m₀ m : MO} {o : Obj} (x : Abs0 D own B Δ h) (ha : Δ a = some m₀) (hs : Heap.SameBut a h h') (ho : h'.get? a = some o) (hm : MR prog w B m o) :
    Abs0 D own B (Δ.upd a m) h' := by
  obtain ⟨a1, a2, a3⟩ := x.offΔ a m₀ ha
  refine ⟨fun b o' e => (hs.2 b ?_).trans (x.keepK b o' e), fun b o' e => (hs.2 b ?_).trans (x.keepB b o' e), fun b m' e => ?_, fun b m' e => ?_, fun b m' e => ?_, fun b hb => ?_, x.apart, x.s0⟩
  · rintro rfl; rw [a1] at e; cases e
  · rintro rfl; rw [a2] at e; cases e
  · by_cases q : b = a
    · subst q; rw [Led.upd_self] at e; cases e; exact ⟨o, ho, hm⟩
    · rw [Led.upd_ne q] at e; obtain ⟨o', ho', r⟩ := x.owned b m' e; exact ⟨o', (hs.2 b q).trans ho', r⟩
  · by_cases q : b = a
    · subst q; exact ⟨a1, a2, a3⟩
    · rw [Led.upd_ne q] at e; exact x.offΔ b m' e
  · by_cases q : b = a
    · subst q; exact x.big _ _ ha
    · rw [Led.upd_ne q] at e; exact x.big b m' e
  · obtain ⟨h1, h2, o', h3, h4⟩ := x.offO b hb
    exact ⟨h1, h2, o', (hs.2 b fun q => a3 (q ▸ hb)).trans h3, h4⟩

theorem FrameOk.turn {C : Cx prog w Kf sc} {B : Store} {l : List (Option PV)} {h h' : Heap} {a : Addr} (x : FrameOk C B l h) (hs : Heap.SameBut a h h') (ha : a ∉ C.own) (hK : C.K a = Option.none) : FrameOk C B l h' := by
  obtain ⟨m, cm, h1, h2, h3⟩ := x
  refine ⟨m, cm, h1.sameBut hs ?_, fun y c e => (h2 y c e).sameBut hs ?_, h3⟩
  · rintro q; exact ha (q ▸ C.locOwn)
  · rintro rfl
    rcases C.cellKept y c e with q | q
    · exact ha q
    · rw [hK] at q; cases q

theorem Abs.turn {C : Cx prog w Kf sc} {B : Store} {l : List (Option PV)} {Δ : Led} {h h' : Heap} {a : Addr} {m₀ m : MO} {o : Obj} (x : Abs C B l Δ h) (ha : Δ a = some m₀) (hs : Heap.SameBut a h h') (ho : h'.get? a = some o) (hm : MR prog w B m o) :
    Abs C B l (Δ.upd a m) h' := ⟨x.base.turn ha hs ho hm, x.frame.turn hs (x.base.offΔ a m₀ ha).2.2 (x.base.offΔ a m₀ ha).1⟩
theorem Abs.freeze {C : Cx prog w Kf sc} {B : Store} {l : List (Option PV)} {Δ : Led} {h : Heap} {o : Obj} (x : Abs C B l Δ h) (hf : o.isFreed = false) : Abs C (B.put h.objs.size o) l Δ (h.push o) ∧ B.le (B.put h.objs.size o) :=
  ⟨⟨(x.base.freeze hf).1, (x.frame.grow fun b o' e => Heap.get?_push_of_some _ e).mono (x.base.freeze hf).2⟩, (x.base.freeze hf).2⟩
theorem Abs.alloc {C : Cx prog w Kf sc} {B : Store} {l : List (Option PV)} {Δ : Led} {h : Heap} {o : Obj} {m : MO} (x : Abs C B l Δ h) (hf : o.isFreed = false) (hm : MR prog w B m o) :
    Abs C B l (Δ.upd h.objs.size m) (h.push o) ∧ Δ h.objs.size = Option.none :=
  ⟨⟨(x.base.alloc hf hm).1, x.frame.grow fun b o' e => Heap.get?_push_of_some _ e⟩, (x.base.alloc hf hm).2⟩

theorem Abs0.drop {D : Bx prog w Kf} {own : List Addr} {B : Store} {Δ Δ' : Led} {h : Heap} (x : Abs0 D own B Δ h) (hl : Δ'.le Δ) : Abs0 D own B Δ' h :=
  ⟨x.keepK, x.keepB, fun a m e => x.owned a m (hl a m e), fun a m e => x.offΔ a m (hl a m e), fun a m e => x.big a m (hl a m e), x.offO, x.apart, x.s0⟩
noncomputable def lle (l' l : List (Option PV)) : Prop := ∀ (i : Nat) (p : PV), l'[i]? = some (some p) → l[i]? = some (some p)
theorem Abs.drop {C : Cx prog w Kf sc} {B : Store} {l l' : List (Option PV)} {Δ Δ' : Led} {h : Heap} (x : Abs C B l Δ h) (hΔ : Δ'.le Δ) (hl : lle l' l) : Abs C B l' Δ' h :=
  ⟨x.base.drop hΔ, let ⟨m, cm, a, b, c⟩ := x.frame; ⟨m, cm, a, b, fun i y k p e1 e2 => c i y k p e1 (hl i p e2)⟩⟩
end

section
variable {prog : Program} {w : World} {Kf : Frag} {sc : Scope}

inductive Post (C : Cx prog w Kf sc) (B : Store) (l : List (Option PV)) (Q : PV → Led → Prop) (v : Value) (s' : Shared) : Prop
  | mk (h' : Heap) (tk : Nat) (B' : Store) (Δ' : Led) (p : PV) (e : s' = { C.s with heap := h', toks := tk }) (hB : B.le B') (a : Abs C B' l Δ' h') (r : VR B' p v) (q : Q p Δ')

noncomputable def EV (C : Cx prog w Kf sc) (e : Expr) (l : List (Option PV)) (Δ : Led) (Q : PV → Led → Prop) : Prop :=
  ∀ B h tk, Abs C B l Δ h → wpAny (model prog w) C.A (eval e C.env) (Post C B l Q) (fun _ _ => False) { C.s with heap := h, toks := tk }

inductive PostB (C : Cx prog w Kf sc) (B : Store) (l : List (Option PV)) (Q : Bool → Led → Prop) (b : Bool) (s' : Shared) : Prop
  | mk (h' : Heap) (tk : Nat) (B' : Store) (Δ' : Led) (e : s' = { C.s with heap := h', toks := tk }) (hB : B.le B') (a : Abs C B' l Δ' h') (q : Q b Δ')
noncomputable def TV (C : Cx prog w Kf sc) (e : Expr) (l : List (Option PV)) (Δ : Led) (Q : Bool → Led → Prop) : Prop :=
  ∀ B h tk, Abs C B l Δ h → wpAny (model prog w) C.A (isTrue e C.env (eval e C.env)) (PostB C B l Q) (fun _ _ => False) { C.s with heap := h, toks := tk }

inductive PostF (C : Cx prog w Kf sc) (B : Store) (Qn : List (Option PV) → Led → Prop) (Qr : PV → Led → Prop) (f : Flow) (s' : Shared) : Prop
  | mk (h' : Heap) (tk : Nat) (B' : Store) (Δ' : Led) (l' : List (Option PV)) (e : s' = { C.s with heap := h', toks := tk }) (hB : B.le B') (a : Abs C B' l' Δ' h')
    (q : match f with
      | .next => Qn l' Δ'
      | .ret v => ∃ p, VR B' p v ∧ Qr p Δ'
      | _ => False)
noncomputable def SV1 (C : Cx prog w Kf sc) (st : Stmt) (l : List (Option PV)) (Δ : Led) (Qn : List (Option PV) → Led → Prop) (Qr : PV → Led → Prop) : Prop :=
  ∀ B h tk, Abs C B l Δ h → wpAny (model prog w) C.A (exec st C.env) (PostF C B Qn Qr) (fun _ _ => False) { C.s with heap := h, toks := tk }
noncomputable def SV (C : Cx prog w Kf sc) (ss : List Stmt) (l : List (Option PV)) (Δ : Led) (Qn : List (Option PV) → Led → Prop) (Qr : PV → Led → Prop) : Prop :=
  ∀ B h tk, Abs C B l Δ h → wpAny (model prog w) C.A (execs ss C.env) (PostF C B Qn Qr) (fun _ _ => False) { C.s with heap := h, toks := tk }

inductive PostC (D : Bx prog w Kf) (own : List Addr) (B : Store) (Q : PV → Led → Prop) (r : Result) (s' : Shared) : Prop
  | mk (v : Value) (h' : Heap) (tk : Nat) (B' : Store) (Δ' : Led) (p : PV) (e : r = .ok (.ret v)) (es : s' = { D.s with heap := h', toks := tk }) (hB : B.le B') (a : Abs0 D own B' Δ' h') (rv : VR B' p v) (q : Q p Δ')
noncomputable def CS (D : Bx prog w Kf) (f : Addr) (ps : List PV) (Δ : Led) (Q : PV → Led → Prop) : Prop :=
  ∀ B h tk vs, Abs0 D [] B Δ h → VRs B ps vs → codeAny (model prog w) D.A (.call (.ref f) ⟨vs, []⟩) (PostC D [] B Q) { D.s with heap := h, toks := tk }

theorem Post.mono {C : Cx prog w Kf sc} {B : Store} {l : List (Option PV)} {Q Q' : PV → Led → Prop} {v : Value} {s' : Shared} (h : ∀ p Δ, Q p Δ → Q' p Δ) (x : Post C B l Q v s') : Post C B l Q' v s' :=
  let ⟨h', tk, B', Δ', p, a, b, c, d, e⟩ := x; ⟨h', tk, B', Δ', p, a, b, c, d, h _ _ e⟩
theorem EV.mono {C : Cx prog w Kf sc} {e : Expr} {l : List (Option PV)} {Δ : Led} {Q Q' : PV → Led → Prop} (x : EV C e l Δ Q) (h : ∀ p Δ, Q p Δ → Q' p Δ) : EV C e l Δ Q' :=
  fun B hh tk a => wpAny_mono (x B hh tk a) (fun _ _ y => y.mono h) fun _ _ y => y
theorem CS.mono {D : Bx prog w Kf} {f : Addr} {ps : List PV} {Δ : Led} {Q Q' : PV → Led → Prop} (x : CS D f ps Δ Q) (h : ∀ p Δ, Q p Δ → Q' p Δ) : CS D f ps Δ Q' :=
  fun B hh tk vs a r => codeAny_mono (x B hh tk vs a r) fun _ _ ⟨v, h', tk, B', Δ', p, y1, y2, y3, y4, y5, y6⟩ => ⟨v, h', tk, B', Δ', p, y1, y2, y3, y4, y5, h _ _ y6⟩
end
end Mine

namespace Mine
section
variable {prog : Program} {w : World} {Kf : Frag} {sc : Scope} {C : Cx prog w Kf sc} {l : List (Option PV)} {Δ : Led} {Q : PV → Led → Prop}
  {Qn : List (Option PV) → Led → Prop} {Qr : PV → Led → Prop}

theorem Cx.kindOf (C : Cx prog w Kf sc) (x : Str) : C.env.kindOf x = sc.names.lookup x := by unfold Env.kindOf; rw [C.hsc]
theorem Cx.ekind (C : Cx prog w Kf sc) : C.env.scope.kind = .function := by rw [C.hsc]; exact C.kind
theorem Abs.H {B : Store} {h : Heap} (x : Abs C B l Δ h) : ∀ a o, C.H.get? a = some o → h.get? a = some o := fun a o e => x.base.keepK a o (C.hK a o e)
theorem Abs.kin {B : Store} {h : Heap} (x : Abs C B l Δ h) : Kf.In h := fun a o e => x.H a o (C.gnd.kin a o e)
theorem Abs0.H {D : Bx prog w Kf} {own : List Addr} {B : Store} {h : Heap} (x : Abs0 D own B Δ h) : ∀ a o, D.H.get? a = some o → h.get? a = some o := fun a o e => x.keepK a o (D.hK a o e)
theorem Abs0.kin {D : Bx prog w Kf} {own : List Addr} {B : Store} {h : Heap} (x : Abs0 D own B Δ h) : Kf.In h := fun a o e => x.H a o (D.gnd.kin a o e)

theorem SV_nil (h : Qn l Δ) : SV C [] l Δ Qn Qr := fun B hh tk a => wpAny_execs_nil ⟨hh, tk, B, Δ, l, rfl, Store.le_refl _, a, h⟩
theorem SV_cons {st : Stmt} {ss : List Stmt} (h : SV1 C st l Δ (fun l' Δ' => SV C ss l' Δ' Qn Qr) Qr) : SV C (st :: ss) l Δ Qn Qr := fun B hh tk a => by
  refine wpAny_execs_cons (wpAny_mono (h B hh tk a) (fun f s' ⟨h', tk', B', Δ', l', e, hB, a', q⟩ => ?_) fun _ _ x => x)
  subst e
  cases f with
  | next =>
    refine wpAny_mono (q B' h' tk' a') (fun f s' ⟨h'', tk'', B'', Δ'', l'', e, hB', a'', q'⟩ => ?_) fun _ _ x => x
    exact ⟨h'', tk'', B'', Δ'', l'', e, Store.le_trans hB hB', a'', q'⟩
  | ret v => exact ⟨h', tk', B', Δ', l', rfl, hB, a', q⟩
  | brk => exact q.elim
  | cont => exact q.elim

theorem Post.now {B : Store} {h : Heap} {tk : Nat} {v : Value} {p : PV} (a : Abs C B l Δ h) (r : VR B p v) (q : Q p Δ) : Post C B l Q v { C.s with heap := h, toks := tk } :=
  ⟨h, tk, B, Δ, p, rfl, Store.le_refl _, a, r, q⟩
theorem Post.trans {B B' : Store} {v : Value} {s' : Shared} (hB : B.le B') (x : Post C B' l Q v s') : Post C B l Q v s' :=
  let ⟨h', tk, B'', Δ', p, e, hB', a, r, q⟩ := x; ⟨h', tk, B'', Δ', p, e, Store.le_trans hB hB', a, r, q⟩
theorem PostB.trans {Q : Bool → Led → Prop} {B B' : Store} {v : Bool} {s' : Shared} (hB : B.le B') (x : PostB C B' l Q v s') : PostB C B l Q v s' :=
  let ⟨h', tk, B'', Δ', e, hB', a, q⟩ := x; ⟨h', tk, B'', Δ', e, Store.le_trans hB hB', a, q⟩
theorem PostF.trans {B B' : Store} {v : Flow} {s' : Shared} (hB : B.le B') (x : PostF C B' Qn Qr v s') : PostF C B Qn Qr v s' :=
  let ⟨h', tk, B'', Δ', l', e, hB', a, q⟩ := x; ⟨h', tk, B'', Δ', l', e, Store.le_trans hB hB', a, q⟩

theorem loadName_at {B : Store} {h : Heap} {tk : Nat} {x : Str} {k : NameKind} {i : Nat} {p : PV} (a : Abs C B l Δ h) (hi : sc.names[i]? = some (x, k)) (hx : sc.names.lookup x = some k) (hl : l[i]? = some (some p))
    (q : Q p Δ) (hn : (x == ("__classdict__" : Str)) = false) : wpAny (model prog w) C.A (loadName C.env x) (Post C B l Q) (fun _ _ => False) { C.s with heap := h, toks := tk } := by
  obtain ⟨m, cm, hns, hcl, hsl⟩ := a.frame
  have S := hsl i x k p hi hl
  have hk : C.env.kindOf x = some k := (C.kindOf x).trans hx
  cases k <;> first | exact S.elim | skip
  · obtain ⟨v, hv, r⟩ := S
    exact wpAny_loadName_local C.ekind hk hns hv (.now a r q)
  · obtain ⟨c, v, hc, hv, r⟩ := S
    exact wpAny_loadName_cell C.ekind hk hc (hv ▸ hcl x c hc) (.now a r q)
  · obtain ⟨c, v, hc, hv, r⟩ := S
    exact wpAny_loadName_free C.ekind hk hc (hv ▸ hcl x c hc) (.now a r q) hn
theorem EV_name {x : Str} {pos : Pos} {k : NameKind} (i : Nat) {p : PV} (hl : l[i]? = some (some p)) (hi : sc.names[i]? = some (x, k)) (hx : sc.names.lookup x = some k) (hd : (x == ("__debug__" : Str)) = false) (hn : (x == ("__classdict__" : Str)) = false)
    (q : Q p Δ) : EV C (.Name x pos) l Δ Q := fun B h tk a => wpAny_Name (loadName_at a hi hx hl q hn) hd

theorem EV_int {i : Int} {k : Nat} {pos : Pos} (q : Q (.int i) Δ) : EV C (.Constant (.int i) k pos) l Δ Q := fun B h tk a => wpAny_Constant_int (.now a .int q)
theorem EV_bool {b : Bool} {k : Nat} {pos : Pos} (q : Q (.bool b) Δ) : EV C (.Constant (.bool b) k pos) l Δ Q := fun B h tk a => wpAny_Constant_bool (.now a .bool q)
theorem EV_none {k : Nat} {pos : Pos} (q : Q .none Δ) : EV C (.Constant .none k pos) l Δ Q := fun B h tk a => wpAny_Constant_none (.now a .none q)
theorem EV_str {x : Str} {k : Nat} {pos : Pos} (q : Q (.str x) Δ) : EV C (.Constant (.str x) k pos) l Δ Q := fun B h tk a => wpAny_mkText (.now a .str q)

inductive PostL (C : Cx prog w Kf sc) (B : Store) (l : List (Option PV)) (Q : List PV → Led → Prop) (vs : List Value) (s' : Shared) : Prop
  | mk (h' : Heap) (tk : Nat) (B' : Store) (Δ' : Led) (ps : List PV) (e : s' = { C.s with heap := h', toks := tk }) (hB : B.le B') (a : Abs C B' l Δ' h') (r : VRs B' ps vs) (q : Q ps Δ')
noncomputable def LV (C : Cx prog w Kf sc) (es : List Expr) (l : List (Option PV)) (Δ : Led) (Q : List PV → Led → Prop) : Prop :=
  ∀ B h tk pos, Abs C B l Δ h → wpAny (model prog w) C.A (spliced (backTo pos (starEach es C.env))) (PostL C B l Q) (fun _ _ => False) { C.s with heap := h, toks := tk }
theorem LV_nil {Q : List PV → Led → Prop} (q : Q [] Δ) : LV C [] l Δ Q := fun B h tk pos a => args_nil ⟨h, tk, B, Δ, [], rfl, Store.le_refl _, a, .nil, q⟩
noncomputable def noStar : Expr → Bool
  | .Starred .. => false
  | _ => true
theorem starEach_cons {e : Expr} {rest : List Expr} {env : Env} (h : noStar e = true) : starEach (e :: rest) env = (false, eval e env) :: starEach rest env := by
  cases e <;> first | rfl | cases h
theorem LV_cons {e : Expr} {es : List Expr} {Q : List PV → Led → Prop} (h : EV C e l Δ (fun p Δ' => LV C es l Δ' (fun ps Δ'' => Q (p :: ps) Δ''))) (hs : noStar e = true) : LV C (e :: es) l Δ Q := fun B hh tk pos a => by
  refine args_cons (wpAny_mono (h B hh tk a) (fun v s' ⟨h', tk', B', Δ', p, e', hB, a', r, q⟩ => ?_) fun _ _ x => x) (starEach_cons hs)
  subst e'
  refine wpAny_mono (q B' h' tk' pos a') (fun vs s' ⟨h'', tk'', B'', Δ'', ps, e'', hB', a'', r', q'⟩ => ?_) fun _ _ x => x
  exact ⟨h'', tk'', B'', Δ'', p :: ps, e'', Store.le_trans hB hB', a'', .cons (r.mono hB') r', q'⟩

theorem newTuple_at {B : Store} {h : Heap} {tk : Nat} {vs : List Value} {ps : List PV} (a : Abs C B l Δ h) (r : VRs B ps vs) (q : Q (.tup ps) Δ) :
    Post C B l Q (.ref h.objs.size) { C.s with heap := h.push { cls := .type "tuple", data := .seq vs.toArray }, toks := tk } := by
  obtain ⟨a', hB⟩ := a.freeze (o := { cls := .type "tuple", data := .seq vs.toArray }) rfl
  refine ⟨_, _, _, Δ, .tup ps, rfl, hB, a', ?_, q⟩
  unfold VR
  exact ⟨_, vs, _, 0, rfl, Store.put_self _ _ _, rfl, rfl, r.mono hB⟩
theorem newList_at {B : Store} {h : Heap} {tk : Nat} {vs : List Value} {ps : List PV} (a : Abs C B l Δ h) (r : VRs B ps vs) (q : Q (.list ps) Δ) :
    Post C B l Q (.ref h.objs.size) { C.s with heap := h.push { cls := .type "list", data := .seq vs.toArray }, toks := tk } := by
  obtain ⟨a', hB⟩ := a.freeze (o := { cls := .type "list", data := .seq vs.toArray }) rfl
  refine ⟨_, _, _, Δ, .list ps, rfl, hB, a', ?_, q⟩
  unfold VR
  exact ⟨_, vs, 0, rfl, Store.put_self _ _ _, r.mono hB⟩
theorem newOwned_at {B : Store} {h : Heap} {tk : Nat} {o : Obj} {m : MO} (a : Abs C B l Δ h) (hf : o.isFreed = false) (hm : MR prog w B m o) (q : ∀ b, Δ b = none → Q (.obj b) (Δ.upd b m)) :
    Post C B l Q (.ref h.objs.size) { C.s with heap := h.push o, toks := tk } := by
  obtain ⟨a', hn⟩ := a.alloc hf hm
  exact ⟨_, _, B, _, .obj h.objs.size, rfl, Store.le_refl _, a', .obj, q _ hn⟩

theorem EV_tuple {es : List Expr} {k : Nat} {pos : Pos} (h : LV C es l Δ (fun ps Δ' => ps.length ≤ sizeLine ∧ Q (.tup ps) Δ')) : EV C (.Tuple es k pos) l Δ Q := fun B hh tk a => by
  refine wpAny_Tuple_spliced (wpAny_mono (h B hh tk pos a) (fun vs s' ⟨h', tk', B', Δ', ps, e, hB, a', r, q⟩ => ?_) fun _ _ x => x)
  subst e
  exact ⟨by rw [r.length]; exact q.1, (newTuple_at a' r q.2).trans hB⟩
theorem EV_list {es : List Expr} {pos : Pos} (h : LV C es l Δ (fun ps Δ' => ps.length ≤ sizeLine ∧ Q (.list ps) Δ')) : EV C (.List es pos) l Δ Q := fun B hh tk a => by
  refine wpAny_List_spliced (wpAny_mono (h B hh tk pos a) (fun vs s' ⟨h', tk', B', Δ', ps, e, hB, a', r, q⟩ => ?_) fun _ _ x => x)
  subst e
  exact ⟨by rw [r.length]; exact q.1, (newList_at a' r q.2).trans hB⟩
theorem EV_listO {es : List Expr} {pos : Pos} (h : LV C es l Δ (fun ps Δ' => ps.length ≤ sizeLine ∧ ∀ b, Δ' b = none → Q (.obj b) (Δ'.upd b (.list ps)))) : EV C (.List es pos) l Δ Q := fun B hh tk a => by
  refine wpAny_List_spliced (wpAny_mono (h B hh tk pos a) (fun vs s' ⟨h', tk', B', Δ', ps, e, hB, a', r, q⟩ => ?_) fun _ _ x => x)
  subst e
  exact ⟨by rw [r.length]; exact q.1, (newOwned_at (o := listObj vs 0) (m := .list ps) a' rfl ⟨vs, 0, rfl, r⟩ q.2).trans hB⟩

noncomputable def BO (C : Cx prog w Kf sc) (op : Operator) (p q : PV) (l : List (Option PV)) (Δ : Led) (Q : PV → Led → Prop) : Prop :=
  ∀ B h tk u v, Abs C B l Δ h → VR B p u → VR B q v → wpAny (model prog w) C.A (binaryOp op u v) (Post C B l Q) (fun _ _ => False) { C.s with heap := h, toks := tk }
theorem EV_bin {e₁ e₂ : Expr} {op : Operator} {pos : Pos} (h : EV C e₁ l Δ (fun p Δ' => EV C e₂ l Δ' (fun q Δ'' => BO C op p q l Δ'' Q))) : EV C (.BinOp e₁ op e₂ pos) l Δ Q := fun B hh tk a => by
  refine wpAny_BinOp (wpAny_mono (h B hh tk a) (fun u s₁ ⟨h₁, tk₁, B₁, Δ₁, p, e, hB, a₁, r, k⟩ => ?_) fun _ _ x => x)
  subst e
  refine wpAny_mono (k B₁ h₁ tk₁ a₁) (fun v s₂ ⟨h₂, tk₂, B₂, Δ₂, q, e, hB', a₂, r', k'⟩ => ?_) fun _ _ x => x
  subst e
  exact wpAny_mono (k' B₂ h₂ tk₂ u v a₂ (r.mono hB') r') (fun _ _ z => z.trans (Store.le_trans hB hB')) fun _ _ x => x
noncomputable def CO (C : Cx prog w Kf sc) (op : CmpOp) (p q : PV) (l : List (Option PV)) (Δ : Led) (Q : Bool → Led → Prop) : Prop :=
  ∀ B h tk u v, Abs C B l Δ h → VR B p u → VR B q v → wpAny (model prog w) C.A (compareOp op u v) (Post C B l (fun p Δ' => ∃ b, p = .bool b ∧ Q b Δ')) (fun _ _ => False) { C.s with heap := h, toks := tk }
theorem EV_cmp {e₁ e₂ : Expr} {op : CmpOp} {pos : Pos} (h : EV C e₁ l Δ (fun p Δ' => EV C e₂ l Δ' (fun q Δ'' => CO C op p q l Δ'' (fun b Δ => Q (.bool b) Δ)))) (hm : behindInMarks op e₂ = false) : EV C (.Compare e₁ [op] [e₂] pos) l Δ Q := fun B hh tk a => by
  refine wpAny_Compare1 (wpAny_mono (h B hh tk a) (fun u s₁ ⟨h₁, tk₁, B₁, Δ₁, p, e, hB, a₁, r, k⟩ => ?_) fun _ _ x => x) hm
  subst e
  refine wpAny_mono (k B₁ h₁ tk₁ a₁) (fun v s₂ ⟨h₂, tk₂, B₂, Δ₂, q, e, hB', a₂, r', k'⟩ => ?_) fun _ _ x => x
  subst e
  exact wpAny_mono (k' B₂ h₂ tk₂ u v a₂ (r.mono hB') r') (fun _ _ z => (z.mono fun p Δ ⟨b, e, q⟩ => e ▸ q).trans (Store.le_trans hB hB')) fun _ _ x => x
theorem TV_cmp {e₁ e₂ : Expr} {op : CmpOp} {pos : Pos} {Q : Bool → Led → Prop} (h : EV C e₁ l Δ (fun p Δ' => EV C e₂ l Δ' (fun q Δ'' => CO C op p q l Δ'' Q))) (hm : behindInMarks op e₂ = false) : TV C (.Compare e₁ [op] [e₂] pos) l Δ Q := fun B hh tk a => by
  refine wpAny_isTrue_Compare1 (wpAny_mono (h B hh tk a) (fun u s₁ ⟨h₁, tk₁, B₁, Δ₁, p, e, hB, a₁, r, k⟩ => ?_) fun _ _ x => x) hm
  subst e
  refine wpAny_mono (k B₁ h₁ tk₁ a₁) (fun v s₂ ⟨h₂, tk₂, B₂, Δ₂, q, e, hB', a₂, r', k'⟩ => ?_) fun _ _ x => x
  subst e
  refine wpAny_mono (k' B₂ h₂ tk₂ u v a₂ (r.mono hB') r') (fun z s₃ ⟨h₃, tk₃, B₃, Δ₃, p', e, hB'', a₃, r'', b, e', q'⟩ => ?_) fun _ _ x => x
  subst e; subst e'
  rw [r''.bool_inv]
  exact wpAny_truthy_bool ⟨h₃, tk₃, B₃, Δ₃, rfl, Store.le_trans hB (Store.le_trans hB' hB''), a₃, q'⟩
theorem TV_of {e : Expr} {Q : Bool → Led → Prop} (h : EV C e l Δ (fun p Δ' => ∃ b, p = .bool b ∧ Q b Δ'))
    (he : isTrue e C.env (eval e C.env) = (do let v ← eval e C.env; standAt e.pos; holding [v] (truthy v))) : TV C e l Δ Q := fun B hh tk a => by
  refine wpAny_isTrue_value (wpAny_mono (h B hh tk a) (fun v s₁ ⟨h₁, tk₁, B₁, Δ₁, p, e, hB, a₁, r, b, e', q⟩ => ?_) fun _ _ x => x) he
  subst e; subst e'
  rw [r.bool_inv]
  exact wpAny_truthy_bool ⟨h₁, tk₁, B₁, Δ₁, rfl, hB, a₁, q⟩
theorem TV_not {e : Expr} {pos : Pos} {Q : Bool → Led → Prop} (h : TV C e l Δ (fun b Δ' => Q (!b) Δ')) : TV C (.UnaryOp .Not e pos) l Δ Q := fun B hh tk a =>
  wpAny_isTrue_Not (wpAny_mono (h B hh tk a) (fun b s' ⟨h', tk', B', Δ', e, hB, a', q⟩ => ⟨h', tk', B', Δ', e, hB, a', q⟩) fun _ _ x => x)
theorem TV_and {e₁ e₂ : Expr} {pos : Pos} {Q : Bool → Led → Prop} (h : TV C e₁ l Δ (fun b Δ' => if b = true then TV C e₂ l Δ' Q else Q false Δ')) : TV C (.BoolOp .And [e₁, e₂] pos) l Δ Q := fun B hh tk a => by
  refine wpAny_isTrue_BoolOp (wpAny_allTrue_And_cons (wpAny_mono (h B hh tk a) (fun b s' ⟨h', tk', B', Δ', e, hB, a', q⟩ => ?_) fun _ _ x => x))
  subst e
  cases b with
  | false => exact ⟨h', tk', B', Δ', rfl, hB, a', q⟩
  | true =>
    refine wpAny_allTrue_And_cons (wpAny_mono (q B' h' tk' a') (fun b s' z => ?_) fun _ _ x => x)
    cases b with
    | false => exact z.trans hB
    | true => exact wpAny_allTrue_And_nil (z.trans hB)
theorem TV_or {e₁ e₂ : Expr} {pos : Pos} {Q : Bool → Led → Prop} (h : TV C e₁ l Δ (fun b Δ' => if b = true then Q true Δ' else TV C e₂ l Δ' Q)) : TV C (.BoolOp .Or [e₁, e₂] pos) l Δ Q := fun B hh tk a => by
  refine wpAny_isTrue_BoolOp (wpAny_allTrue_Or_cons (wpAny_mono (h B hh tk a) (fun b s' ⟨h', tk', B', Δ', e, hB, a', q⟩ => ?_) fun _ _ x => x))
  subst e
  cases b with
  | true => exact ⟨h', tk', B', Δ', rfl, hB, a', q⟩
  | false =>
    refine wpAny_allTrue_Or_cons (wpAny_mono (q B' h' tk' a') (fun b s' z => ?_) fun _ _ x => x)
    cases b with
    | true => exact z.trans hB
    | false => exact wpAny_allTrue_Or_nil (z.trans hB)
theorem EV_ifexp {t e₁ e₂ : Expr} {pos : Pos} (h : TV C t l Δ (fun b Δ' => if b = true then EV C e₁ l Δ' Q else EV C e₂ l Δ' Q)) : EV C (.IfExp t e₁ e₂ pos) l Δ Q := fun B hh tk a => by
  refine wpAny_IfExp (wpAny_mono (h B hh tk a) (fun b s' ⟨h', tk', B', Δ', e, hB, a', q⟩ => ?_) fun _ _ x => x)
  subst e
  cases b with
  | false => exact wpAny_mono (q B' h' tk' a') (fun _ _ z => z.trans hB) fun _ _ x => x
  | true => exact wpAny_mono (q B' h' tk' a') (fun _ _ z => z.trans hB) fun _ _ x => x
theorem EV_or {e₁ e₂ : Expr} {pos : Pos} (h : EV C e₁ l Δ (fun p Δ' => ∃ b, p = .bool b ∧ if b = true then Q (.bool true) Δ' else EV C e₂ l Δ' Q)) : EV C (.BoolOp .Or [e₁, e₂] pos) l Δ Q := fun B hh tk a => by
  refine wpAny_Or2 (wpAny_mono (h B hh tk a) (fun v s' ⟨h', tk', B', Δ', p, e, hB, a', r, b, e', q⟩ => ?_) fun _ _ x => x)
  subst e; subst e'
  rw [r.bool_inv]
  refine wpAny_truthy_bool ?_
  cases b with
  | true => exact ⟨h', tk', B', Δ', _, rfl, hB, a', .bool, q⟩
  | false => exact wpAny_mono (q B' h' tk' a') (fun _ _ z => z.trans hB) fun _ _ x => x

theorem SV1_if {t : Expr} {b o : List Stmt} {pos : Pos} (h : TV C t l Δ (fun c Δ' => if c = true then SV C b l Δ' Qn Qr else SV C o l Δ' Qn Qr)) : SV1 C (.If t b o pos) l Δ Qn Qr := fun B hh tk a => by
  refine wpAny_If (wpAny_mono (h B hh tk a) (fun c s' ⟨h', tk', B', Δ', e, hB, a', q⟩ => ?_) fun _ _ x => x)
  subst e
  cases c with
  | false => exact wpAny_mono (q B' h' tk' a') (fun _ _ z => z.trans hB) fun _ _ x => x
  | true => exact wpAny_mono (q B' h' tk' a') (fun _ _ z => z.trans hB) fun _ _ x => x
theorem SV1_return {e : Expr} {pos : Pos} (h : EV C e l Δ Qr) : SV1 C (.Return (some e) pos) l Δ Qn Qr := fun B hh tk a =>
  wpAny_Return_some (wpAny_mono (h B hh tk a) (fun v s' ⟨h', tk', B', Δ', p, e, hB, a', r, q⟩ => ⟨h', tk', B', Δ', l, e, hB, a', p, r, q⟩) fun _ _ x => x)

noncomputable def AS (C : Cx prog w Kf sc) (t : Expr) (p : PV) (l : List (Option PV)) (Δ : Led) (Qn : List (Option PV) → Led → Prop) : Prop :=
  ∀ B h tk v, Abs C B l Δ h → VR B p v → wpAny (model prog w) C.A (assign t C.env v) (fun _ s' => PostF C B Qn (fun _ _ => False) .next s') (fun _ _ => False) { C.s with heap := h, toks := tk }

theorem storeName_at {B : Store} {h : Heap} {tk : Nat} {x : Str} {k : NameKind} {i : Nat} {p : PV} {v : Value} (a : Abs C B l Δ h) (r : VR B p v) (hi : sc.names[i]? = some (x, k)) (hx : sc.names.lookup x = some k) (hk : k = .local ∨ (k = .cell ∧ ∃ c, C.env.cells.lookup x = some c ∧ c ∈ C.own))
    (hnd : ∀ (j : Nat) (k' : NameKind), sc.names[j]? = some (x, k') → j = i) (q : Qn (l.set i (some p)) Δ) :
    wpAny (model prog w) C.A (storeName C.env x v) (fun _ s' => PostF C B Qn Qr .next s') (fun _ _ => False) { C.s with heap := h, toks := tk } := by
  obtain ⟨m, cm, hns, hcl, hsl⟩ := a.frame
  have hkd : C.env.kindOf x = some k := (C.kindOf x).trans hx
  have get : ∀ (j : Nat) (y : Str) (k' : NameKind) (p' : PV), sc.names[j]? = some (y, k') → (l.set i (some p))[j]? = some (some p') → (j = i ∧ y = x ∧ k' = k ∧ p' = p) ∨ (y ≠ x ∧ l[j]? = some (some p')) := by
    intro j y k' p' e1 e2
    by_cases hj : j = i
    · subst hj
      rw [hi] at e1; cases e1
      refine .inl ⟨rfl, rfl, rfl, ?_⟩
      rw [List.getElem?_set] at e2
      simp only [if_true] at e2
      split at e2
      · cases e2; rfl
      · cases e2
    · refine .inr ⟨?_, ?_⟩
      · rintro rfl; exact hj (hnd j k' e1)
      · rw [List.getElem?_set_ne (Ne.symm hj)] at e2; exact e2
  rcases hk with rfl | ⟨rfl, c, hc, hco⟩
  · refine wpAny_storeName_local hkd hns (fun h' hn hs => ?_) (by rw [C.ekind]; rfl)
    have own := fun b (hb : b ∈ C.own) => a.base.offO b hb
    refine ⟨h', _, B, Δ, l.set i (some p), rfl, Store.le_refl _, ⟨⟨?_, ?_, ?_, a.base.offΔ, a.base.big, ?_, a.base.apart, a.base.s0⟩, ⟨_, cm, hn, ?_, ?_⟩⟩, q⟩
    · intro b o e; refine (hs.2 b ?_).trans (a.base.keepK b o e); rintro rfl; rw [(own _ C.locOwn).1] at e; cases e
    · intro b o e; refine (hs.2 b ?_).trans (a.base.keepB b o e); rintro rfl; rw [(own _ C.locOwn).2.1] at e; cases e
    · intro b m' e
      obtain ⟨o, ho, r'⟩ := a.base.owned b m' e
      refine ⟨o, (hs.2 b ?_).trans ho, r'⟩
      rintro rfl; exact (a.base.offΔ _ _ e).2.2 C.locOwn
    · intro b hb
      obtain ⟨x1, x2, o, x3, x4⟩ := own b hb
      by_cases hbl : b = C.env.locals
      · obtain ⟨oL, _, _, hL, hd, _⟩ := hn; exact ⟨x1, x2, oL, hbl ▸ hL, notSeq_dict hd⟩
      · exact ⟨x1, x2, o, (hs.2 b hbl).trans x3, x4⟩
    · intro y c e; exact (hcl y c e).sameBut hs (C.locCell y c e)
    · intro j y k' p' e1 e2
      rcases get j y k' p' e1 e2 with ⟨rfl, rfl, rfl, rfl⟩ | ⟨hy, e2⟩
      · exact ⟨v, by simp, r⟩
      · have S := hsl j y k' p' e1 e2
        cases k' <;> first | exact S.elim | skip
        · obtain ⟨u, hu, r'⟩ := S; exact ⟨u, by simpa [hy] using hu, r'⟩
        · exact S
        · exact S
  · refine wpAny_storeName_cell C.ekind hkd hc (hcl x c hc) fun h' hn hs => ?_
    have own := fun b (hb : b ∈ C.own) => a.base.offO b hb
    refine ⟨h', _, B, Δ, l.set i (some p), rfl, Store.le_refl _, ⟨⟨?_, ?_, ?_, a.base.offΔ, a.base.big, ?_, a.base.apart, a.base.s0⟩, ⟨m, fun y => if y = x then some v else cm y, hns.sameBut hs (Ne.symm (C.locCell x c hc)), ?_, ?_⟩⟩, q⟩
    · intro b o e; refine (hs.2 b ?_).trans (a.base.keepK b o e); rintro rfl; rw [(own _ hco).1] at e; cases e
    · intro b o e; refine (hs.2 b ?_).trans (a.base.keepB b o e); rintro rfl; rw [(own _ hco).2.1] at e; cases e
    · intro b m' e
      obtain ⟨o, ho, r'⟩ := a.base.owned b m' e
      refine ⟨o, (hs.2 b ?_).trans ho, r'⟩
      rintro rfl; exact (a.base.offΔ _ _ e).2.2 hco
    · intro b hb
      obtain ⟨x1, x2, o, x3, x4⟩ := own b hb
      by_cases hbl : b = c
      · obtain ⟨oL, hL, hd⟩ := hn; exact ⟨x1, x2, oL, hbl ▸ hL, notSeq_cell hd⟩
      · exact ⟨x1, x2, o, (hs.2 b hbl).trans x3, x4⟩
    · intro y c' e
      by_cases hy : y = x
      · subst hy; rw [hc] at e; cases e; simpa using hn
      · simp only [if_neg hy]
        exact (hcl y c' e).sameBut hs fun e' => hy (C.cellApart y x c (e' ▸ e) hc)
    · intro j y k' p' e1 e2
      rcases get j y k' p' e1 e2 with ⟨rfl, rfl, rfl, rfl⟩ | ⟨hy, e2⟩
      · exact ⟨c, v, hc, by simp, r⟩
      · have S := hsl j y k' p' e1 e2
        cases k' <;> first | exact S.elim | skip
        · exact S
        · obtain ⟨c', u, h1, hu, r'⟩ := S; exact ⟨c', u, h1, by simpa [hy] using hu, r'⟩
        · obtain ⟨c', u, h1, hu, r'⟩ := S; exact ⟨c', u, h1, by simpa [hy] using hu, r'⟩
end
end Mine

namespace Mine
section
variable {prog : Program} {w : World} {Kf : Frag} {sc : Scope} {C : Cx prog w Kf sc} {l : List (Option PV)} {Δ : Led} {Q : PV → Led → Prop}
  {Qn : List (Option PV) → Led → Prop} {Qr : PV → Led → Prop}

theorem lookup_at {α : Type} : ∀ {ns : List (Str × α)} {i : Nat} {x : Str} {k : α}, (ns.map (·.1)).Nodup → ns[i]? = some (x, k) → ns.lookup x = some k
  | [], _, _, _, _, e => by simp at e
  | (y, k') :: r, i, x, k, hn, e => by
    rw [List.map_cons, List.nodup_cons] at hn
    cases i with
    | zero => simp at e; obtain ⟨rfl, rfl⟩ := e; simp
    | succ i =>
      simp at e
      have hm : x ∈ r.map (·.1) := List.mem_map.mpr ⟨(x, k), List.mem_of_getElem? e, rfl⟩
      have hb : (x == y) = false := beq_eq_false_iff_ne.mpr fun q => hn.1 (q ▸ hm)
      rw [List.lookup_cons, hb]; exact lookup_at hn.2 e
theorem idx_unique {α : Type} {ns : List (Str × α)} (hn : (ns.map (·.1)).Nodup) {i j : Nat} {x : Str} {k k' : α} (e : ns[i]? = some (x, k)) (e' : ns[j]? = some (x, k')) : j = i := by
  have h1 : (ns.map (·.1))[i]? = some x := by rw [List.getElem?_map, e]; rfl
  have h2 : (ns.map (·.1))[j]? = some x := by rw [List.getElem?_map, e']; rfl
  exact (List.getElem?_inj (List.getElem?_eq_some_iff.mp h2).1 hn).mp (h2.trans h1.symm)

theorem EV_n (i : Nat) {x : Str} {pos : Pos} {k : NameKind} {p : PV} (q : Q p Δ) (hl : l[i]? = some (some p) := by rfl) (hi : sc.names[i]? = some (x, k) := by rfl)
    (hd : (x == ("__debug__" : Str)) = false := by rfl) (hn : (x == ("__classdict__" : Str)) = false := by rfl) :
    EV C (.Name x pos) l Δ Q := EV_name i hl hi (lookup_at C.nodup hi) hd hn q

theorem AS_n (i : Nat) {x : Str} {pos : Pos} {k : NameKind} {p : PV} (q : Qn (l.set i (some p)) Δ) (hi : sc.names[i]? = some (x, k) := by rfl) (hk : k = .local ∨ (k = .cell ∧ C.isFn = true)) :
    AS C (.Name x pos) p l Δ Qn := fun B h tk v a r => by
  refine wpAny_assign_Name (storeName_at a r hi (lookup_at C.nodup hi) ?_ (fun j k' e => idx_unique C.nodup hi e) q)
  rcases hk with rfl | ⟨rfl, hf⟩
  · exact .inl rfl
  · obtain ⟨c, h1, h2⟩ := C.cellsOwn hf x (lookup_at C.nodup hi)
    exact .inr ⟨rfl, c, h1, h2⟩

theorem PostF.vac {B : Store} {Qr' : PV → Led → Prop} {s' : Shared} (x : PostF C B Qn (fun _ _ => False) .next s') : PostF C B Qn Qr' .next s' :=
  let ⟨h', tk, B', Δ', l', e, hB, a, q⟩ := x; ⟨h', tk, B', Δ', l', e, hB, a, q⟩
theorem SV1_assign {t value : Expr} {pos : Pos} (h : EV C value l Δ (fun p Δ' => AS C t p l Δ' Qn))
    (he : (assignEach [t] C.env).map (·.2) = [assign t C.env]) (hs : swapsWithSole [t] value pos.line C.env = pure false) (hw : swappedStores [t] value C.env = pure none) :
    SV1 C (.Assign [t] value pos) l Δ Qn Qr := fun B hh tk a => by
  refine wpAny_Assign_stores (wpAny_mono (h B hh tk a) (fun v s' ⟨h', tk', B', Δ', p, e, hB, a', r, q⟩ => ?_) fun _ _ x => x) hs hw
  subst e
  rw [he]
  exact wpAny_mono (q B' h' tk' v a' r) (fun _ _ z => (z.vac).trans hB) fun _ _ x => x

noncomputable def ASs (C : Cx prog w Kf sc) : List Expr → List PV → List (Option PV) → Led → (List (Option PV) → Led → Prop) → Prop
  | [], ps, l, Δ, Qn => ps = [] ∧ Qn l Δ
  | t :: ts, ps, l, Δ, Qn => ∃ p ps', ps = p :: ps' ∧ AS C t p l Δ (fun l' Δ' => ASs C ts ps' l' Δ' Qn)
theorem assignEach_cons {t : Expr} {rest : List Expr} {env : Env} (h : noStar t = true) : assignEach (t :: rest) env = (false, assign t env) :: assignEach rest env := by
  cases t <;> first | rfl | cases h
theorem assignEach_plain {env : Env} : ∀ {ts : List Expr}, ts.all noStar = true → (assignEach ts env).map (·.2) = ts.map (fun t => assign t env) ∧ (assignEach ts env).findIdx? (·.1) = none ∧ (assignEach ts env).length = ts.length
  | [], _ => ⟨rfl, rfl, rfl⟩
  | t :: ts, h => by
    rw [List.all_cons, Bool.and_eq_true] at h
    obtain ⟨h1, h2, h3⟩ := assignEach_plain (env := env) h.2
    rw [assignEach_cons h.1]
    refine ⟨by simp [h1], ?_, by simp [h3]⟩
    rw [List.findIdx?_cons]; simp [h2]
theorem assignInOrder_at : ∀ {ts : List Expr} {ps : List PV} {l : List (Option PV)} {Δ : Led} {Qn : List (Option PV) → Led → Prop} {B : Store} {h : Heap} {tk : Nat} {vs : List Value}, ASs C ts ps l Δ Qn → Abs C B l Δ h → VRs B ps vs →
    wpAny (model prog w) C.A (assignInOrder (ts.map fun t => assign t C.env) vs) (fun _ s' => PostF C B Qn (fun _ _ => False) .next s') (fun _ _ => False) { C.s with heap := h, toks := tk }
  | [], _, l, Δ, Qn, B, h, tk, vs, q, a, r => by
    obtain ⟨rfl, q⟩ := q
    rw [r.nil_inv]
    exact wpAny_pure ⟨h, tk, B, Δ, l, rfl, Store.le_refl _, a, q⟩
  | t :: ts, _, l, Δ, Qn, B, h, tk, vs, q, a, r => by
    obtain ⟨p, ps', rfl, q⟩ := q
    obtain ⟨v, vs', rfl, r1, r2⟩ := r.cons_inv
    show wpAny _ _ (holding vs' (assign t C.env v) >>= fun _ => assignInOrder (ts.map fun t => assign t C.env) vs') _ _ _
    refine wpAny_bind (wpAny_holding (wpAny_mono (q B h tk v a r1) (fun _ s' ⟨h', tk', B', Δ', l', e, hB, a', q'⟩ => ?_) fun _ _ x => x))
    subst e
    exact wpAny_mono (assignInOrder_at q' a' (r2.mono hB)) (fun _ _ z => z.trans hB) fun _ _ x => x


theorem AS_tuple {ts : List Expr} {k : Nat} {pos : Pos} {ps : List PV} (q : ASs C ts ps l Δ Qn) (hs : ts.all noStar = true := by rfl) (hn : ts.length = ps.length := by rfl) : AS C (.Tuple ts k pos) (.tup ps) l Δ Qn := fun B h tk v a r => by
  obtain ⟨t, vs, o, n, rfl, hB, hc, hd, r⟩ := r.tup_inv
  obtain ⟨e1, e2, e3⟩ := assignEach_plain (env := C.env) hs
  refine wpAny_assign_Tuple (items := vs.toArray) C.hand ⟨o, a.base.keepB _ _ hB, hc, n, hd⟩ (by rw [e3, hn, ← r.length]; simp) e2 (fun h' hs' => ?_)
  rw [e1]
  have a' : Abs C B l Δ h' := a.grow fun b o e => hs' b o (Nat.ne_of_lt (Heap.lt_size e)) e
  exact assignInOrder_at q a' r

theorem exec_Assign_swapped {targets : List Expr} {value : Expr} {pos : Pos} {names : List Str} {M : Model} {A : Around} {E : Value → Shared → Prop} {s : Shared} {env : Env} {Q : Flow → Shared → Prop}
    (h : wpAny M A (eval value env) (fun v s₁ => wpAny M A (unpackItems v names.length none) (fun items s₂ => wpAny M A (assignInOrder (names.reverse.map fun n => bindName env n) items.reverse) (fun _ => Q .next) E s₂) E s₁) E s)
    (hs : swapsWithSole targets value pos.line env = pure false) (hw : swappedStores targets value env = pure (some names)) : wpAny M A (exec (.Assign targets value pos) env) Q E s := by
  rw [exec_Assign_arm]
  refine wpAny_bind (wpAny_standAt ?_)
  rw [hs]
  refine wpAny_bind (wpAny_pure ?_)
  rw [if_neg (by decide)]
  refine wpAny_bind (wpAny_mono h (fun v s₁ h₁ => ?_) fun _ _ x => x)
  rw [hw]
  refine wpAny_bind (wpAny_pure ?_)
  show wpAny M A (do rule "assign.swapped-stores"; let items ← unpackItems v names.length none; assignInOrder (names.reverse.map fun n => bindName env n) items.reverse; pure .next) Q E s₁
  exact wpAny_bind (wpAny_rule (wpAny_bind (wpAny_mono h₁ (fun items s₂ h₂ => wpAny_bind (wpAny_mono h₂ (fun _ _ z => wpAny_pure z) fun _ _ x => x)) fun _ _ x => x)))

theorem VRs.reverse {B : Store} : ∀ {ps : List PV} {vs : List Value}, VRs B ps vs → VRs B ps.reverse vs.reverse
  | [], _, h => by rw [h.nil_inv]; exact .nil
  | p :: ps, _, h => by obtain ⟨v, vs', rfl, h1, h2⟩ := h.cons_inv; rw [List.reverse_cons, List.reverse_cons]; exact (VRs.reverse h2).append (.cons h1 .nil)

noncomputable def BNs (C : Cx prog w Kf sc) : List Str → List PV → List (Option PV) → Led → (List (Option PV) → Led → Prop) → Prop
  | [], ps, l, Δ, Qn => ps = [] ∧ Qn l Δ
  | x :: xs, ps, l, Δ, Qn => ∃ p ps' i k, ps = p :: ps' ∧ sc.names[i]? = some (x, k) ∧ k = .local ∧ BNs C xs ps' (l.set i (some p)) Δ Qn
theorem bindNames_at : ∀ {xs : List Str} {ps : List PV} {l : List (Option PV)} {Δ : Led} {Qn : List (Option PV) → Led → Prop} {B : Store} {h : Heap} {tk : Nat} {vs : List Value}, BNs C xs ps l Δ Qn → Abs C B l Δ h → VRs B ps vs →
    wpAny (model prog w) C.A (assignInOrder (xs.map fun n => bindName C.env n) vs) (fun _ s' => PostF C B Qn (fun _ _ => False) .next s') (fun _ _ => False) { C.s with heap := h, toks := tk }
  | [], _, l, Δ, Qn, B, h, tk, vs, q, a, r => by
    obtain ⟨rfl, q⟩ := q
    rw [r.nil_inv]
    exact wpAny_pure ⟨h, tk, B, Δ, l, rfl, Store.le_refl _, a, q⟩
  | x :: xs, _, l, Δ, Qn, B, h, tk, vs, q, a, r => by
    obtain ⟨p, ps', i, k, rfl, hi, rfl, q⟩ := q
    obtain ⟨v, vs', rfl, r1, r2⟩ := r.cons_inv
    show wpAny _ _ (holding vs' (bindName C.env x v) >>= fun _ => assignInOrder (xs.map fun n => bindName C.env n) vs') _ _ _
    refine wpAny_bind (wpAny_holding (wpAny_bindName (wpAny_mono (storeName_at (Qn := fun l' Δ' => BNs C xs ps' l' Δ' Qn) (Qr := fun _ _ => False) a r1 hi (lookup_at C.nodup hi) (.inl rfl) (fun j k' e => idx_unique C.nodup hi e) q)
      (fun _ s' ⟨h', tk', B', Δ', l', e, hB, a', q'⟩ => ?_) fun _ _ x => x)))
    subst e
    exact wpAny_mono (bindNames_at q' a' (r2.mono hB)) (fun _ _ z => z.trans hB) fun _ _ x => x

theorem SV1_assignS {ts : List Expr} {value : Expr} {k : Nat} {tpos pos : Pos} (names : List Str) (h : EV C value l Δ (fun p Δ' => ∃ ps, p = .tup ps ∧ ps.length = names.length ∧ BNs C names.reverse ps.reverse l Δ' Qn))
    (hs : swapsWithSole [.Tuple ts k tpos] value pos.line C.env = pure false) (hw : swappedStores [.Tuple ts k tpos] value C.env = pure (some names)) :
    SV1 C (.Assign [.Tuple ts k tpos] value pos) l Δ Qn Qr := fun B hh tk a => by
  refine exec_Assign_swapped (wpAny_mono (h B hh tk a) (fun v s' ⟨h', tk', B', Δ', p, e, hB, a', r, ps, e', hn, q⟩ => ?_) fun _ _ x => x) hs hw
  subst e; subst e'
  obtain ⟨t, vs, o, n, rfl, hBt, hc, hd, r⟩ := r.tup_inv
  have hl : names.length = vs.toArray.size := by rw [← hn, ← r.length]; simp
  rw [hl]
  refine wpAny_unpackItems_tuple C.hand ⟨o, a'.base.keepB _ _ hBt, hc, n, hd⟩ fun h'' hs' => ?_
  have a'' : Abs C B' l Δ' h'' := a'.grow fun b o e => hs' b o (Nat.ne_of_lt (Heap.lt_size e)) e
  exact wpAny_mono (bindNames_at q a'' r.reverse) (fun _ _ z => (z.vac).trans hB) fun _ _ x => x

noncomputable def envS (sc : Scope) : Env := { scope := sc, locals := 0, globals := 0, cells := [] }
theorem swapped_gen (env : Env) (ts : List Expr) (v : Expr) : swappedStores ts v env = swappedStores ts v (envS env.scope) := rfl
theorem swaps_gen (env : Env) (v : Expr) (t : Option Expr) (n : Nat) : swapsWith v t n env = swapsWith v t n (envS env.scope) := rfl
theorem swapsSole_gen (env : Env) (ts : List Expr) (v : Expr) (n : Nat) : swapsWithSole ts v n env = swapsWithSole ts v n (envS env.scope) := by
  cases ts with
  | nil => rfl
  | cons t ts =>
    cases ts with
    | nil => exact swaps_gen env v (some t) n
    | cons => rfl
theorem swapped_env (C : Cx prog w Kf sc) (ts : List Expr) (v : Expr) : swappedStores ts v C.env = swappedStores ts v (envS sc) := by rw [swapped_gen, C.hsc]
theorem swaps_env (C : Cx prog w Kf sc) (v : Expr) (t : Option Expr) (n : Nat) : swapsWith v t n C.env = swapsWith v t n (envS sc) := by rw [swaps_gen, C.hsc]
theorem swapsSole_env (C : Cx prog w Kf sc) (ts : List Expr) (v : Expr) (n : Nat) : swapsWithSole ts v n C.env = swapsWithSole ts v n (envS sc) := by rw [swapsSole_gen, C.hsc]

theorem SV1_a {t value : Expr} {pos : Pos} (h : EV C value l Δ (fun p Δ' => AS C t p l Δ' Qn))
    (he : noStar t = true := by rfl) (hs : swapsWithSole [t] value pos.line (envS sc) = pure false := by rfl) (hw : swappedStores [t] value (envS sc) = pure none := by rfl) :
    SV1 C (.Assign [t] value pos) l Δ Qn Qr := SV1_assign h (by rw [assignEach_cons he]; rfl) ((swapsSole_env C _ _ _).trans hs) ((swapped_env C _ _).trans hw)
theorem SV1_as {ts : List Expr} {value : Expr} {k : Nat} {tpos pos : Pos} (names : List Str) (h : EV C value l Δ (fun p Δ' => ∃ ps, p = .tup ps ∧ ps.length = names.length ∧ BNs C names.reverse ps.reverse l Δ' Qn))
    (hs : swapsWithSole [.Tuple ts k tpos] value pos.line (envS sc) = pure false := by rfl) (hw : swappedStores [.Tuple ts k tpos] value (envS sc) = pure (some names) := by rfl) :
    SV1 C (.Assign [.Tuple ts k tpos] value pos) l Δ Qn Qr := SV1_assignS names h ((swapsSole_env C _ _ _).trans hs) ((swapped_env C _ _).trans hw)

theorem SV1_expr {e : Expr} {pos : Pos} (h : EV C e l Δ (fun _ Δ' => Qn l Δ')) (hs : swapsWith e none pos.line (envS sc) = pure false := by rfl) : SV1 C (.Expr e pos) l Δ Qn Qr := fun B hh tk a => by
  refine wpAny_Expr_any (wpAny_mono (h B hh tk a) (fun v s' ⟨h', tk', B', Δ', p, e, hB, a', r, q⟩ => ⟨h', tk', B', Δ', l, e, hB, a', q⟩) fun _ _ x => x) ?_ ((swaps_env C _ _ _).trans hs)
  unfold interactive; rw [C.ekind]; rfl
end
end Mine

namespace Mine
section
variable {prog : Program} {w : World} {Kf : Frag} {sc : Scope} {C : Cx prog w Kf sc} {l : List (Option PV)} {Δ : Led} {Q : PV → Led → Prop}
  {Qn : List (Option PV) → Led → Prop} {Qr : PV → Led → Prop}

noncomputable def downK (K : Store) (own : List Addr) (h : Heap) : Store := fun a => match K a with
  | some o => some o
  | none => if a ∈ own then h.get? a else none
theorem downK_of {K : Store} {own : List Addr} {h : Heap} {a : Addr} {o : Obj} (e : K a = some o) : downK K own h a = some o := by simp [downK, e]
theorem downK_own {K : Store} {own : List Addr} {h : Heap} {a : Addr} (e : K a = none) (ha : a ∈ own) : downK K own h a = h.get? a := by simp [downK, e, ha]
noncomputable def Cx.down (C : Cx prog w Kf sc) (h : Heap) : Bx prog w Kf := { C.toBx with K := downK C.K C.own h, hK := fun a o e => downK_of (C.hK a o e) }
theorem Abs.down {B : Store} {h : Heap} (x : Abs C B l Δ h) : Abs0 (C.down h) [] B Δ h where
  keepK := fun a o e => by
    have e : downK C.K C.own h a = some o := e
    unfold downK at e
    split at e
    · rename_i q; cases e; exact x.base.keepK a _ q
    · split at e
      · exact e
      · cases e
  keepB := x.base.keepB
  owned := x.base.owned
  offΔ := fun a m e => by
    obtain ⟨h1, h2, h3⟩ := x.base.offΔ a m e
    refine ⟨?_, h2, fun q => nomatch q⟩
    show downK C.K C.own h a = none
    simp [downK, h1, h3]
  big := x.base.big
  offO := fun a ha => nomatch ha
  apart := fun a o e => by
    rcases x.base.apart a o e with q | q
    · refine .inl ?_
      show downK C.K C.own h a = none
      have : a ∉ C.own := fun ha => by rw [(x.base.offO a ha).2.1] at e; cases e
      simp [downK, q, this]
    · exact .inr q
  s0 := x.base.s0
theorem Abs.up {B B' : Store} {Δ' : Led} {h h' : Heap} (x : Abs C B l Δ h) (hB : B.le B') (y : Abs0 (C.down h) [] B' Δ' h') : Abs C B' l Δ' h' := by
  have own : ∀ a ∈ C.own, C.K a = none ∧ B a = none ∧ ∃ o, h.get? a = some o ∧ h'.get? a = some o ∧ notSeq o := fun a ha => by
    obtain ⟨h1, h2, o, h3, h4⟩ := x.base.offO a ha
    exact ⟨h1, h2, o, h3, y.keepK a o (by show downK C.K C.own h a = some o; rw [downK_own h1 ha]; exact h3), h4⟩
  have offB : ∀ a ∈ C.own, B' a = none := fun a ha => by
    cases e : B' a with
    | none => rfl
    | some o =>
      obtain ⟨q1, q2, o', q3, _⟩ := own a ha
      rcases y.apart a o e with q | q
      · have q : downK C.K C.own h a = none := q
        rw [downK_own q1 ha, q3] at q; cases q
      · rw [x.base.s0 a o q] at q2; cases q2
  refine ⟨⟨?_, y.keepB, y.owned, ?_, y.big, ?_, ?_, y.s0⟩, ?_⟩
  · exact fun a o e => y.keepK a o (downK_of e)
  · intro a m e
    obtain ⟨h1, h2, _⟩ := y.offΔ a m e
    have h1 : downK C.K C.own h a = none := h1
    have hk : C.K a = none := by cases q : C.K a with | none => rfl | some o => rw [downK_of q] at h1; cases h1
    have hn : a ∉ C.own := fun q => by
      obtain ⟨_, _, o, h3, _⟩ := own a q
      rw [downK_own hk q, h3] at h1; cases h1
    exact ⟨hk, h2, hn⟩
  · intro a ha
    obtain ⟨h1, _, o, _, h4, h5⟩ := own a ha
    exact ⟨h1, offB a ha, o, h4, h5⟩
  · intro a o e
    rcases y.apart a o e with q | q
    · have q : downK C.K C.own h a = none := q
      refine .inl ?_
      cases q' : C.K a with | none => rfl | some o => rw [downK_of q'] at q; cases q
    · exact .inr q
  · refine FrameOk.mono hB ?_
    have keep : ∀ a, a ∈ C.own ∨ (C.K a).isSome → ∀ o, h.get? a = some o → h'.get? a = some o := fun a ha o e => by
      rcases ha with ha | ha
      · obtain ⟨_, _, o', h3, h4, _⟩ := own a ha; rw [h3] at e; cases e; exact h4
      · obtain ⟨o', q⟩ := Option.isSome_iff_exists.mp ha
        have := x.base.keepK a o' q; rw [this] at e; cases e
        exact y.keepK a _ (downK_of q)
    obtain ⟨m, cm, hn, hc, hs⟩ := x.frame
    refine ⟨m, cm, hn.at' fun o e => keep _ (.inl C.locOwn) o e, fun z c e => ?_, hs⟩
    obtain ⟨o, ho, hd⟩ := hc z c e
    exact ⟨o, keep c (C.cellKept z c e) o ho, hd⟩

theorem call_at {B : Store} {h : Heap} {tk : Nat} {f : Addr} {ps : List PV} {vs : List Value} (a : Abs C B l Δ h) (r : VRs B ps vs) (k : CS (C.down h) f ps Δ Q) :
    wpAny (model prog w) C.A (call (.ref f) vs) (Post C B l Q) (fun _ _ => False) { C.s with heap := h, toks := tk } := by
  refine wpAny_call (codeAny_mono (k B h tk vs a.down r) fun r' s' ⟨v, h', tk', B', Δ', p, e1, e2, hB, a', r, q⟩ => ?_)
  subst e1; subst e2
  exact ⟨h', tk', B', Δ', p, rfl, hB, a.up hB a', r, q⟩

noncomputable def CSR (prog : Program) (w : World) (Kf : Frag) (n : Nat) (f : Addr) (ps : List PV) (Δ : Led) (Q : PV → Led → Prop) : Prop := ∀ D : Bx prog w Kf, n ≤ D.room → CS D f ps Δ Q

theorem glob_at {B : Store} {h : Heap} {tk : Nat} {x : Str} {pos : Pos} {v : Value} {P : Value → Shared → Prop} (a : Abs C B l Δ h) (hx : sc.names.lookup x = some .globalImplicit) (hg : nsIn Kf mainGlobals x = some (some v)) (q : P v { C.s with heap := h, toks := tk })
    (hd : (x == ("__debug__" : Str)) = false) : wpAny (model prog w) C.A (eval (.Name x pos) C.env) P (fun _ _ => False) { C.s with heap := h, toks := tk } := by
  obtain ⟨mg, mb, hng, hnb, hb⟩ := C.gnd.ns
  refine Calls.Name_function_global C.ekind ((C.kindOf x).trans hx) (Calls.loadGlobal_global (mg := mg) ?_ (mg_of C.gnd.kin hng hg) q) hd
  rw [C.globals]; exact hng.keeps a.H
theorem built_at {B : Store} {h : Heap} {tk : Nat} {x : Str} {pos : Pos} {v : Value} {P : Value → Shared → Prop} (a : Abs C B l Δ h) (hx : sc.names.lookup x = some .globalImplicit) (hg : nsIn Kf mainGlobals x = some none) (hv : bootBuiltins x = some v) (hn : x ≠ "__name__")
    (q : P v { C.s with heap := h, toks := tk }) (hd : (x == ("__debug__" : Str)) = false) : wpAny (model prog w) C.A (eval (.Name x pos) C.env) P (fun _ _ => False) { C.s with heap := h, toks := tk } := by
  obtain ⟨mg, mb, hng, hnb, hb⟩ := C.gnd.ns
  refine Calls.Name_function_global C.ekind ((C.kindOf x).trans hx) (Calls.loadGlobal_builtin (mg := mg) (mb := mb) ?_ (mg_none_of C.gnd.kin hng hg) ?_ ((hb x hn).trans hv) q) hd
  · rw [C.globals]; exact hng.keeps a.H
  · rw [C.builtins]; exact hnb.keeps a.H

theorem EV_g {x : Str} {pos : Pos} {k : Nat} {p : PV} (q : Q p Δ) {v : Value} (hg : nsIn Kf mainGlobals x = some (some v)) (hv : ∀ B, VR B p v) (hx : sc.names[k]? = some (x, .globalImplicit) := by rfl) (hd : (x == ("__debug__" : Str)) = false := by rfl) : EV C (.Name x pos) l Δ Q := fun B h tk a =>
  glob_at a (lookup_at C.nodup hx) hg (.now a (hv B) q) hd

theorem anyStar {es : List Expr} {env : Env} {pos : Pos} : ∀ {es : List Expr}, es.all noStar = true → (backTo pos (starEach es env)).any (·.1) = false
  | [], _ => rfl
  | e :: es, h => by
    rw [List.all_cons, Bool.and_eq_true] at h
    rw [starEach_cons h.1]
    show (false || (backTo pos (starEach es env)).any (·.1)) = false
    rw [Bool.false_or]; exact anyStar (es := es) h.2

theorem EV_call {x : Str} {xp pos : Pos} {args : List Expr} {k : Nat} (f : Addr) (h : LV C args l Δ (fun ps Δ' => CSR prog w Kf C.room f ps Δ' Q))
    (hg : nsIn Kf mainGlobals x = some (some (.ref f))) (hk : keepIn Kf (.ref f) = true) (hx : sc.names[k]? = some (x, .globalImplicit)) (hs : args.all noStar = true := by rfl) (hne : args ≠ [] := by simp) (hd : (x == ("__debug__" : Str)) = false := by rfl) : EV C (.Call (.Name x xp) args [] pos) l Δ Q := fun B hh tk a => by
  refine Call_ (glob_at a (lookup_at C.nodup hx) hg ?_ hd)
  cases args with
  | nil => exact absurd rfl hne
  | cons e es =>
    rw [List.all_cons, Bool.and_eq_true] at hs
    refine callWith_K (h₀ := hh) a.kin hk (wpAny_mono (h B hh tk pos a) (fun vs s' ⟨h', tk', B', Δ', ps, e', hB, a', r, q⟩ => ?_) fun _ _ x => x) (starEach_cons hs.1) (anyStar (es := es) hs.2)
    subst e'
    refine ⟨a'.kin, ?_⟩
    exact wpAny_mono (call_at a' r (q _ (Nat.le_refl _))) (fun _ _ z => z.trans hB) fun _ _ x => x

noncomputable def BC (C : Cx prog w Kf sc) (f : Value) (ps : List PV) (l : List (Option PV)) (Δ : Led) (Q : PV → Led → Prop) : Prop :=
  ∀ B h tk vs, Abs C B l Δ h → VRs B ps vs → wpAny (model prog w) C.A (call f vs) (Post C B l Q) (fun _ _ => False) { C.s with heap := h, toks := tk }
theorem EV_built {x : Str} {xp pos : Pos} {args : List Expr} {k : Nat} (id : String) (h : LV C args l Δ (fun ps Δ' => BC C (.builtin id) ps l Δ' Q))
    (hv : bootBuiltins x = some (.builtin id)) (hg : nsIn Kf mainGlobals x = some none) (hn : x ≠ "__name__") (hx : sc.names[k]? = some (x, .globalImplicit)) (hs : args.all noStar = true := by rfl) (hne : args ≠ [] := by simp) (hd : (x == ("__debug__" : Str)) = false := by rfl) : EV C (.Call (.Name x xp) args [] pos) l Δ Q := fun B hh tk a => by
  refine Call_ (built_at a (lookup_at C.nodup hx) hg hv hn ?_ hd)
  cases args with
  | nil => exact absurd rfl hne
  | cons e es =>
    rw [List.all_cons, Bool.and_eq_true] at hs
    refine PyProof.Rows.callWith_builtin1 (wpAny_mono (h B hh tk pos a) (fun vs s' ⟨h', tk', B', Δ', ps, e', hB, a', r, q⟩ => ?_) fun _ _ x => x) (starEach_cons hs.1) (anyStar (es := es) hs.2)
    subst e'
    exact wpAny_mono (q B' h' tk' vs a' r) (fun _ _ z => z.trans hB) fun _ _ x => x
theorem EV_builtT {x : Str} {xp pos : Pos} {args : List Expr} {k : Nat} (T : String) (h : LV C args l Δ (fun ps Δ' => BC C (.type T) ps l Δ' Q))
    (hv : bootBuiltins x = some (.type T)) (hg : nsIn Kf mainGlobals x = some none) (hn : x ≠ "__name__") (hx : sc.names[k]? = some (x, .globalImplicit)) (hs : args.all noStar = true := by rfl) (hne : args ≠ [] := by simp) (hd : (x == ("__debug__" : Str)) = false := by rfl) : EV C (.Call (.Name x xp) args [] pos) l Δ Q := fun B hh tk a => by
  refine Call_ (built_at a (lookup_at C.nodup hx) hg hv hn ?_ hd)
  cases args with
  | nil => exact absurd rfl hne
  | cons e es =>
    rw [List.all_cons, Bool.and_eq_true] at hs
    refine PyProof.Rows.callWith_type1 (wpAny_mono (h B hh tk pos a) (fun vs s' ⟨h', tk', B', Δ', ps, e', hB, a', r, q⟩ => ?_) fun _ _ x => x) (starEach_cons hs.1) (anyStar (es := es) hs.2)
    subst e'
    exact wpAny_mono (q B' h' tk' vs a' r) (fun _ _ z => z.trans hB) fun _ _ x => x
end

theorem cellsFrom_nodup : ∀ (names : List (Str × NameKind)) (n : Nat) (acc : List (Str × Addr)), (names.map (·.1)).Nodup → (acc.map (·.1)).Nodup → (∀ x ∈ acc.map (·.1), x ∉ names.map (·.1)) → ((cellsFrom n names acc).map (·.1)).Nodup
  | [], _, _, _, h, _ => h
  | (x, k) :: r, n, acc, hn, ha, hd => by
    rw [List.map_cons, List.nodup_cons] at hn
    unfold cellsFrom
    split
    · refine cellsFrom_nodup r _ _ hn.2 ?_ ?_
      · rw [List.map_cons, List.nodup_cons]; exact ⟨fun q => hd x q (by simp), ha⟩
      · intro y hy
        rw [List.map_cons, List.mem_cons] at hy
        rcases hy with rfl | hy
        · exact hn.1
        · intro q; exact hd y hy (by rw [List.map_cons]; exact List.mem_cons_of_mem _ q)
    · exact cellsFrom_nodup r _ _ hn.2 ha fun y hy q => hd y hy (by rw [List.map_cons]; exact List.mem_cons_of_mem _ q)
theorem cellsFrom_acc : ∀ (names : List (Str × NameKind)) (n : Nat) (acc : List (Str × Addr)) (x : Str), x ∈ acc.map (·.1) → x ∈ (cellsFrom n names acc).map (·.1)
  | [], _, _, _, h => h
  | (y, k) :: r, n, acc, x, h => by
    unfold cellsFrom
    split
    · exact cellsFrom_acc r _ _ x (by rw [List.map_cons]; exact List.mem_cons_of_mem _ h)
    · exact cellsFrom_acc r _ _ x h
theorem cellsFrom_has : ∀ (names : List (Str × NameKind)) (n : Nat) (acc : List (Str × Addr)) (x : Str), (x, NameKind.cell) ∈ names → x ∈ (cellsFrom n names acc).map (·.1)
  | [], _, _, _, h => nomatch h
  | (y, k) :: r, n, acc, x, h => by
    unfold cellsFrom
    rcases List.mem_cons.mp h with e | h
    · cases e; rw [if_pos (by decide)]; exact cellsFrom_acc r _ _ y (by simp)
    · split
      · exact cellsFrom_has r _ _ x h
      · exact cellsFrom_has r _ _ x h
theorem lookup_some_of_mem : ∀ {cs : List (Str × Addr)} {x : Str}, x ∈ cs.map (·.1) → ∃ c, cs.lookup x = some c
  | [], _, h => nomatch h
  | (y, c) :: r, x, h => by
    by_cases q : x = y
    · subst q; exact ⟨c, by simp⟩
    · rw [List.map_cons, List.mem_cons] at h
      obtain ⟨c', e⟩ := lookup_some_of_mem (h.resolve_left q)
      exact ⟨c', by rw [List.lookup_cons, beq_eq_false_iff_ne.mpr q]; exact e⟩
theorem mem_of_lookup' {α : Type} : ∀ {l : List (Str × α)} {n : Str} {c : α}, l.lookup n = some c → (n, c) ∈ l := fun h => PySem.mem_of_lookup h

theorem map_fst_zip' {α β : Type} : ∀ (as : List α) (bs : List β), (as.zip bs).map (·.1) = as.take bs.length
  | [], _ => by simp
  | _ :: _, [] => by simp
  | a :: as, b :: bs => by simp [map_fst_zip' as bs]
theorem bindL_get (kindOf : Str → Option NameKind) : ∀ (binds : List (Str × Value)) (m : Str → Option Value) (x : Str), x ∉ binds.map (·.1) → bindL kindOf binds m x = m x
  | [], _, _, _ => rfl
  | (n, v) :: r, m, x, h => by
    rw [List.map_cons, List.mem_cons, not_or] at h
    unfold bindL
    rw [bindL_get kindOf r _ x h.2]
    split
    · exact if_neg h.1
    · rfl
theorem bindC_get (kindOf : Str → Option NameKind) : ∀ (binds : List (Str × Value)) (m : Str → Option Value) (x : Str), x ∉ binds.map (·.1) → bindC kindOf binds m x = m x
  | [], _, _, _ => rfl
  | (n, v) :: r, m, x, h => by
    rw [List.map_cons, List.mem_cons, not_or] at h
    unfold bindC
    rw [bindC_get kindOf r _ x h.2]
    split
    · rfl
    · exact if_neg h.1
theorem bindL_at (kindOf : Str → Option NameKind) : ∀ (binds : List (Str × Value)) (m : Str → Option Value) (x : Str) (v : Value) (i : Nat), (binds.map (·.1)).Nodup → binds[i]? = some (x, v) → kindOf x = some .local → bindL kindOf binds m x = some v
  | [], _, _, _, _, _, h, _ => by simp at h
  | (n, u) :: r, m, x, v, i, hn, h, hk => by
    rw [List.map_cons, List.nodup_cons] at hn
    unfold bindL
    cases i with
    | zero =>
      simp at h; obtain ⟨rfl, rfl⟩ := h
      rw [bindL_get kindOf r _ _ hn.1, if_pos hk, if_pos rfl]
    | succ i => simp at h; exact bindL_at kindOf r _ x v i hn.2 h hk
theorem bindC_at (kindOf : Str → Option NameKind) : ∀ (binds : List (Str × Value)) (m : Str → Option Value) (x : Str) (v : Value) (i : Nat), (binds.map (·.1)).Nodup → binds[i]? = some (x, v) → kindOf x ≠ some .local → bindC kindOf binds m x = some v
  | [], _, _, _, _, _, h, _ => by simp at h
  | (n, u) :: r, m, x, v, i, hn, h, hk => by
    rw [List.map_cons, List.nodup_cons] at hn
    unfold bindC
    cases i with
    | zero =>
      simp at h; obtain ⟨rfl, rfl⟩ := h
      rw [bindC_get kindOf r _ _ hn.1, if_neg hk, if_pos rfl]
    | succ i => simp at h; exact bindC_at kindOf r _ x v i hn.2 h hk

noncomputable def startL (sc : Scope) (ps : List PV) : List (Option PV) := ps.map some ++ List.replicate (sc.names.length - ps.length) none
noncomputable def argsFirst (fd : FuncData) (n : Nat) : Bool := ((fd.params.args.map (·.arg)) == (fd.scope.names.take n).map (·.1)) && (fd.scope.names.take n).all fun x => x.2 == .local || x.2 == .cell

section
variable {prog : Program} {w : World} {Kf : Frag}
theorem codeAny_enter {D : Bx prog w Kf} {f : Addr} {ps : List PV} {Δ : Led} {oc : Value} {od : Option Addr} {osl : Array (Option Value)} (fd : FuncData) (body : List Stmt) {n : Nat} {R : Result → Shared → Prop} {B : Store} {hh : Heap} {tk : Nat} {vs : List Value}
    (a : Abs0 D [] B Δ hh) (r : VRs B ps vs)
    (ho : Kf.lookup f = some ⟨oc, od, .func fd, osl⟩) (hb : fd.body = .stmts body) (hcd : codeIn Kf fd.code fd.qualname = true) (hclo : fd.closure = []) (hg : fd.globals = mainGlobals) (hbu : fd.builtins = builtinsNs)
    (hbind : ∀ vals : List Value, vals.length = ps.length → bindArgs fd ⟨vals, []⟩ = pure ((fd.params.args.map (·.arg)).zip vals))
    (hfirst : argsFirst fd ps.length = true) (hnd : (fd.scope.names.map (·.1)).Nodup)
    (hroom : D.room = n + 1) (hco : fd.scope.isCoroutine = false) (hgen : fd.scope.isGenerator = false) (hk : fd.scope.kind = .function)
    (h : ∀ C : Cx prog w Kf fd.scope, C.room = n → C.isFn = true → C.A = D.A.deeper C.env → C.env.frame = some C.env.locals → C.s = D.s → C.env.locals = hh.objs.size → (∀ B' l' Δ' h', Abs C B' l' Δ' h' → Abs0 D [] B' Δ' h') → C.K = D.K → (∀ b ∈ C.own, hh.objs.size ≤ b) →
      ∀ h₁ tk₁, (∀ b o, hh.get? b = some o → h₁.get? b = some o) → Abs C B (startL fd.scope ps) Δ h₁ → wpAny (model prog w) C.A (execs body C.env) (fun fl s' => R (.ok (.ret (match fl with | .ret v => v | _ => .none))) s')
        (fun e s' => wpAny (model prog w) C.A (leaving C.env e) (fun _ s'' => R (.error e) s'') (fun e' s'' => R (.error e') s'') s') { C.s with heap := h₁, toks := tk₁ }) :
    codeAny (model prog w) D.A (.call (.ref f) ⟨vs, []⟩) R { D.s with heap := hh, toks := tk } := by
  have hlen := r.length
  obtain ⟨hf1, hf2⟩ := Bool.and_eq_true_iff.mp hfirst
  have hf1 := beq_iff_eq.mp hf1
  have hple : (fd.scope.names.take ps.length).length = ps.length ∨ (fd.params.args.map (·.arg)).length < ps.length := by
    rcases Nat.lt_or_ge fd.scope.names.length ps.length with q | q
    · right; rw [hf1, List.length_map, List.length_take]; omega
    · left; rw [List.length_take]; omega
  have hbk : ∀ i x v, ((fd.params.args.map (·.arg)).zip vs)[i]? = some (x, v) → i < ps.length ∧ vs[i]? = some v ∧ ∃ k, fd.scope.names[i]? = some (x, k) ∧ (k = .local ∨ k = .cell) := by
    intro i x v e
    rw [List.getElem?_zip_eq_some] at e
    obtain ⟨e1, e2⟩ := e
    have hi : i < ps.length := by rw [← hlen]; exact (List.getElem?_eq_some_iff.mp e2).1
    refine ⟨hi, e2, ?_⟩
    rw [hf1, List.getElem?_map, List.getElem?_take, if_pos hi] at e1
    cases q : fd.scope.names[i]? with
    | none => rw [q] at e1; cases e1
    | some y =>
      rw [q] at e1
      obtain ⟨x', k⟩ := y
      simp at e1; subst e1
      refine ⟨k, rfl, ?_⟩
      have := List.all_eq_true.mp hf2 (x', k) (List.mem_of_getElem? (i := i) (by rw [List.getElem?_take, if_pos hi]; exact q))
      simpa using this
  have hbn : (((fd.params.args.map (·.arg)).zip vs).map (·.1)).Nodup := by
    have : ((fd.params.args.map (·.arg)).zip vs).map (·.1) = (fd.params.args.map (·.arg)).take vs.length := by
      exact map_fst_zip' _ _
    rw [this, hf1]
    refine List.Nodup.sublist (List.take_sublist _ _) ?_
    rw [List.map_take]
    exact List.Nodup.sublist (List.take_sublist _ _) hnd
  have hne : fd.qualname = fd.qualname := rfl
  refine codeAny_call_cells (fd := fd) (body := body) (binds := (fd.params.args.map (·.arg)).zip vs) ?_ (a.kin _ _ ho) rfl (D.gnd.nolimit.keeps a.H) (codeRec_of a.kin hcd) hb (hbind vs hlen) hclo ?_ ?_ hco hgen hk
  · have := D.depth; omega
  · intro x hx
    obtain ⟨i, hi⟩ := List.mem_iff_getElem?.mp hx
    obtain ⟨_, _, k, e, hk'⟩ := hbk i x.1 x.2 hi
    have hl := lookup_at hnd e
    rcases hk' with rfl | rfl
    · exact .inl hl
    · refine .inr ⟨hl, ?_⟩
      obtain ⟨c, hc⟩ := lookup_some_of_mem (cellsFrom_has fd.scope.names (hh.objs.size + 1) [] x.1 (List.mem_of_getElem? e))
      show ((cellsFrom (hh.objs.size + 1) fd.scope.names []).lookup x.1).isSome = true
      rw [hc]; rfl
  · intro s₁ x
    dsimp only at x ⊢
    have hcn := cellsFrom_nodup fd.scope.names (hh.objs.size + 1) [] hnd List.nodup_nil (fun x hx => nomatch hx)
    have henv : callEnvC fd hh.objs.size f = { scope := fd.scope, locals := hh.objs.size, globals := fd.globals, cells := cellsFrom (hh.objs.size + 1) fd.scope.names [], qual := fd.qualname ++ ".<locals>.", func := some f, code := fd.code, frame := some hh.objs.size, builtins := fd.builtins } := rfl
    have hcl : (callEnvC fd hh.objs.size f).cells = cellsFrom (hh.objs.size + 1) fd.scope.names [] := rfl
    have hlo : (callEnvC fd hh.objs.size f).locals = hh.objs.size := rfl
    have hko : ∀ y, (callEnvC fd hh.objs.size f).kindOf y = fd.scope.names.lookup y := fun _ => rfl
    have hcm : ∀ c, c ∈ (callEnvC fd hh.objs.size f).cells.map (·.2) → ∃ y, (callEnvC fd hh.objs.size f).cells.lookup y = some c ∧ hh.objs.size < c := fun c hc => by
      obtain ⟨⟨y, c'⟩, hy, rfl⟩ := List.mem_map.mp hc
      exact ⟨y, lookup_of_mem_nodup (by rw [hcl]; exact hcn) hy, x.above y _ hy⟩
    let C : Cx prog w Kf fd.scope := {
      D with
      A := D.A.deeper (callEnvC fd hh.objs.size f)
      room := n
      hand := D.hand
      depth := by have := D.depth; rw [hroom] at this; show D.A.depth + 1 + n < recursionLimit; omega
      units := by have := D.units; rw [hroom] at this; show D.A.units + 3 + 10 * n + 200 < cLine; omega
      env := callEnvC fd hh.objs.size f
      own := hh.objs.size :: (callEnvC fd hh.objs.size f).cells.map (·.2)
      hsc := rfl
      kind := hk
      globals := hg
      builtins := hbu
      nodup := hnd
      isFn := true
      cellsOwn := fun _ y hy => by
        obtain ⟨c, hc⟩ := lookup_some_of_mem (cellsFrom_has fd.scope.names (hh.objs.size + 1) [] y (mem_of_lookup' hy))
        exact ⟨c, hc, List.mem_cons_of_mem _ (List.mem_map.mpr ⟨(y, c), mem_of_lookup' hc, rfl⟩)⟩
      locOwn := List.mem_cons_self
      locCell := fun y c e => Nat.ne_of_gt (x.above y c (mem_of_lookup' e))
      cellApart := fun y z c e e' => name_of_addr x.apart (mem_of_lookup' e) (mem_of_lookup' e')
      cellKept := fun y c e => .inl (List.mem_cons_of_mem _ (List.mem_map.mpr ⟨(y, c), mem_of_lookup' e, rfl⟩)) }
    obtain ⟨h₁, tk₁, rfl, hkeep⟩ := x.done
    have hfresh : ∀ c, hh.objs.size ≤ c → D.K c = none ∧ B c = none := fun c hc => by
      constructor
      · cases q : D.K c with
        | none => rfl
        | some o => exact absurd (Heap.lt_size (a.keepK c o q)) (Nat.not_lt.mpr hc)
      · cases q : B c with
        | none => rfl
        | some o => exact absurd (Heap.lt_size (a.keepB c o q)) (Nat.not_lt.mpr hc)
    have a₁ : Abs C B (startL fd.scope ps) Δ h₁ := by
      refine ⟨⟨fun b o e => hkeep b o (a.keepK b o e), fun b o e => hkeep b o (a.keepB b o e), fun b m e => ?_, fun b m e => ?_, a.big, fun b hb' => ?_, a.apart, a.s0⟩, ?_⟩
      · obtain ⟨o, e1, e2⟩ := a.owned b m e; exact ⟨o, hkeep b o e1, e2⟩
      · obtain ⟨e1, e2, _⟩ := a.offΔ b m e
        obtain ⟨o, e3, _⟩ := a.owned b m e
        refine ⟨e1, e2, fun q => ?_⟩
        rcases List.mem_cons.mp q with rfl | q
        · exact absurd (Heap.lt_size e3) (Nat.lt_irrefl _)
        · obtain ⟨y, _, hlt⟩ := hcm b q
          exact absurd (Nat.lt_trans hlt (Heap.lt_size e3)) (Nat.lt_irrefl _)
      · rcases List.mem_cons.mp hb' with rfl | q
        · obtain ⟨e1, e2⟩ := hfresh _ (Nat.le_refl _)
          obtain ⟨oL, _, _, hL, hd, _⟩ := x.toInCall.ns
          exact ⟨e1, e2, oL, hL, notSeq_dict hd⟩
        · obtain ⟨y, hy, hlt⟩ := hcm b q
          obtain ⟨e1, e2⟩ := hfresh b (Nat.le_of_lt hlt)
          obtain ⟨o, ho', hd⟩ := x.cell y b hy
          exact ⟨e1, e2, o, ho', notSeq_cell hd⟩
      · refine ⟨_, _, x.toInCall.ns, fun y c e => x.cell y c e, fun i y k p e1 e2 => ?_⟩
        have hi : i < ps.length ∧ ps[i]? = some p := by
          unfold startL at e2
          rcases Nat.lt_or_ge i ps.length with q | q
          · rw [List.getElem?_append_left (by simpa using q)] at e2
            simp only [List.getElem?_map] at e2
            cases q' : ps[i]? with
            | none => rw [q'] at e2; cases e2
            | some p' => rw [q'] at e2; simp at e2; exact ⟨q, by rw [e2]⟩
          · rw [List.getElem?_append_right (by simpa using q), List.getElem?_replicate] at e2
            split at e2 <;> cases e2
        obtain ⟨v, hv, rv⟩ := r.get hi.2
        have harg : (fd.params.args.map (·.arg))[i]? = some y := by
          rw [hf1, List.getElem?_map, List.getElem?_take, if_pos hi.1, e1]; rfl
        have hz : ((fd.params.args.map (·.arg)).zip vs)[i]? = some (y, v) := List.getElem?_zip_eq_some.mpr ⟨harg, hv⟩
        obtain ⟨_, _, k', e1', hk'⟩ := hbk i y v hz
        rw [e1] at e1'; cases e1'
        have hkd : (callEnvC fd hh.objs.size f).kindOf y = some k := (hko y).trans (lookup_at hnd e1)
        rcases hk' with rfl | rfl
        · exact ⟨v, bindL_at _ _ _ y v i hbn hz hkd, rv⟩
        · obtain ⟨c, hc⟩ := lookup_some_of_mem (cellsFrom_has fd.scope.names (hh.objs.size + 1) [] y (List.mem_of_getElem? e1))
          exact ⟨c, v, hc, bindC_at _ _ _ y v i hbn hz (by rw [hkd]; decide), rv⟩
    exact h C rfl rfl rfl rfl rfl rfl (fun B' l' Δ' h' a' => ⟨a'.base.keepK, a'.base.keepB, a'.base.owned, fun b m e => ⟨(a'.base.offΔ b m e).1, (a'.base.offΔ b m e).2.1, (fun q => nomatch q)⟩, a'.base.big, (fun b hb => nomatch hb), a'.base.apart, a'.base.s0⟩)
      rfl (fun b hb => by rcases List.mem_cons.mp hb with rfl | q; exact Nat.le_refl _; obtain ⟨y, _, hlt⟩ := hcm b q; exact Nat.le_of_lt hlt) h₁ tk₁ hkeep a₁
theorem CS_enter {D : Bx prog w Kf} {f : Addr} {ps : List PV} {Δ : Led} {Q : PV → Led → Prop} {oc : Value} {od : Option Addr} {osl : Array (Option Value)} (fd : FuncData) (body : List Stmt) {n : Nat}
    (ho : Kf.lookup f = some ⟨oc, od, .func fd, osl⟩) (hb : fd.body = .stmts body) (hcd : codeIn Kf fd.code fd.qualname = true) (hclo : fd.closure = []) (hg : fd.globals = mainGlobals) (hbu : fd.builtins = builtinsNs)
    (hbind : ∀ vals : List Value, vals.length = ps.length → bindArgs fd ⟨vals, []⟩ = pure ((fd.params.args.map (·.arg)).zip vals))
    (hfirst : argsFirst fd ps.length = true) (hnd : (fd.scope.names.map (·.1)).Nodup)
    (hroom : D.room = n + 1) (hco : fd.scope.isCoroutine = false) (hgen : fd.scope.isGenerator = false) (hk : fd.scope.kind = .function)
    (h : ∀ C : Cx prog w Kf fd.scope, C.room = n → C.isFn = true → SV C body (startL fd.scope ps) Δ (fun _ Δ' => Q .none Δ') Q) : CS D f ps Δ Q := fun B hh tk vs a r => by
  refine codeAny_enter fd body a r ho hb hcd hclo hg hbu hbind hfirst hnd hroom hco hgen hk fun C hC1 hC2 _ _ hs _ dn _ _ h₁ tk₁ _ a₁ => ?_
  refine wpAny_mono (h C hC1 hC2 B h₁ tk₁ a₁) (fun fl s' ⟨h', tk', B', Δ', l', e, hB, a', q⟩ => ?_) fun _ _ z => z.elim
  subst e
  have a'' := dn _ _ _ _ a'
  cases fl with
  | next => exact ⟨_, h', tk', B', Δ', _, rfl, by rw [hs], hB, a'', .none, q⟩
  | ret v => obtain ⟨p, rp, qp⟩ := q; exact ⟨v, h', tk', B', Δ', p, rfl, by rw [hs], hB, a'', rp, qp⟩
  | brk => exact q.elim
  | cont => exact q.elim
end
end Mine

namespace Mine
mutual
noncomputable def PV.data : PV → PyData
  | .none => .none
  | .bool b => .bool b
  | .int i => .int i
  | .str x => .str x
  | .tup ps => .tuple (PV.datas ps)
  | .list ps => .list (PV.datas ps)
  | .rng _ => .none
  | .obj _ => .none
noncomputable def PV.datas : List PV → List PyData
  | [] => []
  | p :: ps => PV.data p :: PV.datas ps
end
mutual
noncomputable def PV.pure : PV → Bool
  | .tup ps => PV.pures ps
  | .list ps => PV.pures ps
  | .rng _ => false
  | .obj _ => false
  | _ => true
noncomputable def PV.pures : List PV → Bool
  | [] => true
  | p :: ps => PV.pure p && PV.pures ps
end
mutual
theorem VR.reads {B : Store} {h : Heap} (hB : ∀ a o, B a = some o → h.get? a = some o) : ∀ (p : PV) {v : Value}, p.pure = true → VR B p v → ∃ as, Reads h v p.data as
  | .none, _, _, r => by rw [r.none_inv]; exact ⟨_, .none⟩
  | .bool b, _, _, r => by rw [r.bool_inv]; exact ⟨_, .bool b⟩
  | .int i, _, _, r => by obtain ⟨t, rfl⟩ := r.int_inv; exact ⟨_, .int i t⟩
  | .str x, _, _, r => by obtain ⟨t, rfl⟩ := r.str_inv; exact ⟨_, .str x t⟩
  | .tup ps, _, hp, r => by
    obtain ⟨a, vs, o, n, rfl, h1, h2, h3, h4⟩ := r.tup_inv
    obtain ⟨as, h5⟩ := VRs.reads hB ps (by unfold PV.pure at hp; exact hp) h4
    unfold PV.data
    exact ⟨_, .tuple (hB _ _ h1) h2 h3 (by simpa using h5)⟩
  | .list ps, _, hp, r => by
    obtain ⟨a, vs, n, rfl, h1, h4⟩ := r.list_inv
    obtain ⟨as, h5⟩ := VRs.reads hB ps (by unfold PV.pure at hp; exact hp) h4
    unfold PV.data
    exact ⟨_, .list (hB _ _ h1) rfl rfl (by simpa using h5)⟩
  | .rng _, _, hp, _ => by unfold PV.pure at hp; cases hp
  | .obj _, _, hp, _ => by unfold PV.pure at hp; cases hp
theorem VRs.reads {B : Store} {h : Heap} (hB : ∀ a o, B a = some o → h.get? a = some o) : ∀ (ps : List PV) {vs : List Value}, PV.pures ps = true → VRs B ps vs → ∃ as, ReadsAll h vs (PV.datas ps) as
  | [], _, _, r => by rw [r.nil_inv]; unfold PV.datas; exact ⟨_, .nil⟩
  | p :: ps, _, hp, r => by
    obtain ⟨v, vs', rfl, h1, h2⟩ := r.cons_inv
    unfold PV.pures at hp
    rw [Bool.and_eq_true] at hp
    obtain ⟨as, r1⟩ := VR.reads hB p hp.1 h1
    obtain ⟨bs, r2⟩ := VRs.reads hB ps hp.2 h2
    unfold PV.datas
    exact ⟨_, .cons r1 r2⟩
end

noncomputable def look (Δ : Led) : PV → PV
  | .obj a => match Δ a with
    | some (.list ps) => .list ps
    | _ => .obj a
  | p => p

section
variable {prog : Program} {w : World} {Kf : Frag} {sc : Scope} {C : Cx prog w Kf sc} {l : List (Option PV)} {Δ : Led}

theorem Abs0.reads {D : Bx prog w Kf} {own : List Addr} {B : Store} {h : Heap} {p : PV} {v : Value} (a : Abs0 D own B Δ h) (hp : (look Δ p).pure = true) (r : VR B p v) : ∃ as, Reads h v (look Δ p).data as := by
  cases p with
  | obj b =>
    rw [r.obj_inv]
    cases q : Δ b with
    | none =>
      have hl : look Δ (.obj b) = .obj b := by simp [look, q]
      rw [hl] at hp; unfold PV.pure at hp; cases hp
    | some m =>
      cases m with
      | list ps =>
        have hl : look Δ (.obj b) = .list ps := by simp [look, q]
        rw [hl] at hp ⊢
        obtain ⟨o, ho, vs, n, rfl, hr⟩ := a.owned b _ q
        obtain ⟨as, h5⟩ := VRs.reads a.keepB ps (by unfold PV.pure at hp; exact hp) hr
        unfold PV.data
        exact ⟨_, .list ho rfl rfl (by simpa using h5)⟩
      | _ =>
        have hl : look Δ (.obj b) = .obj b := by simp [look, q]
        rw [hl] at hp; unfold PV.pure at hp; cases hp
  | _ => exact VR.reads a.keepB _ hp r


theorem Cx.u64 (C : Cx prog w Kf sc) : C.A.units + 64 < cLine := by have := C.units; omega

theorem CO_eqd {p q : PV} {Q : Bool → Led → Prop} (k : Q (PyData.eqv (look Δ p).data (look Δ q).data) Δ) (h1 : (look Δ p).pure = true) (h2 : (look Δ q).pure = true)
    (s1 : SeqAt.shaped (look Δ p).data = true) (s2 : SeqAt.shaped (look Δ q).data = true) : CO C .Eq p q l Δ Q := fun B h tk u v a r1 r2 => by
  obtain ⟨as, e1⟩ := a.base.reads h1 r1
  obtain ⟨bs, e2⟩ := a.base.reads h2 r2
  exact eq_dataH (s := { C.s with heap := h, toks := tk }) e1 e2 s1 s2 C.u64 (.now a .bool ⟨_, rfl, k⟩)
theorem CO_ned {p q : PV} {Q : Bool → Led → Prop} (k : Q (!PyData.eqv (look Δ p).data (look Δ q).data) Δ) (h1 : (look Δ p).pure = true) (h2 : (look Δ q).pure = true)
    (s1 : SeqAt.shaped (look Δ p).data = true) (s2 : SeqAt.shaped (look Δ q).data = true) : CO C .NotEq p q l Δ Q := fun B h tk u v a r1 r2 => by
  obtain ⟨as, e1⟩ := a.base.reads h1 r1
  obtain ⟨bs, e2⟩ := a.base.reads h2 r2
  exact ne_dataH (s := { C.s with heap := h, toks := tk }) e1 e2 s1 s2 C.u64 (.now a .bool ⟨_, rfl, k⟩)
theorem CO_eq_int {a b : Int} {Q : Bool → Led → Prop} (k : Q (a == b) Δ) : CO C .Eq (.int a) (.int b) l Δ Q := fun B h tk u v x r1 r2 => by
  obtain ⟨t, rfl⟩ := r1.int_inv; obtain ⟨t', rfl⟩ := r2.int_inv
  exact eq_int (.now x .bool ⟨_, rfl, k⟩)
theorem CO_ne_int {a b : Int} {Q : Bool → Led → Prop} (k : Q (a != b) Δ) : CO C .NotEq (.int a) (.int b) l Δ Q := fun B h tk u v x r1 r2 => by
  obtain ⟨as, e1⟩ := VR.reads x.base.keepB (.int a) rfl r1
  obtain ⟨bs, e2⟩ := VR.reads x.base.keepB (.int b) rfl r2
  refine ne_dataH (s := { C.s with heap := h, toks := tk }) e1 e2 (by rfl) (by rfl) C.u64 (.now x .bool ⟨_, rfl, ?_⟩)
  show Q (!(PyData.eqv (.int a) (.int b))) Δ
  unfold PyData.eqv; exact k
theorem CO_ne_bool {a b : Bool} {Q : Bool → Led → Prop} (k : Q (a != b) Δ) : CO C .NotEq (.bool a) (.bool b) l Δ Q := fun B h tk u v x r1 r2 => by
  obtain ⟨as, e1⟩ := VR.reads x.base.keepB (.bool a) rfl r1
  obtain ⟨bs, e2⟩ := VR.reads x.base.keepB (.bool b) rfl r2
  refine ne_dataH (s := { C.s with heap := h, toks := tk }) e1 e2 (by rfl) (by rfl) C.u64 (.now x .bool ⟨_, rfl, ?_⟩)
  show Q (!(PyData.eqv (.bool a) (.bool b))) Δ
  unfold PyData.eqv; exact k
theorem CO_eq_str {a b : Str} {Q : Bool → Led → Prop} (k : Q (a == b) Δ) : CO C .Eq (.str a) (.str b) l Δ Q := fun B h tk u v x r1 r2 => by
  obtain ⟨t, rfl⟩ := r1.str_inv; obtain ⟨t', rfl⟩ := r2.str_inv
  exact eq_str (.now x .bool ⟨_, rfl, k⟩)
end

mutual
noncomputable def plt : PV → PV → Bool
  | .int a, .int b => decide (a < b)
  | .tup xs, .tup ys => plts xs ys
  | _, _ => false
noncomputable def plts : List PV → List PV → Bool
  | x :: xs, y :: ys => if PyData.eqv x.data y.data then plts xs ys else plt x y
  | _, _ => false
end
noncomputable def All2 {α β : Type} (R : α → β → Prop) : List α → List β → Prop
  | [], [] => True
  | x :: xs, y :: ys => R x y ∧ All2 R xs ys
  | _, _ => False
theorem All2.length {α β : Type} {R : α → β → Prop} : ∀ {xs : List α} {ys : List β}, All2 R xs ys → xs.length = ys.length
  | [], [], _ => rfl
  | _ :: xs, _ :: ys, h => by simp [All2.length h.2]
  | [], _ :: _, h => h.elim
  | _ :: _, [], h => h.elim
noncomputable def Shp : Nat → PV → PV → Prop
  | 0, p, q => ∃ a b, p = .int a ∧ q = .int b
  | n + 1, p, q => (∃ a b, p = .int a ∧ q = .int b) ∨ ∃ xs ys, p = .tup xs ∧ q = .tup ys ∧ All2 (Shp n) xs ys
theorem Shp.int (n : Nat) (a b : Int) : Shp n (.int a) (.int b) := by
  cases n with
  | zero => exact ⟨a, b, rfl, rfl⟩
  | succ n => exact .inl ⟨a, b, rfl, rfl⟩
theorem Shp.tup {n : Nat} {xs ys : List PV} (h : All2 (Shp n) xs ys) : Shp (n + 1) (.tup xs) (.tup ys) := .inr ⟨xs, ys, rfl, rfl, h⟩

noncomputable def DataOk (n : Nat) (x : PV) : Prop := x.pure = true ∧ x.data.canLay0 = true ∧ x.data.depth ≤ n
theorem Shp.ok : ∀ {n : Nat} {x y : PV}, Shp n x y → DataOk n x ∧ DataOk n y := by
  have base : ∀ (n : Nat) (a : Int), DataOk n (.int a) := fun n a => by simp [DataOk, PV.pure, PV.data, PyData.canLay0, PyData.depth]
  intro n
  induction n with
  | zero => rintro x y ⟨a, b, rfl, rfl⟩; exact ⟨base _ _, base _ _⟩
  | succ n ih =>
    rintro x y (⟨a, b, rfl, rfl⟩ | ⟨xs, ys, rfl, rfl, h⟩)
    · exact ⟨base _ _, base _ _⟩
    · have all : ∀ (xs ys : List PV), All2 (Shp n) xs ys → (PV.pures xs = true ∧ PyData.canLayAll0 (PV.datas xs) = true ∧ PyData.depthAll (PV.datas xs) ≤ n) ∧ (PV.pures ys = true ∧ PyData.canLayAll0 (PV.datas ys) = true ∧ PyData.depthAll (PV.datas ys) ≤ n) := by
        intro xs
        induction xs with
        | nil =>
          intro ys h
          cases ys with
          | nil => simp [PV.pures, PV.datas, PyData.canLayAll0, PyData.depthAll]
          | cons _ _ => exact h.elim
        | cons x xs ihx =>
          intro ys h
          cases ys with
          | nil => exact h.elim
          | cons y ys =>
            obtain ⟨⟨a1, a2, a3⟩, ⟨b1, b2, b3⟩⟩ := ih h.1
            obtain ⟨⟨c1, c2, c3⟩, ⟨d1, d2, d3⟩⟩ := ihx ys h.2
            simp only [PV.pures, PV.datas, PyData.canLayAll0, PyData.depthAll, a1, a2, b1, b2, c1, c2, d1, d2, Bool.and_self]
            exact ⟨⟨trivial, trivial, by omega⟩, ⟨trivial, trivial, by omega⟩⟩
      obtain ⟨⟨c1, c2, c3⟩, ⟨d1, d2, d3⟩⟩ := all xs ys h
      simp only [DataOk, PV.pure, PV.data, PyData.canLay0, PyData.depth]
      exact ⟨⟨c1, c2, by omega⟩, ⟨d1, d2, by omega⟩⟩

section
variable {prog : Program} {w : World}

theorem eqBool_at {B : Store} {n m : Nat} {p q : PV} {A : Around} {E : Value → Shared → Prop} {s : Shared} {u v : Value} {Q : Bool → Shared → Prop} (h1 : DataOk n p) (h2 : DataOk m q) (hB : ∀ a o, B a = some o → s.heap.get? a = some o) (r1 : VR B p u) (r2 : VR B q v)
    (hu : A.units + n < cLine) (h : Q (PyData.eqv p.data q.data) s) : wpAny (model prog w) A (eqBool u v) Q E s := by
  obtain ⟨as, e1⟩ := VR.reads hB p h1.1 r1
  obtain ⟨bs, e2⟩ := VR.reads hB q h2.1 r2
  refine SeqAt.eqBoolOverData prog w A E s u v _ _ as bs Q e1 e2 h1.2.1 h2.2.1 ?_ h
  have := Nat.min_le_left p.data.depth q.data.depth
  have := h1.2.2
  omega

theorem lt_at {B : Store} : ∀ (n : Nat) (p q : PV) (A : Around) (E : Value → Shared → Prop) (s : Shared) (u v : Value) (Q : Value → Shared → Prop), Shp n p q → (∀ a o, B a = some o → s.heap.get? a = some o) → VR B p u → VR B q v → A.units + n + n + 1 < cLine →
    Q (.bool (plt p q)) s → wpAny (model prog w) A (richCompare .Lt u v) Q E s := by
  intro n
  have int : ∀ (a b : Int) (A : Around) (E : Value → Shared → Prop) (s : Shared) (u v : Value) (Q : Value → Shared → Prop), VR B (.int a) u → VR B (.int b) v → Q (.bool (plt (.int a) (.int b))) s → wpAny (model prog w) A (richCompare .Lt u v) Q E s := by
    intro a b A E s u v Q r1 r2 h
    obtain ⟨t, rfl⟩ := r1.int_inv; obtain ⟨t', rfl⟩ := r2.int_inv
    unfold plt at h
    exact lt_int h
  induction n with
  | zero => rintro _ _ A E s u v Q ⟨a, b, rfl, rfl⟩ _ r1 r2 _ h; exact int a b A E s u v Q r1 r2 h
  | succ n ih =>
    rintro _ _ A E s u v Q (⟨a, b, rfl, rfl⟩ | ⟨xs, ys, rfl, rfl, hs⟩) hB r1 r2 hu h
    · exact int a b A E s u v Q r1 r2 h
    · obtain ⟨a, us, oa, na, rfl, ha, hca, hda, ra⟩ := r1.tup_inv
      obtain ⟨b, ws, ob, nb, rfl, hb, hcb, hdb, rb⟩ := r2.tup_inv
      have hT1 : s.TypeIs (.ref a) "tuple" := ⟨oa, hB _ _ ha, hca⟩
      have hT2 : s.TypeIs (.ref b) "tuple" := ⟨ob, hB _ _ hb, hcb⟩
      refine wpAny_richCompare_same_room (op := .Lt) hT1 hT2 F.slot_tuple_lt (wpAny_call_entry F.slot_tuple_lt hT1 F.entry_tuple_lt ?_ (F.args_tuple_lt_2 _ _)) (by omega)
      show wpAny _ _ (isInstance (.ref b) (.type "tuple") >>= _) _ _ s
      refine wpAny_bind (wpAny_isInstance hT2 isSubtype_tuple_tuple ?_)
      simp only [Bool.not_true, Bool.false_eq_true, if_false]
      refine wpAny_bind (wpAny_tupleItemsOf (hB _ _ ha) hda ?_)
      refine wpAny_bind (wpAny_tupleItemsOf (hB _ _ hb) hdb ?_)
      refine wpAny_bind ?_
      unfold plt at h
      have hlen : us.toArray.size = ws.toArray.size := by
        have e1 := ra.length; have e2 := rb.length; have e3 := hs.length
        simp only [List.size_toArray]; omega
      refine wpAny_forIn_list _
        (fun rest r s' => r.1 = none ∧ s' = s ∧ ∃ xs' ys' us' ws', rest = List.zip us' ws' ∧ All2 (Shp n) xs' ys' ∧ VRs B xs' us' ∧ VRs B ys' ws' ∧ plts xs' ys' = plts xs ys)
        _ ?_ ?_ _ _ ⟨rfl, rfl, xs, ys, us, ws, rfl, hs, ra, rb, rfl⟩
      · rintro ⟨x, y⟩ rest r s' ⟨hr, rfl, xs', ys', us', ws', hz, hs', ra', rb', hp⟩
        cases xs' with
        | nil => rw [ra'.nil_inv] at hz; simp at hz
        | cons p ps =>
          cases ys' with
          | nil => exact hs'.elim
          | cons q qs =>
            obtain ⟨u', us'', rfl, r1', r2'⟩ := ra'.cons_inv
            obtain ⟨v', ws'', rfl, r3', r4'⟩ := rb'.cons_inv
            simp only [List.zip_cons_cons, List.cons.injEq, Prod.mk.injEq] at hz
            obtain ⟨⟨rfl, rfl⟩, rfl⟩ := hz
            obtain ⟨ok1, ok2⟩ := hs'.1.ok
            refine wpAny_bind (eqBool_at ok1 ok2 hB r1' r3' (by show A.units + 1 + n < cLine; omega) ?_)
            rw [show plts (p :: ps) (q :: qs) = (if PyData.eqv p.data q.data then plts ps qs else plt p q) by rw [plts]] at hp
            cases he : PyData.eqv p.data q.data with
            | true =>
              simp only [Bool.not_true, Bool.false_eq_true, if_false]
              rw [he, if_pos rfl] at hp
              exact wpAny_pure ⟨rfl, rfl, ps, qs, us'', ws'', rfl, hs'.2, r2', r4', hp⟩
            | false =>
              simp only [Bool.not_false, if_true]
              rw [he, if_neg (by decide)] at hp
              refine wpAny_bind (wpAny_rule (wpAny_bind (ih p q A.in1 E s' x y _ hs'.1 hB r1' r3' (by show A.units + 1 + n + n + 1 < cLine; omega) ?_)))
              rw [hp]
              exact wpAny_bind (wpAny_pure (wpAny_pure (wpAny_pure ⟨_, rfl, by simp, h⟩)))
      · rintro ⟨r1, r2⟩ s' ⟨hr, rfl, xs', ys', us', ws', hz, hs', ra', rb', hp⟩
        simp only at hr
        subst hr
        have hx : plts xs ys = false := by
          rw [← hp]
          cases xs' with
          | nil => unfold plts; rfl
          | cons p ps =>
            cases ys' with
            | nil => exact hs'.elim
            | cons q qs =>
              obtain ⟨u', us'', rfl, _, _⟩ := ra'.cons_inv
              obtain ⟨v', ws'', rfl, _, _⟩ := rb'.cons_inv
              simp at hz
        rw [hx] at h
        refine wpAny_pure ⟨_, rfl, ?_⟩
        show Value.bool (decide (us.toArray.size < ws.toArray.size)) ≠ .notImplemented ∧ Q (.bool (decide (us.toArray.size < ws.toArray.size))) s'
        rw [hlen, decide_eq_false (Nat.lt_irrefl _)]
        exact ⟨by simp, h⟩
end

section
variable {prog : Program} {w : World} {Kf : Frag} {sc : Scope} {C : Cx prog w Kf sc} {l : List (Option PV)} {Δ : Led}
theorem CO_lt {p q : PV} {Q : Bool → Led → Prop} (n : Nat) (k : Q (plt p q) Δ) (hs : Shp n p q) (hn : n ≤ 20 := by decide) : CO C .Lt p q l Δ Q := fun B h tk u v a r1 r2 =>
  lt_at n p q C.A _ _ u v _ hs a.base.keepB r1 r2 (by have := C.units; omega) (.now a .bool ⟨_, rfl, k⟩)
end
end Mine

namespace Mine
section
variable {prog : Program} {w : World} {A : Around} {E : Value → Shared → Prop} {s : Shared}

theorem pyIter_raw {d : Addr} {o : Obj} {es : Array DictEntry} {ep : Nat} {Q : Value → Shared → Prop} (hd : (d == sysModules) = false) (ho : s.heap.get? d = some o) (hc : o.cls = .type "dict") (hdat : o.data = .dict es ep)
    (hQ : Q (.ref s.heap.objs.size) { s with heap := s.heap.push { cls := .type "dict_keyiterator", data := .fields #[.ref d, .int 0 0, .int es.size 0, .int ep 0] } }) : wpAny (model prog w) A (pyIter (.ref d)) Q E s := by
  have hT : s.TypeIs (.ref d) "dict" := ⟨o, ho, hc⟩
  refine wpAny_pyIter_slot hT PySem.F.slot_dict_iter (wpAny_call_entry PySem.F.slot_dict_iter hT PySem.F.entry_dict_iter ?_ (PySem.F.args_dict_iter_1 _))
  unfold Builtin.«dict.__iter__»
  refine wpAny_bind ?_
  unfold Builtin.Dict.dictSlotNone
  refine wpAny_bind (wpAny_notOrdered_dict hT ?_)
  show wpAny _ _ (pure (Value.ref d)) _ _ s
  refine wpAny_pure ?_
  show wpAny _ _ (Builtin.Dict.showsAll d >>= _) _ _ s
  unfold Builtin.Dict.showsAll
  rw [if_neg (by rw [hd]; exact Bool.false_ne_true)]
  refine wpAny_bind (wpAny_pure (wpAny_bind (wpAny_dictEntries ho hdat (wpAny_bind (wpAny_dictEpoch ho hdat ?_)))))
  refine wpAny_bind (wpAny_newObj_type (wpAny_pure ⟨_, rfl, "dict_keyiterator", _, ⟨_, Heap.get?_push_size _ rfl, rfl⟩, PySem.F.slot_dict_keyiterator_next.lookup, ?_⟩))
  simpa [rawInt] using hQ

theorem pyNext_raw_item {it d : Addr} {i ep : Nat} {o od : Obj} {es : Array DictEntry} {e : DictEntry} {Q : Option Value → Shared → Prop} (ho : s.heap.get? it = some o) (hc : o.cls = .type "dict_keyiterator")
    (hd : o.data = .fields #[.ref d, .int i 0, .int es.size 0, .int ep 0]) (hod : s.heap.get? d = some od) (hdd : od.data = .dict es ep) (hx : es[i]? = some e)
    (hQ : ∀ h' o', h'.get? it = some o' → o'.cls = .type "dict_keyiterator" → o'.data = .fields #[.ref d, .int ((i + 1 : Nat) : Int) 0, .int es.size 0, .int ep 0] → Heap.SameBut it s.heap h' → Q (some e.key) { s with heap := h' }) :
    wpAny (model prog w) A (pyNext (.ref it)) Q E s := by
  have hT : s.TypeIs (.ref it) "dict_keyiterator" := ⟨o, ho, hc⟩
  unfold pyNext
  refine wpAny_bind (wpAny_attempt (wpAny_callSpecial?_slot (name := Str.ofString "__next__") hT PySem.F.slot_dict_keyiterator_next
    (wpAny_call_entry PySem.F.slot_dict_keyiterator_next hT PySem.F.entry_dict_keyiterator_next ?_ (PySem.F.args_dict_keyiterator_next_1 _))))
  refine wpAny_bind (wpAny_pure (wpAny_bind (wpAny_bind ?_)))
  first | refine wpAny_bind (wpAny_typeNameOfWhole_keyiter hT (wpAny_pure ?_)) | refine wpAny_bind (wpAny_typeNameOf_keyiter hT (wpAny_pure ?_))
  refine wpAny_bind (wpAny_fieldsOf ho hd ?_)
  have hown : Builtin.Dict_items.ownsTuple "dict_keyiterator" = false := by decide
  rw [hown]
  show wpAny _ _ (if (Value.ref d == Value.none) = true then _ else _) _ _ s
  rw [if_neg (show ¬ ((Value.ref d == Value.none) = true) from Bool.false_ne_true)]
  refine wpAny_bind (wpAny_pure (wpAny_bind (wpAny_dictEntries hod hdd ?_)))
  rw [if_neg (by simp)]
  refine wpAny_bind (wpAny_pure (wpAny_bind (wpAny_dictEpoch hod hdd ?_)))
  rw [if_neg (by simp)]
  refine wpAny_pure ?_
  have hlt : i < es.size := (Array.getElem?_eq_some_iff.mp hx).1
  have he : es[i] = e := (Array.getElem?_eq_some_iff.mp hx).2
  dsimp only
  rw [if_neg (show ¬ ((i : Int) < 0) from by omega), Int.toNat_natCast, Array.getElem?_eq_getElem hlt]
  dsimp only
  refine wpAny_bind ?_
  first | refine wpAny_bind (wpAny_typeNameOfWhole_keyiter hT (wpAny_pure ?_)) | refine wpAny_bind (wpAny_typeNameOf_keyiter hT (wpAny_pure ?_))
  refine wpAny_bind (wpAny_isOneOf_keyiter hT ?_)
  show wpAny _ _ (setField (.ref it) 1 (rawInt ((i : Int) + 1)) >>= _) _ _ s
  refine wpAny_bind (wpAny_setField ho hd (by simp) ?_)
  have ho' := Heap.get?_update_self (h := s.heap) (a := it) (Obj.mapFields (·.setIfInBounds 1 (rawInt ((i : Int) + 1)))) ho (Obj.isFreed_of_fields (Obj.data_mapFields hd _))
  have hc' : (o.mapFields (·.setIfInBounds 1 (rawInt ((i : Int) + 1)))).cls = .type "dict_keyiterator" := (Obj.cls_mapFields ..).trans hc
  have hd' : (o.mapFields (·.setIfInBounds 1 (rawInt ((i : Int) + 1)))).data = .fields #[.ref d, .int ((i + 1 : Nat) : Int) 0, .int es.size 0, .int ep 0] := by rw [Obj.data_mapFields hd]; simp [rawInt]
  refine wpAny_bind (wpAny_holding ?_)
  refine wpAny_bind (wpAny_isOneOf_keyiter (s := { s with heap := s.heap.update it (Obj.mapFields (·.setIfInBounds 1 (rawInt ((i : Int) + 1)))) }) ⟨_, ho', hc'⟩ ?_)
  show wpAny _ _ (pure es[i].key) _ _ _
  rw [he]
  exact wpAny_pure (wpAny_pure ⟨_, rfl, wpAny_pure (hQ _ _ ho' hc' hd' (Heap.SameBut.update ..))⟩)

theorem pyNext_raw_end {it d : Addr} {ep : Nat} {o od : Obj} {es : Array DictEntry} {Q : Option Value → Shared → Prop} (hh : A.handled = none) (ho : s.heap.get? it = some o) (hc : o.cls = .type "dict_keyiterator")
    (hd : o.data = .fields #[.ref d, .int es.size 0, .int es.size 0, .int ep 0]) (hod : s.heap.get? d = some od) (hdd : od.data = .dict es ep)
    (hQ : ∀ h', Heap.ExtBut it s.heap h' → Q none { s with heap := h' }) : wpAny (model prog w) A (pyNext (.ref it)) Q E s := by
  have hT : s.TypeIs (.ref it) "dict_keyiterator" := ⟨o, ho, hc⟩
  unfold pyNext
  refine wpAny_bind (wpAny_attempt (wpAny_callSpecial?_slot (name := Str.ofString "__next__") hT PySem.F.slot_dict_keyiterator_next
    (wpAny_call_entry PySem.F.slot_dict_keyiterator_next hT PySem.F.entry_dict_keyiterator_next ?_ (PySem.F.args_dict_keyiterator_next_1 _))))
  refine wpAny_bind (wpAny_pure (wpAny_bind (wpAny_bind ?_)))
  first | refine wpAny_bind (wpAny_typeNameOfWhole_keyiter hT (wpAny_pure ?_)) | refine wpAny_bind (wpAny_typeNameOf_keyiter hT (wpAny_pure ?_))
  refine wpAny_bind (wpAny_fieldsOf ho hd ?_)
  have hown : Builtin.Dict_items.ownsTuple "dict_keyiterator" = false := by decide
  rw [hown]
  show wpAny _ _ (if (Value.ref d == Value.none) = true then _ else _) _ _ s
  rw [if_neg (show ¬ ((Value.ref d == Value.none) = true) from Bool.false_ne_true)]
  refine wpAny_bind (wpAny_pure (wpAny_bind (wpAny_dictEntries hod hdd ?_)))
  rw [if_neg (by simp)]
  refine wpAny_bind (wpAny_pure (wpAny_bind (wpAny_dictEpoch hod hdd ?_)))
  rw [if_neg (by simp)]
  refine wpAny_pure ?_
  dsimp only
  rw [if_neg (show ¬ ((es.size : Int) < 0) from by omega), Int.toNat_natCast, Array.getElem?_eq_none (Nat.le_refl es.size)]
  dsimp only
  refine wpAny_bind ?_
  first | refine wpAny_bind (wpAny_typeNameOfWhole_keyiter hT (wpAny_pure ?_)) | refine wpAny_bind (wpAny_typeNameOf_keyiter hT (wpAny_pure ?_))
  show wpAny _ _ (setField (.ref it) 0 .none >>= _) _ _ s
  refine wpAny_bind (wpAny_setField ho hd (by simp) ?_)
  show wpAny _ _ (newExc (.type "StopIteration") [] >>= _) _ _ _
  refine wpAny_bind ?_
  simp only [newExc, newTuple]
  refine wpAny_bind (wpAny_newObj_type ?_ (by size_fits))
  refine wpAny_bind (m := firstArgMember _ _) (wpAny_of_eq (a := Value.none) (by first | rfl | (simp only [firstArgMember]; rfl)) ?_)
  refine wpAny_newObj_type ?_ (by size_fits)
  unfold raiseNew
  refine wpAny_bind (wpAny_handled ?_)
  rw [show A.in1.handled = none from hh]
  refine wpAny_bind (wpAny_pure (wpAny_throw ?_))
  refine wpAny_bind (wpAny_isInstance (T := "StopIteration") (b := true) ⟨_, Heap.get?_push_size _ rfl, rfl⟩ isSubtype_stop ?_)
  exact wpAny_pure (hQ _ (((Heap.SameBut.update ..).extBut.push _).push _))
end

inductive Src : PV → Option (Addr × MO) → List PV → Prop
  | list (ps : List PV) : Src (.list ps) none ps
  | tup (ps : List PV) : Src (.tup ps) none ps
  | rng (n : Nat) (hn : n < 2 ^ 62) : Src (.rng n) none ((List.range n).map fun i => .int (i : Nat))
  | olist (a : Addr) (ps : List PV) : Src (.obj a) (some (a, .list ps)) ps
  | dictI (a : Addr) (ep : Nat) (kvs : List (Int × PV)) : Src (.obj a) (some (a, .dictI ep kvs)) (kvs.map fun x => .int x.1)
  | dictT (a : Addr) (ep : Nat) (kvs : List ((Int × Int) × PV)) : Src (.obj a) (some (a, .dictT ep kvs)) (kvs.map fun x => .tup [.int x.1.1, .int x.1.2])
noncomputable def Has (Δ : Led) : Option (Addr × MO) → Prop
  | none => True
  | some (a, m) => Δ a = some m

section
variable (prog : Program) (w : World)
structure Rd (p : PV) (v : Value) (mo : Option (Addr × MO)) (B : Store) (Δ : Led) (h : Heap) : Prop where
  keepB : ∀ a o, B a = some o → h.get? a = some o
  owned : ∀ a m, Δ a = some m → ∃ o, h.get? a = some o ∧ MR prog w B m o
  big : ∀ a m, Δ a = some m → (a == sysModules) = false
  val : VR B p v
  has : Has Δ mo

structure Walker (A : Around) (p : PV) (v : Value) (mo : Option (Addr × MO)) (items : List PV) (At : Nat → Obj → Prop) : Prop where
  notSeen : ∀ i o, At i o → notSeq o
  next : ∀ (i : Nat) (I : Addr) (s : Shared) (B : Store) (Δ : Led) (Q : Option Value → Shared → Prop) (E : Value → Shared → Prop) (o : Obj) (x : PV), items[i]? = some x → Rd prog w p v mo B Δ s.heap → s.heap.get? I = some o → At i o →
    (∀ u h' tk o', VR B x u → Heap.SameBut I s.heap h' → h'.get? I = some o' → At (i + 1) o' → Q (some u) { s with heap := h', toks := tk }) → wpAny (model prog w) A (pyNext (.ref I)) Q E s
  done : ∀ (I : Addr) (s : Shared) (B : Store) (Δ : Led) (Q : Option Value → Shared → Prop) (E : Value → Shared → Prop) (o : Obj), Rd prog w p v mo B Δ s.heap → s.heap.get? I = some o → At items.length o →
    (∀ h' tk, Heap.ExtBut I s.heap h' → Q none { s with heap := h', toks := tk }) → wpAny (model prog w) A (pyNext (.ref I)) Q E s
  self : ∀ (i : Nat) (I : Addr) (s : Shared) (Q : Value → Shared → Prop) (E : Value → Shared → Prop) (o : Obj), s.heap.get? I = some o → At i o → Q (.ref I) s → wpAny (model prog w) A (pyIter (.ref I)) Q E s
  go : ∀ (i : Nat) (I : Addr) (target : Expr) (u : Value) (s : Shared) (Q : Unit → Shared → Prop) (E : Value → Shared → Prop) (o : Obj), s.heap.get? I = some o → At i o → Q () s → wpAny (model prog w) A (letOwnedTupleGo target (.ref I) u) Q E s
end

section
variable {prog : Program} {w : World} {A : Around}

theorem go_at {M : Model} {I : Addr} {target : Expr} {u : Value} {s : Shared} {Q : Unit → Shared → Prop} {E : Value → Shared → Prop} {o : Obj} {T : String} (ho : s.heap.get? I = some o) (hc : o.cls = .type T)
    (hT : (["enumerate", "zip", "dict_itemiterator", "dict_reverseitemiterator", "odict_iterator", "itertools.zip_longest", "itertools.pairwise"].contains T) = false) (q : Q () s) : wpAny M A (letOwnedTupleGo target (.ref I) u) Q E s := by
  have go : wpAny M A (letOwnedTupleGo (.Tuple [] 0 default) (.ref I) u) Q E s := by
    cases u with
    | ref a =>
      refine wpAny_bind (wpAny_load ho ?_)
      rw [hc]
      cases hd : o.data with
      | fields vs =>
        dsimp only
        rw [hT, Bool.false_and, if_neg (by decide)]
        exact wpAny_pure q
      | _ => exact wpAny_pure q
    | _ => exact wpAny_pure q
  cases target with
  | Tuple => exact go
  | List => exact go
  | _ => exact wpAny_pure q

theorem notSeq_iter {o : Obj} {T : String} {vs : Array Value} (hc : o.cls = .type T) (hT : T ≠ "range") (hd : o.data = .fields vs) : notSeq o := by
  rintro (⟨_, _, e⟩ | ⟨e, _⟩)
  · rw [hd] at e; cases e
  · rw [hc] at e; cases e; exact hT rfl

theorem Pairs.keysAt {K : Type} [DecidableEq K] {knd : PySem.KeyKind prog w K} : ∀ {es : List DictEntry} {kvs : List (K × Value)}, Pairs knd es kvs → es.length = kvs.length ∧ ∀ (i : Nat) (e : DictEntry) (kv : K × Value), es[i]? = some e → kvs[i]? = some kv → knd.is kv.1 e.key = true
  | _, _, .nil => ⟨rfl, fun i e kv h => by simp at h⟩
  | _, _, .cons h1 h2 t => by
    obtain ⟨a, b⟩ := Pairs.keysAt t
    refine ⟨by simp [a], fun i e kv h h' => ?_⟩
    cases i with
    | zero => simp at h h'; subst h; subst h'; exact h1
    | succ i => simp at h h'; exact b i e kv h h'
theorem KVT.at {B : Store} : ∀ {kvs : List ((Int × Int) × PV)} {xs : List (List Int × Addr × Value)} {i : Nat} {y : (Int × Int) × PV}, KVT B kvs xs → kvs[i]? = some y → ∃ x, xs[i]? = some x ∧ x.1 = [y.1.1, y.1.2] ∧ VR B (.tup [.int y.1.1, .int y.1.2]) (.ref x.2.1) ∧ VR B y.2 x.2.2
  | [], _, _, _, _, h => by simp at h
  | (k, p) :: r, _, i, y, h, e => by
    obtain ⟨a, v, l', rfl, h0, h1, h2⟩ := h
    cases i with
    | zero => simp at e; subst e; exact ⟨_, rfl, rfl, h0, h1⟩
    | succ i => simp at e; obtain ⟨x, e1, e2⟩ := KVT.at h2 e; exact ⟨x, by simpa using e1, e2⟩
theorem KVT.length {B : Store} : ∀ {kvs : List ((Int × Int) × PV)} {xs : List (List Int × Addr × Value)}, KVT B kvs xs → xs.length = kvs.length
  | [], _, h => by rw [h]; rfl
  | (k, p) :: r, _, h => by obtain ⟨a, v, l', rfl, h0, h1, h2⟩ := h; simp [KVT.length h2]
theorem KVI.at {B : Store} : ∀ {kvs : List (Int × PV)} {xs : List (Int × Value)} {i : Nat} {y : Int × PV}, KVI B kvs xs → kvs[i]? = some y → ∃ x, xs[i]? = some x ∧ x.1 = y.1 ∧ VR B y.2 x.2
  | [], _, _, _, _, h => by simp at h
  | (k, p) :: r, _, i, y, h, e => by
    obtain ⟨v, l', rfl, h1, h2⟩ := h
    cases i with
    | zero => simp at e; subst e; exact ⟨_, rfl, rfl, h1⟩
    | succ i => simp at e; obtain ⟨x, e1, e2⟩ := KVI.at h2 e; exact ⟨x, by simpa using e1, e2⟩
theorem KVI.length {B : Store} : ∀ {kvs : List (Int × PV)} {xs : List (Int × Value)}, KVI B kvs xs → xs.length = kvs.length
  | [], _, h => by rw [h]; rfl
  | (k, p) :: r, _, h => by obtain ⟨v, l', rfl, h1, h2⟩ := h; simp [KVI.length h2]

theorem MR.entriesI {B : Store} {ep : Nat} {kvs : List (Int × PV)} {o : Obj} (h : MR prog w B (.dictI ep kvs) o) : ∃ es : Array DictEntry, o.cls = .type "dict" ∧ o.data = .dict es ep ∧ es.size = kvs.length ∧ ∀ (i : Nat) (x : PV), (kvs.map fun x => PV.int x.1)[i]? = some x → ∃ e : DictEntry, es[i]? = some e ∧ VR B x e.key := by
  obtain ⟨es, kv', h1, h2, h3, h4, h5, h6⟩ := h
  obtain ⟨hl, hk⟩ := Pairs.keysAt h4
  have hsz : es.size = kvs.length := by rw [← Array.length_toList, hl, h6.length]
  refine ⟨es, h1.1, h2, hsz, fun i x hx => ?_⟩
  rw [List.getElem?_map] at hx
  cases q : kvs[i]? with
  | none => rw [q] at hx; cases hx
  | some y =>
    rw [q] at hx
    obtain ⟨z, e1, e2, e3⟩ := h6.at q
    have hi : i < es.size := by rw [hsz]; exact (List.getElem?_eq_some_iff.mp q).1
    refine ⟨es[i], by simp [hi], ?_⟩
    have := hk i es[i] z (by simp [hi]) e1
    simp at hx; subst hx
    rw [e2] at this
    cases hkey : es[i].key <;> rw [hkey] at this <;> simp [intKind, Value.isInt] at this
    subst this; exact VR.int
theorem MR.entriesT {B : Store} {ep : Nat} {kvs : List ((Int × Int) × PV)} {o : Obj} (h : MR prog w B (.dictT ep kvs) o) : ∃ es : Array DictEntry, o.cls = .type "dict" ∧ o.data = .dict es ep ∧ es.size = kvs.length ∧ ∀ (i : Nat) (x : PV), (kvs.map fun x => PV.tup [.int x.1.1, .int x.1.2])[i]? = some x → ∃ e : DictEntry, es[i]? = some e ∧ VR B x e.key := by
  obtain ⟨xs, es, h1, h2, h3, h4, h6⟩ := h
  have hsz : es.size = kvs.length := by rw [← Array.length_toList, h3, List.length_map, h6.length]
  refine ⟨es, h1.1, h2, hsz, fun i x hx => ?_⟩
  rw [List.getElem?_map] at hx
  cases q : kvs[i]? with
  | none => rw [q] at hx; cases hx
  | some y =>
    rw [q] at hx
    obtain ⟨z, e1, e2, e3, e4⟩ := h6.at q
    simp at hx; subst hx
    refine ⟨entryOfKey (tupleKind (intKind prog w)) z, ?_, e3⟩
    rw [← Array.getElem?_toList, h3, List.getElem?_map, e1]; rfl

theorem seq_of_vrs {B : Store} {ps : List PV} {vs : List Value} (r : VRs B ps vs) {i : Nat} {x : PV} (h : ps[i]? = some x) : ∃ u, vs.toArray[i]? = some u ∧ VR B x u := by
  obtain ⟨u, e, r⟩ := r.get h; exact ⟨u, by simpa using e, r⟩

theorem walker_of {p : PV} {mo : Option (Addr × MO)} {items : List PV} (hs : Src p mo items) (hh : A.handled = none) (v : Value) : ∃ (At : Nat → Obj → Prop), Walker prog w A p v mo items At ∧
    ∀ (s : Shared) (B : Store) (Δ : Led) (Q : Value → Shared → Prop) (E : Value → Shared → Prop), Rd prog w p v mo B Δ s.heap → (∀ o, At 0 o → o.isFreed = false → Q (.ref s.heap.objs.size) { s with heap := s.heap.push o }) → wpAny (model prog w) A (pyIter v) Q E s := by
  have dct : ∀ (a : Addr) (ep n : Nat) (m : MO) (its : List PV), (∀ B o, MR prog w B m o → ∃ es : Array DictEntry, o.cls = .type "dict" ∧ o.data = .dict es ep ∧ es.size = n ∧ ∀ (i : Nat) (x : PV), its[i]? = some x → ∃ e : DictEntry, es[i]? = some e ∧ VR B x e.key) → its.length = n →
      ∃ (At : Nat → Obj → Prop), Walker prog w A (.obj a) v (some (a, m)) its At ∧
      ∀ (s : Shared) (B : Store) (Δ : Led) (Q : Value → Shared → Prop) (E : Value → Shared → Prop), Rd prog w (.obj a) v (some (a, m)) B Δ s.heap → (∀ o, At 0 o → o.isFreed = false → Q (.ref s.heap.objs.size) { s with heap := s.heap.push o }) → wpAny (model prog w) A (pyIter v) Q E s := by
    intro a ep n m its hm hn
    refine ⟨fun i o => o.cls = .type "dict_keyiterator" ∧ o.data = .fields #[.ref a, .int (i : Nat) 0, .int (n : Nat) 0, .int (ep : Nat) 0], ⟨?_, ?_, ?_, ?_, ?_⟩, ?_⟩
    · rintro i o ⟨h1, h2⟩; exact notSeq_iter h1 (by decide) h2
    · rintro i I s B Δ Q E o x hx R ho ⟨h1, h2⟩ k
      obtain ⟨od, hod, hmr⟩ := R.owned a m R.has
      obtain ⟨es, e1, e2, e3, e4⟩ := hm B od hmr
      obtain ⟨e, e5, e6⟩ := e4 i x hx
      subst e3
      exact pyNext_raw_item ho h1 h2 hod e2 e5 fun h' o' g1 g2 g3 g4 => k _ h' s.toks o' e6 g4 g1 ⟨g2, g3⟩
    · rintro I s B Δ Q E o R ho ⟨h1, h2⟩ k
      obtain ⟨od, hod, hmr⟩ := R.owned a m R.has
      obtain ⟨es, e1, e2, e3, e4⟩ := hm B od hmr
      rw [hn] at h2
      subst e3
      exact pyNext_raw_end hh ho h1 h2 hod e2 fun h' g => k h' s.toks g
    · rintro i I s Q E o ho ⟨h1, h2⟩ q
      exact wpAny_pyIter_keyiter (it := I) (d := a) (i := i) (n := n) (ep := ep) ⟨o, ho, h1, h2⟩ q
    · rintro i I t u s Q E o ho ⟨h1, h2⟩ q
      exact go_at ho h1 (by decide) q
    · intro s B Δ Q E R k
      obtain ⟨od, hod, hmr⟩ := R.owned a m R.has
      obtain ⟨es, e1, e2, e3, e4⟩ := hm B od hmr
      rw [R.val.obj_inv]
      subst e3
      exact pyIter_raw (R.big a m R.has) hod e1 e2 (k _ ⟨rfl, rfl⟩ rfl)
  have lst : ∀ (ax : Addr) (p : PV) (mo : Option (Addr × MO)) (its : List PV), (∀ B Δ h, Rd prog w p v mo B Δ h → ∃ vs : Array Value, h.IsList ax vs ∧ vs.size = its.length ∧ ∀ (i : Nat) (x : PV), its[i]? = some x → ∃ u, vs[i]? = some u ∧ VR B x u) → v = .ref ax →
      ∃ (At : Nat → Obj → Prop), Walker prog w A p v mo its At ∧
      ∀ (s : Shared) (B : Store) (Δ : Led) (Q : Value → Shared → Prop) (E : Value → Shared → Prop), Rd prog w p v mo B Δ s.heap → (∀ o, At 0 o → o.isFreed = false → Q (.ref s.heap.objs.size) { s with heap := s.heap.push o }) → wpAny (model prog w) A (pyIter v) Q E s := by
    intro ax p mo its hm hv
    refine ⟨fun i o => o.cls = .type "list_iterator" ∧ o.data = .fields #[.ref ax, .int (i : Nat) 0], ⟨?_, ?_, ?_, ?_, ?_⟩, ?_⟩
    · rintro i o ⟨h1, h2⟩; exact notSeq_iter h1 (by decide) h2
    · rintro i I s B Δ Q E o x hx R ho ⟨h1, h2⟩ k
      obtain ⟨vs, hl, hz, hi⟩ := hm B Δ _ R
      obtain ⟨u, e1, e2⟩ := hi i x hx
      exact wpAny_pyNext_list_item ⟨o, ho, h1, h2⟩ hl e1 fun h' hit hsb => by
        obtain ⟨o', g1, g2, g3⟩ := hit
        exact k u h' s.toks o' e2 hsb g1 ⟨g2, g3⟩
    · rintro I s B Δ Q E o R ho ⟨h1, h2⟩ k
      obtain ⟨vs, hl, hz, hi⟩ := hm B Δ _ R
      exact wpAny_pyNext_list_end hh ⟨o, ho, h1, h2⟩ hl (Array.getElem?_eq_none (by omega)) fun h' g => k h' s.toks g
    · rintro i I s Q E o ho ⟨h1, h2⟩ q
      exact wpAny_pyIter_listiter (l := ax) (i := i) ⟨o, ho, h1, h2⟩ q
    · rintro i I t u s Q E o ho ⟨h1, h2⟩ q
      exact go_at ho h1 (by decide) q
    · intro s B Δ Q E R k
      obtain ⟨vs, hl, hz, hi⟩ := hm B Δ _ R
      rw [hv]
      exact wpAny_pyIter_list hl (k _ ⟨rfl, rfl⟩ rfl)
  -- no such value: nothing to show
  have void : ∀ (p : PV) (mo : Option (Addr × MO)) (its : List PV), (∀ B, ¬ VR B p v) → ∃ (At : Nat → Obj → Prop), Walker prog w A p v mo its At ∧
      ∀ (s : Shared) (B : Store) (Δ : Led) (Q : Value → Shared → Prop) (E : Value → Shared → Prop), Rd prog w p v mo B Δ s.heap → (∀ o, At 0 o → o.isFreed = false → Q (.ref s.heap.objs.size) { s with heap := s.heap.push o }) → wpAny (model prog w) A (pyIter v) Q E s := by
    intro p mo its hv
    exact ⟨fun _ _ => False, ⟨fun _ _ h => h.elim, fun _ _ _ _ _ _ _ _ _ _ _ _ h => h.elim, fun _ _ _ _ _ _ _ _ _ h => h.elim, fun _ _ _ _ _ _ _ h => h.elim, fun _ _ _ _ _ _ _ _ _ h => h.elim⟩, fun s B Δ Q E R k => (hv B R.val).elim⟩
  cases hs with
  | list =>
    by_cases hv : ∃ B, VR B (.list items) v
    · obtain ⟨B, r⟩ := hv
      obtain ⟨ax, vs, n, rfl, _, _⟩ := r.list_inv
      refine lst ax _ _ _ (fun B Δ h R => ?_) rfl
      obtain ⟨ax', vs, n, e, h1, h2⟩ := R.val.list_inv
      cases e
      exact ⟨vs.toArray, ⟨_, R.keepB _ _ h1, rfl, n, rfl⟩, by simp [h2.length], fun i x hx => seq_of_vrs h2 hx⟩
    · exact void _ _ _ fun B r => hv ⟨B, r⟩
  | olist a =>
    by_cases hv : ∃ B, VR B (.obj a) v
    · obtain ⟨B, r⟩ := hv
      refine lst a _ _ _ (fun B Δ h R => ?_) r.obj_inv
      obtain ⟨o, ho, vs, n, rfl, h3⟩ := R.owned a _ R.has
      exact ⟨vs.toArray, ⟨_, ho, rfl, n, rfl⟩, by simp [h3.length], fun i x hx => seq_of_vrs h3 hx⟩
    · exact void _ _ _ fun B r => hv ⟨B, r⟩
  | dictI a ep kvs => exact dct a ep kvs.length _ _ (fun B o hm => MR.entriesI hm) (by simp)
  | dictT a ep kvs => exact dct a ep kvs.length _ _ (fun B o hm => MR.entriesT hm) (by simp)
  | tup =>
    by_cases hv : ∃ B, VR B (.tup items) v
    · obtain ⟨B, r⟩ := hv
      obtain ⟨ax, vs, o, n, rfl, _, _⟩ := r.tup_inv
      have get : ∀ B Δ h, Rd prog w (.tup items) (.ref ax) none B Δ h → ∃ vs : Array Value, h.IsTuple ax vs ∧ vs.size = items.length ∧ ∀ (i : Nat) (x : PV), items[i]? = some x → ∃ u, vs[i]? = some u ∧ VR B x u := fun B Δ h R => by
        obtain ⟨ax', vs, o, n, e, h1, h2, h3, h4⟩ := R.val.tup_inv
        cases e
        exact ⟨vs.toArray, ⟨o, R.keepB _ _ h1, h2, n, h3⟩, by simp [h4.length], fun i x hx => seq_of_vrs h4 hx⟩
      refine ⟨fun i o => o.cls = .type "tuple_iterator" ∧ o.data = .fields #[.ref ax, .int (i : Nat) 0], ⟨?_, ?_, ?_, ?_, ?_⟩, ?_⟩
      · rintro i o ⟨h1, h2⟩; exact notSeq_iter h1 (by decide) h2
      · rintro i I s B Δ Q E o x hx R ho ⟨h1, h2⟩ k
        obtain ⟨vs, hl, hz, hi⟩ := get B Δ _ R
        obtain ⟨u, e1, e2⟩ := hi i x hx
        exact wpAny_pyNext_tuple_item ⟨o, ho, h1, h2⟩ hl e1 fun h' hit hsb => by
          obtain ⟨o', g1, g2, g3⟩ := hit
          exact k u h' s.toks o' e2 hsb g1 ⟨g2, g3⟩
      · rintro I s B Δ Q E o R ho ⟨h1, h2⟩ k
        obtain ⟨vs, hl, hz, hi⟩ := get B Δ _ R
        exact wpAny_pyNext_tuple_end hh ⟨o, ho, h1, h2⟩ hl (Array.getElem?_eq_none (by omega)) fun h' g => k h' s.toks g
      · rintro i I s Q E o ho ⟨h1, h2⟩ q
        exact wpAny_pyIter_tupleiter (t := ax) (i := i) ⟨o, ho, h1, h2⟩ q
      · rintro i I t u s Q E o ho ⟨h1, h2⟩ q
        exact go_at ho h1 (by decide) q
      · intro s B Δ Q E R k
        obtain ⟨vs, hl, hz, hi⟩ := get B Δ _ R
        exact wpAny_pyIter_tuple hl (k _ ⟨rfl, rfl⟩ rfl)
    · exact void _ _ _ fun B r => hv ⟨B, r⟩
  | rng n hn =>
    refine ⟨fun i o => i ≤ n ∧ o = { cls := .type "range_iterator", data := .fields #[rawInt i, rawInt ((n : Int) - i), rawInt 1] }, ⟨?_, ?_, ?_, ?_, ?_⟩, ?_⟩
    · rintro i o ⟨_, rfl⟩; exact notSeq_iter (T := "range_iterator") rfl (by decide) rfl
    · rintro i I s B Δ Q E o x hx R ho ⟨hi, rfl⟩ k
      rw [List.getElem?_map] at hx
      have hlt : i < n := by
        rcases Nat.lt_or_ge i n with q | q
        · exact q
        · rw [List.getElem?_eq_none (by simpa using q)] at hx; cases hx
      rw [List.getElem?_range hlt] at hx
      simp at hx; subst hx
      refine wpAny_pyNext_range_item (x := i) (left := (n : Int) - i) (step := 1) ho (by omega) fun h' hit hsb => ?_
      refine k _ h' _ _ .int hsb hit ⟨hlt, ?_⟩
      have e1 : ((i + 1 : Nat) : Int) = (i : Int) + 1 := by omega
      have e2 : (n : Int) - ((i + 1 : Nat) : Int) = (n : Int) - i - 1 := by omega
      rw [e1] at *
      rw [show (n : Int) - ((i : Int) + 1) = (n : Int) - i - 1 from by omega]
    · rintro I s B Δ Q E o R ho ⟨hi, rfl⟩ k
      simp only [List.length_map, List.length_range] at ho
      exact wpAny_pyNext_range_end (x := n) (left := (n : Int) - n) (step := 1) hh ho (by omega) fun h' g => k h' s.toks g
    · rintro i I s Q E o ho ⟨hi, rfl⟩ q
      exact wpAny_pyIter_rangeiter (x := i) (left := (n : Int) - i) (step := 1) ho q
    · rintro i I t u s Q E o ho ⟨hi, rfl⟩ q
      exact go_at (T := "range_iterator") ho rfl (by decide) q
    · intro s B Δ Q E R k
      obtain ⟨a, t, u, kk, rfl, h1⟩ := R.val.rng_inv
      have hsz : Builtin.Range.rangeSize 0 n 1 = n := by
        unfold Builtin.Range.rangeSize
        rw [if_pos (by decide)]
        split
        · omega
        · omega
      refine wpAny_pyIter_range (R.keepB _ _ h1) ?_ ?_
      · unfold Builtin.Range.small
        rw [hsz]
        have e1 : Builtin.Range.rangeFitsLong 0 = true := by decide
        have e2 : Builtin.Range.rangeFitsLong n = true := by unfold Builtin.Range.rangeFitsLong; simp; omega
        have e3 : Builtin.Range.rangeFitsLong 1 = true := by decide
        simp [e1, e2, e3]
      · rw [hsz]
        refine k _ ⟨Nat.zero_le _, ?_⟩ rfl
        simp
end
end Mine

namespace Mine
section
variable {prog : Program} {w : World} {Kf : Frag} {sc : Scope} {C : Cx prog w Kf sc} {l : List (Option PV)} {Δ : Led} {Q : PV → Led → Prop}
  {Qn : List (Option PV) → Led → Prop} {Qr : PV → Led → Prop}

noncomputable def protK (K : Store) (I : Addr) (o : Obj) : Store := fun a => match K a with
  | some o' => some o'
  | none => if a = I then some o else none
theorem protK_of {K : Store} {I a : Addr} {o o' : Obj} (e : K a = some o') : protK K I o a = some o' := by simp [protK, e]
theorem protK_self {K : Store} {I : Addr} {o : Obj} (e : K I = none) : protK K I o I = some o := by simp [protK, e]
theorem protK_cases {K : Store} {I a : Addr} {o o' : Obj} (e : protK K I o a = some o') : K a = some o' ∨ (a = I ∧ o' = o) := by
  unfold protK at e
  split at e
  · rename_i q; cases e; exact .inl q
  · split at e
    · rename_i q; cases e; exact .inr ⟨q, rfl⟩
    · cases e
theorem protK_none {K : Store} {I a : Addr} {o : Obj} (e : protK K I o a = none) : K a = none ∧ a ≠ I := by
  unfold protK at e
  split at e
  · cases e
  · rename_i q
    split at e
    · cases e
    · rename_i n; exact ⟨q, n⟩
noncomputable def Cx.prot (C : Cx prog w Kf sc) (I : Addr) (o : Obj) : Cx prog w Kf sc :=
  { C with
    K := protK C.K I o
    hK := fun a o' e => protK_of (C.hK a o' e)
    cellKept := fun x c e => (C.cellKept x c e).elim .inl fun q => .inr (by
      obtain ⟨o', h⟩ := Option.isSome_iff_exists.mp q
      show (protK C.K I o c).isSome = true
      rw [protK_of h]; rfl) }
structure Off (C : Cx prog w Kf sc) (B : Store) (Δ : Led) (I : Addr) : Prop where
  k : C.K I = none
  b : B I = none
  d : Δ I = none
  o : I ∉ C.own
theorem Abs.offNew {B : Store} {h : Heap} (a : Abs C B l Δ h) : Off C B Δ h.objs.size where
  k := fresh_of a.base.keepK
  b := fresh_of a.base.keepB
  d := by
    cases e : Δ h.objs.size with
    | none => rfl
    | some m => obtain ⟨o, ho, _⟩ := a.base.owned _ _ e; exact absurd (Heap.lt_size ho) (Nat.lt_irrefl _)
  o := fun ha => by obtain ⟨_, _, o, ho, _⟩ := a.base.offO _ ha; exact absurd (Heap.lt_size ho) (Nat.lt_irrefl _)
theorem Abs.other {B : Store} {h h' : Heap} {I : Addr} (a : Abs C B l Δ h) (f : Off C B Δ I) (k : ∀ b o, b ≠ I → h.get? b = some o → h'.get? b = some o) : Abs C B l Δ h' := by
  have ne : ∀ b o, (C.K b = some o ∨ B b = some o) → b ≠ I := fun b o e q => by
    rcases e with e | e
    · rw [q, f.k] at e; cases e
    · rw [q, f.b] at e; cases e
  have nd : ∀ b m, Δ b = some m → b ≠ I := fun b m e q => by rw [q, f.d] at e; cases e
  have no : ∀ b, b ∈ C.own → b ≠ I := fun b e q => f.o (q ▸ e)
  refine ⟨⟨fun b o e => k b o (ne b o (.inl e)) (a.base.keepK b o e), fun b o e => k b o (ne b o (.inr e)) (a.base.keepB b o e), fun b m e => ?_, a.base.offΔ, a.base.big, fun b hb => ?_, a.base.apart, a.base.s0⟩, ?_⟩
  · obtain ⟨o, ho, r⟩ := a.base.owned b m e; exact ⟨o, k b o (nd b m e) ho, r⟩
  · obtain ⟨h1, h2, o, h3, h4⟩ := a.base.offO b hb; exact ⟨h1, h2, o, k b o (no b hb) h3, h4⟩
  · obtain ⟨m, cm, h1, h2, h3⟩ := a.frame
    refine ⟨m, cm, h1.at' fun o e => k _ o (no _ C.locOwn) e, fun y c e => ?_, h3⟩
    obtain ⟨o, ho, hd⟩ := h2 y c e
    refine ⟨o, k c o ?_ ho, hd⟩
    rcases C.cellKept y c e with q | q
    · exact no c q
    · obtain ⟨o', q⟩ := Option.isSome_iff_exists.mp q; exact ne c o' (.inl q)
theorem Abs.prot {B : Store} {h : Heap} {I : Addr} {o : Obj} (a : Abs C B l Δ h) (f : Off C B Δ I) (ho : h.get? I = some o) : Abs (C.prot I o) B l Δ h := by
  refine ⟨⟨fun b o' e => ?_, a.base.keepB, a.base.owned, fun b m e => ?_, a.base.big, fun b hb => ?_, fun b o' e => ?_, a.base.s0⟩, a.frame⟩
  · rcases protK_cases e with e | ⟨rfl, rfl⟩
    · exact a.base.keepK b o' e
    · exact ho
  · obtain ⟨h1, h2, h3⟩ := a.base.offΔ b m e
    refine ⟨?_, h2, h3⟩
    show protK C.K I o b = none
    have : b ≠ I := fun q => by rw [q, f.d] at e; cases e
    simp [protK, h1, this]
  · obtain ⟨h1, h2, h3⟩ := a.base.offO b hb
    refine ⟨?_, h2, h3⟩
    show protK C.K I o b = none
    have : b ≠ I := fun q => f.o (q ▸ hb)
    simp [protK, h1, this]
  · rcases a.base.apart b o' e with q | q
    · refine .inl ?_
      show protK C.K I o b = none
      have : b ≠ I := fun q' => by rw [q', f.b] at e; cases e
      simp [protK, q, this]
    · exact .inr q
theorem Abs.unprot {B B' : Store} {l' : List (Option PV)} {Δ' : Led} {h' : Heap} {I : Addr} {o : Obj} (f : Off C B Δ I) (s0 : C.S0.le B) (a : Abs (C.prot I o) B' l' Δ' h') :
    Abs C B' l' Δ' h' ∧ Off C B' Δ' I ∧ h'.get? I = some o := by
  have hI : h'.get? I = some o := a.base.keepK I o (protK_self f.k)
  have hb : B' I = none := by
    cases e : B' I with
    | none => rfl
    | some o' =>
      rcases a.base.apart I o' e with q | q
      · have q : protK C.K I o I = none := q; rw [protK_self f.k] at q; cases q
      · have := s0 I o' q; rw [f.b] at this; cases this
  have hd : Δ' I = none := by
    cases e : Δ' I with
    | none => rfl
    | some m => have q := (a.base.offΔ I m e).1; have q : protK C.K I o I = none := q; rw [protK_self f.k] at q; cases q
  refine ⟨⟨⟨fun b o' e => a.base.keepK b o' (protK_of e), a.base.keepB, a.base.owned, fun b m e => ?_, a.base.big, fun b hb => ?_, fun b o' e => ?_, a.base.s0⟩, a.frame⟩, ⟨f.k, hb, hd, f.o⟩, hI⟩
  · obtain ⟨h1, h2, h3⟩ := a.base.offΔ b m e; exact ⟨(protK_none h1).1, h2, h3⟩
  · obtain ⟨h1, h2, h3⟩ := a.base.offO b hb; exact ⟨(protK_none h1).1, h2, h3⟩
  · rcases a.base.apart b o' e with q | q
    · exact .inl (protK_none q).1
    · exact .inr q

theorem Abs.rd {B : Store} {h : Heap} {p : PV} {v : Value} {mo : Option (Addr × MO)} (a : Abs C B l Δ h) (r : VR B p v) (hm : Has Δ mo) : Rd prog w p v mo B Δ h := ⟨a.base.keepB, a.base.owned, a.base.big, r, hm⟩

noncomputable def Cx.Like (C' C : Cx prog w Kf sc) : Prop := C'.room = C.room ∧ C'.isFn = C.isFn ∧ C'.H = C.H ∧ C'.A = C.A ∧ C'.env = C.env

inductive ForH (C : Cx prog w Kf sc) (target : Expr) (body : List Stmt) (l : List (Option PV)) (Qn : List (Option PV) → Led → Prop) (Qr : PV → Led → Prop) (p : PV) (Δ' : Led) : Prop
  | mk (mo : Option (Addr × MO)) (items : List PV) (hs : Src p mo items) (hm : Has Δ' mo) (I : Nat → List (Option PV) → Led → Prop) (i0 : I 0 l Δ') (ihas : ∀ i l₁ Δ₁, I i l₁ Δ₁ → Has Δ₁ mo)
    (turn : ∀ C' : Cx prog w Kf sc, C'.Like C → ∀ i x l₁ Δ₁, items[i]? = some x → I i l₁ Δ₁ → AS C' target x l₁ Δ₁ (fun l₂ Δ₂ => SV C' body l₂ Δ₂ (I (i + 1)) Qr))
    (fin : ∀ l₁ Δ₁, I items.length l₁ Δ₁ → Qn l₁ Δ₁)
inductive ForSt (C : Cx prog w Kf sc) (It : Addr) (B₁ : Store) (p : PV) (v : Value) (At : Nat → Obj → Prop) (items : List PV) (I : Nat → List (Option PV) → Led → Prop) (n : Nat) (s' : Shared) : Prop
  | mk (i : Nat) (h' : Heap) (tk' : Nat) (B' : Store) (l' : List (Option PV)) (Δ' : Led) (o : Obj) (e : s' = { C.s with heap := h', toks := tk' }) (hB : B₁.le B') (a : Abs C B' l' Δ' h') (f : Off C B' Δ' It) (g : h'.get? It = some o) (ati : At i o)
    (r : VR B' p v) (hi : i ≤ items.length) (hn : n = items.length - i) (inv : I i l' Δ')
theorem SV1_for {target iter : Expr} {body : List Stmt} {pos : Pos}
    (h : EV C iter l Δ (ForH C target body l Qn Qr))
    (hs : ∀ x, foldedSetIterable iter C.env x = pure x := by intro _; rfl) : SV1 C (.For target iter body [] pos) l Δ Qn Qr := fun B₀ hh tk a => by
  refine wpAny_For (wpAny_mono (h B₀ hh tk a) (fun v s₁ ⟨h₁, tk₁, B₁, Δ₁, p, e, hB₁, a₁, r, mo, items, hs, hm, I, i0, ihas, turn, fin⟩ => ?_) fun _ _ x => x) hs
  subst e
  obtain ⟨At, W, start⟩ := walker_of (prog := prog) (w := w) (A := C.A) hs C.hand v
  refine start { C.s with heap := h₁, toks := tk₁ } B₁ Δ₁ _ _ (a₁.rd r hm) fun o₀ at0 hf => ?_
  dsimp only
  generalize hIt : h₁.objs.size = It
  have f₀ : Off C B₁ Δ₁ It := hIt ▸ a₁.offNew
  have a₂ : Abs C B₁ l Δ₁ (h₁.push o₀) := a₁.grow fun b o e => Heap.get?_push_of_some _ e
  have g₀ : (h₁.push o₀).get? It = some o₀ := hIt ▸ Heap.get?_push_size _ hf
  refine codeAny_forLoop_any
    (ForSt C It B₁ p v At items I) ?_ items.length
    ⟨0, _, _, B₁, l, Δ₁, o₀, rfl, Store.le_refl _, a₂, f₀, g₀, at0, r, Nat.zero_le _, rfl, i0⟩
  rintro n s' ⟨i, h', tk', B', l', Δ', o, rfl, hB, a', f', g', at', r', hi, rfl, inv⟩
  have noErr : ∀ e s, (fun _ _ => False : Value → Shared → Prop) e s → notedBy (model prog w) C.A C.env (fun e s' => (match (Except.error e : Result) with | .ok f => PostF C B₀ Qn Qr f s' | .error e => cameBackBy (model prog w) C.A C.env (fun _ _ => False) e s')) e s := fun _ _ x => x.elim
  rcases Nat.lt_or_ge i items.length with hlt | hge
  · obtain ⟨x, hx⟩ : ∃ x, items[i]? = some x := ⟨items[i], by simp [hlt]⟩
    refine W.next i It _ B' Δ' _ _ o x hx (a'.rd r' (ihas _ _ _ inv)) g' at' fun u h₂ tk₂ o₂ ru hsb g₂ at₂ => ?_
    dsimp only
    have a₃ : Abs C B' l' Δ' h₂ := a'.other f' fun b ob hb e => hsb.extBut b ob hb e
    refine W.go (i + 1) It target u _ _ _ o₂ g₂ at₂ ?_
    have ns := W.notSeen _ _ at₂
    have a₄ := a₃.prot f' g₂
    refine wpAny_mono (turn (C.prot It o₂) ⟨rfl, rfl, rfl, rfl, rfl⟩ i x l' Δ' hx inv B' h₂ tk₂ u a₄ ru) (fun _ s₄ ⟨h₄, tk₄, B₄, Δ₄, l₄, e4, hB4, a5, q⟩ => ?_) noErr
    subst e4
    refine wpAny_mono (q B₄ h₄ tk₄ a5) (fun fl s₅ ⟨h₅, tk₅, B₅, Δ₅, l₅, e5, hB5, a6, q5⟩ => ?_) noErr
    subst e5
    obtain ⟨b1, b2, b3⟩ := Abs.unprot f' a'.base.s0 a6
    have b4 := Store.le_trans hB4 hB5
    cases fl with
    | next => exact ⟨items.length - (i + 1), by omega, i + 1, h₅, tk₅, _, l₅, Δ₅, o₂, rfl, Store.le_trans hB b4, b1, b2, b3, at₂, r'.mono b4, hlt, rfl, q5⟩
    | ret v' => obtain ⟨pv, rp, qp⟩ := q5; exact ⟨h₅, tk₅, _, Δ₅, l₅, rfl, Store.le_trans hB₁ (Store.le_trans hB b4), b1, pv, rp, qp⟩
    | brk => exact q5.elim
    | cont => exact q5.elim
  · have hi' : i = items.length := by omega
    subst hi'
    refine W.done It _ B' Δ' _ _ o (a'.rd r' (ihas _ _ _ inv)) g' at' fun h₂ tk₂ hk => ?_
    dsimp only
    exact wpAny_execs_nil ⟨h₂, tk₂, B', Δ', l', rfl, Store.le_trans hB₁ hB, a'.other f' fun b ob hb e => hk b ob hb e, fin _ _ inv⟩

inductive WhSt (C : Cx prog w Kf sc) (B₀ : Store) (I : Nat → List (Option PV) → Led → Prop) (n : Nat) (s' : Shared) : Prop
  | mk (h' : Heap) (tk' : Nat) (B' : Store) (l' : List (Option PV)) (Δ' : Led) (e : s' = { C.s with heap := h', toks := tk' }) (hB : B₀.le B') (a : Abs C B' l' Δ' h') (q : I n l' Δ')
theorem SV1_while {test : Expr} {body : List Stmt} {pos : Pos} (I : Nat → List (Option PV) → Led → Prop) (n : Nat) (h0 : I n l Δ)
    (turn : ∀ n l₁ Δ₁, I n l₁ Δ₁ → TV C test l₁ Δ₁ (fun b Δ₂ => if b = true then SV C body l₁ Δ₂ (fun l₃ Δ₃ => ∃ m, m < n ∧ I m l₃ Δ₃) Qr else Qn l₁ Δ₂)) : SV1 C (.While test body [] pos) l Δ Qn Qr := fun B₀ hh tk a => by
  refine wpAny_While ?_
  refine codeAny_whileLoop (WhSt C B₀ I) ?_ n ⟨hh, tk, B₀, l, Δ, rfl, Store.le_refl _, a, h0⟩
  rintro n s' ⟨h', tk', B', l', Δ', rfl, hB, a', inv⟩
  refine wpAny_mono (turn n l' Δ' inv B' h' tk' a') (fun b s₂ ⟨h₂, tk₂, B₂, Δ₂, e, hB₂, a₂, q⟩ => ?_) fun _ _ x => x.elim
  subst e
  cases b with
  | false => exact wpAny_execs_nil ⟨h₂, tk₂, B₂, Δ₂, l', rfl, Store.le_trans hB hB₂, a₂, q⟩
  | true =>
    refine wpAny_mono (q B₂ h₂ tk₂ a₂) (fun fl s₃ ⟨h₃, tk₃, B₃, Δ₃, l₃, e, hB₃, a₃, q₃⟩ => ?_) fun _ _ x => x.elim
    subst e
    cases fl with
    | next => obtain ⟨m, hm, q₃⟩ := q₃; exact ⟨m, hm, h₃, tk₃, B₃, l₃, Δ₃, rfl, Store.le_trans hB (Store.le_trans hB₂ hB₃), a₃, q₃⟩
    | ret v => exact ⟨h₃, tk₃, B₃, Δ₃, l₃, rfl, Store.le_trans hB (Store.le_trans hB₂ hB₃), a₃, q₃⟩
    | brk => exact q₃.elim
    | cont => exact q₃.elim

noncomputable def compSc (sc scope : Scope) : Scope := { scope with names := scope.names.map fun (n, k) => if (k == .free && sc.names.lookup n == some .cell) then (n, .cell) else (n, k) }
noncomputable def outer (sc : Scope) (l : List (Option PV)) (x : Str) : Option PV := (l[(sc.names.findIdx fun y => y.1 == x)]?).join
noncomputable def compL (sc : Scope) (l : List (Option PV)) (scope : Scope) : List (Option PV) := scope.names.map fun (n, k) => if k == .free then outer sc l n else none

theorem relabel_is (C : Cx prog w Kf sc) (scope : Scope) : relabel scope C.env = compSc sc scope := by
  unfold relabel compSc
  have h1 : (C.env.scope.kind == ScopeKind.function) = true := by rw [C.ekind]; rfl
  have h2 : ∀ x, C.env.kindOf x = sc.names.lookup x := C.kindOf
  simp only [h1, h2, Bool.and_true]

noncomputable def tests (C : Cx prog w Kf sc) (ifs : List Expr) (l : List (Option PV)) (Δ : Led) (Q : Bool → Led → Prop) : Prop := match ifs with
  | [] => Q true Δ
  | [c] => TV C c l Δ Q
  | _ => False

theorem codeAny_compLoop_own {A : Around} {R : Result → Shared → Prop} {s : Shared} {elt target iter : Expr} {ifs : List Expr} {scope : Scope} {pos : Pos} {it acc : Value} {env : Env} (I : Nat → Shared → Prop)
    (turn : ∀ n s, I n s → wpAny (model prog w) A (pyNext it) (fun r s₁ => match r with
      | none => R (.ok .next) s₁
      | some v => wpAny (model prog w) A (letOwnedTupleGo target it v) (fun _ s₁' => wpAny (model prog w) A (assign target env v) (fun _ s₂ =>
          wpAny (model prog w) A (forIn ifs true fun c r => if r = true then do let ok ← isTrue c env (eval c env); pure (ForInStep.yield ok) else pure (ForInStep.yield r)) (fun ok s₃ =>
            if ok = true then wpAny (model prog w) A (eval elt env) (fun x s₄ =>
              wpAny (model prog w) A (call (.builtin "list.append") [acc, x]) (fun _ s₅ => ∃ m, m < n ∧ I m s₅) (notedBy (model prog w) A env fun e s' => R (.error e) s') s₄) (notedBy (model prog w) A env fun e s' => R (.error e) s') s₃
            else ∃ m, m < n ∧ I m s₃) (notedBy (model prog w) A env fun e s' => R (.error e) s') s₂) (notedBy (model prog w) A env fun e s' => R (.error e) s') s₁') (notedBy (model prog w) A env fun e s' => R (.error e) s') s₁)
        (notedBy (model prog w) A env fun e s' => R (.error e) s') s)
    (n : Nat) (h : I n s) : codeAny (model prog w) A (.compLoop (.ListComp elt [⟨target, iter, ifs, 0⟩] scope pos) 0 it acc env) R s := by
  refine codeAny_loop rfl I (fun n s hI => ?_) n h
  show wpAny _ A ((compTurn (.ListComp elt [⟨target, iter, ifs, 0⟩] scope pos) 0 it acc env).onRaise (fun x => do noteFrame x env; theTreesLotGoes x)) _ _ s
  refine wpAny_noted ?_
  rw [compTurn_list]
  refine wpAny_bind (wpAny_standAt (wpAny_bind (wpAny_mono (turn n s hI) (fun r s₁ h₁ => ?_) fun _ _ h' => h')))
  cases r with
  | none => exact wpAny_pure h₁
  | some v =>
    refine wpAny_bind (wpAny_mono h₁ (fun _ s₁' h₁' => ?_) fun _ _ h' => h')
    refine wpAny_bind (wpAny_mono h₁' (fun _ s₂ h₂ => wpAny_bind (wpAny_mono h₂ (fun ok s₃ h₃ => ?_) fun _ _ h' => h')) fun _ _ h' => h')
    cases ok with
    | false => exact wpAny_pure ⟨rfl, h₃⟩
    | true => exact wpAny_bind (wpAny_bind (wpAny_mono h₃ (fun x s₄ h₄ => wpAny_bind (wpAny_mono h₄ (fun _ s₅ h₅ => wpAny_pure (wpAny_pure ⟨rfl, h₅⟩)) fun _ _ h' => h')) fun _ _ h' => h'))

theorem closureFor_some {env : Env} : ∀ (names : List (Str × NameKind)) (acc : List (Str × Addr)), (∀ y ∈ names, y.2 = .free → ∃ c, env.cells.lookup y.1 = some c) →
    ∃ cl : List (Str × Addr), (forIn names acc (fun (x : Str × NameKind) (cs : List (Str × Addr)) => (if (x.2 == NameKind.free) = true then (do let a ← cellOf env x.1; pure (ForInStep.yield ((x.1, a) :: cs))) else pure (ForInStep.yield cs) : Sem (ForInStep (List (Str × Addr)))))) = pure cl ∧
      (∀ x c, cl.lookup x = some c → acc.lookup x = some c ∨ env.cells.lookup x = some c) ∧ (∀ x, (x, NameKind.free) ∈ names ∨ (∃ c, acc.lookup x = some c) → ∃ c, cl.lookup x = some c)
  | [], acc, _ => ⟨acc, rfl, fun x c h => .inl h, fun x h => h.elim (fun h => nomatch h) fun h => h⟩
  | (y, k) :: r, acc, h => by
    rw [List.forIn_cons]
    by_cases hk : k = .free
    · subst hk
      obtain ⟨c, hc⟩ := h (y, .free) (by simp) rfl
      obtain ⟨cl, e1, e2, e3⟩ := closureFor_some (env := env) r ((y, c) :: acc) fun z hz => h z (List.mem_cons_of_mem _ hz)
      refine ⟨cl, ?_, fun x c' hx => ?_, fun x hx => ?_⟩
      · have : cellOf env y = pure c := by unfold cellOf; rw [hc]
        simp only [beq_self_eq_true, if_true, this]
        exact e1
      · rcases e2 x c' hx with q | q
        · rw [List.lookup_cons] at q
          cases hb : x == y with
          | true => rw [hb] at q; cases q; rw [beq_iff_eq.mp hb]; exact .inr hc
          | false => rw [hb] at q; exact .inl q
        · exact .inr q
      · refine e3 x ?_
        by_cases hb : x = y
        · subst hb; exact .inr ⟨c, by simp⟩
        · rcases hx with hx | ⟨c', hx⟩
          · rcases List.mem_cons.mp hx with q | q
            · cases q; exact absurd rfl hb
            · exact .inl q
          · exact .inr ⟨c', by rw [List.lookup_cons, beq_eq_false_iff_ne.mpr hb]; exact hx⟩
    · obtain ⟨cl, e1, e2, e3⟩ := closureFor_some (env := env) r acc fun z hz => h z (List.mem_cons_of_mem _ hz)
      refine ⟨cl, ?_, e2, fun x hx => e3 x ?_⟩
      · have : (k == NameKind.free) = false := by simpa using hk
        simp only [this, Bool.false_eq_true, if_false]
        exact e1
      · rcases hx with hx | hx
        · rcases List.mem_cons.mp hx with q | q
          · cases q; exact absurd rfl hk
          · exact .inl q
        · exact .inr hx
end
end Mine

namespace Mine
section
variable {K : Type} [DecidableEq K]
noncomputable def kget (kvs : List (K × PV)) (k : K) : Option PV := (kvs.find? fun x => decide (x.1 = k)).map (·.2)
noncomputable def kput (kvs : List (K × PV)) (k : K) (p : PV) : List (K × PV) := if (kget kvs k).isSome then kvs.map (fun x => if x.1 = k then (x.1, p) else x) else kvs ++ [(k, p)]
noncomputable def kdel (kvs : List (K × PV)) (k : K) : List (K × PV) := kvs.filter fun x => decide (x.1 ≠ k)
theorem kget_nil (k : K) : kget ([] : List (K × PV)) k = none := rfl
theorem kget_cons (x : K × PV) (kvs : List (K × PV)) (k : K) : kget (x :: kvs) k = if x.1 = k then some x.2 else kget kvs k := by
  unfold kget
  rw [List.find?_cons]
  by_cases h : x.1 = k <;> simp [h]
theorem kget_append (kvs lvs : List (K × PV)) (k : K) : kget (kvs ++ lvs) k = (kget kvs k).orElse fun _ => kget lvs k := by
  induction kvs with
  | nil => simp [kget_nil]
  | cons x r ih => rw [List.cons_append, kget_cons, kget_cons, ih]; split <;> simp
theorem kget_map (kvs : List (K × PV)) (k j : K) (p : PV) : kget (kvs.map (fun x => if x.1 = k then (x.1, p) else x)) j = if j = k then (kget kvs k).map (fun _ => p) else kget kvs j := by
  induction kvs with
  | nil => simp [kget_nil]
  | cons x r ih =>
    rw [List.map_cons, kget_cons, ih, kget_cons, kget_cons]
    by_cases h : x.1 = k
    · subst h
      by_cases hj : j = x.1
      · subst hj; simp
      · simp [hj, Ne.symm hj]
    · by_cases hj : j = k
      · subst hj; simp [h]
      · simp [h, hj]
theorem kget_put (kvs : List (K × PV)) (k j : K) (p : PV) : kget (kput kvs k p) j = if j = k then some p else kget kvs j := by
  unfold kput
  split
  · rename_i h
    rw [kget_map]
    split
    · obtain ⟨q, e⟩ := Option.isSome_iff_exists.mp h; rw [e]; rfl
    · rfl
  · rename_i h
    rw [kget_append, kget_cons, kget_nil]
    have h : kget kvs k = none := by simpa using h
    by_cases hj : j = k
    · subst hj; simp [h]
    · simp only [if_neg hj, if_neg (Ne.symm hj)]; cases kget kvs j <;> rfl
theorem kget_mem {kvs : List (K × PV)} {k : K} {p : PV} (h : kget kvs k = some p) : (k, p) ∈ kvs := by
  unfold kget at h
  obtain ⟨x, h1, h2⟩ := Option.map_eq_some_iff.mp h
  have h3 := List.find?_some h1
  simp at h3
  have := List.mem_of_find?_eq_some h1
  obtain ⟨a, b⟩ := x
  simp at h2 h3; subst h2; subst h3; exact this
theorem kget_some_of {kvs : List (K × PV)} {k : K} (h : k ∈ kvs.map (·.1)) : ∃ p, kget kvs k = some p := by
  induction kvs with
  | nil => simp at h
  | cons x r ih =>
    rw [kget_cons]
    by_cases e : x.1 = k
    · exact ⟨x.2, by simp [e]⟩
    · rw [if_neg e]; rw [List.map_cons, List.mem_cons] at h; exact ih (h.resolve_left (Ne.symm e))
theorem kget_isSome (kvs : List (K × PV)) (k : K) : (kget kvs k).isSome = true ↔ k ∈ kvs.map (·.1) := by
  constructor
  · intro h; obtain ⟨p, e⟩ := Option.isSome_iff_exists.mp h; exact List.mem_map.mpr ⟨_, kget_mem e, rfl⟩
  · intro h; obtain ⟨p, e⟩ := kget_some_of h; rw [e]; rfl
theorem kget_none_iff (kvs : List (K × PV)) (k : K) : kget kvs k = none ↔ k ∉ kvs.map (·.1) := by
  rw [← kget_isSome]; cases kget kvs k <;> simp
theorem kput_keys (kvs : List (K × PV)) (k : K) (p : PV) : (kput kvs k p).map (·.1) = if k ∈ kvs.map (·.1) then kvs.map (·.1) else kvs.map (·.1) ++ [k] := by
  unfold kput
  by_cases h : k ∈ kvs.map (·.1)
  · rw [if_pos ((kget_isSome _ _).mpr h), if_pos h, List.map_map]
    apply List.map_congr_left
    intro x _
    show (if x.1 = k then (x.1, p) else x).1 = x.1
    split <;> rfl
  · rw [if_neg (fun q => h ((kget_isSome _ _).mp q)), if_neg h]; simp
theorem kput_nodup {kvs : List (K × PV)} (h : (kvs.map (·.1)).Nodup) (k : K) (p : PV) : ((kput kvs k p).map (·.1)).Nodup := by
  rw [kput_keys]
  split
  · exact h
  · rename_i n
    rw [List.nodup_append]
    exact ⟨h, by simp, fun a ha b hb e => by rw [List.mem_singleton.mp hb] at e; exact n (e ▸ ha)⟩
theorem kput_length_le (kvs : List (K × PV)) (k : K) (p : PV) : (kput kvs k p).length ≤ kvs.length + 1 := by
  unfold kput; split <;> simp
end

section
variable {B : Store}
theorem KVI.valueAt : ∀ {kvs : List (Int × PV)} {l : List (Int × Value)} (k : Int), KVI B kvs l → match kget kvs k with
    | some p => ∃ v, PySem.valueAt l k = some v ∧ VR B p v
    | none => PySem.valueAt l k = none
  | [], _, k, h => by rw [h]; rfl
  | (j, p) :: r, _, k, h => by
    obtain ⟨v, l', rfl, h1, h2⟩ := h
    have e : PySem.valueAt ((j, v) :: l') k = if j = k then some v else PySem.valueAt l' k := by
      unfold PySem.valueAt
      rw [List.find?_cons]
      by_cases h : j = k <;> simp [h]
    rw [kget_cons]
    by_cases h : j = k
    · subst h; simp only [if_true]; exact ⟨v, by rw [e]; simp, h1⟩
    · rw [if_neg h, e, if_neg h]; exact KVI.valueAt k h2
theorem KVI.sm {kvs : List (Int × PV)} {l : List (Int × Value)} {k : Int} {p : PV} (h : KVI B kvs l) (e : kget kvs k = Option.some p) : ∃ v, PySem.valueAt l k = Option.some v ∧ VR B p v := by
  have := KVI.valueAt k h; rw [e] at this; exact this
theorem KVI.nn {kvs : List (Int × PV)} {l : List (Int × Value)} {k : Int} (h : KVI B kvs l) (e : kget kvs k = Option.none) : PySem.valueAt l k = Option.none := by
  have := KVI.valueAt k h; rw [e] at this; exact this
theorem KVI.isSome {kvs : List (Int × PV)} {l : List (Int × Value)} (k : Int) (h : KVI B kvs l) : (PySem.valueAt l k).isSome = (kget kvs k).isSome := by
  cases e : kget kvs k with
  | none => rw [h.nn e]; rfl
  | some p => obtain ⟨v, e', _⟩ := h.sm e; rw [e']; rfl
theorem KVI.append : ∀ {kvs lvs : List (Int × PV)} {l m : List (Int × Value)}, KVI B kvs l → KVI B lvs m → KVI B (kvs ++ lvs) (l ++ m)
  | [], _, _, _, h, k => by rw [h]; exact k
  | (j, p) :: r, _, _, _, h, k => by obtain ⟨v, l', rfl, h1, h2⟩ := h; exact ⟨v, _, rfl, h1, KVI.append h2 k⟩
theorem KVI.map {k : Int} {p : PV} {v : Value} (hv : VR B p v) : ∀ {kvs : List (Int × PV)} {l : List (Int × Value)}, KVI B kvs l → KVI B (kvs.map fun x => if x.1 = k then (x.1, p) else x) (l.map fun x => if x.1 = k then (x.1, v) else x)
  | [], _, h => by rw [h]; rfl
  | (j, q) :: r, _, h => by
    obtain ⟨u, l', rfl, h1, h2⟩ := h
    rw [List.map_cons, List.map_cons]
    by_cases e : j = k
    · subst e; simp only [if_true]; exact ⟨v, _, rfl, hv, KVI.map hv h2⟩
    · simp only [if_neg e]; exact ⟨u, _, rfl, h1, KVI.map hv h2⟩
theorem KVI.put {kvs : List (Int × PV)} {l : List (Int × Value)} {k : Int} {p : PV} {v : Value} (h : KVI B kvs l) (hv : VR B p v) : KVI B (kput kvs k p) (PySem.stored l k v) := by
  unfold kput PySem.stored
  have e : (l.any fun kv => decide (kv.1 = k)) = (kget kvs k).isSome := by
    rw [← KVI.isSome k h]
    unfold PySem.valueAt
    rw [Option.isSome_map, Bool.eq_iff_iff, List.find?_isSome, List.any_eq_true]
  rw [e]
  split
  · exact KVI.map hv h
  · exact h.append ⟨v, [], rfl, hv, rfl⟩
theorem KVI.del {k : Int} : ∀ {kvs : List (Int × PV)} {l : List (Int × Value)}, KVI B kvs l → KVI B (kdel kvs k) (PySem.without l k)
  | [], _, h => by rw [h]; rfl
  | (j, q) :: r, _, h => by
    obtain ⟨u, l', rfl, h1, h2⟩ := h
    have ih := KVI.del (k := k) h2
    unfold kdel PySem.without at ih ⊢
    rw [List.filter_cons, List.filter_cons]
    by_cases e : j = k
    · simp only [e, ne_eq, not_true, decide_false, Bool.false_eq_true, if_false]; exact ih
    · simp only [ne_eq, e, not_false_eq_true, decide_true, if_true]; exact ⟨u, _, rfl, h1, ih⟩

noncomputable def k2 (k : Int × Int) : List Int := [k.1, k.2]
theorem k2_inj {a b : Int × Int} : k2 a = k2 b ↔ a = b := by
  unfold k2; constructor
  · intro h; simp at h; exact Prod.ext h.1 h.2
  · rintro rfl; rfl
theorem KVT.valueAt : ∀ {kvs : List ((Int × Int) × PV)} {l : List (List Int × Addr × Value)} (k : Int × Int), KVT B kvs l → match kget kvs k with
    | some p => ∃ x, atKey l (k2 k) = some x ∧ VR B p x.2
    | none => atKey l (k2 k) = none
  | [], _, k, h => by rw [h]; rfl
  | (j, p) :: r, _, k, h => by
    obtain ⟨a, v, l', rfl, h0, h1, h2⟩ := h
    have e : atKey ((([j.1, j.2] : List Int), a, v) :: l') (k2 k) = if j = k then some (a, v) else atKey l' (k2 k) := by
      unfold atKey
      rw [List.find?_cons]
      by_cases h : j = k
      · subst h; simp [k2]
      · have : ¬ ([j.1, j.2] : List Int) = k2 k := fun q => h (k2_inj.mp q)
        simp [this, h]
    rw [kget_cons]
    by_cases h : j = k
    · subst h; simp only [if_true]; exact ⟨(a, v), by rw [e]; simp, h1⟩
    · rw [if_neg h, e, if_neg h]; exact KVT.valueAt k h2
theorem KVT.sm {kvs : List ((Int × Int) × PV)} {l : List (List Int × Addr × Value)} {k : Int × Int} {p : PV} (h : KVT B kvs l) (e : kget kvs k = Option.some p) : ∃ x, atKey l (k2 k) = Option.some x ∧ VR B p x.2 := by
  have := KVT.valueAt k h; rw [e] at this; exact this
theorem KVT.nn {kvs : List ((Int × Int) × PV)} {l : List (List Int × Addr × Value)} {k : Int × Int} (h : KVT B kvs l) (e : kget kvs k = Option.none) : atKey l (k2 k) = Option.none := by
  have := KVT.valueAt k h; rw [e] at this; exact this
theorem KVT.append : ∀ {kvs lvs : List ((Int × Int) × PV)} {l m : List (List Int × Addr × Value)}, KVT B kvs l → KVT B lvs m → KVT B (kvs ++ lvs) (l ++ m)
  | [], _, _, _, h, k => by rw [h]; exact k
  | (j, p) :: r, _, _, _, h, k => by obtain ⟨a, v, l', rfl, h0, h1, h2⟩ := h; exact ⟨a, v, _, rfl, h0, h1, KVT.append h2 k⟩
theorem KVT.map {k : Int × Int} {p : PV} {v : Value} (hv : VR B p v) : ∀ {kvs : List ((Int × Int) × PV)} {l : List (List Int × Addr × Value)}, KVT B kvs l → KVT B (kvs.map fun x => if x.1 = k then (x.1, p) else x) (l.map (putAt (k2 k) v))
  | [], _, h => by rw [h]; rfl
  | (j, q) :: r, _, h => by
    obtain ⟨a, u, l', rfl, h0, h1, h2⟩ := h
    rw [List.map_cons, List.map_cons]
    unfold putAt
    by_cases e : j = k
    · subst e; simp only [if_true]; rw [if_pos (show ([j.1, j.2] : List Int) = k2 j from rfl)]; exact ⟨a, v, _, rfl, h0, hv, KVT.map hv h2⟩
    · simp only [if_neg e]; rw [if_neg (show ¬ ([j.1, j.2] : List Int) = k2 k from fun q => e (k2_inj.mp q))]; exact ⟨a, u, _, rfl, h0, h1, KVT.map hv h2⟩
theorem KVT.put {kvs : List ((Int × Int) × PV)} {l : List (List Int × Addr × Value)} {k : Int × Int} {p : PV} {v : Value} {a : Addr} (h : KVT B kvs l) (hk : VR B (.tup [.int k.1, .int k.2]) (.ref a)) (hv : VR B p v) : KVT B (kput kvs k p) (storedH l (k2 k) a v) := by
  unfold kput storedH
  cases e : kget kvs k with
  | none => rw [h.nn e]; simp only [Option.isSome_none, Bool.false_eq_true, if_false]; exact h.append ⟨a, v, [], rfl, hk, hv, rfl⟩
  | some q => obtain ⟨x, e', _⟩ := h.sm e; rw [e']; simp only [Option.isSome_some, if_true]; exact KVT.map hv h
end

section
variable {prog : Program} {w : World} {B : Store}
theorem MR.dictI_of {h : Heap} {a : Addr} {ep : Nat} {kvs : List (Int × PV)} {o : Obj} (ho : h.get? a = some o) (r : MR prog w B (.dictI ep kvs) o) : ∃ l, h.DictOf (intKind prog w) a l ∧ KVI B kvs l :=
  let ⟨es, kv', h1, h2, h3, h4, h5, h6⟩ := r; ⟨kv', ⟨o, es, ep, ho, h1, h2, h3, h4, h5⟩, h6⟩
theorem MR.dictI_mk {h : Heap} {a : Addr} {kvs : List (Int × PV)} {l : List (Int × Value)} (d : h.DictOf (intKind prog w) a l) (r : KVI B kvs l) : ∃ ep o, h.get? a = some o ∧ MR prog w B (.dictI ep kvs) o :=
  let ⟨o, es, ep, ho, h1, h2, h3, h4, h5⟩ := d; ⟨ep, o, ho, es, l, h1, h2, h3, h4, h5, r⟩
theorem pair_is {h : Heap} (hB : ∀ a o, B a = some o → h.get? a = some o) {a : Addr} {k : Int × Int} (r : VR B (.tup [.int k.1, .int k.2]) (.ref a)) : (tupleKind (intKind prog w)).is h (k2 k) a := by
  obtain ⟨b, vs, o, n, e, h1, h2, h3, h4⟩ := r.tup_inv
  cases e
  obtain ⟨v, vs', rfl, r1, r2⟩ := h4.cons_inv
  obtain ⟨u, us', rfl, r3, r4⟩ := r2.cons_inv
  rw [r4.nil_inv] at h3
  obtain ⟨t, rfl⟩ := r1.int_inv
  obtain ⟨t', rfl⟩ := r3.int_inv
  refine ⟨o, _, n, hB _ _ h1, h2, h3, ?_⟩
  exact .cons (intKind_is prog w _ _) (.cons (intKind_is prog w _ _) .nil)
theorem KVT.is {h : Heap} (hB : ∀ a o, B a = some o → h.get? a = some o) : ∀ {kvs : List ((Int × Int) × PV)} {l : List (List Int × Addr × Value)}, KVT B kvs l → ∀ x ∈ l, (tupleKind (intKind prog w)).is h x.1 x.2.1
  | [], _, r => by rw [r]; intro x hx; cases hx
  | (j, p) :: r, _, h => by
    obtain ⟨a, v, l', rfl, h0, h1, h2⟩ := h
    intro x hx
    rcases List.mem_cons.mp hx with rfl | hx
    · exact pair_is hB h0
    · exact KVT.is hB h2 x hx
theorem MR.dictT_of {h : Heap} (hB : ∀ a o, B a = some o → h.get? a = some o) {a : Addr} {ep : Nat} {kvs : List ((Int × Int) × PV)} {o : Obj} (ho : h.get? a = some o) (r : MR prog w B (.dictT ep kvs) o) : ∃ l, h.DictOfH (tupleKind (intKind prog w)) a l ∧ KVT B kvs l :=
  let ⟨xs, es, h1, h2, h3, h4, h5⟩ := r; ⟨xs, ⟨o, es, ep, ho, h1, h2, h3, h5.is hB, h4⟩, h5⟩
theorem MR.dictT_mk {h : Heap} {a : Addr} {kvs : List ((Int × Int) × PV)} {l : List (List Int × Addr × Value)} (d : h.DictOfH (tupleKind (intKind prog w)) a l) (r : KVT B kvs l) : ∃ ep o, h.get? a = some o ∧ MR prog w B (.dictT ep kvs) o :=
  let ⟨o, es, ep, ho, h1, h2, h3, _, h5⟩ := d; ⟨ep, o, ho, l, es, h1, h2, h3, h5, r⟩
end
end Mine

namespace Mine
section
variable {prog : Program} {w : World} {Kf : Frag} {sc : Scope} {C : Cx prog w Kf sc} {l : List (Option PV)} {Δ : Led} {Q : PV → Led → Prop}
  {Qn : List (Option PV) → Led → Prop} {Qr : PV → Led → Prop}

noncomputable def GI (C : Cx prog w Kf sc) (p q : PV) (l : List (Option PV)) (Δ : Led) (Q : PV → Led → Prop) : Prop :=
  ∀ B h tk u v, Abs C B l Δ h → VR B p u → VR B q v → ∃ T id, ({ C.s with heap := h, toks := tk } : Shared).TypeIs u T ∧ typeLookup (.type T) "__getitem__" = pure (some (.builtin id)) ∧
    wpAny (model prog w) C.A (getItem u v) (Post C B l Q) (fun _ _ => False) { C.s with heap := h, toks := tk }
theorem EV_sub {value slice : Expr} {pos : Pos} (h : EV C value l Δ (fun p Δ' => EV C slice l Δ' (fun q Δ'' => GI C p q l Δ'' Q))) (hs : ∀ o i, ∃ ops, subscripted slice false o i = operate ops (getItem o i) := by intro _ _; exact ⟨_, rfl⟩) :
    EV C (.Subscript value slice pos) l Δ Q := fun B hh tk a => by
  refine Subscript_ (wpAny_mono (h B hh tk a) (fun u s₁ ⟨h₁, tk₁, B₁, Δ₁, p, e, hB, a₁, r, k⟩ => ?_) fun _ _ x => x)
  subst e
  refine wpAny_mono (k B₁ h₁ tk₁ a₁) (fun v s₂ ⟨h₂, tk₂, B₂, Δ₂, q, e, hB', a₂, r', k'⟩ => ?_) fun _ _ x => x
  subst e
  obtain ⟨T, id, t1, t2, t3⟩ := k' B₂ h₂ tk₂ u v a₂ (r.mono hB') r'
  obtain ⟨ops, ho⟩ := hs u v
  exact tail_any t1 t2 (wpAny_mono t3 (fun _ _ z => z.trans (Store.le_trans hB hB')) fun _ _ x => x) ho

theorem GI_tup {ps : List PV} {k : Int} {x : PV} (q : Q x Δ) (h0 : 0 ≤ k) (hk : k < 2 ^ 62) (hx : ps[k.toNat]? = some x) : GI C (.tup ps) (.int k) l Δ Q := fun B h tk u v a r1 r2 => by
  obtain ⟨b, vs, o, n, rfl, h1, h2, h3, h4⟩ := r1.tup_inv
  obtain ⟨t, rfl⟩ := r2.int_inv
  have hI : IsTup h b vs.toArray := ⟨o, a.base.keepB _ _ h1, h2, n, h3⟩
  obtain ⟨y, e1, e2⟩ := h4.get hx
  have hlt : k.toNat < vs.length := (List.getElem?_eq_some_iff.mp e1).1
  have hj : seqIndex? k vs.toArray.size = some k.toNat := by
    obtain ⟨j, rfl⟩ := Int.eq_ofNat_of_zero_le h0
    unfold seqIndex?
    simp at hlt ⊢; omega
  exact ⟨_, _, ⟨o, a.base.keepB _ _ h1, h2⟩, slot_tuple_getitem.lookup, PyProof.Rows.getItem_tuple (s := { C.s with heap := h, toks := tk }) hI (by omega) (by omega) hj (by simpa using e1) (.now a e2 q)⟩
theorem GI_lst {ps : List PV} {k : Int} {x : PV} (q : Q x Δ) (h0 : 0 ≤ k) (hk : k < 2 ^ 62) (hx : ps[k.toNat]? = some x) : GI C (.list ps) (.int k) l Δ Q := fun B h tk u v a r1 r2 => by
  obtain ⟨b, vs, n, rfl, h1, h4⟩ := r1.list_inv
  obtain ⟨t, rfl⟩ := r2.int_inv
  have hI : h.IsList b vs.toArray := ⟨_, a.base.keepB _ _ h1, rfl, n, rfl⟩
  obtain ⟨y, e1, e2⟩ := h4.get hx
  exact ⟨_, _, ⟨_, a.base.keepB _ _ h1, rfl⟩, slot_list_getitem.lookup, wpAny_getItem_list (s := { C.s with heap := h, toks := tk }) hI h0 (by omega) (by simpa using e1) (.now a e2 q)⟩
theorem GI_olst {b : Addr} {ps : List PV} {k : Int} {x : PV} (hb : Δ b = some (.list ps)) (q : Q x Δ) (h0 : 0 ≤ k) (hk : k < 2 ^ 62) (hx : ps[k.toNat]? = some x) : GI C (.obj b) (.int k) l Δ Q := fun B h tk u v a r1 r2 => by
  rw [r1.obj_inv]
  obtain ⟨o, ho, vs, n, rfl, h4⟩ := a.base.owned b _ hb
  obtain ⟨t, rfl⟩ := r2.int_inv
  have hI : h.IsList b vs.toArray := ⟨_, ho, rfl, n, rfl⟩
  obtain ⟨y, e1, e2⟩ := h4.get hx
  exact ⟨_, _, ⟨_, ho, rfl⟩, slot_list_getitem.lookup, wpAny_getItem_list (s := { C.s with heap := h, toks := tk }) hI h0 (by omega) (by simpa using e1) (.now a e2 q)⟩
theorem GI_olast {b : Addr} {ps : List PV} {x : PV} (hb : Δ b = some (.list ps)) (q : Q x Δ) (hx : ps.getLast? = some x) (hz : ps.length < 2 ^ 62) : GI C (.obj b) (.int (-1)) l Δ Q := fun B h tk u v a r1 r2 => by
  rw [r1.obj_inv]
  obtain ⟨o, ho, vs, n, rfl, h4⟩ := a.base.owned b _ hb
  obtain ⟨t, rfl⟩ := r2.int_inv
  have hI : h.IsList b vs.toArray := ⟨_, ho, rfl, n, rfl⟩
  rw [List.getLast?_eq_getElem?] at hx
  obtain ⟨y, e1, e2⟩ := h4.get hx
  have hlen := h4.length
  have hlt := (List.getElem?_eq_some_iff.mp hx).1
  exact ⟨_, _, ⟨_, ho, rfl⟩, slot_list_getitem.lookup, wpAny_getItem_list_neg (s := { C.s with heap := h, toks := tk }) hI (by omega) (by simp; omega) (by omega) (by
    have : ((-1 : Int) + vs.toArray.size).toNat = ps.length - 1 := by simp; omega
    rw [this]; simpa using e1) (.now a e2 q)⟩
theorem int_is {k : Int} {t : Tok} : (intKind prog w).is k (.int k t) = true := intKind_is prog w k t
theorem GI_dI {b : Addr} {ep : Nat} {kvs : List (Int × PV)} {k : Int} {x : PV} (hb : Δ b = some (.dictI ep kvs)) (hx : kget kvs k = some x) (q : Q x Δ) : GI C (.obj b) (.int k) l Δ Q := fun B h tk u v a r1 r2 => by
  rw [r1.obj_inv]
  obtain ⟨o, ho, r⟩ := a.base.owned b _ hb
  obtain ⟨l', d, kv⟩ := MR.dictI_of ho r
  obtain ⟨t, rfl⟩ := r2.int_inv
  obtain ⟨y, e1, e2⟩ := kv.sm hx
  exact ⟨_, _, d.mapOf.typeIs (s := { C.s with heap := h, toks := tk }), slot_dict_getitem.lookup, wpAny_getItem_of (s := { C.s with heap := h, toks := tk }) int_is d.mapOf e1 (.now a e2 q)⟩
theorem Cx.room1 (C : Cx prog w Kf sc) : (tupleKind (intKind prog w)).room C.A.in1 := by
  show C.A.units + 1 < cLine
  have := C.units; omega
theorem GI_dT {b : Addr} {ep : Nat} {kvs : List ((Int × Int) × PV)} {k : Int × Int} {x : PV} (hb : Δ b = some (.dictT ep kvs)) (hx : kget kvs k = some x) (q : Q x Δ) : GI C (.obj b) (.tup [.int k.1, .int k.2]) l Δ Q := fun B h tk u v a r1 r2 => by
  rw [r1.obj_inv]
  obtain ⟨o, ho, r⟩ := a.base.owned b _ hb
  obtain ⟨l', d, kv⟩ := MR.dictT_of a.base.keepB ho r
  obtain ⟨c, _, _, _, rfl, _⟩ := r2.tup_inv
  obtain ⟨y, e1, e2⟩ := kv.sm hx
  exact ⟨_, _, d.typeIs (s := { C.s with heap := h, toks := tk }), slot_dict_getitem.lookup, wpAny_getItem_heap (s := { C.s with heap := h, toks := tk }) C.room1 (pair_is a.base.keepB r2) d e1 (.now a e2 q)⟩

inductive PostD (C : Cx prog w Kf sc) (B : Store) (l : List (Option PV)) (Q : Led → Prop) (s' : Shared) : Prop
  | mk (h' : Heap) (tk : Nat) (B' : Store) (Δ' : Led) (e : s' = { C.s with heap := h', toks := tk }) (hB : B.le B') (a : Abs C B' l Δ' h') (q : Q Δ')
noncomputable def SI (C : Cx prog w Kf sc) (p q x : PV) (l : List (Option PV)) (Δ : Led) (Q : Led → Prop) : Prop :=
  ∀ B h tk u v y, Abs C B l Δ h → VR B p u → VR B q v → VR B x y → wpAny (model prog w) C.A (setItem u v y) (fun _ s' => PostD C B l Q s') (fun _ _ => False) { C.s with heap := h, toks := tk }
theorem AS_sub {o i : Expr} {pos : Pos} {x : PV} (h : EV C o l Δ (fun p Δ' => EV C i l Δ' (fun q Δ'' => SI C p q x l Δ'' (Qn l)))) : AS C (.Subscript o i pos) x l Δ Qn := fun B hh tk y a r0 => by
  refine kas_sub (wpAny_mono (h B hh tk a) (fun u s₁ ⟨h₁, tk₁, B₁, Δ₁, p, e, hB, a₁, r, k⟩ => ?_) fun _ _ x => x)
  subst e
  refine wpAny_mono (k B₁ h₁ tk₁ a₁) (fun v s₂ ⟨h₂, tk₂, B₂, Δ₂, q, e, hB', a₂, r', k'⟩ => ?_) fun _ _ x => x
  subst e
  refine wpAny_mono (k' B₂ h₂ tk₂ u v y a₂ (r.mono hB') r' (r0.mono (Store.le_trans hB hB'))) (fun _ s' ⟨h₃, tk₃, B₃, Δ₃, e, hB'', a₃, z⟩ => ?_) fun _ _ x => x
  exact ⟨h₃, tk₃, B₃, Δ₃, l, e, Store.le_trans hB (Store.le_trans hB' hB''), a₃, z⟩
theorem SI_lst {b : Addr} {ps : List PV} {k : Int} {x : PV} {Q : Led → Prop} (hb : Δ b = some (.list ps)) (q : Q (Δ.upd b (.list (ps.set k.toNat x)))) (h0 : 0 ≤ k) (hk : k < ps.length) (hz : ps.length < 2 ^ 62) : SI C (.obj b) (.int k) x l Δ Q := fun B h tk u v y a r1 r2 r3 => by
  rw [r1.obj_inv]
  obtain ⟨o, ho, vs, n, rfl, h4⟩ := a.base.owned b _ hb
  obtain ⟨t, rfl⟩ := r2.int_inv
  have hl := h4.length
  refine ki_setAt (s := { C.s with heap := h, toks := tk }) (n := n) ho h0 (by omega) (by simp; omega) ?_
  have e : listObj (vs.set k.toNat y) (if (vs.toArray.setIfInBounds k.toNat y).size == vs.toArray.size then n else n + 1) = ({ cls := .type "list", data := .seq (vs.toArray.setIfInBounds k.toNat y) (if (vs.toArray.setIfInBounds k.toNat y).size == vs.toArray.size then n else n + 1) } : Obj) := by simp [listObj]
  exact ⟨_, tk, B, _, rfl, Store.le_refl _, a.turn hb (Heap.SameBut.update h b _) (PySem.IsL.update (n := n) ho _) (m := .list (ps.set k.toNat x)) ⟨vs.set k.toNat y, _, e.symm, h4.set r3⟩, q⟩
theorem SI_dI {b : Addr} {ep : Nat} {kvs : List (Int × PV)} {k : Int} {x : PV} {Q : Led → Prop} (hb : Δ b = some (.dictI ep kvs)) (q : ∀ ep', Q (Δ.upd b (.dictI ep' (kput kvs k x)))) (hz : kvs.length ≤ 1000) : SI C (.obj b) (.int k) x l Δ Q := fun B h tk u v y a r1 r2 r3 => by
  rw [r1.obj_inv]
  obtain ⟨o, ho, r⟩ := a.base.owned b _ hb
  obtain ⟨l', d, kv⟩ := MR.dictI_of ho r
  obtain ⟨t, rfl⟩ := r2.int_inv
  refine wpAny_setItem_pairs (s := { C.s with heap := h, toks := tk }) int_is d (fun h' d' hs => ?_) (by rw [kv.length, sizeLine_eq]; omega)
  obtain ⟨ep', o', ho', r'⟩ := MR.dictI_mk d' (kv.put r3)
  exact ⟨_, _, B, _, rfl, Store.le_refl _, a.turn hb hs ho' r', q ep'⟩
theorem SI_dT {b : Addr} {ep : Nat} {kvs : List ((Int × Int) × PV)} {k : Int × Int} {x : PV} {Q : Led → Prop} (hb : Δ b = some (.dictT ep kvs)) (q : ∀ ep', Q (Δ.upd b (.dictT ep' (kput kvs k x)))) (hz : kvs.length ≤ 1000) : SI C (.obj b) (.tup [.int k.1, .int k.2]) x l Δ Q := fun B h tk u v y a r1 r2 r3 => by
  rw [r1.obj_inv]
  obtain ⟨o, ho, r⟩ := a.base.owned b _ hb
  obtain ⟨l', d, kv⟩ := MR.dictT_of a.base.keepB ho r
  obtain ⟨c, _, _, _, rfl, _⟩ := r2.tup_inv
  refine wpAny_setItem_heap (s := { C.s with heap := h, toks := tk }) C.room1 (pair_is a.base.keepB r2) d (fun h' d' hs => ?_) (by rw [kv.length, sizeLine_eq]; omega)
  obtain ⟨ep', o', ho', r'⟩ := MR.dictT_mk d' (kv.put r2 r3)
  exact ⟨_, _, B, _, rfl, Store.le_refl _, a.turn hb hs ho' r', q ep'⟩

theorem CO_ninI {b : Addr} {ep : Nat} {kvs : List (Int × PV)} {k : Int} {Q : Bool → Led → Prop} (hb : Δ b = some (.dictI ep kvs)) (q : Q (!(kget kvs k).isSome) Δ) : CO C .NotIn (.int k) (.obj b) l Δ Q := fun B h tk u v a r2 r1 => by
  rw [r1.obj_inv]
  obtain ⟨o, ho, r⟩ := a.base.owned b _ hb
  obtain ⟨l', d, kv⟩ := MR.dictI_of ho r
  obtain ⟨t, rfl⟩ := r2.int_inv
  exact wpAny_notIn_of (s := { C.s with heap := h, toks := tk }) int_is (a.base.big b _ hb) d.mapOf (.now a .bool ⟨_, rfl, by rw [kv.isSome]; exact q⟩)
theorem CO_is_none {p : PV} {Q : Bool → Led → Prop} (q : Q (match p with | .none => true | _ => false) Δ) : CO C .Is p .none l Δ Q := fun B h tk u v a r1 r2 => by
  rw [r2.none_inv]
  have ref : ∀ b, (.ref b : Value) ≠ .none := fun b e => nomatch e
  cases p with
  | none => rw [r1.none_inv]; exact wpAny_is_self rfl (.now a .bool ⟨_, rfl, q⟩)
  | bool b => rw [r1.bool_inv]; exact wpAny_is_other rfl (fun e => nomatch e) (.now a .bool ⟨_, rfl, q⟩)
  | int i => obtain ⟨t, rfl⟩ := r1.int_inv; exact wpAny_is_other rfl (fun e => nomatch e) (.now a .bool ⟨_, rfl, q⟩)
  | str x => obtain ⟨t, rfl⟩ := r1.str_inv; exact wpAny_is_other rfl (fun e => nomatch e) (.now a .bool ⟨_, rfl, q⟩)
  | tup ps => obtain ⟨b, _, _, _, rfl, _⟩ := r1.tup_inv; exact wpAny_is_other rfl (ref b) (.now a .bool ⟨_, rfl, q⟩)
  | list ps => obtain ⟨b, _, _, rfl, _⟩ := r1.list_inv; exact wpAny_is_other rfl (ref b) (.now a .bool ⟨_, rfl, q⟩)
  | rng n => obtain ⟨b, _, _, _, rfl, _⟩ := r1.rng_inv; exact wpAny_is_other rfl (ref b) (.now a .bool ⟨_, rfl, q⟩)
  | obj b => rw [r1.obj_inv]; exact wpAny_is_other rfl (ref b) (.now a .bool ⟨_, rfl, q⟩)

theorem BO_add {a b : Int} (q : Q (.int (a + b)) Δ) : BO C .Add (.int a) (.int b) l Δ Q := fun B h tk u v x r1 r2 => by
  obtain ⟨t, rfl⟩ := r1.int_inv; obtain ⟨t', rfl⟩ := r2.int_inv
  exact PyProof.Rows.add_int (.now x .int q)
theorem BO_sub {a b : Int} (q : Q (.int (a - b)) Δ) : BO C .Sub (.int a) (.int b) l Δ Q := fun B h tk u v x r1 r2 => by
  obtain ⟨t, rfl⟩ := r1.int_inv; obtain ⟨t', rfl⟩ := r2.int_inv
  exact PyProof.Rows.sub_int' (.now x .int q)
theorem BO_mul {a b : Int} (q : Q (.int (a * b)) Δ) (h : -2 ^ 63 < b ∧ b < 2 ^ 63) : BO C .Mult (.int a) (.int b) l Δ Q := fun B hh tk u v x r1 r2 => by
  obtain ⟨t, rfl⟩ := r1.int_inv; obtain ⟨t', rfl⟩ := r2.int_inv
  exact PyProof.Rows.mul_int (.now x .int q) (IntMulOk.of_right (intBits_le_64 (by omega) (by omega)))
theorem BO_mod {a b : Int} (q : Q (.int (a % b)) Δ) (hb : 0 < b) : BO C .Mod (.int a) (.int b) l Δ Q := fun B h tk u v x r1 r2 => by
  obtain ⟨t, rfl⟩ := r1.int_inv; obtain ⟨t', rfl⟩ := r2.int_inv
  exact PyProof.Rows.mod_int' (by omega) (.now x .int (by rw [Int.fmod_eq_emod_of_nonneg a (by omega)]; exact q))
theorem BO_fdiv {a b : Int} (q : Q (.int (a / b)) Δ) (hb : 0 < b) (hs : b < 1073741824) : BO C .FloorDiv (.int a) (.int b) l Δ Q := fun B h tk u v x r1 r2 => by
  obtain ⟨t, rfl⟩ := r1.int_inv; obtain ⟨t', rfl⟩ := r2.int_inv
  exact PyProof.Rows.floordiv_int (by omega) (.now x .int (by rw [Int.fdiv_eq_ediv_of_nonneg a (by omega)]; exact q)) (.inl (PyProof.noPylong_small (by omega)))
theorem CO_lt_int {a b : Int} {Q : Bool → Led → Prop} (k : Q (decide (a < b)) Δ) : CO C .Lt (.int a) (.int b) l Δ Q := fun B h tk u v x r1 r2 => by
  obtain ⟨t, rfl⟩ := r1.int_inv; obtain ⟨t', rfl⟩ := r2.int_inv
  exact PyProof.Rows.lt_int (.now x .bool ⟨_, rfl, k⟩)
theorem CO_gt_int {a b : Int} {Q : Bool → Led → Prop} (k : Q (decide (b < a)) Δ) : CO C .Gt (.int a) (.int b) l Δ Q := fun B h tk u v x r1 r2 => by
  obtain ⟨t, rfl⟩ := r1.int_inv; obtain ⟨t', rfl⟩ := r2.int_inv
  exact PyProof.Rows.gt_int (.now x .bool ⟨_, rfl, k⟩)
theorem CO_ge_int {a b : Int} {Q : Bool → Led → Prop} (k : Q (decide (b ≤ a)) Δ) : CO C .GtE (.int a) (.int b) l Δ Q := fun B h tk u v x r1 r2 => by
  obtain ⟨t, rfl⟩ := r1.int_inv; obtain ⟨t', rfl⟩ := r2.int_inv
  exact PyProof.Rows.ge_int (.now x .bool ⟨_, rfl, k⟩)
end
end Mine

namespace Mine
noncomputable def E0 : Heap := {}
theorem E0_none (a : Addr) : E0.get? a = none := by simp [E0, Heap.get?]
noncomputable def restOf (h : Heap) (S : List Addr) : List (Addr × Obj) := (List.range h.objs.size).filterMap fun b => if b ∈ S then none else (h.get? b).map fun o => (b, o)
theorem mem_restOf {h : Heap} {S : List Addr} {b : Addr} {o : Obj} : (b, o) ∈ restOf h S ↔ b ∉ S ∧ h.get? b = some o := by
  unfold restOf
  rw [List.mem_filterMap]
  constructor
  · rintro ⟨c, _, e⟩
    split at e
    · cases e
    · rename_i n
      obtain ⟨o', e1, e2⟩ := Option.map_eq_some_iff.mp e
      cases e2; exact ⟨n, e1⟩
  · rintro ⟨n, e⟩
    exact ⟨b, List.mem_range.mpr (Heap.lt_size e), by rw [if_neg n, e]; rfl⟩

section
variable {prog : Program} {w : World} {Kf : Frag} {sc : Scope} {C : Cx prog w Kf sc} {l : List (Option PV)} {Δ : Led} {Q : PV → Led → Prop}
  {Qn : List (Option PV) → Led → Prop} {Qr : PV → Led → Prop}

theorem Abs.bridge {B : Store} {h : Heap} (x : Abs C B l Δ h) : ∃ m, Fr E0 C.env.locals h m ∧
    (∀ h', h'.Ns C.env.locals m → (∀ b o, b ≠ C.env.locals → h.get? b = some o → h'.get? b = some o) → Abs C B l Δ h') ∧
    (∀ a m₀ m₁ o h', Δ a = some m₀ → h'.Ns C.env.locals m → (∀ b o, b ≠ C.env.locals → b ≠ a → h.get? b = some o → h'.get? b = some o) → h'.get? a = some o → MR prog w B m₁ o → Abs C B l (Δ.upd a m₁) h') := by
  obtain ⟨m, cm, h1, h2, h3⟩ := x.frame
  have own := fun b (hb : b ∈ C.own) => x.base.offO b hb
  have nK : ∀ b o, C.K b = some o → b ≠ C.env.locals := fun b o e q => by rw [q, (own _ C.locOwn).1] at e; cases e
  have nB : ∀ b o, B b = some o → b ≠ C.env.locals := fun b o e q => by rw [q, (own _ C.locOwn).2.1] at e; cases e
  have nD : ∀ b o, Δ b = some o → b ≠ C.env.locals := fun b o e q => (x.base.offΔ _ _ e).2.2 (q ▸ C.locOwn)
  have locNs : ∀ h' : Heap, h'.Ns C.env.locals m → ∃ o, h'.get? C.env.locals = some o ∧ notSeq o := fun h' ⟨oL, _, _, hL, hd, _⟩ => ⟨oL, hL, notSeq_dict hd⟩
  refine ⟨m, ⟨h1, (fun b o e => by rw [E0_none] at e; cases e), Nat.zero_le _⟩, fun h' hn k => ?_, fun a m₀ m₁ o h' ha hn k ho hm => ?_⟩
  · refine ⟨⟨fun b o e => k b o (nK b o e) (x.base.keepK b o e), fun b o e => k b o (nB b o e) (x.base.keepB b o e), fun b m e => ?_, x.base.offΔ, x.base.big, fun b hb => ?_, x.base.apart, x.base.s0⟩, m, cm, hn, fun y c e => ?_, h3⟩
    · obtain ⟨o, ho, r⟩ := x.base.owned b m e; exact ⟨o, k b o (nD b m e) ho, r⟩
    · obtain ⟨e1, e2, o, e3, e4⟩ := own b hb
      by_cases q : b = C.env.locals
      · subst q; exact ⟨e1, e2, locNs h' hn⟩
      · exact ⟨e1, e2, o, k b o q e3, e4⟩
    · obtain ⟨o, ho, hd⟩ := h2 y c e; exact ⟨o, k c o (C.locCell y c e) ho, hd⟩
  · obtain ⟨a1, a2, a3⟩ := x.base.offΔ a m₀ ha
    have kA : ∀ b o, C.K b = some o → b ≠ a := fun b o e q => by rw [q, a1] at e; cases e
    have bA : ∀ b o, B b = some o → b ≠ a := fun b o e q => by rw [q, a2] at e; cases e
    refine ⟨⟨fun b o e => k b o (nK b o e) (kA b o e) (x.base.keepK b o e), fun b o e => k b o (nB b o e) (bA b o e) (x.base.keepB b o e), fun b m e => ?_, fun b m' e => ?_, fun b m' e => ?_, fun b hb => ?_, x.base.apart, x.base.s0⟩, m, cm, hn, fun y c e => ?_, h3⟩
    · by_cases q : b = a
      · subst q; rw [Led.upd_self] at e; cases e; exact ⟨o, ho, hm⟩
      · rw [Led.upd_ne q] at e; obtain ⟨o', ho', r⟩ := x.base.owned b m e; exact ⟨o', k b o' (nD b m e) q ho', r⟩
    · by_cases q : b = a
      · subst q; exact ⟨a1, a2, a3⟩
      · rw [Led.upd_ne q] at e; exact x.base.offΔ b m' e
    · by_cases q : b = a
      · subst q; exact x.base.big _ _ ha
      · rw [Led.upd_ne q] at e; exact x.base.big b m' e
    · obtain ⟨e1, e2, o', e3, e4⟩ := own b hb
      by_cases q : b = C.env.locals
      · subst q; exact ⟨e1, e2, locNs h' hn⟩
      · exact ⟨e1, e2, o', k b o' q (fun q' => a3 (q' ▸ hb)) e3, e4⟩
    · obtain ⟨o', ho', hd⟩ := h2 y c e
      refine ⟨o', k c o' (C.locCell y c e) ?_ ho', hd⟩
      rcases C.cellKept y c e with q | q
      · exact fun q' => a3 (q' ▸ q)
      · obtain ⟨o'', q⟩ := Option.isSome_iff_exists.mp q; exact kA c o'' q
theorem news_rest {h : Heap} {L : Addr} {S : List Addr} (hL : L ∈ S) : News E0 L h (restOf h S) := fun ⟨b, o⟩ hp => by
  obtain ⟨n, e⟩ := mem_restOf.mp hp
  exact ⟨e, fun q => n (by rw [show b = L from q]; exact hL), E0_none _⟩
theorem news_one {h : Heap} {L a : Addr} {o : Obj} (ho : h.get? a = some o) (ha : a ≠ L) : News E0 L h ((a, o) :: restOf h [L, a]) := fun p hp => by
  rcases List.mem_cons.mp hp with rfl | hp
  · exact ⟨ho, ha, E0_none _⟩
  · exact news_rest (S := [L, a]) (by simp) p hp

theorem ATT.find {B : Store} {x : Str} : ∀ {at_ : List (Str × PV)} {es : List DictEntry}, ATT B at_ es → match at_.lookup x with
    | some p => ∃ e, es.find? (·.key.isStr x) = some e ∧ VR B p e.val
    | none => es.find? (·.key.isStr x) = none
  | [], _, h => by rw [h]; rfl
  | (y, p) :: r, _, h => by
    obtain ⟨hs, t, v, l', rfl, h1, h2⟩ := h
    rw [List.lookup_cons, List.find?_cons]
    have e : (Value.str y t).isStr x = (x == y) := by
      show (y == x) = (x == y)
      exact Bool.eq_iff_iff.mpr ⟨fun q => by rw [beq_iff_eq] at q ⊢; exact q.symm, fun q => by rw [beq_iff_eq] at q ⊢; exact q.symm⟩
    simp only [e]
    cases x == y with
    | true => exact ⟨_, rfl, h1⟩
    | false => exact ATT.find h2
theorem ATT.noRef {B : Store} : ∀ {at_ : List (Str × PV)} {es : List DictEntry}, ATT B at_ es → es.any (·.refKey) = false
  | [], _, h => by rw [h]; rfl
  | (y, p) :: r, _, h => by obtain ⟨hs, t, v, l', rfl, h1, h2⟩ := h; rw [List.any_cons, ATT.noRef h2]; rfl
theorem ATT.length {B : Store} : ∀ {at_ : List (Str × PV)} {es : List DictEntry}, ATT B at_ es → es.length = at_.length
  | [], _, h => by rw [h]; rfl
  | (y, p) :: r, _, h => by obtain ⟨hs, t, v, l', rfl, h1, h2⟩ := h; simp [ATT.length h2]
theorem ATT.getL {B : Store} {x : Str} {at_ : List (Str × PV)} {es : List DictEntry} (h : ATT B at_ es) : match at_.lookup x with
    | some p => ∃ v, PySem.W.getL x es = some (some v) ∧ VR B p v
    | none => PySem.W.getL x es = some none := by
  have f := h.find (x := x)
  unfold PySem.W.getL
  cases q : at_.lookup x with
  | some p => rw [q] at f; obtain ⟨e, e1, e2⟩ := f; exact ⟨e.val, by rw [e1], e2⟩
  | none => rw [q] at f; dsimp only; rw [f]; dsimp only; rw [h.noRef]; simp
theorem ATT.put {B : Store} {x : Str} {p : PV} {v : Value} {hs : Int} {t : Tok} (hv : VR B p v) : ∀ {at_ : List (Str × PV)} {es : List DictEntry}, ATT B at_ es → at_.lookup x = none → ATT B (at_ ++ [(x, p)]) (putL x hs (.str x t) v es)
  | [], _, h, _ => by rw [h]; exact ⟨hs, t, v, [], rfl, hv, rfl⟩
  | (y, q) :: r, _, h, hn => by
    obtain ⟨hs', t', v', l', rfl, h1, h2⟩ := h
    rw [List.lookup_cons] at hn
    have e : (Value.str y t').isStr x = (x == y) := by
      show (y == x) = (x == y)
      exact Bool.eq_iff_iff.mpr ⟨fun q => by rw [beq_iff_eq] at q ⊢; exact q.symm, fun q => by rw [beq_iff_eq] at q ⊢; exact q.symm⟩
    unfold putL
    simp only [e]
    cases hb : x == y with
    | true => rw [hb] at hn; cases hn
    | false =>
      rw [hb] at hn
      simp only [Bool.false_eq_true, if_false]
      exact ⟨hs', t', v', _, rfl, h1, ATT.put hv h2 hn⟩

noncomputable def InstL (Δ : Led) (a c d : Addr) (at_ : List (Str × PV)) : Prop := Δ a = some (.inst c d) ∧ Δ d = some (.attrs at_)
theorem Abs.instAt {B : Store} {h : Heap} {b c d : Addr} {at_ : List (Str × PV)} (a : Abs C B l Δ h) (hi : InstL Δ b c d at_) : ∃ es n, PySem.W.InstAt h b (instObj c d) c (some (dictOf es n)) ∧ h.get? d = some (dictOf es n) ∧ ATT B at_ es := by
  obtain ⟨o, ho, rfl⟩ := a.base.owned b _ hi.1
  obtain ⟨od, hd, es, ep, rfl, r⟩ := a.base.owned d _ hi.2
  exact ⟨es, ep, ⟨ho, rfl, rfl, hd⟩, hd, r⟩
theorem VR.handed {B : Store} {p : PV} {v : Value} (r : VR B p v) : handedIn v = true := by
  cases p with
  | none => rw [r.none_inv]; rfl
  | bool b => rw [r.bool_inv]; rfl
  | int i => obtain ⟨t, rfl⟩ := r.int_inv; rfl
  | str x => obtain ⟨t, rfl⟩ := r.str_inv; rfl
  | tup ps => obtain ⟨b, _, _, _, rfl, _⟩ := r.tup_inv; rfl
  | list ps => obtain ⟨b, _, _, rfl, _⟩ := r.list_inv; rfl
  | rng n => obtain ⟨b, _, _, _, rfl, _⟩ := r.rng_inv; rfl
  | obj b => rw [r.obj_inv]; rfl

inductive AttrH (Kf : Frag) (x : Str) (Q : PV → Led → Prop) (p : PV) (Δ' : Led) : Prop
  | mk (b c d : Addr) (at_ : List (Str × PV)) (q : PV) (e : p = .obj b) (hi : InstL Δ' b c d at_) (hl : at_.lookup x = some q) (g1 : plainGet Kf c x = true) (g2 : hasDictIn Kf c = true) (g3 : findIn Kf (.ref c) x = some none) (z : Q q Δ')
inductive NewH (Kf : Frag) (x : Str) (y : PV) (l : List (Option PV)) (Qn : List (Option PV) → Led → Prop) (p : PV) (Δ' : Led) : Prop
  | mk (b c d : Addr) (at_ : List (Str × PV)) (e : p = .obj b) (hi : InstL Δ' b c d at_) (hl : at_.lookup x = none) (g1 : findIn Kf (.ref c) "__setattr__" = some (some (.builtin "object.__setattr__"))) (g2 : plainOver Kf c = true)
    (g3 : takerIn Kf c x = some none) (g4 : hasDictIn Kf c = true) (hz : at_.length ≤ 900) (z : Qn l (Δ'.upd d (.attrs (at_ ++ [(x, y)]))))
theorem EV_attr {value : Expr} {x : Str} {pos : Pos} (h : EV C value l Δ (AttrH Kf x Q))
    (he : eval (.Attribute value x pos) C.env = (do
      let o ← eval value C.env
      standAt pos.atName
      let r ← holding [o] (getAttr o x true)
      letTemporaryGo value o r
      pure r) := by rfl) : EV C (.Attribute value x pos) l Δ Q := fun B hh tk a => by
  refine Attribute_any_ (wpAny_mono (h B hh tk a) (fun u s₁ ⟨h₁, tk₁, B₁, Δ₁, p, e, hB, a₁, r, b, c, d, at_, q, e', hi, hl, g1, g2, g3, z⟩ => ?_) fun _ _ x => x) he
  subst e; subst e'
  rw [r.obj_inv]
  obtain ⟨es, n, I, _, at1⟩ := a₁.instAt hi
  have gl := at1.getL (x := x)
  rw [hl] at gl
  obtain ⟨v, e1, e2⟩ := gl
  exact get_value (s := { C.s with heap := h₁, toks := tk₁ }) a₁.kin I (plainGet_of g1).1 (findObj_own g2 g3 rfl e1) e2.handed ((Post.now a₁ e2 z).trans hB)

theorem AS_attr {value : Expr} {x : Str} {pos : Pos} {y : PV} (h : EV C value l Δ (NewH Kf x y l Qn)) : AS C (.Attribute value x pos) y l Δ Qn := fun B hh tk v a r0 => by
  refine kas_attr (wpAny_mono (h B hh tk a) (fun u s₁ ⟨h₁, tk₁, B₁, Δ₁, p, e, hB, a₁, r, b, c, d, at_, e', hi, hl, g1, g2, g3, g4, hz, z⟩ => ?_) fun _ _ x => x)
  subst e; subst e'
  rw [r.obj_inv]
  obtain ⟨es, n, I, hd, at1⟩ := a₁.instAt hi
  have r0 := r0.mono hB
  have gl := at1.getL (x := x)
  rw [hl] at gl
  obtain ⟨m, F, _, turn⟩ := a₁.bridge
  have hdL : d ≠ C.env.locals := fun q => (a₁.base.offΔ d _ hi.2).2.2 (q ▸ C.locOwn)
  have at2 := ATT.put (hs := PyData.keyHash w.params x) (t := tk₁ + 1) r0 at1 hl
  refine set_plain (s := { C.s with heap := h₁, toks := tk₁ }) a₁.kin I g1 (osa_dict (s := { C.s with heap := h₁, toks := tk₁ + 1 }) (pre := []) (n := putN x es n) F (news_one hd hdL) a₁.kin I rfl g2 g3 g4 (by show (PySem.W.getL x es).isSome = true; rw [gl]; rfl) (fun p hp => nomatch hp) (fun p hp => ?_) (by rw [putName_dict]) rfl (by rw [at2.length]; simp; omega) fun h' F' N' => ?_)
  · obtain ⟨b', o'⟩ := p
    obtain ⟨n', _⟩ := mem_restOf.mp hp
    exact fun q => n' (by simp [show b' = d from q])
  · refine ⟨h', _, B₁, _, l, rfl, hB, turn d _ (.attrs (at_ ++ [(x, y)])) _ h' hi.2 F'.ns (fun b' o' q1 q2 e => (N' (b', o') (.tail _ (mem_restOf.mpr ⟨by simp [q1, q2], e⟩))).1) (N' _ (.head _)).1 ⟨_, _, rfl, at2⟩, z⟩
end
end Mine

namespace Mine
section
variable {prog : Program} {w : World} {Kf : Frag} {sc : Scope} {C : Cx prog w Kf sc} {l : List (Option PV)} {Δ : Led} {Q : PV → Led → Prop}
  {Qn : List (Option PV) → Led → Prop} {Qr : PV → Led → Prop}

theorem Abs0.adopt {D : Bx prog w Kf} {own : List Addr} {B : Store} {h h' : Heap} {d : Addr} {o : Obj} (x : Abs0 D own B Δ h) (y : Abs0 D own B Δ h') (out : ∀ b o', h.get? b = some o' → b ≠ d) (ho : h'.get? d = some o) :
    Abs0 D own (B.put d o) Δ h' ∧ B.le (B.put d o) := by
  have hBd : B d = none := by
    cases e : B d with
    | none => rfl
    | some o' => exact absurd rfl (out d o' (x.keepB d o' e))
  have hB := Store.put_le (B := B) (a := d) (o := o) hBd
  refine ⟨⟨y.keepK, fun a o' e => ?_, fun a m e => ?_, fun a m e => ?_, x.big, fun a ha => ?_, fun a o' e => ?_, Store.le_trans x.s0 hB⟩, hB⟩
  · by_cases q : a = d
    · subst q; rw [Store.put_self] at e; cases e; exact ho
    · rw [Store.put_ne q] at e; exact y.keepB a o' e
  · obtain ⟨o', ho', r⟩ := y.owned a m e; exact ⟨o', ho', r.mono hB⟩
  · obtain ⟨h1, h2, h3⟩ := x.offΔ a m e
    obtain ⟨o', ho', _⟩ := x.owned a m e
    exact ⟨h1, by rw [Store.put_ne (out a o' ho')]; exact h2, h3⟩
  · obtain ⟨h1, h2, o', h3, h4⟩ := x.offO a ha
    exact ⟨h1, by rw [Store.put_ne (out a o' h3)]; exact h2, (y.offO a ha).2.2⟩
  · by_cases q : a = d
    · subst q
      refine .inl ?_
      cases e' : D.K a with
      | none => rfl
      | some o2 => exact absurd rfl (out a o2 (x.keepK a o2 e'))
    · rw [Store.put_ne q] at e; exact x.apart a o' e
theorem Abs0.adoptO {D : Bx prog w Kf} {own : List Addr} {B : Store} {h h' : Heap} {d : Addr} {o : Obj} {m : MO} (x : Abs0 D own B Δ h) (y : Abs0 D own B Δ h') (out : ∀ b o', h.get? b = some o' → b ≠ d) (big : (d == sysModules) = false) (ho : h'.get? d = some o) (hm : MR prog w B m o) :
    Abs0 D own B (Δ.upd d m) h' ∧ Δ d = none := by
  have hΔ : Δ d = none := by
    cases e : Δ d with
    | none => rfl
    | some m' => obtain ⟨o', ho', _⟩ := x.owned _ _ e; exact absurd rfl (out d o' ho')
  refine ⟨⟨y.keepK, y.keepB, fun a m' e => ?_, fun a m' e => ?_, fun a m' e => ?_, y.offO, x.apart, x.s0⟩, hΔ⟩
  · by_cases q : a = d
    · subst q; rw [Led.upd_self] at e; cases e; exact ⟨o, ho, hm⟩
    · rw [Led.upd_ne q] at e; exact y.owned a m' e
  · by_cases q : a = d
    · subst q
      refine ⟨?_, ?_, fun ha => let ⟨_, _, o', h3, _⟩ := x.offO _ ha; absurd rfl (out a o' h3)⟩
      · cases e' : D.K a with
        | none => rfl
        | some o' => exact absurd rfl (out a o' (x.keepK a o' e'))
      · cases e' : B a with
        | none => rfl
        | some o' => exact absurd rfl (out a o' (x.keepB a o' e'))
    · rw [Led.upd_ne q] at e; exact x.offΔ a m' e
  · by_cases q : a = d
    · subst q; exact big
    · rw [Led.upd_ne q] at e; exact x.big a m' e
theorem Abs.adopt {B : Store} {h h' : Heap} {d : Addr} {o : Obj} (x : Abs C B l Δ h) (y : Abs C B l Δ h') (out : ∀ b o', h.get? b = some o' → b ≠ d) (ho : h'.get? d = some o) : Abs C (B.put d o) l Δ h' ∧ B.le (B.put d o) :=
  ⟨⟨(x.base.adopt y.base out ho).1, y.frame.mono (x.base.adopt y.base out ho).2⟩, (x.base.adopt y.base out ho).2⟩
theorem Abs.adoptO {B : Store} {h h' : Heap} {d : Addr} {o : Obj} {m : MO} (x : Abs C B l Δ h) (y : Abs C B l Δ h') (out : ∀ b o', h.get? b = some o' → b ≠ d) (big : (d == sysModules) = false) (ho : h'.get? d = some o) (hm : MR prog w B m o) : Abs C B l (Δ.upd d m) h' ∧ Δ d = none :=
  ⟨⟨(x.base.adoptO y.base out big ho hm).1, y.frame⟩, (x.base.adoptO y.base out big ho hm).2⟩
noncomputable def MadeL (Δ : Led) (ps : List PV) (Q : PV → Led → Prop) : Prop := Q (.list ps) Δ ∨ ∀ b, Δ b = none → Q (.obj b) (Δ.upd b (.list ps))
theorem Post.madeLD {B : Store} {h h' : Heap} {tk : Nat} {d : Addr} {vs : List Value} {n : Nat} {ps : List PV} (x : Abs C B l Δ h) (y : Abs C B l Δ h') (out : ∀ b o', h.get? b = some o' → b ≠ d) (big : (d == sysModules) = false) (ho : h'.get? d = some (listObj vs n)) (r : VRs B ps vs)
    (q : MadeL Δ ps Q) : Post C B l Q (.ref d) { C.s with heap := h', toks := tk } := by
  rcases q with q | q
  · obtain ⟨a', hB⟩ := x.adopt y out ho
    refine ⟨h', tk, _, Δ, .list ps, rfl, hB, a', ?_, q⟩
    unfold VR; exact ⟨_, vs, n, rfl, Store.put_self _ _ _, r.mono hB⟩
  · obtain ⟨a', hn⟩ := x.adoptO y out big ho (m := .list ps) ⟨vs, n, rfl, r⟩
    exact ⟨h', tk, B, _, .obj d, rfl, Store.le_refl _, a', .obj, q d hn⟩

theorem Abs.three {B : Store} {h : Heap} (x : Abs C B l Δ h) : ∃ o, h.get? mainGlobals = some o := by
  obtain ⟨mg, _, ⟨o3, _, _, h3, _⟩, _⟩ := C.gnd.ns
  exact ⟨o3, x.base.keepK _ _ (C.hK _ _ h3)⟩
theorem big_of {d : Addr} (h : mainGlobals < d) : (d == sysModules) = false := by
  rw [beq_eq_false_iff_ne]
  intro e; rw [e] at h; exact absurd h (by decide)
theorem Post.madeL {B : Store} {h h' : Heap} {tk : Nat} {d : Addr} {vs : List Value} {n : Nat} {ps : List PV} (x : Abs C B l Δ h) (y : Abs C B l Δ h') (hd : h.objs.size ≤ d) (ho : h'.get? d = some (listObj vs n)) (r : VRs B ps vs)
    (q : MadeL Δ ps Q) : Post C B l Q (.ref d) { C.s with heap := h', toks := tk } := by
  obtain ⟨o, e⟩ := x.three
  exact .madeLD x y (fun b o' e => Nat.ne_of_lt (Nat.lt_of_lt_of_le (Heap.lt_size e) hd)) (big_of (Nat.lt_of_lt_of_le (Heap.lt_size e) hd)) ho r q


noncomputable def TyO (Δ : Led) (a : Addr) (T : String) : Prop := (∃ ps, Δ a = some (.list ps) ∧ T = "list") ∨ (∃ ep kvs, Δ a = some (.dictI ep kvs) ∧ T = "dict") ∨ ∃ ep kvs, Δ a = some (.dictT ep kvs) ∧ T = "dict"
theorem Abs.tyO {B : Store} {h : Heap} {b : Addr} {T : String} (a : Abs C B l Δ h) (t : TyO Δ b T) : ∃ o, h.get? b = some o ∧ o.cls = .type T ∧ o.dict = none := by
  rcases t with ⟨ps, e, rfl⟩ | ⟨ep, kvs, e, rfl⟩ | ⟨ep, kvs, e, rfl⟩
  · obtain ⟨o, ho, vs, n, rfl, _⟩ := a.base.owned b _ e; exact ⟨_, ho, rfl, rfl⟩
  · obtain ⟨o, ho, es, kv', h1, _⟩ := a.base.owned b _ e; exact ⟨o, ho, h1.1, h1.2.1⟩
  · obtain ⟨o, ho, xs, es, h1, _⟩ := a.base.owned b _ e; exact ⟨o, ho, h1.1, h1.2.1⟩
theorem anyStar' {args : List Expr} {env : Env} {pos : Pos} (h : args.all noStar = true) : (backTo pos (starEach args env)).any (·.1) = false := anyStar (es := args) h
theorem callWith_builtinL {B₀ : Store} {id : String} {b : Addr} {args : List Expr} {pos : Pos} {B : Store} {h : Heap} {tk : Nat} (a : Abs C B l Δ h) (hB : B₀.le B) (hs : args.all noStar = true)
    (k : LV C args l Δ (fun ps Δ'' => BC C (.builtin id) (.obj b :: ps) l Δ'' Q)) :
    wpAny (model prog w) C.A (callWith pos (.builtin id) [.ref b] (backTo pos (starEach args C.env)) []) (Post C B₀ l Q) (fun _ _ => False) { C.s with heap := h, toks := tk } := by
  refine Calls.callWith_builtin (anyStar' hs) ?_
  have fin : ∀ vs s', PostL C B l (fun ps Δ'' => BC C (.builtin id) (.obj b :: ps) l Δ'' Q) vs s' → wpAny (model prog w) C.A (call (.builtin id) ([.ref b] ++ vs)) (Post C B₀ l Q) (fun _ _ => False) s' := by
    rintro vs s' ⟨h', tk', B', Δ', ps, e', hB', a', r, q⟩
    subst e'
    exact wpAny_mono (q B' h' tk' (.ref b :: vs) a' (.cons .obj r)) (fun _ _ z => z.trans (Store.le_trans hB hB')) fun _ _ x => x
  cases args with
  | nil =>
    unfold evalArgs
    show wpAny _ _ (spliced [] >>= _) _ _ _
    refine wpAny_bind (wpAny_mono (k B h tk pos a) (fun vs s' z => ?_) fun _ _ x => x)
    exact wpAny_bind (wpAny_pure (wpAny_holding (wpAny_bind (wpAny_pure (wpAny_bind (wpAny_pure (wpAny_pure (fin vs s' z))))))))
  | cons e es =>
    rw [List.all_cons, Bool.and_eq_true] at hs
    have := k B h tk pos a
    rw [starEach_cons hs.1] at this ⊢
    exact Calls.evalArgs_plain (wpAny_mono this (fun vs s' z => fin vs s' z) fun _ _ x => x)
end
end Mine

namespace Mine
section
variable {prog : Program} {w : World} {Kf : Frag} {sc : Scope} {C : Cx prog w Kf sc} {l : List (Option PV)} {Δ : Led} {Q : PV → Led → Prop}
  {Qn : List (Option PV) → Led → Prop} {Qr : PV → Led → Prop}

inductive MethH (C : Cx prog w Kf sc) (T id : String) (args : List Expr) (l : List (Option PV)) (Q : PV → Led → Prop) (p : PV) (Δ' : Led) : Prop
  | mk (b : Addr) (e : p = .obj b) (ty : TyO Δ' b T) (k : LV C args l Δ' (fun ps Δ'' => BC C (.builtin id) (.obj b :: ps) l Δ'' Q))
theorem EV_meth {o : Expr} {name : Str} {apos pos : Pos} {args : List Expr} (T id : String) (pa : PlainAttrs T) (slot : Slot T name id) (hty : typeOf (.builtin id) = pure (.type "method_descriptor"))
    (h : EV C o l Δ (MethH C T id args l Q)) (pl : Sem Bool)
    (he : eval (.Call (.Attribute o name apos) args [] pos) C.env = (do
      let ov ← eval o C.env
      standAt apos.atName
      let (f, first) ← holding [ov] (getMethod ov name pl)
      callWith pos f first (backTo pos (starEach args C.env)) []) := by rfl)
    (hs : args.all noStar = true := by rfl) : EV C (.Call (.Attribute o name apos) args [] pos) l Δ Q := fun B hh tk a => by
  refine MethodCall_ (pl := pl) (wpAny_mono (h B hh tk a) (fun u s₁ ⟨h₁, tk₁, B₁, Δ₁, p, e, hB, a₁, r, b, e', ty, k⟩ => ?_) fun _ _ x => x) he
  subst e; subst e'
  rw [r.obj_inv]
  obtain ⟨ob, ho, hc, hd⟩ := a₁.tyO ty
  exact getMethod_builtin (s := { C.s with heap := h₁, toks := tk₁ }) ⟨ob, ho, hc⟩ pa slot hty (fun c e => by cases e; exact ⟨ob, ho, hd⟩) (callWith_builtinL a₁ hB hs k)

inductive OwnH (C : Cx prog w Kf sc) (f : Addr) (name : Str) (args : List Expr) (l : List (Option PV)) (Q : PV → Led → Prop) (p : PV) (Δ' : Led) : Prop
  | mk (b c d : Addr) (at_ : List (Str × PV)) (e : p = .obj b) (hi : InstL Δ' b c d at_) (hl : at_.lookup name = none) (g1 : plainGet Kf c name = true) (g2 : findIn Kf (.ref c) name = some (some (.ref f))) (g3 : isFn Kf (.ref f) = true) (g4 : keepIn Kf (.ref f) = true)
    (k : LV C args l Δ' (fun ps Δ'' => CSR prog w Kf C.room f (.obj b :: ps) Δ'' Q))
theorem EV_own {o : Expr} {name : Str} {apos pos : Pos} {args : List Expr} (f : Addr)
    (h : EV C o l Δ (OwnH C f name args l Q)) (pl : Sem Bool)
    (he : eval (.Call (.Attribute o name apos) args [] pos) C.env = (do
      let ov ← eval o C.env
      standAt apos.atName
      let (f, first) ← holding [ov] (getMethod ov name pl)
      callWith pos f first (backTo pos (starEach args C.env)) []) := by rfl)
    (hs : args.all noStar = true := by rfl) (hne : args ≠ [] := by simp) : EV C (.Call (.Attribute o name apos) args [] pos) l Δ Q := fun B hh tk a => by
  refine MethodCall_ (pl := pl) (wpAny_mono (h B hh tk a) (fun u s₁ ⟨h₁, tk₁, B₁, Δ₁, p, e, hB, a₁, r, b, c, d, at_, e', hi, hl, g1, g2, g3, g4, k⟩ => ?_) fun _ _ x => x) he
  subst e; subst e'
  rw [r.obj_inv]
  obtain ⟨es, n, I, _, at1⟩ := a₁.instAt hi
  have gl := at1.getL (x := name)
  rw [hl] at gl
  refine method_fn (s := { C.s with heap := h₁, toks := tk₁ }) a₁.kin I (plainGet_of g1).1 (plainGet_of g1).2 g2 (beq_iff_eq.mp g3) (by show (PySem.W.getL name es).map _ = _; rw [gl]; rfl) ?_
  cases args with
  | nil => exact absurd rfl hne
  | cons e es' =>
    rw [List.all_cons, Bool.and_eq_true] at hs
    refine callWith_K (h₀ := h₁) a₁.kin g4 (wpAny_mono (k B₁ h₁ tk₁ pos a₁) (fun vs s' ⟨h', tk', B', Δ', ps, e', hB', a', r, q⟩ => ?_) fun _ _ x => x) (starEach_cons hs.1) (anyStar (es := es') hs.2)
    subst e'
    refine ⟨a'.kin, ?_⟩
    exact wpAny_mono (call_at a' (.cons .obj r) (q _ (Nat.le_refl _))) (fun _ _ z => z.trans (Store.le_trans hB hB')) fun _ _ x => x

theorem BC_append {b : Addr} {ps : List PV} {x : PV} (hb : Δ b = some (.list ps)) (q : Q .none (Δ.upd b (.list (ps ++ [x])))) (hz : ps.length ≤ 1000) : BC C (.builtin "list.append") [.obj b, x] l Δ Q := fun B h tk vs a r => by
  obtain ⟨v, vs', rfl, r1, r2⟩ := r.cons_inv
  obtain ⟨y, vs'', rfl, r3, r4⟩ := r2.cons_inv
  rw [r4.nil_inv, r1.obj_inv]
  obtain ⟨o, ho, us, n, rfl, h4⟩ := a.base.owned b _ hb
  refine wpAny_list_append_plain (s := { C.s with heap := h, toks := tk }) ⟨n, ho⟩ (fun h' ⟨n', ho'⟩ hs => ?_) (by rw [List.size_toArray, h4.length, sizeLine_eq]; omega)
  exact ⟨h', tk, B, _, .none, rfl, Store.le_refl _, a.turn hb hs ho' (m := .list (ps ++ [x])) ⟨us ++ [y], n', by simp [listObj], h4.append (.cons r3 .nil)⟩, .none, q⟩
theorem BC_pop {b : Addr} {ps : List PV} {x : PV} (hb : Δ b = some (.list (ps ++ [x]))) (q : Q x (Δ.upd b (.list ps))) (hz : ps.length ≤ 1000) : BC C (.builtin "list.pop") [.obj b] l Δ Q := fun B h tk vs a r => by
  obtain ⟨v, vs', rfl, r1, r2⟩ := r.cons_inv
  rw [r2.nil_inv, r1.obj_inv]
  obtain ⟨o, ho, us, n, rfl, h4⟩ := a.base.owned b _ hb
  have hl := h4.length
  simp at hl
  obtain ⟨y, e1, e2⟩ := h4.get (i := ps.length) (p := x) (by simp)
  have hsz : us.toArray.size - 1 = ps.length := by simp [hl]
  refine call_meetsIn PySem.F.slot_list_pop (s := { C.s with heap := h, toks := tk }) ⟨_, ho, rfl⟩ PySem.F.entry_list_pop (PySem.F.args_list_pop_1 _) ((PySem.MeetsSeq.list_pop_last b us.toArray n y (by rw [hsz]; simpa using e1) (by simp [hl, sizeLine_eq]; omega)).inModel prog w) ⟨ho, ?_⟩
  have e : us.toArray.eraseIdxIfInBounds (us.toArray.size - 1) = (us.take ps.length).toArray := by
    unfold Array.eraseIdxIfInBounds
    rw [dif_pos (by simp [hl])]
    apply Array.ext'
    simp only [List.size_toArray, hl, Nat.add_sub_cancel, List.eraseIdx_toArray]
    rw [List.eraseIdx_eq_take_drop_succ, List.drop_eq_nil_of_le (by omega)]
    simp
  refine ⟨_, tk, B, _, x, rfl, Store.le_refl _, a.turn hb (Heap.SameBut.update h b _) (PySem.IsL.update (n := n) ho _) (m := .list ps) ⟨us.take ps.length, (if (us.toArray.eraseIdxIfInBounds (us.toArray.size - 1)).size == us.toArray.size then n else n + 1), by rw [e]; rfl, ?_⟩, e2, q⟩
  have := h4.take ps.length
  rwa [List.take_left'] at this
  rfl

theorem dictSetDefault_pairs {A : Around} {E : Value → Shared → Prop} {s : Shared} {d : Addr} {kvs : List (Int × Value)} {k : Int} {key dflt : Value} {Q : Value → Shared → Prop} (hkey : (intKind prog w).is k key = true) (hm : s.heap.DictOf (intKind prog w) d kvs)
    (hthere : ∀ v, valueAt kvs k = some v → Q v { s with toks := s.toks + 1 })
    (hnew : valueAt kvs k = none → ∀ h', h'.DictOf (intKind prog w) d (kvs ++ [(k, dflt)]) → Heap.SameBut d s.heap h' → Q dflt { s with heap := h', toks := s.toks + 1 })
    (hz : kvs.length ≤ 1000) : wpAny (model prog w) A (dictSetDefault d key dflt) Q E s := by
  have hmap := hm.mapOf
  obtain ⟨o, es, ep, ho, hc, hd, hk, hp, hn⟩ := hm
  have hes : es.size ≤ sizeLine := by have e1 := hp.length; have e2 : es.toList.length = es.size := by simp
                                      rw [sizeLine_eq]; omega
  unfold dictSetDefault
  try with_reducible refine wpAny_holding ?_
  refine wpAny_bind ((intKind prog w).pyHash hkey ?_)
  refine wpAny_bind (wpAny_dictFind_of (s := { s with toks := s.toks + 1 }) hkey ho hd hk ?_)
  have hf := hp.findIdx k
  cases hi : es.findIdx? fun e => (intKind prog w).is k e.key with
  | some i =>
    refine wpAny_bind (wpAny_dictEntries (s := { s with toks := s.toks + 1 }) ho hd ?_)
    have hi' : (es.toList.findIdx? fun e => (intKind prog w).is k e.key) = some i := by rw [← hi]; clear hi; obtain ⟨l⟩ := es; simp
    have hlt : i < es.size := (Array.findIdx?_eq_some_iff_findIdx_eq.mp hi).1
    have hv : valueAt kvs k = some es[i].val := by
      rw [← hp.find k]
      have h1 := Array.findIdx?_eq_some_iff_getElem.mp hi
      obtain ⟨h1, h2, h3⟩ := h1
      rw [show (es.toList.find? fun e => (intKind prog w).is k e.key) = some es[i] from ?_]; rfl
      rw [List.find?_eq_some_iff_getElem]
      exact ⟨h2, i, by simpa using hlt, by simp, fun j hj => by simpa using h3 j hj⟩
    rw [Array.getElem?_eq_getElem hlt]
    exact wpAny_bind (wpAny_rule (wpAny_pure (hthere _ hv)))
  | none =>
    have hi' : (es.toList.findIdx? fun e => (intKind prog w).is k e.key) = none := by rw [← hi]; clear hi; obtain ⟨l⟩ := es; simp
    rw [hi'] at hf
    have hnm : k ∉ kvs.map (·.1) := not_mem_of_findIdx_none hf.symm
    have hv : valueAt kvs k = none := by
      unfold valueAt
      rw [Option.map_eq_none_iff, List.find?_eq_none]
      intro x hx; simp; intro e; exact hnm (List.mem_map.mpr ⟨x, hx, e⟩)
    refine wpAny_bind (wpAny_rule (wpAny_bind (wpAny_updateDictKeys (hz := hes) (s := { s with toks := s.toks + 1 }) ho hd (wpAny_pure (hnew hv _ ⟨_, _, ep + 1, Heap.get?_update_self _ ho (Obj.isFreed_of_dict (Obj.data_mapDictKeys hd _)),
      hc.mapDictKeys _, Obj.data_mapDictKeys hd _, hk.push hkey _, ?_, ?_⟩ (Heap.SameBut.update ..))))))
    · rw [Array.toList_push]; exact hp.append hkey _ _
    · rw [List.map_append, List.nodup_append]
      exact ⟨hn, by simp, fun a ha b hb e => by simp at hb; rw [hb] at e; exact hnm (e ▸ ha)⟩

theorem BC_setdefault {b : Addr} {ep : Nat} {kvs : List (Int × PV)} {k : Int} {x : PV} (hb : Δ b = some (.dictI ep kvs)) (q : match kget kvs k with | some p => Q p Δ | none => ∀ ep', Q x (Δ.upd b (.dictI ep' (kvs ++ [(k, x)])))) (hz : kvs.length ≤ 1000) :
    BC C (.builtin "dict.setdefault") [.obj b, .int k, x] l Δ Q := fun B h tk vs a r => by
  obtain ⟨v, vs', rfl, r1, r2⟩ := r.cons_inv
  obtain ⟨y, vs'', rfl, r3, r4⟩ := r2.cons_inv
  obtain ⟨z, vs''', rfl, r5, r6⟩ := r4.cons_inv
  rw [r6.nil_inv, r1.obj_inv]
  obtain ⟨t, rfl⟩ := r3.int_inv
  obtain ⟨o, ho, r⟩ := a.base.owned b _ hb
  obtain ⟨l', d, kv⟩ := MR.dictI_of ho r
  refine wpAny_call_entry (s := { C.s with heap := h, toks := tk }) PySem.F.slot_dict_setdefault d.typeIs PySem.F.entry_dict_setdefault ?_ (PySem.F.args_dict_setdefault_3 _ _ _)
  unfold Builtin.«dict.setdefault»
  refine wpAny_bind ?_
  unfold Builtin.Dict.keyAndDefault
  refine wpAny_bind (wpAny_notOrdered_dict d.typeIs ?_)
  show wpAny _ _ (pure (b, Value.int k t, some z)) _ _ _
  refine wpAny_pure ?_
  show wpAny _ _ (if (b == sysModules) = true then _ else (dictSetDefault b (Value.int k t) z >>= _)) _ _ _
  rw [if_neg (by rw [a.base.big b _ hb]; exact Bool.false_ne_true)]
  refine wpAny_bind (dictSetDefault_pairs (s := { C.s with heap := h, toks := tk }) int_is d (fun v hv => wpAny_pure ⟨v, rfl, ?_⟩) (fun hn h' d' hs => wpAny_pure ⟨z, rfl, ?_⟩) (by rw [kv.length]; exact hz))
  · have := KVI.valueAt k kv
    cases e : kget kvs k with
    | none => rw [e] at this; dsimp only at this; rw [this] at hv; cases hv
    | some p =>
      rw [e] at this q
      obtain ⟨v', e1, e2⟩ := this
      rw [e1] at hv; cases hv
      exact .now a e2 q
  · have := KVI.valueAt k kv
    cases e : kget kvs k with
    | some p => rw [e] at this; obtain ⟨v', e1, e2⟩ := this; rw [e1] at hn; cases hn
    | none =>
      rw [e] at q
      obtain ⟨ep', o', ho', r'⟩ := MR.dictI_mk d' (kv.append (lvs := [(k, x)]) ⟨z, [], rfl, r5, rfl⟩)
      exact ⟨_, _, B, _, x, rfl, Store.le_refl _, a.turn hb hs ho' r', r5, q ep'⟩
theorem BC_get2 {b : Addr} {ep : Nat} {kvs : List (Int × PV)} {k : Int} {x : PV} (hb : Δ b = some (.dictI ep kvs)) (q : Q ((kget kvs k).getD x) Δ) : BC C (.builtin "dict.get") [.obj b, .int k, x] l Δ Q := fun B h tk vs a r => by
  obtain ⟨v, vs', rfl, r1, r2⟩ := r.cons_inv
  obtain ⟨y, vs'', rfl, r3, r4⟩ := r2.cons_inv
  obtain ⟨z, vs''', rfl, r5, r6⟩ := r4.cons_inv
  rw [r6.nil_inv, r1.obj_inv]
  obtain ⟨t, rfl⟩ := r3.int_inv
  obtain ⟨o, ho, r⟩ := a.base.owned b _ hb
  obtain ⟨l', d, kv⟩ := MR.dictI_of ho r
  refine call_meetsIn (s := { C.s with heap := h, toks := tk }) PySem.F.slot_dict_get d.typeIs PySem.F.entry_dict_get (PySem.F.args_dict_get_3 _ _ _) (meets_dict_get_default (intKind prog w) b int_is (a.base.big b _ hb) z) ⟨_, d.mapOf, ?_⟩
  have := KVI.valueAt k kv
  cases e : kget kvs k with
  | none => rw [e] at this q; dsimp only at this; rw [this]; exact Post.now a r5 q
  | some p => rw [e] at this q; obtain ⟨v', e1, e2⟩ := this; rw [e1]; exact Post.now a e2 q
theorem BC_dpop {b : Addr} {ep : Nat} {kvs : List (Int × PV)} {k : Int} {x : PV} (hb : Δ b = some (.dictI ep kvs)) (hx : kget kvs k = some x) (q : ∀ ep', Q x (Δ.upd b (.dictI ep' (kdel kvs k)))) (hz : kvs.length ≤ 1000) : BC C (.builtin "dict.pop") [.obj b, .int k] l Δ Q := fun B h tk vs a r => by
  obtain ⟨v, vs', rfl, r1, r2⟩ := r.cons_inv
  obtain ⟨y, vs'', rfl, r3, r4⟩ := r2.cons_inv
  rw [r4.nil_inv, r1.obj_inv]
  obtain ⟨t, rfl⟩ := r3.int_inv
  obtain ⟨o, ho, r⟩ := a.base.owned b _ hb
  obtain ⟨l', d, kv⟩ := MR.dictI_of ho r
  obtain ⟨v', e1, e2⟩ := kv.sm hx
  refine call_meetsIn (s := { C.s with heap := h, toks := tk }) PySem.F.slot_dict_pop d.typeIs PySem.F.entry_dict_pop (PySem.F.args_dict_pop_2 _ _) (meets_dict_pop_there (intKind prog w) b int_is [] (.inl rfl) rfl) ⟨_, _, d, (by rw [kv.length, sizeLine_eq]; omega), e1, fun h' d' hs => ?_⟩
  obtain ⟨ep', o', ho', r'⟩ := MR.dictI_mk d' (kv.del (k := k))
  exact ⟨_, _, B, _, x, rfl, Store.le_refl _, a.turn hb hs ho' r', e2, q ep'⟩
end
end Mine

namespace Mine
section
variable {prog : Program} {w : World} {Kf : Frag} {sc : Scope} {C : Cx prog w Kf sc} {l : List (Option PV)} {Δ : Led} {Q : PV → Led → Prop}
  {Qn : List (Option PV) → Led → Prop} {Qr : PV → Led → Prop}

noncomputable def LstV (Δ : Led) (p : PV) (ps : List PV) : Prop := p = .list ps ∨ ∃ b, p = .obj b ∧ Δ b = some (.list ps)
theorem LstV.f (Δ : Led) (ps : List PV) : LstV Δ (.list ps) ps := .inl rfl
theorem LstV.o {Δ : Led} {b : Addr} {ps : List PV} (h : Δ b = some (.list ps)) : LstV Δ (.obj b) ps := .inr ⟨b, rfl, h⟩
theorem Abs.lst {B : Store} {h : Heap} {p : PV} {ps : List PV} {v : Value} (a : Abs C B l Δ h) (hp : LstV Δ p ps) (r : VR B p v) : ∃ b vs n, v = .ref b ∧ h.get? b = some (listObj vs n) ∧ VRs B ps vs := by
  rcases hp with rfl | ⟨b, rfl, hb⟩
  · obtain ⟨b, vs, n, rfl, h1, h2⟩ := r.list_inv; exact ⟨b, vs, n, rfl, a.base.keepB _ _ h1, h2⟩
  · obtain ⟨o, ho, vs, n, rfl, h2⟩ := a.base.owned b _ hb; exact ⟨b, vs, n, r.obj_inv, ho, h2⟩

theorem BC_lenL {p : PV} {ps : List PV} (hp : LstV Δ p ps) (q : Q (.int ps.length) Δ) (hz : ps.length < 2 ^ 62) : BC C (.builtin "len") [p] l Δ Q := fun B h tk vs a r => by
  obtain ⟨v, vs', rfl, r1, r2⟩ := r.cons_inv
  rw [r2.nil_inv]
  obtain ⟨b, us, n, rfl, ho, r3⟩ := a.lst hp r1
  refine Calls.call_len_list (s := { C.s with heap := h, toks := tk }) ⟨_, ho, rfl, n, rfl⟩ (by simp [r3.length]; omega) ?_
  have e : ((us.toArray.size : Nat) : Int) = ps.length := by simp [r3.length]
  rw [e]; exact .now a .int q
theorem BC_lenD {b : Addr} {ep : Nat} {kvs : List (Int × PV)} (hb : Δ b = some (.dictI ep kvs)) (q : Q (.int kvs.length) Δ) (hz : kvs.length < 2 ^ 62) : BC C (.builtin "len") [.obj b] l Δ Q := fun B h tk vs a r => by
  obtain ⟨v, vs', rfl, r1, r2⟩ := r.cons_inv
  rw [r2.nil_inv, r1.obj_inv]
  obtain ⟨o, ho, r⟩ := a.base.owned b _ hb
  obtain ⟨l', d, kv⟩ := MR.dictI_of ho r
  refine call_len_dict (s := { C.s with heap := h, toks := tk }) (a.base.big b _ hb) d (by rw [kv.length]; omega) ?_
  rw [kv.length]; exact .now a .int q
theorem BC_range {n : Int} (q : Q (.rng n) Δ) : BC C (.type "range") [.int n] l Δ Q := fun B h tk vs a r => by
  obtain ⟨v, vs', rfl, r1, r2⟩ := r.cons_inv
  rw [r2.nil_inv]
  obtain ⟨t, rfl⟩ := r1.int_inv
  refine call_range_1 (s := { C.s with heap := h, toks := tk }) ?_
  obtain ⟨a', hB⟩ := a.freeze (o := { cls := .type "range", data := .fields #[.int 0 tk, .int n t, .int 1 (tk + 1)] }) rfl
  refine ⟨_, _, _, Δ, .rng n, rfl, hB, a', ?_, q⟩
  unfold VR; exact ⟨_, _, _, _, rfl, Store.put_self _ _ _⟩
theorem BC_int {n : Int} (q : Q (.int n) Δ) : BC C (.type "int") [.int n] l Δ Q := fun B h tk vs a r => by
  obtain ⟨v, vs', rfl, r1, r2⟩ := r.cons_inv
  rw [r2.nil_inv]
  obtain ⟨t, rfl⟩ := r1.int_inv
  exact call_int_int (.now a .int q)
theorem BC_intb {b : Bool} (q : Q (.int (if b then 1 else 0)) Δ) : BC C (.type "int") [.bool b] l Δ Q := fun B h tk vs a r => by
  obtain ⟨v, vs', rfl, r1, r2⟩ := r.cons_inv
  rw [r2.nil_inv, r1.bool_inv]
  exact call_int_bool (.now a .int q)
theorem BC_min2 {x y : Int} (q : Q (.int (min x y)) Δ) : BC C (.builtin "min") [.int x, .int y] l Δ Q := fun B h tk vs a r => by
  obtain ⟨v, vs', rfl, r1, r2⟩ := r.cons_inv
  obtain ⟨u, us', rfl, r3, r4⟩ := r2.cons_inv
  rw [r4.nil_inv]
  obtain ⟨t, rfl⟩ := r1.int_inv; obtain ⟨t', rfl⟩ := r3.int_inv
  refine min_two_ints (s := { C.s with heap := h, toks := tk }) C.hand fun h' tk' k => ?_
  split
  · rename_i c; rw [show min x y = y by omega] at q; exact .now (a.grow k) .int q
  · rename_i c; rw [show min x y = x by omega] at q; exact .now (a.grow k) .int q
theorem BC_max2 {x y : Int} (q : Q (.int (max x y)) Δ) : BC C (.builtin "max") [.int x, .int y] l Δ Q := fun B h tk vs a r => by
  obtain ⟨v, vs', rfl, r1, r2⟩ := r.cons_inv
  obtain ⟨u, us', rfl, r3, r4⟩ := r2.cons_inv
  rw [r4.nil_inv]
  obtain ⟨t, rfl⟩ := r1.int_inv; obtain ⟨t', rfl⟩ := r3.int_inv
  refine max_two_ints (s := { C.s with heap := h, toks := tk }) C.hand fun h' tk' k => ?_
  split
  · rename_i c; rw [show max x y = y by omega] at q; exact .now (a.grow k) .int q
  · rename_i c; rw [show max x y = x by omega] at q; exact .now (a.grow k) .int q

theorem BO_addL {p q : PV} {ps qs : List PV} (hp : LstV Δ p ps) (hq : LstV Δ q qs) (k : MadeL Δ (ps ++ qs) Q) (hz : ps.length + qs.length ≤ 1000000) : BO C .Add p q l Δ Q := fun B h tk u v a r1 r2 => by
  obtain ⟨b, us, n, rfl, ho, r3⟩ := a.lst hp r1
  obtain ⟨c, ws, m, rfl, ho', r4⟩ := a.lst hq r2
  obtain ⟨m', F, grow, _⟩ := a.bridge
  refine add_lists (s := { C.s with heap := h, toks := tk }) (vs := us) (ws := ws) F (news_rest (S := [C.env.locals]) (by simp)) ⟨_, ho, rfl, _, rfl⟩ ⟨_, ho', rfl, _, rfl⟩ (fun h' F' N' => ?_) (by rw [r3.length, r4.length, sizeLine_eq]; omega)
  have a' := grow h' F'.ns fun b o hb e => (N' (b, o) (.tail _ (mem_restOf.mpr ⟨by simpa using hb, e⟩))).1
  have ho2 : h'.get? h.objs.size = some (listObj (us ++ ws) 0) := (N' _ (.head _)).1
  exact Post.madeL a a' (Nat.le_refl _) ho2 (r3.append r4) k
end
end Mine

namespace Mine
theorem rep_one (v : Value) : ∀ (n : Nat) (acc : Array Value), List.foldl (fun x1 x2 => x1 ++ x2) acc (List.replicate n #[v]) = acc ++ (List.replicate n v).toArray
  | 0, acc => by simp
  | n + 1, acc => by
    rw [List.replicate_succ, List.foldl_cons, rep_one v n]
    apply Array.ext'
    simp [List.replicate_succ]
theorem VRs.replicate {B : Store} {p : PV} {v : Value} (h : VR B p v) : ∀ n : Nat, VRs B (List.replicate n p) (List.replicate n v)
  | 0 => .nil
  | n + 1 => .cons h (VRs.replicate h n)
section
variable {prog : Program} {w : World} {Kf : Frag} {sc : Scope} {C : Cx prog w Kf sc} {l : List (Option PV)} {Δ : Led} {Q : PV → Led → Prop}
  {Qn : List (Option PV) → Led → Prop} {Qr : PV → Led → Prop}

theorem BO_mulL1 {p x : PV} {n : Int} (hp : LstV Δ p [x]) (k : MadeL Δ (List.replicate n.toNat x) Q) (h0 : 0 ≤ n) (hz : n ≤ 1000) : BO C .Mult p (.int n) l Δ Q := fun B h tk u v a r1 r2 => by
  obtain ⟨b, us, m, rfl, ho, r3⟩ := a.lst hp r1
  obtain ⟨t, rfl⟩ := r2.int_inv
  obtain ⟨y, us', rfl, r4, r5⟩ := r3.cons_inv
  rw [r5.nil_inv] at ho
  obtain ⟨m', F, grow, _⟩ := a.bridge
  refine PyProof.Rows.mul_list (s := { C.s with heap := h, toks := tk }) F (news_rest (S := [C.env.locals]) (by simp)) ho (by omega) (by omega) (by simp; omega) (fun h' F' N' => ?_)
  have a' := grow h' F'.ns fun b o hb e => (N' (b, o) (.tail _ (mem_restOf.mpr ⟨by simpa using hb, e⟩))).1
  have ho2 := (N' _ (.head _)).1
  refine Post.madeL (vs := List.replicate n.toNat y) (n := 0) a a' (Nat.le_refl _) ?_ (VRs.replicate r4 _) k
  rw [ho2]
  have e : ((#[y] : Array Value).isEmpty = true) ↔ False := by simp
  simp only [e, if_false, rep_one]
  simp [listObj]
end

section
variable {prog : Program} {w : World} {A : Around} {E : Value → Shared → Prop} {s : Shared}
theorem sliceApplied_2 {sl : Addr} {n : Nat} {u : Tok} {Q : Int × Int × Nat → Shared → Prop} (hs : s.heap.IsSliceOf sl .none (.int 2 u) .none) (hn : 2 ≤ n) (h : Q (0, 1, 2) s) :
    wpAny (model prog w) A (Builtin.Slice.sliceApplied (.ref sl) (pure (n : Int))) Q E s := by
  obtain ⟨os, hos, hcs, hds⟩ := id hs
  unfold Builtin.Slice.sliceApplied Builtin.Slice.sliceFields
  refine wpAny_bind (wpAny_bind (wpAny_field hos hds (x := .none) rfl (wpAny_bind (wpAny_field hos hds (x := .int 2 u) rfl (wpAny_bind (wpAny_field hos hds (x := .none) rfl (wpAny_pure ?_)))))))
  refine wpAny_bind (PyProof.Rows.slicePart_none ?_)
  show wpAny _ _ (if ((1 : Int) == 0) = true then _ else _) _ _ s
  rw [if_neg (by decide)]
  refine wpAny_bind (PyProof.Rows.slicePart_none (wpAny_bind (PyProof.Rows.slicePart_int (wpAny_bind (wpAny_pure ?_)))))
  have e : Builtin.Slice.sliceAdjust none (some (2 : Int)) 1 (n : Int) = (0, 2) := by
    unfold Builtin.Slice.sliceAdjust
    have h1 : ¬ ((1 : Int) < 0) := by omega
    have h2 : ¬ ((2 : Int) < 0) := by omega
    simp only [h1, h2, if_false]
    congr 1
    omega
  show wpAny _ _ (match Builtin.Slice.sliceAdjust none (some (2 : Int)) 1 (n : Int) with | (lo, hi) => pure (lo, (1 : Int), Builtin.Slice.slicePlaces lo hi 1)) _ _ s
  rw [e]
  exact wpAny_pure h

theorem getItem_tuple_2 {t sl : Addr} {x y z : Value} {rest : List Value} {u : Tok} {Q : Value → Shared → Prop} (ht : IsTup s.heap t (x :: y :: z :: rest).toArray) (hs : s.heap.IsSliceOf sl .none (.int 2 u) .none)
    (h : Q (.ref s.heap.objs.size) { s with heap := s.heap.push { cls := .type "tuple", data := .seq [x, y].toArray } }) : wpAny (model prog w) A (getItem (.ref t) (.ref sl)) Q E s := by
  obtain ⟨os, hos, hcs, hds⟩ := id hs
  have hTs : s.TypeIs (.ref sl) "slice" := ⟨os, hos, hcs⟩
  unfold getItem
  try with_reducible refine wpAny_holding ?_
  first | refine wpAny_bind (wpAny_pure ?_) | skip
  refine wpAny_bind (wpAny_sequenceKey ht.typeIs (by decide) ?_)
  refine wpAny_bind (wpAny_callSpecial?_slot (name := Str.ofString "__getitem__") ht.typeIs PyProof.Rows.slot_tuple_getitem
    (wpAny_call_entry PyProof.Rows.slot_tuple_getitem ht.typeIs PyProof.Rows.entry_tuple_getitem ?_ (PyProof.Rows.args_tuple_getitem _ _)))
  show wpAny _ _ (Builtin.Tuple.tupleItemsOf (.ref t) >>= _) _ _ s
  refine wpAny_bind (PyProof.Rows.tupleItemsOf_ ht ?_)
  refine wpAny_bind (wpAny_typeOf hTs ?_)
  rw [if_pos (by decide)]
  refine wpAny_bind (sliceApplied_2 hs (by simp) ?_)
  have hno : ¬ (((0 : Int) == 0 && (1 : Int) == 1 && (2 == (x :: y :: z :: rest).toArray.size)) = true) := by simp
  show wpAny _ _ (if ((0 : Int) == 0 && (1 : Int) == 1 && (2 == (x :: y :: z :: rest).toArray.size)) = true then _ else _) _ _ s
  rw [if_neg hno]
  have e : ((List.range 2).filterMap fun (k : Nat) => (x :: y :: z :: rest).toArray[((0 : Int) + (k : Int) * 1).toNat]?).toArray = [x, y].toArray := by
    simp [List.range, List.range.loop]
  rw [e]
  first
    | exact wpAny_bind (m := Builtin.Tuple.tupleExact _) (wpAny_newObj_type (wpAny_pure ⟨_, rfl, wpAny_pure h⟩))
    | exact wpAny_bind (m := Builtin.Tuple.tupleExact _) (wpAny_newObj_type (wpAny_bind (wpAny_pure (wpAny_pure ⟨_, rfl, wpAny_pure h⟩))))
    | exact wpAny_bind (wpAny_bind (m := Builtin.Tuple.tupleExact _) (wpAny_newObj_type (wpAny_pure (wpAny_pure ⟨_, rfl, wpAny_pure h⟩))))
    | exact wpAny_bind (wpAny_bind (m := Builtin.Tuple.tupleExact _) (wpAny_newObj_type (wpAny_pure ⟨_, rfl, wpAny_pure h⟩)))
end
section
variable {prog : Program} {w : World} {Kf : Frag} {sc : Scope} {C : Cx prog w Kf sc} {l : List (Option PV)} {Δ : Led} {Q : PV → Led → Prop}
  {Qn : List (Option PV) → Led → Prop} {Qr : PV → Led → Prop}
inductive SliceH (Q : PV → Led → Prop) (p : PV) (Δ' : Led) : Prop
  | mk (x y z : PV) (rest : List PV) (e : p = .tup (x :: y :: z :: rest)) (q : Q (.tup [x, y]) Δ')
theorem EV_slice2 {value : Expr} {k : Nat} {cp sp pos : Pos} (h : EV C value l Δ (SliceH Q)) :
    EV C (.Subscript value (.Slice none (some (.Constant (.int 2) k cp)) none sp) pos) l Δ Q := fun B hh tk a => by
  refine Subscript_ (wpAny_mono (h B hh tk a) (fun u s₁ ⟨h₁, tk₁, B₁, Δ₁, p, e, hB, a₁, r, x, y, z, rest, e', q⟩ => ?_) fun _ _ x => x)
  subst e; subst e'
  refine wpAny_Slice (wpAny_evalPart_none (wpAny_evalPart_some (wpAny_Constant_int (wpAny_evalPart_none ?_))))
  obtain ⟨b, vs, o, n, rfl, h1, h2, h3, h4⟩ := r.tup_inv
  obtain ⟨vx, vs', rfl, rx, h5⟩ := h4.cons_inv
  obtain ⟨vy, vs'', rfl, ry, h6⟩ := h5.cons_inv
  obtain ⟨vz, vs''', rfl, rz, h7⟩ := h6.cons_inv
  generalize hsl : ({ cls := .type "slice", data := .fields #[.none, .int 2 _, .none] } : Obj) = osl
  have a₂ : Abs C B₁ l Δ₁ (h₁.push osl) := a₁.grow fun b o e => Heap.get?_push_of_some _ e
  have hT : IsTup (h₁.push osl) b (vx :: vy :: vz :: vs''').toArray := ⟨o, a₂.base.keepB _ _ h1, h2, n, h3⟩
  refine tail_any (s := { C.s with heap := h₁.push osl, toks := tk₁ + 1 }) (ops := [.ref h₁.objs.size, .ref b]) ⟨o, a₂.base.keepB _ _ h1, h2⟩ PyProof.Rows.slot_tuple_getitem.lookup (getItem_tuple_2 (u := tk₁) hT ?_ ?_) rfl
  · exact ⟨osl, Heap.get?_push_size _ (by rw [← hsl]; rfl), by rw [← hsl], by rw [← hsl]⟩
  · exact (newTuple_at a₂ (.cons rx (.cons ry .nil)) q).trans hB
end
end Mine

namespace Mine
noncomputable def mnf (b x : PV) : PV := if plt x b then x else b
noncomputable def minP : List PV → PV
  | [] => .none
  | p :: ps => ps.foldl mnf p
theorem mnf_mem {ps : List PV} {b x : PV} (hb : b ∈ ps) (hx : x ∈ ps) : mnf b x ∈ ps := by unfold mnf; split <;> assumption
theorem foldl_mnf_mem {ps : List PV} : ∀ (xs : List PV) (b : PV), b ∈ ps → (∀ x ∈ xs, x ∈ ps) → xs.foldl mnf b ∈ ps
  | [], b, hb, _ => hb
  | x :: xs, b, hb, hx => foldl_mnf_mem xs _ (mnf_mem hb (hx x (.head _))) fun y hy => hx y (.tail _ hy)
theorem minP_mem : ∀ {ps : List PV}, ps ≠ [] → minP ps ∈ ps
  | [], h => absurd rfl h
  | p :: ps, _ => foldl_mnf_mem ps p (.head _) fun x hx => .tail _ hx

section
variable {prog : Program} {w : World}
theorem min_loop {B : Store} {A : Around} {R : Result → Shared → Prop} {l I S : Addr} {vs : List Value} {ps : List PV} {n : Nat} (hh : A.handled = none) (hu : A.units + 1 + n + n + 1 < cLine) (r : VRs B ps vs) (hs : ∀ x ∈ ps, ∀ y ∈ ps, Shp n x y)
    (hlI : l ≠ I) (hlS : l ≠ S) (hIS : I ≠ S) (hSB : B S = none) (hIB : B I = none) :
    ∀ (k j : Nat) (s : Shared) (pb : PV) (vb : Value) (c : Nat), ps.length - j = k → j ≤ ps.length → (∀ a o, B a = some o → s.heap.get? a = some o) → s.heap.IsList l vs.toArray → s.heap.IsListIter I l j → VR B pb vb → pb ∈ ps →
    s.heap.get? S = some { cls := .type "list", dict := none, data := .seq #[vb, vb] c, slots := #[] } →
    (∀ v h' tk, VR B ((ps.drop j).foldl mnf pb) v → (∀ b o, b ≠ I → b ≠ S → s.heap.get? b = some o → h'.get? b = some o) → R (.ok (.ret v)) { s with heap := h', toks := tk }) →
    codeAny (model prog w) A (.builtin "min.loop" ⟨[.ref I, .none, .ref S], []⟩) R s := by
  have hname : (toString "min" ++ toString ".loop" : String) = "min.loop" := by decide
  intro k
  induction k with
  | zero =>
    intro j s pb vb c hk hj hB hl hit rb hm hS hR
    have hjn : j = ps.length := by omega
    refine codeAny_builtin F.entry_min_loop ?_
    rw [Around.under_plainId F.plain_min_loop _]
    show wpAny _ A.in1 (seqItems? (.ref S) >>= _) _ _ s
    refine wpAny_bind (wpAny_seqItems hS rfl ?_)
    show wpAny _ A.in1 (tryCatch (pyNext (.ref I)) _ >>= _) _ _ s
    refine wpAny_bind (wpAny_tryCatch (wpAny_pyNext_list_end (A := A.in1) hh hit hl (Array.getElem?_eq_none (by simp [r.length]; omega)) fun h' hk' => ?_))
    have hS' := hk' S _ (Ne.symm hIS) hS
    show wpAny _ A.in1 (updateSeq S (fun _ => #[]) >>= _) _ _ _
    refine wpAny_bind ?_
    refine wpAny_updateSeq hS' rfl (wpAny_bind (wpAny_letGo (wpAny_pure ?_)))
    refine hR vb _ _ ?_ fun b o hbI hbS e => (Heap.get?_update_other _ _ (Ne.symm hbS)).trans (hk' b o hbI e)
    rw [hjn, List.drop_length]; exact rb
  | succ k ih =>
    intro j s pb vb c hk hj hB hl hit rb hm hS hR
    have hlt : j < ps.length := by omega
    obtain ⟨v, hv, rv⟩ := r.get (i := j) (p := ps[j]) (by simp [hlt])
    have hmj : ps[j] ∈ ps := List.getElem_mem hlt
    refine codeAny_builtin F.entry_min_loop ?_
    rw [Around.under_plainId F.plain_min_loop _]
    show wpAny _ A.in1 (seqItems? (.ref S) >>= _) _ _ s
    refine wpAny_bind (wpAny_seqItems hS rfl ?_)
    show wpAny _ A.in1 (tryCatch (pyNext (.ref I)) _ >>= _) _ _ s
    refine wpAny_bind (wpAny_tryCatch (wpAny_pyNext_list_item hit hl (by simpa using hv) fun h' hit' hsb => ?_))
    have hS' := (hsb.2 S (Ne.symm hIS)).trans hS
    have hl' : h'.IsList l vs.toArray := let ⟨o, ho, rr⟩ := hl; ⟨o, (hsb.2 l hlI).trans ho, rr⟩
    have hB' : ∀ a o, B a = some o → h'.get? a = some o := fun a o e => (hsb.2 a (fun q => by rw [q, hIB] at e; cases e)).trans (hB a o e)
    show wpAny _ A.in1 (tryCatch (holding [v, v] (richCompare .Lt v vb >>= _)) _ >>= _) _ _ _
    refine wpAny_bind (wpAny_tryCatch (wpAny_holding (wpAny_bind (lt_at n ps[j] pb A.in1 _ _ v vb _ (hs _ hmj _ hm) hB' rv rb hu ?_))))
    refine wpAny_bind (wpAny_holding (wpAny_truthy_bool ?_))
    refine wpAny_bind (wpAny_letGo (wpAny_pure ?_))
    have hdrop : ps.drop j = ps[j] :: ps.drop (j + 1) := List.drop_eq_getElem_cons hlt
    rw [hdrop, List.foldl_cons] at hR
    cases hb : plt ps[j] pb with
    | true =>
      simp only [if_true]
      refine wpAny_bind ?_
      refine wpAny_updateSeq hS' rfl (wpAny_bind (wpAny_letGo ?_))
      rw [hname]
      have oth : ∀ b o, b ≠ S → h'.get? b = some o → (h'.update S (Obj.mapSeq fun _ => #[v, v])).get? b = some o := fun b o hb' e => (Heap.get?_update_other _ _ (Ne.symm hb')).trans e
      refine wpAny_pure ⟨plainId_quiet F.plain_min_loop _, ih (j + 1) _ ps[j] v _ (by omega) hlt (fun a o e => oth a o (fun q => by rw [q, hSB] at e; cases e) (hB' a o e)) (let ⟨o, ho, rr⟩ := hl'; ⟨o, oth l o hlS ho, rr⟩)
        (let ⟨o, ho, rr⟩ := hit'; ⟨o, oth I o hIS ho, rr⟩) rv hmj (Heap.get?_update_self _ hS' rfl) fun v' h'' tk'' hP' hk'' => ?_⟩
      refine hR v' h'' tk'' (by unfold mnf at hP' ⊢; rw [if_pos hb]; exact hP') fun b o hbI hbS e => hk'' b o hbI hbS (oth b o hbS ((hsb.2 b hbI).trans e))
    | false =>
      simp only [Bool.false_eq_true, if_false]
      refine wpAny_bind (wpAny_letGo ?_)
      rw [hname]
      refine wpAny_pure ⟨plainId_quiet F.plain_min_loop _, ih (j + 1) _ pb vb c (by omega) hlt hB' hl' hit' rb hm hS' fun v' h'' tk'' hP' hk'' => ?_⟩
      exact hR v' h'' tk'' (by unfold mnf at hP' ⊢; rw [if_neg (by rw [hb]; decide)]; exact hP') fun b o hbI hbS e => hk'' b o hbI hbS ((hsb.2 b hbI).trans e)

theorem min_first {B : Store} {A : Around} {R : Result → Shared → Prop} {l I S : Addr} {vs : List Value} {p : PV} {ps : List PV} {n c : Nat} {s : Shared} (hh : A.handled = none) (hu : A.units + 1 + n + n + 1 < cLine) (r : VRs B (p :: ps) vs) (hs : ∀ x ∈ p :: ps, ∀ y ∈ p :: ps, Shp n x y)
    (hlI : l ≠ I) (hlS : l ≠ S) (hIS : I ≠ S) (hSB : B S = none) (hIB : B I = none) (hB : ∀ a o, B a = some o → s.heap.get? a = some o) (hl : s.heap.IsList l vs.toArray) (hit : s.heap.IsListIter I l 0)
    (hS : s.heap.get? S = some { cls := .type "list", dict := none, data := .seq #[] c, slots := #[] })
    (hR : ∀ v h' tk, VR B (minP (p :: ps)) v → (∀ b o, b ≠ I → b ≠ S → s.heap.get? b = some o → h'.get? b = some o) → R (.ok (.ret v)) { s with heap := h', toks := tk }) :
    codeAny (model prog w) A (.builtin "min.loop" ⟨[.ref I, .none, .ref S], []⟩) R s := by
  have hname : (toString "min" ++ toString ".loop" : String) = "min.loop" := by decide
  obtain ⟨v, vs', rfl, rv, r'⟩ := id r.cons_inv
  refine codeAny_builtin F.entry_min_loop ?_
  rw [Around.under_plainId F.plain_min_loop _]
  show wpAny _ A.in1 (seqItems? (.ref S) >>= _) _ _ s
  refine wpAny_bind (wpAny_seqItems hS rfl ?_)
  show wpAny _ A.in1 (tryCatch (pyNext (.ref I)) _ >>= _) _ _ s
  refine wpAny_bind (wpAny_tryCatch (wpAny_pyNext_list_item hit hl (x := v) (by simp) fun h' hit' hsb => ?_))
  have hS' := (hsb.2 S (Ne.symm hIS)).trans hS
  have hl' : h'.IsList l (v :: vs').toArray := let ⟨o, ho, rr⟩ := hl; ⟨o, (hsb.2 l hlI).trans ho, rr⟩
  have hB' : ∀ a o, B a = some o → h'.get? a = some o := fun a o e => (hsb.2 a (fun q => by rw [q, hIB] at e; cases e)).trans (hB a o e)
  show wpAny _ A.in1 (updateSeq S (fun _ => #[v, v]) >>= _) _ _ _
  refine wpAny_bind ?_
  refine wpAny_updateSeq hS' rfl ?_
  rw [hname]
  have oth : ∀ b o, b ≠ S → h'.get? b = some o → (h'.update S (Obj.mapSeq fun _ => #[v, v])).get? b = some o := fun b o hb' e => (Heap.get?_update_other _ _ (Ne.symm hb')).trans e
  refine wpAny_pure ⟨plainId_quiet F.plain_min_loop _, min_loop hh hu r hs hlI hlS hIS hSB hIB _ 1 _ p v _ rfl (by simp) (fun a o e => oth a o (fun q => by rw [q, hSB] at e; cases e) (hB' a o e)) (let ⟨o, ho, rr⟩ := hl'; ⟨o, oth l o hlS ho, rr⟩)
    (let ⟨o, ho, rr⟩ := hit'; ⟨o, oth I o hIS ho, rr⟩) rv (.head _) (Heap.get?_update_self _ hS' rfl) fun v' h'' tk'' hP' hk'' => ?_⟩
  exact hR v' h'' tk'' (by simpa [minP] using hP') fun b o hbI hbS e => hk'' b o hbI hbS (oth b o hbS ((hsb.2 b hbI).trans e))
end

section
variable {prog : Program} {w : World} {Kf : Frag} {sc : Scope} {C : Cx prog w Kf sc} {l : List (Option PV)} {Δ : Led} {Q : PV → Led → Prop}
  {Qn : List (Option PV) → Led → Prop} {Qr : PV → Led → Prop}
theorem BC_min {p : PV} {ps : List PV} (n : Nat) (hp : LstV Δ p ps) (q : Q (minP ps) Δ) (hne : ps ≠ []) (hs : ∀ x ∈ ps, ∀ y ∈ ps, Shp n x y) (hn : n ≤ 20 := by decide) : BC C (.builtin "min") [p] l Δ Q := fun B h tk vs a r => by
  obtain ⟨v, vs', rfl, r1, r2⟩ := r.cons_inv
  rw [r2.nil_inv]
  obtain ⟨b, us, m, rfl, ho, r3⟩ := a.lst hp r1
  obtain ⟨x, xs, rfl⟩ : ∃ x xs, ps = x :: xs := by cases ps with | nil => exact absurd rfl hne | cons x xs => exact ⟨x, xs, rfl⟩
  have hname : (toString "min" ++ toString ".loop" : String) = "min.loop" := by decide
  refine call_function_tree F.kind_min F.plain_min F.entry_min (F.args_min1 _) ?_
  show wpAny _ C.A.in1 (Builtin.Builtins.bindParams "min" ["key", "default"] 0 ⟨[], []⟩ >>= _) _ _ _
  refine wpAny_bind (wpAny_of_eq (show Builtin.Builtins.bindParams "min" ["key", "default"] 0 ⟨[], []⟩ = pure [none, none] from rfl) ?_)
  refine wpAny_bind (wpAny_pure ?_)
  have hl : h.IsList b us.toArray := ⟨_, ho, rfl, m, rfl⟩
  have hlt := Heap.lt_size ho
  refine wpAny_bind (wpAny_pyIter_list (s := { C.s with heap := h, toks := tk }) hl ?_)
  refine wpAny_bind (wpAny_newObj_type ?_)
  rw [hname]
  generalize hoi : ({ cls := .type "list_iterator", data := .fields #[.ref b, .int 0 0] } : Obj) = oi
  have g1 : (h.push oi).objs.size = h.objs.size + 1 := Heap.size_push ..
  have k1 : ∀ c o, h.get? c = some o → ((h.push oi).push { cls := .type "list", data := .seq ([] : List Value).toArray }).get? c = some o := fun c o e => Heap.get?_push_of_some _ (Heap.get?_push_of_some _ e)
  have off := a.offNew
  have offB : ∀ c, h.objs.size ≤ c → B c = none := fun c hc => by
    cases e : B c with
    | none => rfl
    | some o => exact absurd (Heap.lt_size (a.base.keepB _ _ e)) (Nat.not_lt.mpr hc)
  refine wpAny_pure ⟨plainId_quiet F.plain_min_loop _, ?_⟩
  refine min_first (S := (h.push oi).objs.size) (s := { C.s with heap := (h.push oi).push { cls := .type "list", data := .seq ([] : List Value).toArray }, toks := tk }) C.hand (by have := C.units; omega) r3 hs (Nat.ne_of_lt hlt) (by rw [g1]; exact Nat.ne_of_lt (Nat.lt_succ_of_lt hlt))
    (by rw [g1]; exact Nat.ne_of_lt (Nat.lt_succ_self _)) (offB _ (by rw [g1]; exact Nat.le_succ _)) (offB _ (Nat.le_refl _)) (fun c o e => k1 c o (a.base.keepB c o e)) ⟨_, k1 _ _ ho, rfl, m, rfl⟩ ?_ (Heap.get?_push_size _ rfl) fun v' h' tk' rv k => ?_
  · subst hoi
    exact ⟨_, Heap.get?_push_of_some _ (Heap.get?_push_size _ rfl), rfl, rfl⟩
  · refine .now (a.grow fun c o e => k c o ?_ ?_ (k1 c o e)) rv q
    · exact Nat.ne_of_lt (Heap.lt_size e)
    · rw [g1]; exact Nat.ne_of_lt (Nat.lt_succ_of_lt (Heap.lt_size e))
end
end Mine

namespace Mine
noncomputable def KasOk {α : Type} (n : Nat) (P : α → Prop) : KasT α → Prop
  | .ret a => P a
  | .ask i j k => i < n ∧ j < n ∧ ∀ b, KasOk n P (k b)
theorem KasOk.bind {α β : Type} {n : Nat} {P : α → Prop} {R : β → Prop} {f : α → KasT β} (hf : ∀ a, P a → KasOk n R (f a)) : ∀ (t : KasT α), KasOk n P t → KasOk n R (t.bind f)
  | .ret a, h => hf a h
  | .ask i j k, h => ⟨h.1, h.2.1, fun b => KasOk.bind hf (k b) (h.2.2 b)⟩
noncomputable def PermR (n : Nat) (p : Array Nat) : Prop := p.toList.Perm (List.range n)
theorem PermR.lt {n : Nat} {p : Array Nat} (h : PermR n p) (hn : 0 < n) (i : Nat) : p.getD i 0 < n := by
  unfold Array.getD
  split
  · rename_i hi
    have : p[i] ∈ p.toList := by simp
    have := h.mem_iff.mp this
    simpa using this
  · exact hn
theorem PermR.rev {n : Nat} {p : Array Nat} (h : PermR n p) (i j : Nat) : PermR n (kas_rev p i j) := ((mirror_perm p i j _).toList).trans h
theorem PermR.bub {n : Nat} {p : Array Nat} (h : PermR n p) (i j : Nat) : PermR n (bubble p i j) := ((bubble_perm p i j).toList).trans h
section
variable {n : Nat} (hn : 0 < n)
include hn
theorem ok_asc {p : Array Nat} (h : PermR n p) : ∀ f k, KasOk n (fun _ : Nat => True) (kas_asc p f k)
  | 0, _ => trivial
  | f + 1, k => ⟨h.lt hn _, h.lt hn _, fun b => by cases b; exact ok_asc h f (k + 1); exact trivial⟩
theorem ok_desc : ∀ f (p : Array Nat) k q, PermR n p → KasOk n (fun r : Array Nat × Nat × Nat => PermR n r.1) (kas_desc f p k q)
  | 0, _, _, _, h => h
  | f + 1, p, k, q, h => by
    refine ⟨h.lt hn _, h.lt hn _, fun b => ?_⟩
    cases b
    · simp only [Bool.false_eq_true, if_false]
      refine ⟨h.lt hn _, h.lt hn _, fun c => ?_⟩
      cases c
      · exact ok_desc f p _ _ h
      · exact h
    · simp only [if_true]
      split
      · exact ok_desc f _ _ _ (h.rev _ _)
      · exact ok_desc f _ _ _ h
theorem ok_tail3 {p : Array Nat} (h : PermR n p) (a b : Nat) : KasOk n (fun r : Nat × Array Nat => PermR n r.2) (kas_tail3 a b p) :=
  KasOk.bind (n := n) (P := fun _ => True) (R := fun r : Nat × Array Nat => PermR n r.2) (f := fun m => .ret (m, kas_rev p 0 a)) (fun m _ => show PermR n (kas_rev p 0 a) from h.rev _ _) _ (ok_asc hn (h.rev _ _) _ _)
theorem ok_descPart {p : Array Nat} (h : PermR n p) (a b : Nat) : KasOk n (fun r : Nat × Array Nat => PermR n r.2) (kas_descPart a b p) := by
  refine KasOk.bind (fun r hr => ?_) _ (ok_desc hn _ _ _ _ h)
  split
  · exact ok_tail3 hn (hr.rev _ _) _ _
  · exact ok_tail3 hn hr _ _
theorem ok_count {p : Array Nat} (h : PermR n p) (a : Nat) : KasOk n (fun r : Nat × Array Nat => PermR n r.2) (kas_count a p) := by
  refine KasOk.bind (fun r _ => ?_) _ (ok_asc hn h _ _)
  split
  · exact h
  · split
    · refine ⟨h.lt hn _, h.lt hn _, fun b => ?_⟩
      cases b
      · exact ok_descPart hn (h.rev _ _) _ _
      · exact h
    · exact ok_descPart hn h _ _
theorem ok_place {p : Array Nat} (h : PermR n p) (k : Nat) : ∀ f l r, KasOk n (fun _ : Nat => True) (kas_place p k f l r)
  | 0, _, _ => trivial
  | f + 1, l, r => by
    unfold kas_place
    split
    · trivial
    · refine ⟨h.lt hn _, h.lt hn _, fun b => ?_⟩
      cases b <;> exact ok_place h k f _ _
theorem ok_bin : ∀ f (p : Array Nat) k, PermR n p → KasOk n (PermR n) (kas_bin f p k)
  | 0, _, _, h => h
  | f + 1, p, k, h => KasOk.bind (fun l _ => ok_bin f _ _ (h.bub _ _)) _ (ok_place hn h _ _ _ _)
theorem ok_sort : KasOk n (PermR n) (kas_sort n) := by
  refine KasOk.bind (fun r hr => ?_) _ (ok_count hn (by unfold PermR; simp) _)
  split
  · exact ok_bin hn _ _ _ hr
  · exact hr
end
theorem kasWp_any {α : Type} {n : Nat} {P : α → Prop} {cmp : Nat → Nat → (Bool → Shared → Prop) → Shared → Prop} {s : Shared} (hc : ∀ i j (C : Bool → Shared → Prop), i < n → j < n → (∀ b, C b s) → cmp i j C s) {Q : α → Shared → Prop} (hq : ∀ a, P a → Q a s) :
    ∀ (t : KasT α), KasOk n P t → t.kasWp cmp Q s
  | .ret a, h => hq a h
  | .ask i j k, h => hc i j _ h.1 h.2.1 fun b => kasWp_any hc hq (k b) (h.2.2 b)

theorem VRs.permute {B : Store} {ps : List PV} {vs : List Value} (r : VRs B ps vs) : ∀ (is : List Nat), (∀ i ∈ is, i < ps.length) → VRs B (is.map fun i => ps.getD i .none) (is.map fun i => vs.getD i .none)
  | [], _ => .nil
  | i :: is, h => by
    have hi := h i (.head _)
    obtain ⟨v, e, rv⟩ := r.get (i := i) (p := ps[i]) (by simp [hi])
    refine .cons ?_ (VRs.permute r is fun j hj => h j (.tail _ hj))
    have e1 : vs.getD i Value.none = v := by simp [e]
    have e2 : ps.getD i PV.none = ps[i] := by simp [hi]
    show VR B (ps.getD i PV.none) (vs.getD i Value.none)
    rw [e1, e2]; exact rv
theorem permute_perm {ps : List PV} {p : Array Nat} (h : PermR ps.length p) : (p.toList.map fun i => ps.getD i .none).Perm ps := by
  have h1 : (p.toList.map fun i => ps.getD i .none).Perm ((List.range ps.length).map fun i => ps.getD i .none) := h.map _
  have h2 : (List.range ps.length).map (fun i => ps.getD i .none) = ps := by
    apply List.ext_getElem (by simp)
    intro i h1 h2
    simp at h1
    simp [h1]
  rw [h2] at h1; exact h1

noncomputable def isPair (p : PV) : Prop := ∃ i j, p = .tup [.int i, .int j]
section
variable {prog : Program} {w : World}
theorem pair_in {B : Store} {h : Heap} (hB : ∀ a o, B a = some o → h.get? a = some o) {p : PV} {v : Value} (hp : isPair p) (r : VR B p v) : ∃ a o n x y t u, v = .ref a ∧ h.get? a = some o ∧ o.cls = .type "tuple" ∧ o.data = .seq #[.int x t, .int y u] n := by
  obtain ⟨i, j, rfl⟩ := hp
  obtain ⟨a, vs, o, n, rfl, h1, h2, h3, h4⟩ := r.tup_inv
  obtain ⟨v1, vs1, rfl, r1, r2⟩ := h4.cons_inv
  obtain ⟨v2, vs2, rfl, r3, r4⟩ := r2.cons_inv
  rw [r4.nil_inv] at h3
  obtain ⟨t, rfl⟩ := r1.int_inv
  obtain ⟨u, rfl⟩ := r3.int_inv
  exact ⟨a, o, n, i, j, t, u, rfl, hB _ _ h1, h2, h3⟩
theorem pairs_tups {B : Store} {h : Heap} (hB : ∀ a o, B a = some o → h.get? a = some o) : ∀ {ps : List PV} {vs : List Value}, (∀ p ∈ ps, isPair p) → VRs B ps vs → ∃ fs, KatTups h vs fs ∧ fs.length = ps.length ∧ ∀ v ∈ fs, ∃ x t, v = Value.int x t
  | [], _, _, r => by rw [r.nil_inv]; exact ⟨[], .nil, rfl, fun _ h => nomatch h⟩
  | p :: ps, _, hp, r => by
    obtain ⟨v, vs, rfl, r1, r2⟩ := r.cons_inv
    obtain ⟨fs, h1, h2, h3⟩ := pairs_tups hB (fun q hq => hp q (.tail _ hq)) r2
    obtain ⟨a, o, n, x, y, t, u, rfl, e1, e2, e3⟩ := pair_in hB (hp p (.head _)) r1
    exact ⟨_, .cons e1 e2 e3 rfl h1, by simp [h2], fun v hv => by
      rcases List.mem_cons.mp hv with rfl | hv
      · exact ⟨x, t, rfl⟩
      · exact h3 v hv⟩
theorem ask_any {B : Store} {s : Shared} {A : Around} (hB : ∀ a o, B a = some o → s.heap.get? a = some o) {ps : List PV} {vs : List Value} (hp : ∀ p ∈ ps, isPair p) (r : VRs B ps vs) {i j : Nat} {C : Bool → Shared → Prop} (hi : i < ps.length) (hj : j < ps.length) (hC : ∀ b, C b s) :
    kas_ask prog w A (tuples' true) vs i j C s := by
  obtain ⟨v, e1, r1⟩ := r.get (i := i) (p := ps[i]) (by simp [hi])
  obtain ⟨u, e2, r2⟩ := r.get (i := j) (p := ps[j]) (by simp [hj])
  obtain ⟨a, o, n, x, y, t, t', rfl, f1, f2, f3⟩ := pair_in hB (hp _ (List.getElem_mem hi)) r1
  obtain ⟨a', o', n', x', y', t1, t2, rfl, g1, g2, g3⟩ := pair_in hB (hp _ (List.getElem_mem hj)) r2
  unfold kas_ask
  rw [show vs.getD i Value.none = .ref a by simp [e1], show vs.getD j Value.none = .ref a' by simp [e2]]
  refine kat_lt f1 f3 g1 g3 ?_
  refine kat_cons (wpAny_eqBool_int (kat_go (fun _ => kat_yes (kat_cons (wpAny_eqBool_int (kat_go (fun _ => kat_yes (kat_nil (hC _))) fun _ => kat_no (kat_one _ _ (PyProof.Rows.lt_int (hC _))))))) fun _ => kat_no (PyProof.Rows.oneLt_int (hC _))))

theorem sort_pairs {B : Store} {s : Shared} {A : Around} {E : Value → Shared → Prop} {L D : Addr} {m : Str → Option Value} {rest : List (Addr × Obj)} {ps : List PV} {vs : List Value} {n : Nat} {Q : Value → Shared → Prop} (F : Fr E0 L s.heap m) (N : News E0 L s.heap ((D, listOf vs.toArray n) :: rest)) (hD : ∀ q ∈ rest, q.1 ≠ D)
    (hB : ∀ a o, B a = some o → (a, o) ∈ rest) (hp : ∀ p ∈ ps, isPair p) (r : VRs B ps vs) (h2 : 2 ≤ ps.length) (h64 : ps.length < 64)
    (h : ∀ h' ps' vs' c, Fr E0 L h' m → News E0 L h' ((D, listOf vs'.toArray c) :: rest) → VRs B ps' vs' → ps'.Perm ps → Q .none { s with heap := h' }) :
    wpAny (model prog w) A (call (.builtin "list.sort") [.ref D]) Q E s := by
  have hl := r.length
  refine kat_lsort (vs := vs) F N (.head hD) (by simp) (by omega) (by omega) fun e1 h' F' N' => ?_
  have hB' : ∀ a o, B a = some o → h'.get? a = some o := fun a o e => (N' (a, o) (.tail _ (hB a o e))).1
  obtain ⟨fs, t1, t2, t3⟩ := pairs_tups hB' hp r
  refine kat_kind (s := { s with heap := h' }) (T := .type "int") t1 (by rw [t2]; omega) (fun v hv => by obtain ⟨x, t, rfl⟩ := t3 v hv; exact Looks.of_pure rfl) (by decide) ?_
  rw [show (Value.type "int" != Value.type "tuple") = true by decide]
  refine kasWp_any (n := ps.length) (P := PermR ps.length) (fun i j C hi hj hC => ask_any (s := { s with heap := h' }) hB' hp r hi hj hC) (fun p hpm => ?_) _ (by rw [hl]; exact ok_sort (by omega))
  refine KasFin.intro F' N' (.head hD) fun h'' c F'' N'' => ?_
  exact h h'' _ _ c F'' N'' (r.permute p.toList fun i hi => by have := hpm.mem_iff.mp hi; simpa using this) (permute_perm hpm)
end
end Mine

namespace Mine
section
variable {prog : Program} {w : World}
theorem kdl_raw {d : Addr} {o : Obj} {es : Array DictEntry} {ep : Nat} (lo : (d == sysModules) = false) (hc : o.cls = .type "dict") (hd : o.data = .dict es ep) :
    KdlSrc prog w "dict" d d es.size (fun i v => ∃ e : DictEntry, es[i]? = some e ∧ v = e.key) (fun h => h.get? d = some o) where
  type := fun _ ho => ⟨o, ho, hc⟩
  there := fun _ ho => ⟨Heap.lt_size ho, Heap.lt_size ho⟩
  keep := fun _ _ ho hk => hk d (.inl rfl) o ho
  notList := by decide
  notTuple := by decide
  hint := fun _ _ _ _ ho hq => kdl_hint_dict ⟨o, ho, hc⟩ hq
  iter := fun A s hh ho => by
    refine ⟨_, fun i h => (∃ oI, h.get? s.heap.objs.size = some oI ∧ oI.cls = .type "dict_keyiterator" ∧ oI.data = .fields #[.ref d, .int (i : Nat) 0, .int es.size 0, .int ep 0]) ∧ h.get? d = some o, fun E Q hq => pyIter_raw lo ho hc hd hq, ⟨?_, ?_, ?_, ?_, ?_⟩, ⟨⟨_, Heap.get?_push_size _ rfl, rfl, rfl⟩, Heap.get?_push_of_some _ ho⟩⟩
    · intro b hb; rw [List.mem_singleton.mp hb]; exact .head _
    · rintro i h h' ⟨⟨oI, e1, e2⟩, e3⟩ hk
      exact ⟨⟨oI, hk _ (.head _) _ e1, e2⟩, hk _ (.tail _ (.head _)) _ e3⟩
    · rintro i s' Q E hi ⟨⟨oI, e1, e2, e3⟩, e4⟩ hQ
      refine pyNext_raw_item e1 e2 e3 e4 hd (e := es[i]) (by simp [hi]) fun h' o' g1 g2 g3 hs => ?_
      refine hQ _ h' s'.toks ⟨es[i], by simp [hi], rfl⟩ ⟨⟨o', g1, g2, g3⟩, (hs.2 d ?_).trans e4⟩ fun b ob hb e => (hs.2 b (by simpa using hb)).trans e
      rintro rfl; rw [e1] at e4; cases e4; rw [hc] at e2; exact absurd e2 (by decide)
    · rintro s' Q E ⟨⟨oI, e1, e2, e3⟩, e4⟩ hQ
      exact pyNext_raw_end hh e1 e2 e3 e4 hd fun h' hk => hQ h' s'.toks fun b ob hb e => hk b ob (by simpa using hb) e
    · rintro i s' Q E ⟨⟨oI, e1, e2, e3⟩, e4⟩ hq
      exact wpAny_pyIter_keyiter (it := s.heap.objs.size) (d := d) (i := i) (n := es.size) (ep := ep) ⟨oI, e1, e2, e3⟩ hq
theorem keys_vrs {B : Store} {es : Array DictEntry} {its : List PV} {acc : List Value} (hl : acc.length = its.length) (hk : ∀ (i : Nat) (x : PV), its[i]? = some x → ∃ e : DictEntry, es[i]? = some e ∧ VR B x e.key) (ha : ∀ (j : Nat) (v : Value), acc[j]? = some v → ∃ e : DictEntry, es[j]? = some e ∧ v = e.key) : VRs B its acc := by
  have key : ∀ (its : List PV) (acc : List Value), acc.length = its.length → (∀ (i : Nat) (x : PV) (v : Value), its[i]? = some x → acc[i]? = some v → VR B x v) → VRs B its acc := by
    intro its
    induction its with
    | nil => intro acc h _; rw [List.length_eq_zero_iff.mp h]; exact .nil
    | cons x its ih =>
      intro acc h k
      cases acc with
      | nil => simp at h
      | cons v acc => exact .cons (k 0 x v rfl rfl) (ih acc (by simpa using h) fun i y u e1 e2 => k (i + 1) y u (by simpa using e1) (by simpa using e2))
  refine key its acc hl fun i x v e1 e2 => ?_
  obtain ⟨e, f1, f2⟩ := hk i x e1
  obtain ⟨e', g1, rfl⟩ := ha i v e2
  rw [f1] at g1; cases g1; exact f2
theorem ints_of {B : Store} : ∀ {ns : List Int} {vs : List Value}, VRs B (ns.map PV.int) vs → IntsAre vs ns
  | [], _, r => by rw [r.nil_inv]; exact .nil
  | n :: ns, _, r => by
    obtain ⟨v, vs, rfl, r1, r2⟩ := r.cons_inv
    obtain ⟨t, rfl⟩ := r1.int_inv
    exact .cons _ _ (ints_of r2)
theorem of_ints {B : Store} {vs : List Value} {ns : List Int} (h : IntsAre vs ns) : VRs B (ns.map PV.int) vs := by
  induction h with
  | nil => exact .nil
  | cons _ _ _ ih => exact .cons .int ih
end

section
variable {prog : Program} {w : World} {Kf : Frag} {sc : Scope} {C : Cx prog w Kf sc} {l : List (Option PV)} {Δ : Led} {Q : PV → Led → Prop}
  {Qn : List (Option PV) → Led → Prop} {Qr : PV → Led → Prop}

theorem BC_listD {b : Addr} {ep : Nat} {kvs : List (Int × PV)} (hb : Δ b = some (.dictI ep kvs)) (q : MadeL Δ (kvs.map fun x => .int x.1) Q) (hz : kvs.length ≤ 1000) : BC C (.type "list") [.obj b] l Δ Q := fun B h tk vs a r => by
  obtain ⟨v, vs', rfl, r1, r2⟩ := r.cons_inv
  rw [r2.nil_inv, r1.obj_inv]
  obtain ⟨o, ho, hm⟩ := a.base.owned b _ hb
  obtain ⟨es, h1, h2, h3, h4⟩ := hm.entriesI
  refine kdl_call (s := { C.s with heap := h, toks := tk }) (kdl_raw (a.base.big b _ hb) h1 h2) C.hand ho (by rw [h3, sizeLine_eq]; omega) fun h' tk' acc c k hD hacc => ?_
  refine Post.madeL (vs := acc.toList) (n := c) a (a.grow k) (Nat.le_refl _) (by rw [hD]; simp [listObj]) (keys_vrs (es := es) (by simp [hacc.1, h3]) h4 fun j v e => hacc.2 j v (by rw [← Array.getElem?_toList]; exact e)) q

theorem BC_sortedT {b : Addr} {ep : Nat} {kvs : List ((Int × Int) × PV)} (hb : Δ b = some (.dictT ep kvs)) (q : ∀ ps, ps.Perm (kvs.map fun x => PV.tup [.int x.1.1, .int x.1.2]) → Q (.list ps) Δ) (h2 : 2 ≤ kvs.length) (h64 : kvs.length < 64) : BC C (.builtin "sorted") [.obj b] l Δ Q := fun B h tk vs a r => by
  obtain ⟨v, vs', rfl, r1, r2⟩ := r.cons_inv
  rw [r2.nil_inv, r1.obj_inv]
  obtain ⟨o, ho, hm⟩ := a.base.owned b _ hb
  obtain ⟨es, e1, e2, e3, e4⟩ := hm.entriesT
  obtain ⟨m, F, grow, _⟩ := a.bridge
  have off : ∀ c o, B c = some o → c ≠ C.env.locals := fun c o e q => by rw [q, (a.base.offO _ C.locOwn).2.1] at e; cases e
  refine kdu_sorted (s := { C.s with heap := h, toks := tk }) (kdl_raw (a.base.big b _ hb) e1 e2) C.hand F (news_rest (S := [C.env.locals]) (by simp)) ho (by rw [e3, sizeLine_eq]; omega) fun D h' tk' us F' N' lo hl hv => ?_
  have rv : VRs B (kvs.map fun x => PV.tup [.int x.1.1, .int x.1.2]) us := keys_vrs (es := es) (by simp [hl, e3]) e4 hv
  refine sort_pairs (s := { C.s with heap := h', toks := tk' }) F' N' (fun q hq => Nat.ne_of_lt (lo q hq)) (fun c o e => mem_restOf.mpr ⟨by simpa using off c o e, a.base.keepB c o e⟩) (fun p hp => ?_) rv (by simpa using h2) (by simpa using h64) fun h'' ps' us' c F'' N'' r' hp => ?_
  · obtain ⟨x, _, rfl⟩ := List.mem_map.mp hp; exact ⟨_, _, rfl⟩
  · have a' := grow h'' F''.ns fun c o hc e => (N'' (c, o) (.tail _ (mem_restOf.mpr ⟨by simpa using hc, e⟩))).1
    have hD := (N'' _ (.head _)).1
    have out : ∀ c o', h.get? c = some o' → c ≠ D := fun c o' e => by
      by_cases hL : c = C.env.locals
      · rw [hL]; exact Ne.symm (N' _ (.head _)).2.1
      · exact Nat.ne_of_lt (lo (c, o') (mem_restOf.mpr ⟨by simpa using hL, e⟩))
    have big : (D == sysModules) = false := by
      obtain ⟨o3, e3⟩ := a.three
      refine big_of (lo (mainGlobals, o3) (mem_restOf.mpr ⟨?_, e3⟩))
      obtain ⟨mg, _, ⟨o3, _, _, h3, _⟩, _⟩ := C.gnd.ns
      have := C.hK _ _ h3
      intro q; simp at q; rw [q, (a.base.offO _ C.locOwn).1] at this; cases this
    exact Post.madeLD a a' out big hD r' (.inl (q ps' hp))

theorem BC_sortedI {b : Addr} {ep : Nat} {kvs : List (Int × PV)} (hb : Δ b = some (.dictI ep kvs)) (q : ∀ ns : List Int, ns.Perm (kvs.map (·.1)) → Q (.list (ns.map PV.int)) Δ) (h64 : kvs.length < 64) : BC C (.builtin "sorted") [.obj b] l Δ Q := fun B h tk vs a r => by
  obtain ⟨v, vs', rfl, r1, r2⟩ := r.cons_inv
  rw [r2.nil_inv, r1.obj_inv]
  obtain ⟨o, ho, hm⟩ := a.base.owned b _ hb
  obtain ⟨es, e1, e2, e3, e4⟩ := hm.entriesI
  obtain ⟨m, F, grow, _⟩ := a.bridge
  refine kdu_sorted (s := { C.s with heap := h, toks := tk }) (kdl_raw (a.base.big b _ hb) e1 e2) C.hand F (news_rest (S := [C.env.locals]) (by simp)) ho (by rw [e3, sizeLine_eq]; omega) fun D h' tk' us F' N' lo hl hv => ?_
  have rv : VRs B (kvs.map fun x => PV.int x.1) us := keys_vrs (es := es) (by simp [hl, e3]) e4 hv
  have hD := (N' _ (.head _)).1
  have hI : IntsAre us (kvs.map (·.1)) := ints_of (B := B) (by rw [List.map_map]; exact rv)
  refine wpAny_call_entry (s := { C.s with heap := h', toks := tk' }) slot_list_sort ⟨_, hD, rfl⟩ entry_list_sort (list_sort_tree (s := { C.s with heap := h', toks := tk' }) hD hI (by rw [hl, e3]; exact h64) fun out ns' a1 a2 a3 => ⟨_, rfl, ?_⟩) (args_list_sort _)
  have old : ∀ c o, c ≠ D → h'.get? c = some o → (sortedHeap h' D us out).get? c = some o := fun c o hc e => (sortedHeap_old hc (Heap.lt_size e)).trans e
  have a' := grow (sortedHeap h' D us out) (F'.ns.at' fun o e => old _ o (Ne.symm (N' _ (.head _)).2.1) e) fun c o hc e => old c o (Nat.ne_of_lt (lo (c, o) (mem_restOf.mpr ⟨by simpa using hc, e⟩))) (N' (c, o) (.tail _ (mem_restOf.mpr ⟨by simpa using hc, e⟩))).1
  obtain ⟨c, hD'⟩ := sortedHeap_at (n := 0) (out := out) (vs := us) hD
  have out' : ∀ c o', h.get? c = some o' → c ≠ D := fun c o' e => by
    by_cases hL : c = C.env.locals
    · rw [hL]; exact Ne.symm (N' _ (.head _)).2.1
    · exact Nat.ne_of_lt (lo (c, o') (mem_restOf.mpr ⟨by simpa using hL, e⟩))
  have big : (D == sysModules) = false := by
    obtain ⟨o3, e3⟩ := a.three
    refine big_of (lo (mainGlobals, o3) (mem_restOf.mpr ⟨?_, e3⟩))
    obtain ⟨mg, _, ⟨o3, _, _, h3, _⟩, _⟩ := C.gnd.ns
    have := C.hK _ _ h3
    intro q; simp at q; rw [q, (a.base.offO _ C.locOwn).1] at this; cases this
  exact Post.madeLD (vs := out.toList) (n := c) a a' out' big (by rw [hD']; simp [listObj, seqObj]) (of_ints a1) (.inl (q ns' a2))

theorem BC_sortedL {p : PV} {ns : List Int} (hp : LstV Δ p (ns.map PV.int)) (q : ∀ ns' : List Int, ns'.Perm ns → Q (.list (ns'.map PV.int)) Δ) (h64 : ns.length < 64) : BC C (.builtin "sorted") [p] l Δ Q := fun B h tk vs a r => by
  obtain ⟨v, vs', rfl, r1, r2⟩ := r.cons_inv
  rw [r2.nil_inv]
  obtain ⟨b, us, n, rfl, ho, r3⟩ := a.lst hp r1
  refine sorted_ints (s := { C.s with heap := h, toks := tk }) ⟨_, ho, rfl, n, rfl⟩ (ints_of r3) (by rw [r3.length]; simpa using h64) fun out ns' a1 a2 a3 => ?_
  obtain ⟨c, hD⟩ := sortedAll_at h us out
  exact Post.madeL (h' := sortedAll h us out) (vs := out.toList) (n := c) a (a.grow fun c o e => sortedAll_old e) (Nat.le_succ _) (by rw [hD]; simp [listObj, seqObj]) (of_ints a1) (.inl (q ns' a2))
end
end Mine

namespace Mine
theorem compSc_lookup {sc scope : Scope} {i : Nat} {x : Str} {k : NameKind} (h : (compSc sc scope).names[i]? = some (x, k)) : ∃ k₀, scope.names[i]? = some (x, k₀) ∧ k = (if (k₀ == .free && sc.names.lookup x == some .cell) = true then .cell else k₀) := by
  unfold compSc at h
  simp only [List.getElem?_map] at h
  cases e : scope.names[i]? with
  | none => rw [e] at h; cases h
  | some y =>
    rw [e] at h
    obtain ⟨y1, y2⟩ := y
    simp only [Option.map_some, Option.some.injEq] at h
    split at h
    · rename_i q; cases h; exact ⟨y2, rfl, by rw [if_pos q]⟩
    · rename_i q; cases h; exact ⟨k, rfl, by rw [if_neg q]⟩
theorem compSc_fst (sc scope : Scope) : (compSc sc scope).names.map (·.1) = scope.names.map (·.1) := by
  unfold compSc
  rw [List.map_map]
  apply List.map_congr_left
  rintro ⟨n, k⟩ _
  show (if (k == .free && sc.names.lookup n == some .cell) = true then (n, NameKind.cell) else (n, k)).1 = n
  split <;> rfl
theorem compL_at {sc scope : Scope} {l : List (Option PV)} {i : Nat} {p : PV} {x : Str} {k₀ : NameKind} (h : (compL sc l scope)[i]? = some (some p)) (hx : scope.names[i]? = some (x, k₀)) : k₀ = .free ∧ outer sc l x = some p := by
  unfold compL at h
  rw [List.getElem?_map, hx] at h
  simp only [Option.map_some, Option.some.injEq] at h
  split at h
  · rename_i q; exact ⟨by simpa using q, h⟩
  · cases h
theorem outer_at {sc : Scope} {l : List (Option PV)} {x : Str} {p : PV} {k : NameKind} (hn : (sc.names.map (·.1)).Nodup) (h : outer sc l x = some p) (hx : sc.names.lookup x = some k) : ∃ i : Nat, sc.names[i]? = some (x, k) ∧ l[i]? = some (some p) := by
  unfold outer at h
  have hm := mem_of_lookup' hx
  have hlt : sc.names.findIdx (fun y => y.1 == x) < sc.names.length := List.findIdx_lt_length_of_exists ⟨(x, k), hm, by simp⟩
  have hq := List.findIdx_getElem (w := hlt)
  simp at hq
  refine ⟨sc.names.findIdx fun y => y.1 == x, ?_, ?_⟩
  · have e1 : sc.names[sc.names.findIdx fun y => y.1 == x]? = some (x, sc.names[sc.names.findIdx fun y => y.1 == x].2) := by
      rw [List.getElem?_eq_getElem hlt]; congr 1; exact Prod.ext hq rfl
    have e2 := lookup_at hn e1
    rw [hx] at e2; cases e2; exact e1
  · cases e : l[sc.names.findIdx fun y => y.1 == x]? with
    | none => rw [e] at h; cases h
    | some o => rw [e] at h; simp at h; rw [h]

section
variable {prog : Program} {w : World} {Kf : Frag} {sc : Scope} {C : Cx prog w Kf sc} {l : List (Option PV)} {Δ : Led} {Q : PV → Led → Prop}
  {Qn : List (Option PV) → Led → Prop} {Qr : PV → Led → Prop}

structure CompOk (sc scope : Scope) : Prop where
  nocell : ∀ y ∈ scope.names, y.2 ≠ .cell
  kind : scope.kind = .function
  nodup : (scope.names.map (·.1)).Nodup
  free : ∀ y ∈ scope.names, y.2 = .free → sc.names.lookup y.1 = some .cell

theorem CompOk.names {scope : Scope} (ok : CompOk sc scope) : ∀ y ∈ scope.names, y.2 = .local → scope.names.lookup y.1 = some .local := fun y hy e => by
  obtain ⟨i, hi⟩ := List.mem_iff_getElem?.mp hy
  obtain ⟨x, k⟩ := y
  cases e; exact lookup_at ok.nodup hi

noncomputable def Cx.inner (C : Cx prog w Kf sc) (scope : Scope) (cl : List (Str × Addr)) (Lc : Addr) (h : Heap) (ok : CompOk sc scope) (hcl : ∀ x c, cl.lookup x = some c → C.env.cells.lookup x = some c)
    (hown : ∀ a ∈ C.own, ∃ o, h.get? a = some o) (hL : ∀ x c, C.env.cells.lookup x = some c → c ≠ Lc) : Cx prog w Kf (compSc sc scope) :=
  { C.down h with
    env := { newEnv scope Lc C.env.globals cl C.env.qual none .none (some C.env) C.env.builtins with scope := relabel scope C.env }
    own := [Lc]
    hsc := relabel_is C scope
    kind := ok.kind
    globals := C.globals
    builtins := C.builtins
    nodup := by rw [compSc_fst]; exact ok.nodup
    isFn := false
    cellsOwn := fun e => nomatch e
    locOwn := List.mem_singleton.mpr rfl
    locCell := fun x c e => hL x c (hcl x c e)
    cellApart := fun x y c e1 e2 => C.cellApart x y c (hcl x c e1) (hcl y c e2)
    cellKept := fun x c e => .inr (by
      show (downK C.K C.own h c).isSome = true
      unfold downK
      split
      · rfl
      · rename_i q
        rcases C.cellKept x c (hcl x c e) with q' | q'
        · rw [if_pos q']; obtain ⟨o, e⟩ := hown c q'; rw [e]; rfl
        · rw [q] at q'; cases q') }

theorem inner_abs {B : Store} {h h' : Heap} {scope : Scope} {cl : List (Str × Addr)} {Lc : Addr} (x : Abs C B l Δ h) (k : ∀ b o, h.get? b = some o → h'.get? b = some o) (ok : CompOk sc scope) (hcl : ∀ x c, cl.lookup x = some c → C.env.cells.lookup x = some c)
    (hcl' : ∀ x, (x, NameKind.free) ∈ scope.names → ∃ c, cl.lookup x = some c) (hown : ∀ a ∈ C.own, ∃ o, h'.get? a = some o) (hL : ∀ x c, C.env.cells.lookup x = some c → c ≠ Lc) (hfresh : ∀ b o, h.get? b = some o → b ≠ Lc) {m₀ : Str → Option Value} (hn : h'.Ns Lc m₀) :
    Abs (C.inner scope cl Lc h' ok hcl hown hL) B (compL sc l scope) Δ h' := by
  have d := (x.grow k).down
  obtain ⟨m, cm, h1, h2, h3⟩ := x.frame
  have fresh : ∀ b o, h.get? b = some o → b ≠ Lc := hfresh
  refine ⟨⟨d.keepK, d.keepB, d.owned, fun a mm e => ?_, d.big, fun a ha => ?_, d.apart, d.s0⟩, m₀, cm, hn, fun y c e => (h2 y c (hcl y c e)).keeps k, fun i y k p e1 e2 => ?_⟩
  · obtain ⟨o, ho, _⟩ := x.base.owned a mm e
    obtain ⟨q1, q2, _⟩ := d.offΔ a mm e
    exact ⟨q1, q2, fun q => fresh a o ho (List.mem_singleton.mp q)⟩
  · rw [List.mem_singleton.mp ha]
    obtain ⟨oL, _, _, hoL, hdL, _⟩ := hn
    refine ⟨?_, ?_, oL, hoL, notSeq_dict hdL⟩
    · show downK C.K C.own h' Lc = none
      unfold downK
      split
      · rename_i o q; exact absurd rfl (fresh _ o (x.base.keepK _ _ q))
      · split
        · rename_i q; obtain ⟨_, _, o, e, _⟩ := x.base.offO _ q; exact absurd rfl (fresh _ o e)
        · rfl
    · cases e : B Lc with
      | none => rfl
      | some o => exact absurd rfl (fresh _ o (x.base.keepB _ _ e))
  · obtain ⟨k₀, f1, f2⟩ := compSc_lookup e1
    obtain ⟨f3, f4⟩ := compL_at e2 f1
    subst f3
    have f5 := ok.free _ (List.mem_of_getElem? f1) rfl
    rw [f5] at f2
    simp at f2; subst f2
    obtain ⟨j, g1, g2⟩ := outer_at C.nodup f4 f5
    obtain ⟨c, v, g3, g4, g5⟩ := h3 j y .cell p g1 g2
    obtain ⟨c', g6⟩ := hcl' y (List.mem_of_getElem? f1)
    have := hcl y c' g6
    rw [g3] at this; cases this
    exact ⟨c, v, g6, g4, g5⟩
theorem outer_abs {B B' : Store} {l' : List (Option PV)} {Δ' : Led} {h h' h'' : Heap} {scope : Scope} {cl : List (Str × Addr)} {Lc : Addr} {ok : CompOk sc scope} {hcl : ∀ x c, cl.lookup x = some c → C.env.cells.lookup x = some c}
    {hown : ∀ a ∈ C.own, ∃ o, h'.get? a = some o} {hL : ∀ x c, C.env.cells.lookup x = some c → c ≠ Lc} (x : Abs C B l Δ h) (k : ∀ b o, h.get? b = some o → h'.get? b = some o) (hB : B.le B') (hfresh : ∀ b o, h.get? b = some o → b ≠ Lc)
    (y : Abs (C.inner scope cl Lc h' ok hcl hown hL) B' l' Δ' h'') :
    Abs C B' l Δ' h'' := by
  have z : Abs0 (C.down h') [] B' Δ' h'' := ⟨y.base.keepK, y.base.keepB, y.base.owned, fun a m e => ⟨(y.base.offΔ a m e).1, (y.base.offΔ a m e).2.1, fun q => nomatch q⟩, y.base.big, fun a ha => (nomatch ha), y.base.apart, y.base.s0⟩
  exact (x.grow k).up hB z

theorem closure_ok {scope : Scope} (ok : CompOk sc scope) (hf : C.isFn = true ∨ ∀ y ∈ scope.names, y.2 ≠ .free) : ∃ cl, closureFor scope C.env = pure cl ∧ (∀ x c, cl.lookup x = some c → C.env.cells.lookup x = some c) ∧ ∀ x, (x, NameKind.free) ∈ scope.names → ∃ c, cl.lookup x = some c := by
  obtain ⟨cl, e1, e2, e3⟩ := closureFor_some (env := C.env) scope.names [] fun y hy e => by
    rcases hf with hf | hf
    · obtain ⟨c, hc, _⟩ := C.cellsOwn hf y.1 (ok.free y hy e); exact ⟨c, hc⟩
    · exact absurd e (hf y hy)
  refine ⟨cl, ?_, fun x c e => (e2 x c e).resolve_left (fun q => by cases q), fun x hx => e3 x (.inl hx)⟩
  unfold closureFor
  exact (congrArg (fun t => t >>= fun r => pure r) e1).trans rfl
end
end Mine

namespace Mine
section
variable {prog : Program} {w : World} {Kf : Frag} {sc : Scope} {C : Cx prog w Kf sc} {l : List (Option PV)} {Δ : Led} {Q : PV → Led → Prop}
  {Qn : List (Option PV) → Led → Prop} {Qr : PV → Led → Prop}

theorem Off.prot {B : Store} {I J : Addr} {o : Obj} (f : Off C B Δ J) (h : J ≠ I) : Off (C.prot I o) B Δ J :=
  ⟨by show protK C.K I o J = none; simp [protK, f.k, h], f.b, f.d, f.o⟩

noncomputable def CompTurn {scope : Scope} (C' : Cx prog w Kf (compSc sc scope)) (l : List (Option PV)) (target elt : Expr) (ifs : List Expr) (items : List PV) (I : Nat → List PV → Led → Prop) : Prop :=
  ∀ i x acc Δ₁, items[i]? = some x → I i acc Δ₁ → AS C' target x (compL sc l scope) Δ₁ (fun l₂ Δ₂ => lle (compL sc l scope) l₂ ∧
    tests C' ifs l₂ Δ₂ (fun b Δ₃ => if b = true then EV C' elt l₂ Δ₃ (fun y Δ₄ => I (i + 1) (acc ++ [y]) Δ₄) else I (i + 1) acc Δ₃))

inductive CompSt {sc' : Scope} (s0 : Shared) (C₀ : Cx prog w Kf sc') (It D : Addr) (B₁ : Store) (cl : List (Option PV)) (p : PV) (v : Value) (At : Nat → Obj → Prop) (items : List PV) (I : Nat → List PV → Led → Prop) (n : Nat) (s' : Shared) : Prop
  | mk (i : Nat) (h : Heap) (tk : Nat) (B' : Store) (Δ' : Led) (acc : List PV) (vsa : List Value) (na : Nat) (o : Obj) (e : s' = { s0 with heap := h, toks := tk }) (hB : B₁.le B') (a : Abs C₀ B' cl Δ' h) (f : Off C₀ B' Δ' It) (fD : Off C₀ B' Δ' D)
    (g : h.get? It = some o) (ati : At i o) (r : VR B' p v) (gD : h.get? D = some (listObj vsa na)) (ra : VRs B' acc vsa) (hi : i ≤ items.length) (hn : n = items.length - i) (hal : acc.length ≤ i) (inv : I i acc Δ')
theorem comp_core {target iter elt : Expr} {ifs : List Expr} {scope : Scope} {pos : Pos} {E : Value → Shared → Prop} {RR : Value → Addr → Result → Shared → Prop} (ok : CompOk sc scope) {cl : List (Str × Addr)} (hcl : ∀ x c, cl.lookup x = some c → C.env.cells.lookup x = some c)
    (hcl' : ∀ x, (x, NameKind.free) ∈ scope.names → ∃ c, cl.lookup x = some c)
    {B₁ : Store} {h₁ : Heap} {tk₁ : Nat} {p : PV} {v : Value} {mo : Option (Addr × MO)} {items : List PV} {I : Nat → List PV → Led → Prop} (a₁ : Abs C B₁ l Δ h₁) (r : VR B₁ p v) (hs : Src p mo items) (hm : Has Δ mo) (i0 : I 0 [] Δ) (ihas : ∀ i acc Δ₁, I i acc Δ₁ → Has Δ₁ mo) (hlen : items.length ≤ 1000)
    (turn : ∀ C' : Cx prog w Kf (compSc sc scope), C'.room = C.room → CompTurn C' l target elt ifs items I)
    (fin : ∀ acc Δ' B' h tk D Lc vs n m, B₁.le B' → Abs C B' l Δ' h → h₁.objs.size ≤ D → Off C B' Δ' D → Off C B' Δ' Lc → D ≠ Lc → h.get? D = some (listObj vs n) → VRs B' acc vs → h.Ns Lc m → I items.length acc Δ' →
      RR (.ref D) Lc (.ok .next) { C.s with heap := h, toks := tk }) :
    wpAny (model prog w) C.A (pyIter v) (fun it s₂ => wpAny (model prog w) C.A (newList []) (fun acc s₃ => wpAny (model prog w) C.A (newFunctionEnv scope C.env.globals cl [] C.env.qual none .none (some C.env)) (fun cenv s₄ =>
      codeAny (model prog w) C.A (.compStart (.ListComp elt [⟨target, iter, ifs, 0⟩] scope pos) 0 it acc { cenv with scope := relabel scope C.env }) (RR acc cenv.locals) s₄) E s₃) E s₂) E { C.s with heap := h₁, toks := tk₁ } := by
  obtain ⟨At, W, start⟩ := walker_of (prog := prog) (w := w) (A := C.A) hs C.hand v
  refine start { C.s with heap := h₁, toks := tk₁ } B₁ Δ _ _ (a₁.rd r hm) fun o₀ at0 hf => ?_
  refine wpAny_newObj_type ?_
  dsimp only
  generalize hIt : h₁.objs.size = It
  generalize hh1 : h₁.push o₀ = h1'
  have sz1 : h1'.objs.size = It + 1 := by rw [← hh1, Heap.size_push, hIt]
  generalize hD : h1'.objs.size = D
  generalize hh2 : h1'.push { cls := .type "list", data := .seq ([] : List Value).toArray } = h2'
  have sz2 : h2'.objs.size = D + 1 := by rw [← hh2, Heap.size_push, hD]
  refine wpAny_newFunctionEnv (s := { C.s with heap := h2', toks := tk₁ }) ok.nocell (fun x hx => nomatch hx) (fun h3 hns hsb => ?_) ok.kind
  dsimp only at hns hsb ⊢
  generalize hLc : h2'.objs.size = Lc at hns hsb ⊢
  have e1 : It < D := by omega
  have e2 : D < Lc := by omega
  have k2 : ∀ b o, h2'.get? b = some o → h3.get? b = some o := fun b o e => hsb.extBut b o (Nat.ne_of_lt (hLc ▸ Heap.lt_size e)) (Heap.get?_push_of_some _ e)
  have k1 : ∀ b o, h1'.get? b = some o → h3.get? b = some o := fun b o e => k2 b o (hh2 ▸ Heap.get?_push_of_some _ e)
  have k0 : ∀ b o, h₁.get? b = some o → h3.get? b = some o := fun b o e => k1 b o (hh1 ▸ Heap.get?_push_of_some _ e)
  have lt0 : ∀ b o, h₁.get? b = some o → b < It := fun b o e => hIt ▸ Heap.lt_size e
  have hown : ∀ a ∈ C.own, ∃ o, h3.get? a = some o := fun a ha => let ⟨_, _, o, e, _⟩ := a₁.base.offO a ha; ⟨o, k0 _ _ e⟩
  have fresh : ∀ b o, h₁.get? b = some o → b ≠ Lc := fun b o e => Nat.ne_of_lt (Nat.lt_trans (lt0 b o e) (Nat.lt_trans e1 e2))
  have cellIn : ∀ x c, C.env.cells.lookup x = some c → ∃ o, h₁.get? c = some o := fun x c e => by
    rcases C.cellKept x c e with q | q
    · obtain ⟨_, _, o, e, _⟩ := a₁.base.offO c q; exact ⟨o, e⟩
    · obtain ⟨o, q⟩ := Option.isSome_iff_exists.mp q; exact ⟨o, a₁.base.keepK c o q⟩
  have hL : ∀ x c, C.env.cells.lookup x = some c → c ≠ Lc := fun x c e => let ⟨o, q⟩ := cellIn x c e; fresh c o q
  have hI3 : h3.get? It = some o₀ := k1 _ _ (by rw [← hh1, ← hIt]; exact Heap.get?_push_size _ hf)
  have hD3 : h3.get? D = some (listObj [] 0) := k2 _ _ (by rw [← hh2, ← hD]; exact Heap.get?_push_size _ rfl)
  have a0 := inner_abs a₁ k0 ok hcl hcl' hown hL fresh hns
  generalize hC₀ : C.inner scope cl Lc h3 ok hcl hown hL = C₀ at a0
  have cA : C₀.A = C.A := by rw [← hC₀]; rfl
  have cs : C₀.s = C.s := by rw [← hC₀]; rfl
  have croom : C₀.room = C.room := by rw [← hC₀]; rfl
  have cenv : C₀.env = { newEnv scope Lc C.env.globals cl C.env.qual none .none (some C.env) C.env.builtins with scope := relabel scope C.env } := by rw [← hC₀]; rfl
  have cown : C₀.own = [Lc] := by rw [← hC₀]; rfl
  have offs : ∀ d, It ≤ d → d ≠ Lc → Off C₀ B₁ Δ d := fun d hd hn => by
    have out : ∀ b o, h₁.get? b = some o → b ≠ d := fun b o e => Nat.ne_of_lt (Nat.lt_of_lt_of_le (lt0 b o e) hd)
    refine ⟨?_, ?_, ?_, by rw [cown]; simpa using hn⟩
    · rw [← hC₀]
      show downK C.K C.own h3 d = none
      unfold downK
      split
      · rename_i o q; exact absurd rfl (out _ o (a₁.base.keepK _ _ q))
      · split
        · rename_i q; obtain ⟨_, _, o, e, _⟩ := a₁.base.offO _ q; exact absurd rfl (out _ o e)
        · rfl
    · cases e : B₁ d with
      | none => rfl
      | some o => exact absurd rfl (out _ o (a₁.base.keepB _ _ e))
    · cases e : Δ d with
      | none => rfl
      | some m => obtain ⟨o, ho, _⟩ := a₁.base.owned _ _ e; exact absurd rfl (out _ o ho)
  have loop : codeAny (model prog w) C.A (.compLoop (.ListComp elt [⟨target, iter, ifs, 0⟩] scope pos) 0 (.ref It) (.ref D) C₀.env) (RR (.ref D) Lc) { C.s with heap := h3, toks := tk₁ + 0 } := by
    refine codeAny_compLoop_own (CompSt C.s C₀ It D B₁ (compL sc l scope) p v At items I) ?_ items.length
      ⟨0, h3, _, B₁, Δ, [], [], 0, o₀, rfl, Store.le_refl _, a0, offs It (Nat.le_refl _) (by omega), offs D (by omega) (by omega), hI3, at0, r, hD3, .nil, Nat.zero_le _, rfl, Nat.le_refl _, i0⟩
    rintro n s' ⟨i, h, tk, B', Δ', acc, vsa, na, o, rfl, hB, a', fI, fD, gI, at', r', gD, rac, hi, rfl, hal, inv⟩
    have noErr : ∀ e s, (fun _ _ => False : Value → Shared → Prop) e s → notedBy (model prog w) C.A C₀.env (fun e s' => RR (.ref D) Lc (.error e) s') e s := fun _ _ x => x.elim
    have hDI : D ≠ It := by omega
    rcases Nat.lt_or_ge i items.length with hlt | hge
    · obtain ⟨x, hx⟩ : ∃ x, items[i]? = some x := ⟨items[i], by simp [hlt]⟩
      refine W.next i It _ B' Δ' _ _ o x hx (a'.rd r' (ihas _ _ _ inv)) gI at' fun u h₂ tk₂ o₂ ru hsb₂ g₂ at₂ => ?_
      dsimp only
      have a₃ : Abs C₀ B' (compL sc l scope) Δ' h₂ := a'.other fI fun b ob hb e => hsb₂.extBut b ob hb e
      have gD₂ : h₂.get? D = some (listObj vsa na) := (hsb₂.2 D hDI).trans gD
      refine W.go (i + 1) It target u _ _ _ o₂ g₂ at₂ ?_
      have nsI := W.notSeen _ _ at₂
      have a₄ := (a₃.prot fI g₂).prot (fD.prot (o := o₂) hDI) gD₂
      have s0 : C₀.S0.le B' := a'.base.s0
      have done : ∀ B₅ Δ₅ h₅ l₅, lle (compL sc l scope) l₅ → Abs ((C₀.prot It o₂).prot D (listObj vsa na)) B₅ l₅ Δ₅ h₅ → Abs C₀ B₅ (compL sc l scope) Δ₅ h₅ ∧ Off C₀ B₅ Δ₅ It ∧ Off C₀ B₅ Δ₅ D ∧ h₅.get? It = some o₂ ∧ h₅.get? D = some (listObj vsa na) := by
        intro B₅ Δ₅ h₅ l₅ hl5 a6
        obtain ⟨b1, b2, b3⟩ := Abs.unprot (fD.prot (o := o₂) hDI) s0 a6
        obtain ⟨c1, c2, c3⟩ := Abs.unprot fI s0 b1
        refine ⟨c1.drop (Led.le_refl _) hl5, c2, ⟨?_, b2.b, b2.d, b2.o⟩, c3, b3⟩
        have := b2.k
        exact (protK_none this).1
      have cs' : ((C₀.prot It o₂).prot D (listObj vsa na)).s = C.s := cs
      have cA' : ((C₀.prot It o₂).prot D (listObj vsa na)).A = C.A := cA
      have ce' : ((C₀.prot It o₂).prot D (listObj vsa na)).env = C₀.env := rfl
      have cr' : ((C₀.prot It o₂).prot D (listObj vsa na)).room = C.room := croom
      generalize (C₀.prot It o₂).prot D (listObj vsa na) = C₁ at a₄ done cs' cA' ce' cr'
      have T := turn C₁ cr' i x acc Δ' hx inv B' h₂ tk₂ u a₄ ru
      rw [cs', cA', ce'] at T
      refine wpAny_mono T (fun _ s₄ ⟨h₄, tk₄, B₄, Δ₄, l₄, e4, hB4, a5, hl4, q⟩ => ?_) noErr
      rw [cs'] at e4
      subst e4
      have tail : ∀ b B₅ Δ₅ h₅ tk₅, B₄.le B₅ → Abs C₁ B₅ l₄ Δ₅ h₅ → (if b = true then EV C₁ elt l₄ Δ₅ (fun y Δ₄ => I (i + 1) (acc ++ [y]) Δ₄) else I (i + 1) acc Δ₅) →
          if b = true then wpAny (model prog w) C.A (eval elt C₀.env) (fun x s₄ => wpAny (model prog w) C.A (call (.builtin "list.append") [.ref D, x]) (fun _ s₅ => ∃ m, m < items.length - i ∧ (CompSt C.s C₀ It D B₁ (compL sc l scope) p v At items I m s₅)) (notedBy (model prog w) C.A C₀.env fun e s' => RR (.ref D) Lc (.error e) s') s₄) (notedBy (model prog w) C.A C₀.env fun e s' => RR (.ref D) Lc (.error e) s') { C.s with heap := h₅, toks := tk₅ }
          else ∃ m, m < items.length - i ∧ (CompSt C.s C₀ It D B₁ (compL sc l scope) p v At items I m { C.s with heap := h₅, toks := tk₅ }) := by
        intro b B₅ Δ₅ h₅ tk₅ hB5 a6 q6
        cases b with
        | false =>
          simp only [Bool.false_eq_true, if_false] at q6 ⊢
          obtain ⟨c1, c2, c3, c4, c5⟩ := done B₅ Δ₅ h₅ l₄ hl4 a6
          exact ⟨items.length - (i + 1), by omega, i + 1, h₅, tk₅, B₅, Δ₅, acc, vsa, na, o₂, rfl, Store.le_trans hB (Store.le_trans hB4 hB5), c1, c2, c3, c4, at₂, r'.mono (Store.le_trans hB4 hB5), c5, rac.mono (Store.le_trans hB4 hB5), hlt, rfl, by omega, q6⟩
        | true =>
          simp only [if_true] at q6 ⊢
          have T := q6 B₅ h₅ tk₅ a6
          rw [cs', cA', ce'] at T
          refine wpAny_mono T (fun y s₇ ⟨h₇, tk₇, B₇, Δ₇, py, e7, hB7, a7, ry, q7⟩ => ?_) noErr
          rw [cs'] at e7
          subst e7
          obtain ⟨c1, c2, c3, c4, c5⟩ := done B₇ Δ₇ h₇ l₄ hl4 a7
          have hB' := Store.le_trans hB4 (Store.le_trans hB5 hB7)
          refine wpAny_list_append_plain (s := { C.s with heap := h₇, toks := tk₇ }) ⟨na, c5⟩ (fun h₈ ⟨n8, g8⟩ hs8 => ?_) (by rw [List.size_toArray, rac.length, sizeLine_eq]; omega)
          refine ⟨items.length - (i + 1), by omega, i + 1, h₈, tk₇, B₇, Δ₇, acc ++ [py], vsa ++ [y], n8, o₂, rfl, Store.le_trans hB hB', c1.other c3 fun b ob hb e => hs8.extBut b ob hb e, c2, c3, (hs8.2 It (Ne.symm hDI)).trans c4, at₂, r'.mono hB', ?_, (rac.mono hB').append (.cons ry .nil), hlt, rfl, by simp; omega, q7⟩
          rw [g8]; simp [listObj]
      cases ifs with
      | nil => exact wpAny_tests_nil (tail true B₄ Δ₄ h₄ tk₄ (Store.le_refl _) a5 q)
      | cons c cs'' =>
        cases cs'' with
        | cons c2 cs3 => exact False.elim q
        | nil =>
          refine wpAny_tests_one ?_
          have T := q B₄ h₄ tk₄ a5
          rw [cs', cA', ce'] at T
          refine wpAny_mono T (fun b s₅ ⟨h₅, tk₅, B₅, Δ₅, e5, hB5, a6, q6⟩ => ?_) noErr
          rw [cs'] at e5
          subst e5
          exact tail b B₅ Δ₅ h₅ tk₅ hB5 a6 q6
    · have hi' : i = items.length := by omega
      subst hi'
      refine W.done It _ B' Δ' _ _ o (a'.rd r' (ihas _ _ _ inv)) gI at' fun h₂ tk₂ hk => ?_
      dsimp only
      have a₃ : Abs C₀ B' (compL sc l scope) Δ' h₂ := a'.other fI fun b ob hb e => hk b ob hb e
      have a₅ : Abs C B' l Δ' h₂ := by subst hC₀; exact outer_abs a₁ k0 hB fresh a₃
      have offC : ∀ d, It ≤ d → B' d = none → Δ' d = none → Off C B' Δ' d := fun d hd q1 q2 => by
        have out : ∀ b o, h₁.get? b = some o → b ≠ d := fun b o e => Nat.ne_of_lt (Nat.lt_of_lt_of_le (lt0 b o e) hd)
        refine ⟨?_, q1, q2, fun q => let ⟨_, _, o, e, _⟩ := a₁.base.offO _ q; absurd rfl (out _ o e)⟩
        cases e : C.K d with
        | none => rfl
        | some o => exact absurd rfl (out _ o (a₁.base.keepK _ _ e))
      have lo := a₃.base.offO Lc (by rw [cown]; simp)
      have ld : Δ' Lc = none := by
        cases e : Δ' Lc with
        | none => rfl
        | some m => exact absurd (by rw [cown]; simp) (a₃.base.offΔ Lc m e).2.2
      obtain ⟨m', cm', hn', _⟩ := a₃.frame
      have hloc : C₀.env.locals = Lc := by rw [cenv]; rfl
      rw [hloc] at hn'
      exact fin acc Δ' B' h₂ tk₂ D Lc vsa na m' hB a₅ (by omega) (offC D (by omega) fD.b fD.d) (offC Lc (by omega) lo.2.1 ld) (by omega) (hk D _ hDI gD) rac hn' inv
  rw [cenv] at loop
  refine codeAny_compStart_list loop ?_
  refine W.self 0 It _ _ _ o₀ hI3 at0 ?_
  exact loop
end
end Mine

namespace Mine
section
variable {prog : Program} {w : World} {Kf : Frag} {sc : Scope} {C : Cx prog w Kf sc} {l : List (Option PV)} {Δ : Led} {Q : PV → Led → Prop}
  {Qn : List (Option PV) → Led → Prop} {Qr : PV → Led → Prop}

inductive CompH (C : Cx prog w Kf sc) (scope : Scope) (target elt : Expr) (ifs : List Expr) (l : List (Option PV)) (F : List PV → Led → Prop) (p : PV) (Δ' : Led) : Prop
  | mk (mo : Option (Addr × MO)) (items : List PV) (hs : Src p mo items) (hm : Has Δ' mo) (hlen : items.length ≤ 1000) (I : Nat → List PV → Led → Prop) (i0 : I 0 [] Δ') (ihas : ∀ i acc Δ₁, I i acc Δ₁ → Has Δ₁ mo)
    (turn : ∀ C' : Cx prog w Kf (compSc sc scope), C'.room = C.room → CompTurn C' l target elt ifs items I) (fin : ∀ acc Δ₁, I items.length acc Δ₁ → F acc Δ₁)
theorem EV_comp {target iter elt : Expr} {ifs : List Expr} {scope : Scope} {pos : Pos} (ok : CompOk sc scope) (hf : C.isFn = true ∨ ∀ y ∈ scope.names, y.2 ≠ .free)
    (h : EV C iter l Δ (CompH C scope target elt ifs l (fun acc Δ₁ => MadeL Δ₁ acc Q)))
    (hs : ∀ x, foldedSetIterable iter C.env x = pure x := by intro _; rfl) : EV C (.ListComp elt [⟨target, iter, ifs, 0⟩] scope pos) l Δ Q := fun B hh tk a => by
  obtain ⟨cl, hclos, hcl, hcl'⟩ := closure_ok (C := C) ok hf
  rw [eval_ListComp]
  refine wpAny_comprehension_free (use := none) rfl hs hclos ok.kind ok.names (wpAny_mono (h B hh tk a) (fun v s₁ ⟨h₁, tk₁, B₁, Δ₁, p, e, hB₁, a₁, r, mo, items, hs', hm, hlen, I, i0, ihas, turn, fin⟩ => ?_) fun _ _ x => x)
  subst e
  refine comp_core (RR := fun acc Lc => compPost (model prog w) C.A (fun _ _ => False) none (Post C B l Q) acc Lc) ok hcl hcl' a₁ r hs' hm i0 ihas hlen turn ?_
  intro acc Δ' B' h tk D Lc vs n m hB a' hD fD fL hDL gD rac hn inv
  refine ⟨m, hn, fun h' hs2 => ?_⟩
  have a2 : Abs C B' l Δ' h' := a'.other fL fun b o hb e => (hs2.2 b hb).trans e
  have gD' : h'.get? D = some (listObj vs n) := (hs2.2 D hDL).trans gD
  have hB0 := Store.le_trans hB₁ hB
  have big : (D == sysModules) = false := by
    obtain ⟨o, e⟩ := a₁.three
    exact big_of (Nat.lt_of_lt_of_le (Heap.lt_size e) hD)
  rcases fin acc Δ' inv with q | q
  · -- frozen
    have hput := Store.put_le (B := B') (a := D) (o := listObj vs n) fD.b
    refine ⟨h', tk, B'.put D (listObj vs n), Δ', .list acc, rfl, Store.le_trans hB0 hput, ⟨⟨a2.base.keepK, fun c o e => ?_, fun c mm e => ?_, fun c mm e => ?_, a2.base.big, fun c hc => ?_, fun c o e => ?_, Store.le_trans a2.base.s0 hput⟩, a2.frame.mono hput⟩, ?_, q⟩
    · by_cases e' : c = D
      · subst e'; rw [Store.put_self] at e; cases e; exact gD'
      · rw [Store.put_ne e'] at e; exact a2.base.keepB c o e
    · obtain ⟨o, h1, h2⟩ := a2.base.owned c mm e; exact ⟨o, h1, h2.mono hput⟩
    · obtain ⟨h1, h2, h3⟩ := a2.base.offΔ c mm e
      exact ⟨h1, by rw [Store.put_ne (fun e' => by rw [e', fD.d] at e; cases e)]; exact h2, h3⟩
    · obtain ⟨h1, h2, h3⟩ := a2.base.offO c hc
      exact ⟨h1, by rw [Store.put_ne (fun e' => fD.o (by rw [← e']; exact hc))]; exact h2, h3⟩
    · by_cases e' : c = D
      · subst e'; exact .inl fD.k
      · rw [Store.put_ne e'] at e; exact a2.base.apart c o e
    · unfold VR; exact ⟨D, vs, n, rfl, Store.put_self _ _ _, rac.mono hput⟩
  · refine ⟨h', tk, B', Δ'.upd D (.list acc), .obj D, rfl, hB0, ⟨⟨a2.base.keepK, a2.base.keepB, fun c mm e => ?_, fun c mm e => ?_, fun c mm e => ?_, a2.base.offO, a2.base.apart, a2.base.s0⟩, a2.frame⟩, .obj, q D fD.d⟩
    · by_cases e' : c = D
      · subst e'; rw [Led.upd_self] at e; cases e; exact ⟨_, gD', vs, n, rfl, rac⟩
      · rw [Led.upd_ne e'] at e; exact a2.base.owned c mm e
    · by_cases e' : c = D
      · subst e'; exact ⟨fD.k, fD.b, fD.o⟩
      · rw [Led.upd_ne e'] at e; exact a2.base.offΔ c mm e
    · by_cases e' : c = D
      · subst e'; exact big
      · rw [Led.upd_ne e'] at e; exact a2.base.big c mm e

theorem SV1_assignComp {y : Str} {py : Pos} (j : Nat) {target iter elt : Expr} {ifs : List Expr} {scope : Scope} {pos spos : Pos} (ok : CompOk sc scope) (hf : C.isFn = true ∨ ∀ y ∈ scope.names, y.2 ≠ .free)
    (h : EV C iter l Δ (CompH C scope target elt ifs l (fun acc Δ₁ => Qn (l.set j (some (.list acc))) Δ₁)))
    (hsw : swapsWith (.ListComp elt [⟨target, iter, ifs, 0⟩] scope pos) (some (.Name y py)) spos.line (envS sc) = pure true)
    (hj : sc.names[j]? = some (y, .local)) (hs : ∀ x, foldedSetIterable iter C.env x = pure x := by intro _; rfl) :
    SV1 C (.Assign [.Name y py] (.ListComp elt [⟨target, iter, ifs, 0⟩] scope pos) spos) l Δ Qn Qr := fun B hh tk a => by
  obtain ⟨cl, hclos, hcl, hcl'⟩ := closure_ok (C := C) ok hf
  rw [exec_Assign_Name_used _ _ _ _ ((swaps_env C _ _ _).trans hsw)]
  refine wpAny_bind (wpAny_standAt (wpAny_bind ?_))
  show wpAny _ C.A (do let _ ← comprehension (.ListComp elt [⟨target, iter, ifs, 0⟩] scope pos) scope C.env _ (newList []) false (eval iter C.env) (some (assign (.Name y py) C.env))) _ _ _
  refine wpAny_bind (wpAny_mono (wpAny_comprehension_free (use := some (assign (.Name y py) C.env)) (E := fun _ _ => False) (Q := fun _ s' => PostF C B Qn Qr .next s') rfl hs hclos ok.kind ok.names
    (wpAny_mono (h B hh tk a) (fun v s₁ ⟨h₁, tk₁, B₁, Δ₁, p, e, hB₁, a₁, r, mo, items, hs', hm, hlen, I, i0, ihas, turn, fin⟩ => ?_) fun _ _ x => x)) (fun _ s' hq => wpAny_pure (wpAny_pure hq)) fun _ _ x => x)
  subst e
  refine comp_core (RR := fun acc Lc => compPost (model prog w) C.A (fun _ _ => False) (some (assign (.Name y py) C.env)) (fun _ s' => PostF C B Qn Qr .next s') acc Lc) ok hcl hcl' a₁ r hs' hm i0 ihas hlen turn ?_
  intro acc Δ' B' h tk D Lc vs n m hB a' hD fD fL hDL gD rac hn inv
  have q := fin acc Δ' inv
  have hput := Store.put_le (B := B') (a := D) (o := listObj vs n) fD.b
  have a2 : Abs C (B'.put D (listObj vs n)) l Δ' h := by
    refine ⟨⟨a'.base.keepK, fun c o e => ?_, fun c mm e => ?_, fun c mm e => ?_, a'.base.big, fun c hc => ?_, fun c o e => ?_, Store.le_trans a'.base.s0 hput⟩, a'.frame.mono hput⟩
    · by_cases e' : c = D
      · subst e'; rw [Store.put_self] at e; cases e; exact gD
      · rw [Store.put_ne e'] at e; exact a'.base.keepB c o e
    · obtain ⟨o, h1, h2⟩ := a'.base.owned c mm e; exact ⟨o, h1, h2.mono hput⟩
    · obtain ⟨h1, h2, h3⟩ := a'.base.offΔ c mm e
      exact ⟨h1, by rw [Store.put_ne (fun e' => by rw [e', fD.d] at e; cases e)]; exact h2, h3⟩
    · obtain ⟨h1, h2, h3⟩ := a'.base.offO c hc
      exact ⟨h1, by rw [Store.put_ne (fun e' => fD.o (by rw [← e']; exact hc))]; exact h2, h3⟩
    · by_cases e' : c = D
      · subst e'; exact .inl fD.k
      · rw [Store.put_ne e'] at e; exact a'.base.apart c o e
  have fL2 : Off C (B'.put D (listObj vs n)) Δ' Lc := ⟨fL.k, by rw [Store.put_ne (Ne.symm hDL)]; exact fL.b, fL.d, fL.o⟩
  obtain ⟨oL, es, ep, hoL, hdL, hrest⟩ := hn
  have a3 := a2.prot fL2 hoL
  have rD : VR (B'.put D (listObj vs n)) (.list acc) (.ref D) := by unfold VR; exact ⟨D, vs, n, rfl, Store.put_self _ _ _, rac.mono hput⟩
  have T := AS_n (C := C.prot Lc oL) (Δ := Δ') (Qn := Qn) (pos := py) j (p := .list acc) q hj (.inl rfl) _ h tk (.ref D) a3 rD
  refine wpAny_mono T (fun _ s' ⟨h4, tk4, B4, Δ4, l4, e4, hB4, a4, q4⟩ => ?_) fun _ _ x => x
  have e4 : s' = { C.s with heap := h4, toks := tk4 } := e4
  subst e4
  obtain ⟨b1, b2, b3⟩ := Abs.unprot fL2 a2.base.s0 a4
  refine ⟨m, ⟨oL, es, ep, b3, hdL, hrest⟩, fun h5 hs5 => ?_⟩
  exact ⟨h5, tk4, B4, Δ4, l4, rfl, Store.le_trans hB₁ (Store.le_trans hB (Store.le_trans hput hB4)), b1.other b2 fun b o hb e => (hs5.2 b hb).trans e, q4⟩

theorem AS.mono {t : Expr} {p : PV} {Qn' : List (Option PV) → Led → Prop} (x : AS C t p l Δ Qn) (h : ∀ l Δ, Qn l Δ → Qn' l Δ) : AS C t p l Δ Qn' := fun B hh tk v a r =>
  wpAny_mono (x B hh tk v a r) (fun _ _ ⟨h', tk', B', Δ', l', e, hB, a', q⟩ => ⟨h', tk', B', Δ', l', e, hB, a', h _ _ q⟩) fun _ _ y => y
theorem TV.mono {e : Expr} {Q Q' : Bool → Led → Prop} (x : TV C e l Δ Q) (h : ∀ b Δ, Q b Δ → Q' b Δ) : TV C e l Δ Q' := fun B hh tk a =>
  wpAny_mono (x B hh tk a) (fun _ _ ⟨h', tk', B', Δ', e, hB, a', q⟩ => ⟨h', tk', B', Δ', e, hB, a', h _ _ q⟩) fun _ _ y => y
theorem tests.mono {ifs : List Expr} {Q Q' : Bool → Led → Prop} (x : tests C ifs l Δ Q) (h : ∀ b Δ, Q b Δ → Q' b Δ) : tests C ifs l Δ Q' := by
  match ifs, x with
  | [], x => exact h _ _ x
  | [c], x => exact TV.mono x h
end
end Mine

namespace Mine
section
variable {prog : Program} {w : World} {A : Around} {E : Value → Shared → Prop} {s : Shared}
theorem keys_none_list {a : Addr} {xs : Array Value} {k : Nat} {Q : Option Value → Shared → Prop} (hx : s.heap.get? a = some { cls := .type "list", data := .seq xs k }) (hA : A.handled = none)
    (h : ∀ h' tk, (∀ b o, s.heap.get? b = some o → h'.get? b = some o) → Q none { s with heap := h', toks := tk }) : wpAny (model prog w) A (getAttr? (.ref a) "keys") Q E s := by
  obtain ⟨hp, g, d, tk, os⟩ := s
  have hT : ∀ tk', (⟨hp, g, d, tk', os⟩ : Shared).TypeIs (.ref a) "list" := fun _ => ⟨_, hx, rfl⟩
  have f1 := sub_AttributeError
  have f3 := PySem.F.slot_list_getattribute.lookup
  have f4 := PySem.F.slot_list_getattribute.bind (.ref a)
  have f5 := am_list_getattr_none
  unfold getAttr? getAttrBy? getAttrBy
  repeat (any_goals (first | assumption | exact hT _ | ((with_reducible show wpAny _ _ (call (Value.builtin "list.__getattribute__") _ _) _ _ _); refine call_meets PySem.F.slot_list_getattribute (hT _) am_entry_list_getattribute (PySem.F.args_list_getattribute_2 _ _) (meets_getattribute_miss_list a xs k #[] (Str.ofString "keys") _ (am_miss_of_fast (by decide +kernel)) (by decide +kernel)) ⟨hx, hA, fun h' tk' e hx' => ?_⟩) | wp_step))
  obtain ⟨t', u', he⟩ := hx'.there
  have hTe : ∀ tk', (⟨h', g, d, tk', os⟩ : Shared).TypeIs (.ref e) "AttributeError" := fun _ => ⟨_, he, rfl⟩
  show wpAny _ _ (getattributeRaised _ _ _ _ _ _ _) _ _ _
  unfold getattributeRaised
  repeat (any_goals (first | assumption | exact hTe _ | wp_step))
  exact h _ _ fun b o q => hx'.of.keeps b o q

theorem entry_update_loop : entryFor table "dict.update.loop" = some Builtin.«dict.update.loop» := entryFor_of_fast (by kernel_rfl)
theorem plain_update_loop : plainId "dict.update.loop" = true := by decide +kernel

theorem update_loop {B : Store} {R : Result → Shared → Prop} {l I d : Addr} {vs : List Value} {kvs : List (Int × PV)} (hh : A.handled = none) (r : VRs B (kvs.map fun e => PV.tup [.int e.1, e.2]) vs)
    (hlI : l ≠ I) (hld : l ≠ d) (hId : I ≠ d) (hdB : B d = none) (hIB : B I = none) (hz : kvs.length ≤ 500) :
    ∀ (k j : Nat) (s : Shared) (m : List (Int × PV)) (l' : List (Int × Value)), kvs.length - j = k → j ≤ kvs.length → (∀ a o, B a = some o → s.heap.get? a = some o) → s.heap.IsList l vs.toArray → s.heap.IsListIter I l j → s.heap.DictOf (intKind prog w) d l' → KVI B m l' → m.length ≤ j →
    (∀ h' tk l'', h'.DictOf (intKind prog w) d l'' → KVI B ((kvs.drop j).foldl (fun m e => kput m e.1 e.2) m) l'' → (∀ b o, b ≠ I → b ≠ d → s.heap.get? b = some o → h'.get? b = some o) → R (.ok (.ret .none)) { s with heap := h', toks := tk }) →
    codeAny (model prog w) A (.builtin "dict.update.loop" ⟨[.ref d, .ref I, rawInt j, .none], []⟩) R s := by
  intro k
  induction k with
  | zero =>
    intro j s m l' hk hj hB hl hit hd hkv hm hR
    have hjn : j = kvs.length := by omega
    refine codeAny_builtin entry_update_loop ?_
    rw [Around.under_plainId plain_update_loop _]
    show wpAny _ A.in1 (pyNext (.ref I) >>= _) _ _ s
    refine wpAny_bind (wpAny_pyNext_list_end (A := A.in1) hh hit hl (Array.getElem?_eq_none (by have := r.length; simp at this; simp; omega)) fun h' hk' => ?_)
    show wpAny _ _ (Builtin.Dict.addKeywords d [] >>= _) _ _ _
    refine wpAny_bind (wpAny_pure (wpAny_pure ?_))
    refine hR h' _ l' (hd.extBut hk' (Ne.symm hId)) ?_ fun b o hbI _ e => hk' b o hbI e
    rw [hjn, List.drop_length]; exact hkv
  | succ k ih =>
    intro j s m l' hk hj hB hl hit hd hkv hm hR
    have hlt : j < kvs.length := by omega
    obtain ⟨v, hv, rv⟩ := r.get (i := j) (p := .tup [.int kvs[j].1, kvs[j].2]) (by simp [hlt])
    obtain ⟨t, us, o, n, rfl, h1, h2, h3, h4⟩ := rv.tup_inv
    obtain ⟨kv, us', rfl, rk, h5⟩ := h4.cons_inv
    obtain ⟨xv, us'', rfl, rx, h6⟩ := h5.cons_inv
    rw [h6.nil_inv] at h3
    obtain ⟨tk, rfl⟩ := rk.int_inv
    refine codeAny_builtin entry_update_loop ?_
    rw [Around.under_plainId plain_update_loop _]
    show wpAny _ A.in1 (pyNext (.ref I) >>= _) _ _ s
    refine wpAny_bind (wpAny_pyNext_list_item hit hl (x := .ref t) (by simpa using hv) fun h' hit' hsb => ?_)
    have hB' : ∀ a o, B a = some o → h'.get? a = some o := fun a o e => (hsb.2 a (fun q => by rw [q, hIB] at e; cases e)).trans (hB a o e)
    have ht := hB' _ _ h1
    have hl' : h'.IsList l vs.toArray := let ⟨o, ho, rr⟩ := hl; ⟨o, (hsb.2 l hlI).trans ho, rr⟩
    have hd' : h'.DictOf (intKind prog w) d l' := hd.sameBut hsb (Ne.symm hId)
    refine wpAny_bind (wpAny_holding (wpAny_bind (wpAny_tryCatch ?_)))
    unfold Builtin.Dict.pairItems
    refine wpAny_bind (wpAny_typeOf (s := { s with heap := h' }) (T := "tuple") ⟨o, ht, h2⟩ ?_)
    rw [if_pos (by decide)]
    refine wpAny_bind (wpAny_seqItems (s := { s with heap := h' }) ht h3 (wpAny_pure ?_))
    show wpAny _ _ (holding [.int kvs[j].1 tk, xv] (dictSet d (.int kvs[j].1 tk) xv)) _ _ _
    refine wpAny_holding (wpAny_dictSet_pairs (s := { s with heap := h' }) (intKind_is prog w _ _) hd' (fun h'' d'' hs'' => ?_) (by rw [hkv.length, sizeLine_eq]; omega))
    have hdrop : kvs.drop j = kvs[j] :: kvs.drop (j + 1) := List.drop_eq_getElem_cons hlt
    rw [hdrop, List.foldl_cons] at hR
    have e : rawInt ((j : Int) + 1) = rawInt ((j + 1 : Nat) : Int) := by simp
    refine wpAny_pure ⟨plainId_quiet plain_update_loop _, ?_⟩
    show codeAny _ A (.builtin "dict.update.loop" ⟨[.ref d, .ref I, rawInt ((j : Int) + 1), .none], []⟩) _ _
    rw [e]
    refine ih (j + 1) _ (kput m kvs[j].1 kvs[j].2) _ (by omega) hlt (fun a o e => (hs''.2 a (fun q => by rw [q, hdB] at e; cases e)).trans (hB' a o e)) (let ⟨o, ho, rr⟩ := hl'; ⟨o, (hs''.2 l hld).trans ho, rr⟩) (let ⟨o, ho, rr⟩ := hit'; ⟨o, (hs''.2 I hId).trans ho, rr⟩)
      d'' (hkv.put rx) (Nat.le_trans (kput_length_le ..) (by omega)) fun h3 tk3 l3 q1 q2 q3 => ?_
    exact hR h3 tk3 l3 q1 q2 fun b o hbI hbd e => q3 b o hbI hbd ((hs''.2 b hbd).trans ((hsb.2 b hbI).trans e))
end

theorem foldl_kput_nodup : ∀ (kvs m : List (Int × PV)), ((m ++ kvs).map (·.1)).Nodup → kvs.foldl (fun m e => kput m e.1 e.2) m = m ++ kvs
  | [], m, _ => by simp
  | e :: r, m, h => by
    rw [List.foldl_cons]
    have hn : kget m e.1 = none := by
      rw [kget_none_iff]
      intro q
      rw [List.map_append, List.nodup_append] at h
      exact h.2.2 e.1 q e.1 (by simp) rfl
    have e1 : kput m e.1 e.2 = m ++ [e] := by unfold kput; rw [hn]; simp
    rw [e1, foldl_kput_nodup r _ (by simpa using h)]; simp

section
variable {prog : Program} {w : World} {Kf : Frag} {sc : Scope} {C : Cx prog w Kf sc} {l : List (Option PV)} {Δ : Led} {Q : PV → Led → Prop}
  {Qn : List (Option PV) → Led → Prop} {Qr : PV → Led → Prop}
theorem BC_dictL {p : PV} {kvs : List (Int × PV)} (hp : LstV Δ p (kvs.map fun e => PV.tup [.int e.1, e.2])) (hn : (kvs.map (·.1)).Nodup) (q : ∀ b ep, Δ b = none → Q (.obj b) (Δ.upd b (.dictI ep kvs))) (hz : kvs.length ≤ 500) : BC C (.type "dict") [p] l Δ Q := fun B h tk vs a r => by
  obtain ⟨v, vs', rfl, r1, r2⟩ := r.cons_inv
  rw [r2.nil_inv]
  obtain ⟨o, us, n, rfl, ho, r3⟩ := a.lst hp r1
  refine callType_codes (Q₁ := fun obj s₁ => obj = .ref h.objs.size ∧ s₁ = { C.s with heap := h.push { cls := .type "dict", data := .dict #[] }, toks := tk }) PySem.F.kt_called_dict (PySem.F.kt_typeCall_dict_1 _) PySem.F.entry_dict_init (kt_code_dict_new _ ⟨rfl, rfl⟩) ?_
  rintro obj s₁ ⟨rfl, rfl⟩
  have hnew : (h.push { cls := .type "dict", data := .dict #[] }).DictOf (intKind prog w) h.objs.size [] := Heap.DictOf.new h
  have ho' : (h.push { cls := .type "dict", data := .dict #[] }).get? o = some (listObj us n) := Heap.get?_push_of_some _ ho
  refine ⟨hnew.typeIs (s := { C.s with heap := h.push { cls := .type "dict", data := .dict #[] }, toks := tk }), PySem.F.args_dict_init_2 _ _, ?_⟩
  unfold Builtin.«dict.__init__»
  refine wpAny_bind ?_
  unfold Builtin.Dict.selfAndRest
  refine wpAny_bind (wpAny_notOrdered_dict (hnew.typeIs (s := { C.s with heap := h.push { cls := .type "dict", data := .dict #[] }, toks := tk })) ?_)
  show wpAny _ _ (pure (h.objs.size, [Value.ref o])) _ _ _
  refine wpAny_pure ?_
  show wpAny _ _ (Builtin.Dict.updateFrom "dict.__init__" h.objs.size (.ref o) [] .none) _ _ _
  unfold Builtin.Dict.updateFrom
  refine wpAny_bind (wpAny_typeOf (T := "list") ⟨_, ho', rfl⟩ ?_)
  rw [if_pos (by decide)]
  refine wpAny_bind (keys_none_list (s := { C.s with heap := h.push { cls := .type "dict", data := .dict #[] }, toks := tk }) ho' C.hand fun h2 tk2 k2 => ?_)
  rw [if_pos (by decide)]
  refine wpAny_bind (wpAny_rule ?_)
  have hl2 : h2.IsList o us.toArray := ⟨_, k2 _ _ ho', rfl, n, rfl⟩
  refine wpAny_bind (wpAny_pyIter_list (s := { C.s with heap := h2, toks := tk2 }) hl2 ?_)
  generalize hoi : ({ cls := .type "list_iterator", data := .fields #[.ref o, .int 0 0] } : Obj) = oi
  have lt0 : ∀ b ob, h.get? b = some ob → b < h.objs.size := fun b ob e => Heap.lt_size e
  have k1 : ∀ b ob, h.get? b = some ob → h2.get? b = some ob := fun b ob e => k2 b ob (Heap.get?_push_of_some _ e)
  have hdlt : h.objs.size < h2.objs.size := Heap.lt_size (k2 _ _ (Heap.get?_push_size _ rfl))
  have k3 : ∀ b ob, h2.get? b = some ob → (h2.push oi).get? b = some ob := fun b ob e => Heap.get?_push_of_some _ e
  have offB : ∀ c, h.objs.size ≤ c → B c = none := fun c hc => by
    cases e : B c with
    | none => rfl
    | some o => exact absurd (Heap.lt_size (a.base.keepB _ _ e)) (Nat.not_lt.mpr hc)
  refine wpAny_pure ⟨plainId_quiet plain_update_loop _, ?_⟩
  have hd2 : h2.DictOf (intKind prog w) h.objs.size [] := let ⟨o, es, ep, h1, h3⟩ := hnew; ⟨o, es, ep, k2 _ _ h1, h3⟩
  refine update_loop (A := C.A.in1) (B := B) (s := { C.s with heap := h2.push oi, toks := tk2 }) (l := o) (I := h2.objs.size) (d := h.objs.size) (kvs := kvs) C.hand r3 (Nat.ne_of_lt (Nat.lt_trans (lt0 _ _ ho) hdlt)) (Nat.ne_of_lt (lt0 _ _ ho)) (Nat.ne_of_gt hdlt) (offB _ (Nat.le_refl _)) (offB _ (Nat.le_of_lt hdlt)) hz
    _ 0 [] [] rfl (Nat.zero_le _) (fun c ob e => k3 _ _ (k1 _ _ (a.base.keepB c ob e))) ⟨_, k3 _ _ (k1 _ _ ho), rfl, n, rfl⟩ (by subst hoi; exact ⟨_, Heap.get?_push_size _ rfl, rfl, rfl⟩) (hd2.push _) rfl (Nat.le_refl _) fun h4 tk4 l4 q1 q2 q3 => ?_
  rw [List.drop_zero, foldl_kput_nodup kvs [] (by simpa using hn), List.nil_append] at q2
  obtain ⟨ep, od, e1, e2⟩ := MR.dictI_mk (B := B) q1 q2
  have k4 : ∀ b ob, h.get? b = some ob → h4.get? b = some ob := fun b ob e => q3 b ob (Nat.ne_of_lt (Nat.lt_trans (lt0 _ _ e) hdlt)) (Nat.ne_of_lt (lt0 _ _ e)) (k3 _ _ (k1 _ _ e))
  obtain ⟨o3, e3⟩ := a.three
  obtain ⟨a', hnn⟩ := a.adoptO (a.grow k4) (fun b ob e => Nat.ne_of_lt (lt0 _ _ e)) (big_of (lt0 _ _ e3)) e1 e2
  exact ⟨rfl, h4, tk4, B, _, .obj h.objs.size, rfl, Store.le_refl _, a', .obj, q _ _ hnn⟩
end
end Mine

namespace Mine
section
variable {prog : Program} {w : World} {Kf : Frag} {sc : Scope} {C : Cx prog w Kf sc} {l : List (Option PV)} {Δ : Led} {Q : PV → Led → Prop}
  {Qn : List (Option PV) → Led → Prop} {Qr : PV → Led → Prop}

theorem MR_empty {B : Store} : MR prog w B (.dictI 0 []) { cls := .type "dict", data := .dict #[] } := ⟨#[], [], ⟨rfl, rfl, rfl⟩, rfl, fun _ h => by simp at h, .nil, List.nodup_nil, rfl⟩
theorem MR_emptyT {B : Store} : MR prog w B (.dictT 0 []) { cls := .type "dict", data := .dict #[] } := ⟨[], #[], ⟨rfl, rfl, rfl⟩, rfl, rfl, List.nodup_nil, rfl⟩
theorem EV_dict0 {pos : Pos} (q : ∀ b, Δ b = none → Q (.obj b) (Δ.upd b (.dictI 0 []))) : EV C (.Dict [] [] pos) l Δ Q := fun B h tk a => wpAny_Dict_empty (newOwned_at a rfl MR_empty q)
theorem EV_dict0T {pos : Pos} (q : ∀ b, Δ b = none → Q (.obj b) (Δ.upd b (.dictT 0 []))) : EV C (.Dict [] [] pos) l Δ Q := fun B h tk a => wpAny_Dict_empty (newOwned_at a rfl MR_emptyT q)
theorem EV_dict1 {k v : Expr} {pos : Pos} (hk : ∀ C' : Cx prog w Kf sc, C'.room = C.room → C'.isFn = C.isFn → EV C' k l Δ (fun p Δ' => ∃ i, p = .int i ∧ EV C' v l Δ' (fun x Δ'' => ∀ b ep, Δ'' b = none → Q (.obj b) (Δ''.upd b (.dictI ep [(i, x)]))))) :
    EV C (.Dict [some k] [v] pos) l Δ Q := fun B h tk a => by
  refine wpAny_Dict_walk (knd := intKind prog w) rfl rfl (by simp) (by simp) ?_
  show wpAny _ _ _ _ _ { C.s with heap := h.push { cls := .type "dict", data := .dict #[] }, toks := tk }
  generalize hd : h.objs.size = d
  have a1 : Abs C B l Δ (h.push { cls := .type "dict", data := .dict #[] }) := a.grow fun b o e => Heap.get?_push_of_some _ e
  have f := a.offNew
  rw [hd] at f
  have g1 : (h.push { cls := .type "dict", data := .dict #[] }).get? d = some { cls := .type "dict", data := .dict #[] } := hd ▸ Heap.get?_push_size _ rfl
  have a2 := a1.prot f g1
  refine pairTrees_cons_walk (wpAny_mono (hk (C.prot d _) rfl rfl B _ tk a2) (fun kv s₁ ⟨h₁, tk₁, B₁, Δ₁, p, e, hB₁, a₃, r, i, e', q⟩ => ?_) fun _ _ x => x)
  have e : s₁ = { C.s with heap := h₁, toks := tk₁ } := e
  subst e; subst e'
  refine wpAny_mono (q B₁ h₁ tk₁ a₃) (fun vv s₂ ⟨h₂, tk₂, B₂, Δ₂, x, e, hB₂, a₄, r', q'⟩ => ?_) fun _ _ x => x
  have e : s₂ = { C.s with heap := h₂, toks := tk₂ } := e
  subst e
  obtain ⟨t, rfl⟩ := r.int_inv
  refine pairTrees_nil_walk ?_
  obtain ⟨b1, b2, b3⟩ := Abs.unprot f a.base.s0 a₄
  refine ⟨[(i, vv)], ⟨intKind_is prog w _ _, rfl, trivial⟩, ⟨_, _, _, b3, ⟨rfl, rfl, rfl⟩, rfl, fun _ h => by simp at h, .nil, List.nodup_nil⟩, fun h3 d3 hs3 => ?_⟩
  have e2 : merged [] [(i, vv)] = [(i, vv)] := rfl
  rw [e2] at d3
  obtain ⟨ep, o, e3, e4⟩ := MR.dictI_mk (B := B₂) (kvs := [(i, x)]) d3 ⟨vv, [], rfl, r', rfl⟩
  have a5 : Abs C B₂ l Δ₂ h3 := b1.other b2 fun b ob hb e => (hs3.2 b hb).trans e
  refine ⟨h3, tk₂ + 1, B₂, Δ₂.upd d (.dictI ep [(i, x)]), .obj d, rfl, Store.le_trans hB₁ hB₂, ⟨⟨a5.base.keepK, a5.base.keepB, fun c mm e => ?_, fun c mm e => ?_, fun c mm e => ?_, a5.base.offO, a5.base.apart, a5.base.s0⟩, a5.frame⟩, .obj, q' d ep b2.d⟩
  · by_cases e' : c = d
    · subst e'; rw [Led.upd_self] at e; cases e; exact ⟨o, e3, e4⟩
    · rw [Led.upd_ne e'] at e; exact a5.base.owned c mm e
  · by_cases e' : c = d
    · subst e'; exact ⟨b2.k, b2.b, b2.o⟩
    · rw [Led.upd_ne e'] at e; exact a5.base.offΔ c mm e
  · by_cases e' : c = d
    · subst e'
      obtain ⟨o3, e3'⟩ := a.three
      exact big_of (by rw [← hd]; exact Heap.lt_size e3')
    · rw [Led.upd_ne e'] at e; exact a5.base.big c mm e

theorem EV_new {x : Str} {xp pos : Pos} {args : List Expr} {k n : Nat} (c fI : Addr) (hroom : C.room = n + 1)
    (h : LV C args l Δ (fun ps Δ' => ∀ b d, Δ' b = none → Δ' d = none → b ≠ d → CSR prog w Kf n fI (.obj b :: ps) ((Δ'.upd d (.attrs [])).upd b (.inst c d)) (fun p Δ'' => p = .none ∧ Q (.obj b) Δ'')))
    (hg : nsIn Kf mainGlobals x = some (some (.ref c))) (hk : keepIn Kf (.ref c) = true) (hm : makesIn Kf c = true) (hi : findIn Kf (.ref c) "__init__" = some (some (.ref fI))) (hf : typeIn Kf (.ref fI) = some (.type "function"))
    (hx : sc.names[k]? = some (x, .globalImplicit)) (hs : args.all noStar = true := by rfl) (hne : args ≠ [] := by simp) (hd : (x == ("__debug__" : Str)) = false := by rfl) : EV C (.Call (.Name x xp) args [] pos) l Δ Q := fun B hh tk a => by
  refine Call_ (glob_at a (lookup_at C.nodup hx) hg ?_ hd)
  cases args with
  | nil => exact absurd rfl hne
  | cons e es =>
    rw [List.all_cons, Bool.and_eq_true] at hs
    refine callWith_K (h₀ := hh) a.kin hk (wpAny_mono (h B hh tk pos a) (fun vs s' ⟨h', tk', B', Δ', ps, e', hB, a', r, q⟩ => ?_) fun _ _ x => x) (starEach_cons hs.1) (anyStar (es := es) hs.2)
    subst e'
    refine ⟨a'.kin, wpAny_call ?_⟩
    refine make_core (makes_of a'.kin hm) (looks_findIn a'.kin hi) (fun self => bind_fn a'.kin self hf) (.inl rfl) ?_
    obtain ⟨a1, n1⟩ := a'.alloc (o := emptyDict) (m := .attrs []) rfl ⟨[], 0, rfl, rfl⟩
    obtain ⟨a2, n2⟩ := a1.alloc (o := instObj c h'.objs.size) (m := .inst c h'.objs.size) rfl rfl
    have sz : (h'.push emptyDict).objs.size = h'.objs.size + 1 := Heap.size_push ..
    rw [sz] at a2 n2
    rw [Led.upd_ne (Nat.succ_ne_self _)] at n2
    have hA : (Code.builtin "type.__call__" ⟨.ref c :: vs, []⟩).weight = 1 := by
      kernel_rfl
    have hU : (Code.builtin "type.__call__" ⟨.ref c :: vs, []⟩).cUnits = 1 := by
      kernel_rfl
    let D : Bx prog w Kf := { (C.down ((h'.push emptyDict).push (instObj c h'.objs.size))) with
      A := C.A.under (.builtin "type.__call__" ⟨.ref c :: vs, []⟩)
      room := n
      hand := C.hand
      depth := by have := C.depth; rw [hroom] at this; show C.A.depth + Code.weight _ + n < _; rw [hA]; omega
      units := by have := C.units; rw [hroom] at this; show C.A.units + Code.cUnits _ + 10 * n + 200 < _; rw [hU]; omega }
    have aD : Abs0 D [] B' ((Δ'.upd h'.objs.size (.attrs [])).upd (h'.objs.size + 1) (.inst c h'.objs.size)) ((h'.push emptyDict).push (instObj c h'.objs.size)) := let z := a2.down; ⟨z.keepK, z.keepB, z.owned, z.offΔ, z.big, z.offO, z.apart, z.s0⟩
    have T := q (h'.objs.size + 1) h'.objs.size n2 n1 (Nat.succ_ne_self _) D (Nat.le_refl _) B' _ tk' (.ref (h'.objs.size + 1) :: vs) aD (.cons .obj r)
    refine codeAny_mono T fun r' s'' ⟨v, h2, tk2, B2, Δ2, p, e1, e2, hB2, a3, rv, e3, q3⟩ => ?_
    subst e1; subst e3
    rw [rv.none_inv]
    refine ⟨rfl, ?_⟩
    subst e2
    have z : Abs0 (C.down ((h'.push emptyDict).push (instObj c h'.objs.size))) [] B2 Δ2 h2 := ⟨a3.keepK, a3.keepB, a3.owned, a3.offΔ, a3.big, a3.offO, a3.apart, a3.s0⟩
    exact ⟨h2, tk2, B2, Δ2, .obj (h'.objs.size + 1), rfl, Store.le_trans hB hB2, a2.up hB2 z, .obj, q3⟩
end
end Mine

namespace Mine
section
variable {prog : Program} {w : World} {Kf : Frag} {sc : Scope} {C : Cx prog w Kf sc} {l : List (Option PV)} {Δ : Led} {Q : PV → Led → Prop}
  {Qn : List (Option PV) → Led → Prop} {Qr : PV → Led → Prop}


inductive EnumH (C : Cx prog w Kf sc) (elts : List Expr) (tk0 : Nat) (tp : Pos) (body : List Stmt) (l : List (Option PV)) (Qn : List (Option PV) → Led → Prop) (Qr : PV → Led → Prop) (p : PV) (Δ' : Led) : Prop
  | mk (items : List PV) (hL : LstV Δ' p items) (I : Nat → List (Option PV) → Led → Prop) (i0 : I 0 l Δ') (ihas : ∀ i l₁ Δ₁, I i l₁ Δ₁ → LstV Δ₁ p items)
    (turn : ∀ C' : Cx prog w Kf sc, C'.Like C → ∀ (i : Nat) x l₁ Δ₁, items[i]? = some x → I i l₁ Δ₁ → AS C' (.Tuple elts tk0 tp) (.tup [.int i, x]) l₁ Δ₁ (fun l₂ Δ₂ => SV C' body l₂ Δ₂ (I (i + 1)) Qr))
    (fin : ∀ l₁ Δ₁, I items.length l₁ Δ₁ → Qn l₁ Δ₁)
inductive EnumSt (C : Cx prog w Kf sc) (It lb : Addr) (B₁ : Store) (p : PV) (items : List PV) (I : Nat → List (Option PV) → Led → Prop) (m : Nat) (s' : Shared) : Prop
  | mk (i : Nat) (h' : Heap) (tk' : Nat) (B' : Store) (l' : List (Option PV)) (Δ' : Led) (old : Value) (e : s' = { C.s with heap := h', toks := tk' }) (hB : B₁.le B') (a : Abs C B' l' Δ' h') (f : Off C B' Δ' It) (fE : Off C B' Δ' (It + 1))
    (gE : IsEnum h' (It + 1) It ((i : Nat) : Int) old) (gI : h'.IsListIter It lb i) (r : VR B' p (.ref lb)) (hi : i ≤ items.length) (hn : m = items.length - i) (inv : I i l' Δ')
theorem SV1_forEnum {elts : List Expr} {tk0 : Nat} {tp fp cp pos : Pos} {src : Expr} {body : List Stmt} {k : Nat}
    (h : EV C src l Δ (EnumH C elts tk0 tp body l Qn Qr))
    (hg : nsIn Kf mainGlobals "enumerate" = some none) (hx : sc.names[k]? = some (Str.ofString "enumerate", .globalImplicit)) (hsrc : noStar src = true := by rfl)
    (hs : ∀ x, foldedSetIterable (.Call (.Name "enumerate" fp) [src] [] cp) C.env x = pure x := by intro _; rfl) :
    SV1 C (.For (.Tuple elts tk0 tp) (.Call (.Name "enumerate" fp) [src] [] cp) body [] pos) l Δ Qn Qr := fun B₀ hh tk a => by
  have hboot : bootBuiltins (Str.ofString "enumerate") = some (.type "enumerate") := PyProof.Rows.Boot.«enumerate»
  refine wpAny_For ?_ hs
  refine Call_ (built_at a (lookup_at C.nodup hx) hg hboot (by decide) ?_ (by rfl))
  refine PyProof.Rows.callWith_type1 ?_ (starEach_cons hsrc) rfl
  refine args_cons ?_ (starEach_cons hsrc)
  refine wpAny_mono (h B₀ hh tk a) (fun v s₁ ⟨h₁, tk₁, B₁, Δ₁, p, e, hB₁, a₁, r, items, hL, I, i0, ihas, turn, fin⟩ => ?_) fun _ _ x => x
  subst e
  refine args_nil ?_
  obtain ⟨lb, vs, n, rfl, ho, rvs⟩ := a₁.lst hL r
  refine call_enumerate_list (s := { C.s with heap := h₁, toks := tk₁ }) (items := vs.toArray) ⟨_, ho, rfl, n, rfl⟩ fun h2 he hi hsz hk => ?_
  dsimp only at he hi hsz hk ⊢
  generalize hIt : h₁.objs.size = It at he hi hsz
  have f0 : Off C B₁ Δ₁ It := hIt ▸ a₁.offNew
  have offs : ∀ d, It ≤ d → Off C B₁ Δ₁ d := fun d hd => by
    have out : ∀ b o, h₁.get? b = some o → b ≠ d := fun b o e => Nat.ne_of_lt (Nat.lt_of_lt_of_le (hIt ▸ Heap.lt_size e) hd)
    refine ⟨?_, ?_, ?_, fun q => let ⟨_, _, o, e, _⟩ := a₁.base.offO _ q; absurd rfl (out _ o e)⟩
    · cases e : C.K d with
      | none => rfl
      | some o => exact absurd rfl (out _ o (a₁.base.keepK _ _ e))
    · cases e : B₁ d with
      | none => rfl
      | some o => exact absurd rfl (out _ o (a₁.base.keepB _ _ e))
    · cases e : Δ₁ d with
      | none => rfl
      | some m => obtain ⟨o, ho, _⟩ := a₁.base.owned _ _ e; exact absurd rfl (out _ o ho)
  have hne : It + 1 ≠ It := Nat.succ_ne_self _
  refine wpAny_pyIter_enum (s := { C.s with heap := h2, toks := tk₁ }) (i := 0) (old := .none) he ?_
  refine codeAny_forLoop_any
    (EnumSt C It lb B₁ p items I) ?_ items.length
    ⟨0, h2, tk₁, B₁, l, Δ₁, .none, rfl, Store.le_refl _, a₁.grow hk, f0, offs _ (Nat.le_succ _), he, hi, r, Nat.zero_le _, rfl, i0⟩
  rintro m s' ⟨i, h', tk', B', l', Δ', old, rfl, hB, a', fI, fE, gE, gI, r', hi', rfl, inv⟩
  have noErr : ∀ e s, (fun _ _ => False : Value → Shared → Prop) e s → notedBy (model prog w) C.A C.env (fun e s' => (match (Except.error e : Result) with | .ok f => PostF C B₀ Qn Qr f s' | .error e => cameBackBy (model prog w) C.A C.env (fun _ _ => False) e s')) e s := fun _ _ x => x.elim
  obtain ⟨lb', vs', n', e1, ho', rvs'⟩ := a'.lst (ihas _ _ _ inv) r'
  cases e1
  have hl' : h'.IsList lb vs'.toArray := ⟨_, ho', rfl, n', rfl⟩
  rcases Nat.lt_or_ge i items.length with hlt | hge
  · obtain ⟨x, hx'⟩ : ∃ x, items[i]? = some x := ⟨items[i], by simp [hlt]⟩
    obtain ⟨u, hu, ru⟩ := rvs'.get hx'
    refine wpAny_pyNext_enum_item (s := { C.s with heap := h', toks := tk' }) gE gI hl' (x := u) (by simpa using hu) hne fun h3 gE3 gI3 gT3 hsz3 hk3 => ?_
    dsimp only at gE3 gI3 gT3 hsz3 hk3 ⊢
    generalize hT : h'.objs.size = T at gE3 gT3 hsz3
    refine wpAny_letOwnedTupleGo_enum (s := { C.s with heap := h3, toks := tk' + 1 }) gE3 fun h4 gE4 hs4 => ?_
    have keep : ∀ b o, b ≠ It → b ≠ It + 1 → h'.get? b = some o → h4.get? b = some o := fun b o q1 q2 e => (hs4.2 b q2).trans (hk3 b o q2 q1 e)
    have hItT : It < T := hT ▸ (let ⟨o, e, _⟩ := gI; Heap.lt_size e)
    have hET : It + 1 < T := hT ▸ Heap.lt_size gE
    have gI4 : h4.IsListIter It lb (i + 1) := let ⟨o, e, rr⟩ := gI3; ⟨o, (hs4.2 It (Ne.symm hne)).trans e, rr⟩
    have gT4 : h4.get? T = some { cls := .type "tuple", data := .seq #[.int i tk', u] } := (hs4.2 T (Nat.ne_of_gt hET)).trans gT3
    -- the abstract state lives on
    have a4 : Abs C B' l' Δ' h4 := by
      have ne2 : ∀ b o, (C.K b = some o ∨ B' b = some o) → b ≠ It ∧ b ≠ It + 1 := fun b o e => by
        constructor
        · rintro rfl; rcases e with e | e
          · rw [fI.k] at e; cases e
          · rw [fI.b] at e; cases e
        · rintro rfl; rcases e with e | e
          · rw [fE.k] at e; cases e
          · rw [fE.b] at e; cases e
      refine ⟨⟨fun b o e => keep b o (ne2 b o (.inl e)).1 (ne2 b o (.inl e)).2 (a'.base.keepK b o e), fun b o e => keep b o (ne2 b o (.inr e)).1 (ne2 b o (.inr e)).2 (a'.base.keepB b o e), fun b mm e => ?_, a'.base.offΔ, a'.base.big, fun b hb => ?_, a'.base.apart, a'.base.s0⟩, ?_⟩
      · obtain ⟨o, ho, rr⟩ := a'.base.owned b mm e
        exact ⟨o, keep b o (by rintro rfl; rw [fI.d] at e; cases e) (by rintro rfl; rw [fE.d] at e; cases e) ho, rr⟩
      · obtain ⟨q1, q2, o, q3, q4⟩ := a'.base.offO b hb
        exact ⟨q1, q2, o, keep b o (fun q => fI.o (q ▸ hb)) (fun q => fE.o (q ▸ hb)) q3, q4⟩
      · obtain ⟨mm, cm, q1, q2, q3⟩ := a'.frame
        refine ⟨mm, cm, q1.at' fun o e => keep _ o (fun q => fI.o (q ▸ C.locOwn)) (fun q => fE.o (q ▸ C.locOwn)) e, fun y c e => ?_, q3⟩
        obtain ⟨o, ho, hd⟩ := q2 y c e
        have : c ≠ It ∧ c ≠ It + 1 := by
          rcases C.cellKept y c e with q | q
          · exact ⟨fun q' => fI.o (q' ▸ q), fun q' => fE.o (q' ▸ q)⟩
          · obtain ⟨o', q⟩ := Option.isSome_iff_exists.mp q; exact ne2 c o' (.inl q)
        exact ⟨o, keep c o this.1 this.2 ho, hd⟩
    obtain ⟨a5, hBT⟩ := a'.adopt (o := { cls := .type "tuple", data := .seq #[.int i tk', u] }) a4 (fun b o e => Nat.ne_of_lt (hT ▸ Heap.lt_size e)) gT4
    have fI5 : Off C (B'.put T { cls := .type "tuple", data := .seq #[.int i tk', u] }) Δ' It := ⟨fI.k, by rw [Store.put_ne (Nat.ne_of_lt hItT)]; exact fI.b, fI.d, fI.o⟩
    have fE5 : Off C (B'.put T { cls := .type "tuple", data := .seq #[.int i tk', u] }) Δ' (It + 1) := ⟨fE.k, by rw [Store.put_ne (Nat.ne_of_lt hET)]; exact fE.b, fE.d, fE.o⟩
    generalize hB5 : B'.put T { cls := .type "tuple", data := .seq #[.int i tk', u] } = B5 at a5 hBT fI5 fE5
    have rT : VR B5 (.tup [.int i, x]) (.ref T) := by
      unfold VR
      exact ⟨T, [.int i tk', u], _, 0, rfl, by rw [← hB5]; exact Store.put_self _ _ _, rfl, rfl, .cons .int (.cons (ru.mono hBT) .nil)⟩
    obtain ⟨oI, gI4', rr4⟩ := gI4
    have a6 := (a5.prot fI5 gI4').prot (fE5.prot (o := oI) hne) gE4
    refine wpAny_mono (turn ((C.prot It oI).prot (It + 1) _) ⟨rfl, rfl, rfl, rfl, rfl⟩ i x l' Δ' hx' inv B5 h4 (tk' + 1) (.ref T) a6 rT) (fun _ s₄ ⟨h₅, tk₅, B₅, Δ₅, l₅, e5, hB5', a7, q⟩ => ?_) noErr
    have e5 : s₄ = { C.s with heap := h₅, toks := tk₅ } := e5
    subst e5
    refine wpAny_mono (q B₅ h₅ tk₅ a7) (fun fl s₅ ⟨h₆, tk₆, B₆, Δ₆, l₆, e6, hB6, a8, q6⟩ => ?_) noErr
    have e6 : s₅ = { C.s with heap := h₆, toks := tk₆ } := e6
    subst e6
    obtain ⟨b1, b2, b3⟩ := Abs.unprot (fE5.prot (o := oI) hne) a5.base.s0 a8
    obtain ⟨c1, c2, c3⟩ := Abs.unprot fI5 a5.base.s0 b1
    have c4 : Off C B₆ Δ₆ (It + 1) := ⟨(protK_none b2.k).1, b2.b, b2.d, b2.o⟩
    have hBB := Store.le_trans hBT (Store.le_trans hB5' hB6)
    cases fl with
    | next =>
      refine ⟨items.length - (i + 1), by omega, i + 1, h₆, tk₆, B₆, l₆, Δ₆, u, rfl, Store.le_trans hB hBB, c1, c2, c4, ?_, ⟨oI, c3, rr4⟩, r'.mono hBB, hlt, rfl, q6⟩
      show h₆.get? (It + 1) = _
      rw [b3]; simp
    | ret v' => obtain ⟨pv, rp, qp⟩ := q6; exact ⟨h₆, tk₆, B₆, Δ₆, l₆, rfl, Store.le_trans hB₁ (Store.le_trans hB hBB), c1, pv, rp, qp⟩
    | brk => exact q6.elim
    | cont => exact q6.elim
  · have hi2 : i = items.length := by omega
    subst hi2
    refine wpAny_pyNext_enum_end (s := { C.s with heap := h', toks := tk' }) C.hand gE gI hl' (Array.getElem?_eq_none (by simp [rvs'.length])) fun h3 hk3 => ?_
    exact wpAny_execs_nil ⟨h3, tk', B', Δ', l', rfl, Store.le_trans hB₁ hB, a'.other fI fun b ob hb e => hk3 b ob hb e, fin _ _ inv⟩
end
end Mine

namespace Mine
section
variable {prog : Program} {w : World} {Kf : Frag} {sc : Scope} {C : Cx prog w Kf sc} {l : List (Option PV)} {Δ : Led} {Q : PV → Led → Prop}
  {Qn : List (Option PV) → Led → Prop} {Qr : PV → Led → Prop}
theorem CSR.le {n m : Nat} {f : Addr} {ps : List PV} (x : CSR prog w Kf n f ps Δ Q) (h : n ≤ m) : CSR prog w Kf m f ps Δ Q := fun D hD => x D (Nat.le_trans h hD)
theorem CSR.mono {n : Nat} {f : Addr} {ps : List PV} {Q' : PV → Led → Prop} (x : CSR prog w Kf n f ps Δ Q) (h : ∀ p Δ, Q p Δ → Q' p Δ) : CSR prog w Kf n f ps Δ Q' := fun D hD => (x D hD).mono h
theorem CSR_enter {f : Addr} {ps : List PV} {oc : Value} {od : Option Addr} {osl : Array (Option Value)} (n : Nat) {fd : FuncData} {body : List Stmt}
    (ho : Kf.lookup f = some ⟨oc, od, .func fd, osl⟩) (hb : fd.body = .stmts body) (hcd : codeIn Kf fd.code fd.qualname = true) (hclo : fd.closure = []) (hg : fd.globals = mainGlobals) (hbu : fd.builtins = builtinsNs)
    (hbind : ∀ vals : List Value, vals.length = ps.length → bindArgs fd ⟨vals, []⟩ = pure ((fd.params.args.map (·.arg)).zip vals))
    (hfirst : argsFirst fd ps.length = true) (hnd : (fd.scope.names.map (·.1)).Nodup)
    (hco : fd.scope.isCoroutine = false) (hgen : fd.scope.isGenerator = false) (hk : fd.scope.kind = .function)
    (h : ∀ C : Cx prog w Kf fd.scope, n ≤ C.room → C.isFn = true → SV C body (startL fd.scope ps) Δ (fun _ Δ' => Q .none Δ') Q) : CSR prog w Kf (n + 1) f ps Δ Q := fun D hD => by
  obtain ⟨m, hm⟩ : ∃ m, D.room = m + 1 := ⟨D.room - 1, by omega⟩
  exact CS_enter fd body ho hb hcd hclo hg hbu hbind hfirst hnd hm hco hgen hk fun C hC hF => h C (by omega) hF
theorem cons_of_len {α : Type} {n : Nat} : ∀ {l : List α}, l.length = n + 1 → ∃ a t, l = a :: t ∧ t.length = n
  | a :: t, h => ⟨a, t, rfl, Nat.succ.inj h⟩
theorem bind1 {fd : FuncData} (h : ∀ a, bindArgs fd ⟨[a], []⟩ = pure ((fd.params.args.map (·.arg)).zip [a])) (vals : List Value) (hl : vals.length = 1) : bindArgs fd ⟨vals, []⟩ = pure ((fd.params.args.map (·.arg)).zip vals) := by
  obtain ⟨a, r0, rfl, hl0⟩ := cons_of_len hl
  obtain rfl := List.eq_nil_of_length_eq_zero hl0
  exact h a
theorem bind2 {fd : FuncData} (h : ∀ a b, bindArgs fd ⟨[a, b], []⟩ = pure ((fd.params.args.map (·.arg)).zip [a, b])) (vals : List Value) (hl : vals.length = 2) : bindArgs fd ⟨vals, []⟩ = pure ((fd.params.args.map (·.arg)).zip vals) := by
  obtain ⟨a, r0, rfl, hl0⟩ := cons_of_len hl
  obtain ⟨b, r1, rfl, hl1⟩ := cons_of_len hl0
  obtain rfl := List.eq_nil_of_length_eq_zero hl1
  exact h a b
theorem bind3 {fd : FuncData} (h : ∀ a b c, bindArgs fd ⟨[a, b, c], []⟩ = pure ((fd.params.args.map (·.arg)).zip [a, b, c])) (vals : List Value) (hl : vals.length = 3) : bindArgs fd ⟨vals, []⟩ = pure ((fd.params.args.map (·.arg)).zip vals) := by
  obtain ⟨a, r0, rfl, hl0⟩ := cons_of_len hl
  obtain ⟨b, r1, rfl, hl1⟩ := cons_of_len hl0
  obtain ⟨c, r2, rfl, hl2⟩ := cons_of_len hl1
  obtain rfl := List.eq_nil_of_length_eq_zero hl2
  exact h a b c
theorem bind4 {fd : FuncData} (h : ∀ a b c d, bindArgs fd ⟨[a, b, c, d], []⟩ = pure ((fd.params.args.map (·.arg)).zip [a, b, c, d])) (vals : List Value) (hl : vals.length = 4) : bindArgs fd ⟨vals, []⟩ = pure ((fd.params.args.map (·.arg)).zip vals) := by
  obtain ⟨a, r0, rfl, hl0⟩ := cons_of_len hl
  obtain ⟨b, r1, rfl, hl1⟩ := cons_of_len hl0
  obtain ⟨c, r2, rfl, hl2⟩ := cons_of_len hl1
  obtain ⟨d, r3, rfl, hl3⟩ := cons_of_len hl2
  obtain rfl := List.eq_nil_of_length_eq_zero hl3
  exact h a b c d
theorem bind5 {fd : FuncData} (h : ∀ a b c d e, bindArgs fd ⟨[a, b, c, d, e], []⟩ = pure ((fd.params.args.map (·.arg)).zip [a, b, c, d, e])) (vals : List Value) (hl : vals.length = 5) : bindArgs fd ⟨vals, []⟩ = pure ((fd.params.args.map (·.arg)).zip vals) := by
  obtain ⟨a, r0, rfl, hl0⟩ := cons_of_len hl
  obtain ⟨b, r1, rfl, hl1⟩ := cons_of_len hl0
  obtain ⟨c, r2, rfl, hl2⟩ := cons_of_len hl1
  obtain ⟨d, r3, rfl, hl3⟩ := cons_of_len hl2
  obtain ⟨e, r4, rfl, hl4⟩ := cons_of_len hl3
  obtain rfl := List.eq_nil_of_length_eq_zero hl4
  exact h a b c d e
end

noncomputable abbrev pw := PySem.Challenge.pw_pc0367_01
noncomputable abbrev KF (w : World) : Frag := hd.heap_1 w.params
theorem szl {n : Nat} (h : Nat.ble n 1000 = true) : n ≤ sizeLine := by
  have := Nat.le_of_ble_eq_true h
  rw [sizeLine_eq]; omega
noncomputable def nidx (sc : Scope) (x : Str) : Option (Nat × NameKind) := (sc.names.findIdx? fun y => y.1 == x).bind fun i => (sc.names[i]?).map fun y => (i, y.2)
theorem nidx_at {sc : Scope} {x : Str} {i : Nat} {k : NameKind} (h : nidx sc x = some (i, k)) : sc.names[i]? = some (x, k) := by
  unfold nidx at h
  obtain ⟨j, h1, h2⟩ := Option.bind_eq_some_iff.mp h
  obtain ⟨y, h3, h4⟩ := Option.map_eq_some_iff.mp h2
  cases h4
  have := List.findIdx?_eq_some_iff_getElem.mp h1
  obtain ⟨h5, h6, _⟩ := this
  rw [List.getElem?_eq_getElem h5] at h3
  cases h3
  rw [List.getElem?_eq_getElem h5]
  simp at h6
  exact congrArg some (Prod.ext h6 rfl)
section
variable {prog : Program} {w : World} {Kf : Frag} {sc : Scope} {C : Cx prog w Kf sc} {l : List (Option PV)} {Δ : Led} {Q : PV → Led → Prop}
  {Qn : List (Option PV) → Led → Prop} {Qr : PV → Led → Prop}
theorem EV_nm {x : Str} {pos : Pos} {i : Nat} {k : NameKind} {p : PV} (q : Q p Δ) (hi : nidx sc x = some (i, k) := by rfl) (hl : l[i]? = some (some p) := by rfl)
    (hd : (x == ("__debug__" : Str)) = false := by rfl) (hn : (x == ("__classdict__" : Str)) = false := by rfl) : EV C (.Name x pos) l Δ Q := EV_n i q hl (nidx_at hi) hd hn
theorem AS_nm {x : Str} {pos : Pos} {i : Nat} {p : PV} (q : Qn (l.set i (some p)) Δ) (hi : nidx sc x = some (i, .local) := by rfl) : AS C (.Name x pos) p l Δ Qn := AS_n i q (nidx_at hi) (.inl rfl)
theorem AS_nmc {x : Str} {pos : Pos} {i : Nat} {p : PV} (hf : C.isFn = true) (q : Qn (l.set i (some p)) Δ) (hi : nidx sc x = some (i, .cell) := by rfl) : AS C (.Name x pos) p l Δ Qn := AS_n i q (nidx_at hi) (.inr ⟨rfl, hf⟩)
theorem EV_callN {x : Str} {xp pos : Pos} {args : List Expr} {k : Nat} {f : Addr} (n : Nat) (hn : n ≤ C.room) (h : LV C args l Δ (fun ps Δ' => CSR prog w Kf n f ps Δ' Q))
    (hg : nsIn Kf mainGlobals x = some (some (.ref f)) := by rfl) (hk : keepIn Kf (.ref f) = true := by rfl) (hx : nidx sc x = some (k, .globalImplicit) := by rfl) (hs : args.all noStar = true := by rfl) (hne : args ≠ [] := by simp) (hd : (x == ("__debug__" : Str)) = false := by rfl) :
    EV C (.Call (.Name x xp) args [] pos) l Δ Q := EV_call f (fun B h' tk pos a => wpAny_mono (h B h' tk pos a) (fun _ _ ⟨h', tk', B', Δ', ps, e, hB, a', r, q⟩ => ⟨h', tk', B', Δ', ps, e, hB, a', r, q.le hn⟩) fun _ _ x => x) hg hk (nidx_at hx) hs hne hd
theorem EV_bi {x : Str} {xp pos : Pos} {args : List Expr} {k : Nat} {id : String} (h : LV C args l Δ (fun ps Δ' => BC C (.builtin id) ps l Δ' Q))
    (hv : bootBuiltins x = some (.builtin id) := by kernel_rfl) (hg : nsIn Kf mainGlobals x = some none := by rfl) (hn : x ≠ "__name__" := by decide) (hx : nidx sc x = some (k, .globalImplicit) := by rfl) (hs : args.all noStar = true := by rfl) (hne : args ≠ [] := by simp) (hd : (x == ("__debug__" : Str)) = false := by rfl) :
    EV C (.Call (.Name x xp) args [] pos) l Δ Q := EV_built id h hv hg hn (nidx_at hx) hs hne hd
theorem EV_bt {x : Str} {xp pos : Pos} {args : List Expr} {k : Nat} {T : String} (h : LV C args l Δ (fun ps Δ' => BC C (.type T) ps l Δ' Q))
    (hv : bootBuiltins x = some (.type T) := by kernel_rfl) (hg : nsIn Kf mainGlobals x = some none := by rfl) (hn : x ≠ "__name__" := by decide) (hx : nidx sc x = some (k, .globalImplicit) := by rfl) (hs : args.all noStar = true := by rfl) (hne : args ≠ [] := by simp) (hd : (x == ("__debug__" : Str)) = false := by rfl) :
    EV C (.Call (.Name x xp) args [] pos) l Δ Q := EV_builtT T h hv hg hn (nidx_at hx) hs hne hd
theorem EV_tp {es : List Expr} {k : Nat} {pos : Pos} (h : LV C es l Δ (fun ps Δ' => Nat.ble ps.length 1000 = true ∧ Q (.tup ps) Δ')) : EV C (.Tuple es k pos) l Δ Q :=
  EV_tuple fun B h' tk pos a => wpAny_mono (h B h' tk pos a) (fun _ _ ⟨h', tk', B', Δ', ps, e, hB, a', r, q⟩ => ⟨h', tk', B', Δ', ps, e, hB, a', r, szl q.1, q.2⟩) fun _ _ x => x
theorem EV_ls {es : List Expr} {pos : Pos} (h : LV C es l Δ (fun ps Δ' => Nat.ble ps.length 1000 = true ∧ Q (.list ps) Δ')) : EV C (.List es pos) l Δ Q :=
  EV_list fun B h' tk pos a => wpAny_mono (h B h' tk pos a) (fun _ _ ⟨h', tk', B', Δ', ps, e, hB, a', r, q⟩ => ⟨h', tk', B', Δ', ps, e, hB, a', r, szl q.1, q.2⟩) fun _ _ x => x
theorem EV_lsO {es : List Expr} {pos : Pos} (h : LV C es l Δ (fun ps Δ' => Nat.ble ps.length 1000 = true ∧ ∀ b, Δ' b = none → Q (.obj b) (Δ'.upd b (.list ps)))) : EV C (.List es pos) l Δ Q :=
  EV_listO fun B h' tk pos a => wpAny_mono (h B h' tk pos a) (fun _ _ ⟨h', tk', B', Δ', ps, e, hB, a', r, q⟩ => ⟨h', tk', B', Δ', ps, e, hB, a', r, szl q.1, q.2⟩) fun _ _ x => x
theorem TV_cm {e₁ e₂ : Expr} {op : CmpOp} {pos : Pos} {Q : Bool → Led → Prop} (h : EV C e₁ l Δ (fun p Δ' => EV C e₂ l Δ' (fun q Δ'' => CO C op p q l Δ'' Q))) (hm : behindInMarks op e₂ = false := by rfl) : TV C (.Compare e₁ [op] [e₂] pos) l Δ Q := TV_cmp h hm
theorem EV_cm {e₁ e₂ : Expr} {op : CmpOp} {pos : Pos} (h : EV C e₁ l Δ (fun p Δ' => EV C e₂ l Δ' (fun q Δ'' => CO C op p q l Δ'' (fun b Δ => Q (.bool b) Δ)))) (hm : behindInMarks op e₂ = false := by rfl) : EV C (.Compare e₁ [op] [e₂] pos) l Δ Q := EV_cmp h hm
theorem LV_c {e : Expr} {es : List Expr} {Q : List PV → Led → Prop} (h : EV C e l Δ (fun p Δ' => LV C es l Δ' (fun ps Δ'' => Q (p :: ps) Δ''))) (hs : noStar e = true := by rfl) : LV C (e :: es) l Δ Q := LV_cons h hs
theorem EV_gint {x : Str} {pos : Pos} {k : Nat} {i : Int} {t : Tok} (q : Q (.int i) Δ) (hg : nsIn Kf mainGlobals x = some (some (.int i t)) := by rfl) (hx : nidx sc x = some (k, .globalImplicit) := by rfl) (hd : (x == ("__debug__" : Str)) = false := by rfl) : EV C (.Name x pos) l Δ Q :=
  EV_g (p := .int i) q hg (fun B => .int) (nidx_at hx) hd
theorem EV_gstr {x : Str} {pos : Pos} {k : Nat} {i : Str} {t : Tok} (q : Q (.str i) Δ) (hg : nsIn Kf mainGlobals x = some (some (.str i t)) := by rfl) (hx : nidx sc x = some (k, .globalImplicit) := by rfl) (hd : (x == ("__debug__" : Str)) = false := by rfl) : EV C (.Name x pos) l Δ Q :=
  EV_g (p := .str i) q hg (fun B => .str) (nidx_at hx) hd
end


section
variable {prog : Program} {w : World} {Kf : Frag} {sc : Scope} {C : Cx prog w Kf sc} {l : List (Option PV)} {Δ : Led} {Q : PV → Led → Prop} {Qb : Bool → Led → Prop}
  {Qn : List (Option PV) → Led → Prop} {Qr : PV → Led → Prop} {Ql : List PV → Led → Prop} {Qu : Led → Prop}
theorem ASs_cons {t : Expr} {ts : List Expr} {p : PV} {ps : List PV} (h : AS C t p l Δ (fun l' Δ' => ASs C ts ps l' Δ' Qn)) : ASs C (t :: ts) (p :: ps) l Δ Qn := ⟨p, ps, rfl, h⟩
theorem ASs_nil (h : Qn l Δ) : ASs C [] [] l Δ Qn := ⟨rfl, h⟩
end
structure TreeL (Δ : Led) (o d B P A R K : Addr) : Prop where
  i : Δ o = some (.inst 97 d)
  a : Δ d = some (.attrs [("bridges", .obj B), ("ports", .obj P), ("across", .obj A), ("roots", .obj R), ("costs", .obj K)])

section
variable {prog : Program} {w : World} {Kf : Frag} {sc : Scope} {C : Cx prog w Kf sc} {l : List (Option PV)} {Δ : Led} {Q : PV → Led → Prop}
theorem EV_tree {value : Expr} {x : Str} {pos : Pos} {o d B P A R K : Addr} {q : PV} (ht : TreeL Δ o d B P A R K) (hv : EV C value l Δ (fun p Δ' => p = .obj o ∧ Δ' = Δ))
    (k : Q q Δ) (hl : [(("bridges" : Str), PV.obj B), ("ports", .obj P), ("across", .obj A), ("roots", .obj R), ("costs", .obj K)].lookup x = some q := by rfl)
    (g1 : plainGet Kf 97 x = true := by rfl) (g2 : hasDictIn Kf 97 = true := by rfl) (g3 : findIn Kf (.ref 97) x = some none := by rfl)
    (he : eval (.Attribute value x pos) C.env = (do
      let o ← eval value C.env
      standAt pos.atName
      let r ← holding [o] (getAttr o x true)
      letTemporaryGo value o r
      pure r) := by rfl) : EV C (.Attribute value x pos) l Δ Q :=
  EV_attr (hv.mono fun p Δ' ⟨e1, e2⟩ => ⟨o, 97, d, _, q, e1, e2 ▸ ⟨ht.i, ht.a⟩, hl, g1, g2, g3, e2 ▸ k⟩) he
end

section
variable {prog : Program} {w : World} {Kf : Frag} {sc : Scope} {C : Cx prog w Kf sc} {l : List (Option PV)} {Δ : Led} {Q : PV → Led → Prop} {Qn : List (Option PV) → Led → Prop}
theorem EV_treeM {value : Expr} {x : Str} {apos pos : Pos} {args : List Expr} {o d B P A R K f : Addr} (n : Nat) (hn : n ≤ C.room) (ht : TreeL Δ o d B P A R K) (hv : EV C value l Δ (fun p Δ' => p = .obj o ∧ Δ' = Δ))
    (k : LV C args l Δ (fun ps Δ' => CSR prog w Kf n f (.obj o :: ps) Δ' Q)) (pl : Sem Bool) (hl : [(("bridges" : Str), PV.obj B), ("ports", .obj P), ("across", .obj A), ("roots", .obj R), ("costs", .obj K)].lookup x = none := by rfl)
    (g1 : plainGet Kf 97 x = true := by rfl) (g2 : findIn Kf (.ref 97) x = some (some (.ref f)) := by rfl) (g3 : isFn Kf (.ref f) = true := by rfl) (g4 : keepIn Kf (.ref f) = true := by rfl)
    (he : eval (.Call (.Attribute value x apos) args [] pos) C.env = (do
      let ov ← eval value C.env
      standAt apos.atName
      let (f, first) ← holding [ov] (getMethod ov x pl)
      callWith pos f first (backTo pos (starEach args C.env)) []) := by rfl)
    (hs : args.all noStar = true := by rfl) (hne : args ≠ [] := by simp) : EV C (.Call (.Attribute value x apos) args [] pos) l Δ Q :=
  EV_own f (hv.mono fun p Δ' ⟨e1, e2⟩ => ⟨o, 97, d, _, e1, e2 ▸ ⟨ht.i, ht.a⟩, hl, g1, g2, g3, g4, e2 ▸ fun B h' tk pos a => wpAny_mono (k B h' tk pos a) (fun _ _ ⟨h', tk', B', Δ', ps, e, hB, a', r, q⟩ => ⟨h', tk', B', Δ', ps, e, hB, a', r, q.le hn⟩) fun _ _ x => x⟩) pl he hs hne
end
section
variable {prog : Program} {w : World} {Kf : Frag} {sc : Scope} {C : Cx prog w Kf sc} {l : List (Option PV)} {Δ : Led} {Q : PV → Led → Prop} {Qb : Bool → Led → Prop}
theorem EV_neg {i : Int} {k : Nat} {p1 p2 : Pos} (q : Q (.int (-i)) Δ) : EV C (.UnaryOp .USub (.Constant (.int i) k p1) p2) l Δ Q := fun B h tk a =>
  UnaryOp_ (wpAny_Constant_int (PyProof.Rows.neg_int (.now a .int q)))
theorem BO_pow {a b : Int} (q : Q (.int (a ^ b.toNat)) Δ) (h0 : 0 ≤ b) (h1 : b ≤ 1000000) (ha : a.natAbs < 2 ^ 64) : BO C .Pow (.int a) (.int b) l Δ Q := fun B h tk u v x r1 r2 => by
  obtain ⟨t, rfl⟩ := r1.int_inv; obtain ⟨t', rfl⟩ := r2.int_inv
  exact PyProof.Rows.pow_int_small h0 h1 ha (.now x .int q)
theorem TV_nm {x : Str} {pos : Pos} {i : Nat} {k : NameKind} {b : Bool} (q : Qb b Δ) (hi : nidx sc x = some (i, k) := by rfl) (hl : l[i]? = some (some (.bool b)) := by rfl)
    (hd : (x == ("__debug__" : Str)) = false := by rfl) (hn : (x == ("__classdict__" : Str)) = false := by rfl) : TV C (.Name x pos) l Δ Qb :=
  TV_of (EV_nm (i := i) ⟨b, rfl, q⟩ hi hl hd hn) (by rfl)
theorem EV_gv {x : Str} {pos : Pos} {k : Nat} {p : PV} {v : Value} (q : Q p Δ) (hv : ∀ B : Store, (∀ a o, Kf.lookup a = some o → o.cls = .type "tuple" → B a = some o) → VR B p v) (hg : nsIn Kf mainGlobals x = some (some v) := by rfl) (hx : nidx sc x = some (k, .globalImplicit) := by rfl) (hd : (x == ("__debug__" : Str)) = false := by rfl) : EV C (.Name x pos) l Δ Q := fun B h tk a =>
  glob_at a (lookup_at C.nodup (nidx_at hx)) hg (.now a (hv B fun b o h1 h2 => a.base.s0 _ _ (C.tups _ _ (C.gnd.kin _ _ h1) h2)) q) hd
theorem VR_tup {B : Store} {ps : List PV} {a : Addr} {vs : List Value} {n : Nat} {d : Option Addr} {sl : Array (Option Value)} (h : B a = some ⟨.type "tuple", d, .seq vs.toArray n, sl⟩) (hr : VRs B ps vs) : VR B (.tup ps) (.ref a) := by
  unfold VR; exact ⟨a, vs, _, n, rfl, h, rfl, rfl, hr⟩
end
section
variable {prog : Program} {w : World} {Kf : Frag} {sc : Scope} {C : Cx prog w Kf sc} {l : List (Option PV)} {Δ : Led} {Qn : List (Option PV) → Led → Prop}
theorem BNs_nil (h : Qn l Δ) : BNs C [] [] l Δ Qn := ⟨rfl, h⟩
theorem BNs_c {x : Str} {xs : List Str} {p : PV} {ps : List PV} {i : Nat} (h : BNs C xs ps (l.set i (some p)) Δ Qn) (hi : nidx sc x = some (i, .local) := by rfl) : BNs C (x :: xs) (p :: ps) l Δ Qn := ⟨p, ps, i, _, rfl, nidx_at hi, rfl, h⟩
end
section
variable {prog : Program} {w : World} {Kf : Frag} {sc : Scope} {C : Cx prog w Kf sc} {l : List (Option PV)} {Δ : Led} {Q : PV → Led → Prop}
noncomputable abbrev methEq (C : Cx prog w Kf sc) (o : Expr) (name : Str) (apos pos : Pos) (args : List Expr) (pl : Sem Bool) : Prop :=
  eval (.Call (.Attribute o name apos) args [] pos) C.env = (do
      let ov ← eval o C.env
      standAt apos.atName
      let (f, first) ← holding [ov] (getMethod ov name pl)
      callWith pos f first (backTo pos (starEach args C.env)) [])
theorem EV_lapp {o e : Expr} {apos pos : Pos} (pl : Sem Bool) (h : EV C o l Δ (MethH C "list" "list.append" [e] l Q))
    (he : methEq C o "append" apos pos [e] pl := by rfl) (hs : [e].all noStar = true := by rfl) : EV C (.Call (.Attribute o "append" apos) [e] [] pos) l Δ Q := EV_meth "list" "list.append" PySem.F.plainAttrs_list PySem.F.slot_list_append PySem.F.type_list_append h pl he hs
theorem EV_lpop {o : Expr} {apos pos : Pos} (pl : Sem Bool) (h : EV C o l Δ (MethH C "list" "list.pop" [] l Q))
    (he : methEq C o "pop" apos pos [] pl := by rfl) : EV C (.Call (.Attribute o "pop" apos) [] [] pos) l Δ Q := EV_meth "list" "list.pop" PySem.F.plainAttrs_list PySem.F.slot_list_pop PySem.F.type_list_pop h pl he rfl
theorem EV_dpop {o e : Expr} {apos pos : Pos} (pl : Sem Bool) (h : EV C o l Δ (MethH C "dict" "dict.pop" [e] l Q))
    (he : methEq C o "pop" apos pos [e] pl := by rfl) (hs : [e].all noStar = true := by rfl) : EV C (.Call (.Attribute o "pop" apos) [e] [] pos) l Δ Q := EV_meth "dict" "dict.pop" PySem.F.plainAttrs_dict PySem.F.slot_dict_pop PySem.F.type_dict_pop h pl he hs
theorem EV_dget {o e e' : Expr} {apos pos : Pos} (pl : Sem Bool) (h : EV C o l Δ (MethH C "dict" "dict.get" [e, e'] l Q))
    (he : methEq C o "get" apos pos [e, e'] pl := by rfl) (hs : [e, e'].all noStar = true := by rfl) : EV C (.Call (.Attribute o "get" apos) [e, e'] [] pos) l Δ Q := EV_meth "dict" "dict.get" PySem.F.plainAttrs_dict PySem.F.slot_dict_get PySem.F.type_dict_get h pl he hs
theorem EV_dsd {o e e' : Expr} {apos pos : Pos} (pl : Sem Bool) (h : EV C o l Δ (MethH C "dict" "dict.setdefault" [e, e'] l Q))
    (he : methEq C o "setdefault" apos pos [e, e'] pl := by rfl) (hs : [e, e'].all noStar = true := by rfl) : EV C (.Call (.Attribute o "setdefault" apos) [e, e'] [] pos) l Δ Q := EV_meth "dict" "dict.setdefault" PySem.F.plainAttrs_dict PySem.F.slot_dict_setdefault PySem.F.type_dict_setdefault h pl he hs
end
noncomputable def compOkB (sc scope : Scope) : Bool :=
  scope.names.all (fun y => !(y.2 == .cell)) && (scope.kind == .function) && decide ((scope.names.map (·.1)).Nodup) && scope.names.all (fun y => !(y.2 == .free) || sc.names.lookup y.1 == some .cell)
theorem compOk_of {sc scope : Scope} (h : compOkB sc scope = true) : CompOk sc scope := by
  unfold compOkB at h
  simp only [Bool.and_eq_true, decide_eq_true_eq] at h
  obtain ⟨⟨⟨h1, h2⟩, h3⟩, h4⟩ := h
  refine ⟨fun y hy e => ?_, ?_, h3, fun y hy e => ?_⟩
  · have := List.all_eq_true.mp h1 y hy; rw [e] at this; exact absurd this (by decide)
  · revert h2; cases scope.kind <;> simp <;> decide
  · have := List.all_eq_true.mp h4 y hy; rw [e] at this
    revert this
    rcases sc.names.lookup y.1 with _ | k
    · intro h; exact absurd h (by decide)
    · cases k <;> simp <;> decide
section
variable {prog : Program} {w : World} {Kf : Frag} {sc : Scope} {C : Cx prog w Kf sc} {l : List (Option PV)} {Δ : Led} {Q : PV → Led → Prop}
  {Qn : List (Option PV) → Led → Prop} {Qr : PV → Led → Prop}
noncomputable abbrev CompM {α : Type} {scope : Scope} (C : Cx prog w Kf sc) (l : List (Option PV)) (target elt : Expr) (ifs : List Expr) (xs : List α) (g : α → PV) (keep : α → Bool) (v : α → PV) (Δ : Led) : Prop :=
  ∀ C' : Cx prog w Kf (compSc sc scope), C'.room = C.room → ∀ x ∈ xs, AS C' target (g x) (compL sc l scope) Δ (fun l₂ Δ₂ => lle (compL sc l scope) l₂ ∧
    tests C' ifs l₂ Δ₂ (fun b Δ₃ => if b = true then EV C' elt l₂ Δ₃ (fun y Δ₄ => Δ₄ = Δ ∧ keep x = true ∧ y = v x) else Δ₃ = Δ ∧ keep x = false))
theorem CompM.turn {α : Type} {scope : Scope} {target elt : Expr} {ifs : List Expr} {xs : List α} {g v : α → PV} {keep : α → Bool} (h : CompM (scope := scope) C l target elt ifs xs g keep v Δ) (C' : Cx prog w Kf (compSc sc scope)) (hC : C'.room = C.room) :
    CompTurn C' l target elt ifs (xs.map g) (fun i acc Δ₁ => Δ₁ = Δ ∧ acc = ((xs.take i).filter keep).map v) := by
  rintro i p acc Δ₁ hx ⟨rfl, rfl⟩
  rw [List.getElem?_map] at hx
  obtain ⟨x, hx2, rfl⟩ := Option.map_eq_some_iff.mp hx
  refine AS.mono (h C' hC x (List.mem_of_getElem? hx2)) fun l₂ Δ₂ ⟨q1, q2⟩ => ⟨q1, tests.mono q2 fun b Δ₃ q3 => ?_⟩
  have e : xs.take (i + 1) = xs.take i ++ [x] := by rw [List.take_add_one, hx2]; rfl
  cases b with
  | false => simp only [Bool.false_eq_true, if_false] at q3 ⊢; exact ⟨q3.1, by rw [e]; simp [q3.2]⟩
  | true => simp only [if_true] at q3 ⊢; exact EV.mono q3 fun y Δ₄ q => ⟨q.1, by rw [e]; simp [q.2.1, q.2.2]⟩
inductive CompMH {α : Type} (C : Cx prog w Kf sc) (scope : Scope) (target elt : Expr) (ifs : List Expr) (l : List (Option PV)) (xs : List α) (g : α → PV) (keep : α → Bool) (v : α → PV) (F : List PV → Led → Prop) (p : PV) (Δ' : Led) : Prop
  | mk (mo : Option (Addr × MO)) (hs : Src p mo (xs.map g)) (hm : Has Δ' mo) (hlen : xs.length ≤ 1000) (turn : CompM (scope := scope) C l target elt ifs xs g keep v Δ') (fin : F ((xs.filter keep).map v) Δ')
theorem EV_compM {α : Type} {target iter elt : Expr} {ifs : List Expr} {scope : Scope} {pos : Pos} (hf : C.isFn = true) (xs : List α) (g : α → PV) (keep : α → Bool) (v : α → PV)
    (h : EV C iter l Δ (CompMH C scope target elt ifs l xs g keep v (fun ps Δ' => MadeL Δ' ps Q)))
    (ok : compOkB sc scope = true := by rfl) (hs : ∀ x, foldedSetIterable iter C.env x = pure x := by intro _; rfl) : EV C (.ListComp elt [⟨target, iter, ifs, 0⟩] scope pos) l Δ Q :=
  EV_comp (compOk_of ok) (.inl hf) (h.mono fun p Δ' ⟨mo, h1, h2, h3, h4, h5⟩ => ⟨mo, xs.map g, h1, h2, by simpa using h3, fun i acc Δ₁ => Δ₁ = Δ' ∧ acc = ((xs.take i).filter keep).map v, ⟨rfl, by simp⟩, fun i acc Δ₁ q => q.1 ▸ h2, fun C' hr => CompM.turn h4 C' hr,
    fun acc Δ₁ ⟨e1, e2⟩ => by subst e1; subst e2; simpa using h5⟩) hs
theorem SV1_compM {α : Type} {y : Str} {py : Pos} {j : Nat} {target iter elt : Expr} {ifs : List Expr} {scope : Scope} {pos spos : Pos} (hf : C.isFn = true) (xs : List α) (g : α → PV) (keep : α → Bool) (v : α → PV)
    (h : EV C iter l Δ (CompMH C scope target elt ifs l xs g keep v (fun ps Δ' => Qn (l.set j (some (.list ps))) Δ')))
    (hj : nidx sc y = some (j, .local) := by rfl) (ok : compOkB sc scope = true := by rfl)
    (hsw : swapsWith (.ListComp elt [⟨target, iter, ifs, 0⟩] scope pos) (some (.Name y py)) spos.line (envS sc) = pure true := by rfl) (hs : ∀ x, foldedSetIterable iter C.env x = pure x := by intro _; rfl) :
    SV1 C (.Assign [.Name y py] (.ListComp elt [⟨target, iter, ifs, 0⟩] scope pos) spos) l Δ Qn Qr := by
  refine SV1_assignComp j (compOk_of ok) (.inl hf) (h.mono fun p Δ' ⟨mo, h1, h2, h3, h4, h5⟩ => ⟨mo, xs.map g, h1, h2, by simpa using h3, fun i acc Δ₁ => Δ₁ = Δ' ∧ acc = ((xs.take i).filter keep).map v, ⟨rfl, by simp⟩, fun i acc Δ₁ q => q.1 ▸ h2, fun C' hr => CompM.turn h4 C' hr,
    fun acc Δ₁ ⟨e1, e2⟩ => by subst e1; subst e2; simpa using h5⟩) hsw (nidx_at hj) hs
theorem lle_e {b : List (Option PV)} : lle [] b := fun i p h => by simp at h
theorem lle_n {a b : List (Option PV)} {x : Option PV} (h : lle a b) : lle (none :: a) (x :: b) := fun i p e => by
  cases i with
  | zero => simp at e
  | succ i => simpa using h i p (by simpa using e)
theorem lle_s {a b : List (Option PV)} {p : PV} (h : lle a b) : lle (some p :: a) (some p :: b) := fun i q e => by
  cases i with
  | zero => simpa using e
  | succ i => simpa using h i q (by simpa using e)
theorem tests_nil {X Y : Led → Prop} (h : X Δ) : tests C [] l Δ (fun b Δ => if b = true then X Δ else Y Δ) := by
  unfold tests; simpa using h
theorem tests_one {c : Expr} {Q : Bool → Led → Prop} (h : TV C c l Δ Q) : tests C [c] l Δ Q := h
end
local macro_rules | `(tactic| walk_at "s") => `(tactic| first
  | with_reducible first
      | refine SV_cons ?_
      | refine SV_nil ?_
      | refine SV1_return ?_
      | refine SV1_if ?_
      | refine LV_nil ?_
      | refine EV_int ?_
      | refine EV_tp ?_
      | refine EV_bool ?_
      | refine EV_none ?_
      | refine EV_str ?_
      | refine EV_neg ?_
      | refine EV_bin ?_
      | refine TV_not ?_
      | refine TV_and ?_
      | refine TV_or ?_
      | refine ASs_cons ?_
      | refine ASs_nil ?_
      | refine BO_add ?_
      | refine BO_sub ?_
      | refine CO_lt_int ?_
      | refine CO_gt_int ?_
      | refine CO_ge_int ?_
      | refine CO_eq_int ?_
      | refine CO_ne_int ?_
      | refine BC_int ?_
      | refine BC_intb ?_
      | refine BC_min2 ?_
      | refine BC_max2 ?_
      | refine BC_range ?_
      | refine BNs_nil ?_
      | refine tests_nil ?_
      | refine tests_one ?_
  | ((with_reducible show SV1 _ _ _ _ _ _); first | refine SV1_a ?_ | refine SV1_expr ?_)
  | ((with_reducible show LV _ _ _ _ _); refine LV_c ?_)
  | ((with_reducible show EV _ (Expr.Name _ _) _ _ _); refine EV_nm ?_)
  | ((with_reducible show EV _ (Expr.Subscript _ _ _) _ _ _); refine EV_sub ?_)
  | ((with_reducible show EV _ (Expr.Call (Expr.Name _ _) _ [] _) _ _ _); first
      | ((with_reducible show EV _ (Expr.Call (Expr.Name (Str.ofString "len") _) _ [] _) _ _ _); refine EV_bi (hv := PyProof.Rows.Boot.«len») ?_)
      | ((with_reducible show EV _ (Expr.Call (Expr.Name (Str.ofString "min") _) _ [] _) _ _ _); refine EV_bi (hv := PyProof.Rows.Boot.«min») ?_)
      | ((with_reducible show EV _ (Expr.Call (Expr.Name (Str.ofString "max") _) _ [] _) _ _ _); refine EV_bi (hv := PyProof.Rows.Boot.«max») ?_)
      | ((with_reducible show EV _ (Expr.Call (Expr.Name (Str.ofString "sorted") _) _ [] _) _ _ _); refine EV_bi (hv := PyProof.Rows.Boot.«sorted») ?_)
      | ((with_reducible show EV _ (Expr.Call (Expr.Name (Str.ofString "int") _) _ [] _) _ _ _); refine EV_bt (hv := PyProof.Rows.Boot.«int») ?_)
      | ((with_reducible show EV _ (Expr.Call (Expr.Name (Str.ofString "range") _) _ [] _) _ _ _); refine EV_bt (hv := PyProof.Rows.Boot.«range») ?_)
      | ((with_reducible show EV _ (Expr.Call (Expr.Name (Str.ofString "list") _) _ [] _) _ _ _); refine EV_bt (hv := PyProof.Rows.Boot.«list») ?_)
      | ((with_reducible show EV _ (Expr.Call (Expr.Name (Str.ofString "dict") _) _ [] _) _ _ _); refine EV_bt (hv := PyProof.Rows.Boot.«dict») ?_)
      | refine EV_callN _ (by assumption) ?_)
  | ((with_reducible show EV _ (Expr.Attribute _ _ _) _ _ _); refine EV_tree (by with_reducible assumption) (EV_nm ⟨rfl, rfl⟩) ?_)
  | ((with_reducible show EV _ (Expr.Call (Expr.Attribute _ _ _) _ [] _) _ _ _); refine EV_treeM _ (by assumption) (by with_reducible assumption) (EV_nm ⟨rfl, rfl⟩) ?_ _)
  | ((with_reducible show EV _ _ _ _ _); refine EV_cm ?_)
  | ((with_reducible show TV _ _ _ _ _); refine TV_cm ?_)
  | ((with_reducible show AS _ _ _ _ _ _); first | refine AS_nm ?_ | refine AS_nmc (by assumption) ?_ | refine AS_tuple ?_)
  | ((with_reducible show GI _ _ _ _ _ _); first
      | refine GI_dI (by with_reducible assumption) (by with_reducible assumption) ?_
      | refine GI_dT (by with_reducible assumption) (by with_reducible assumption) ?_
      | refine GI_tup ?_ (by decide) (by decide) (by rfl)
      | refine GI_lst ?_ (by decide) (by decide) (by rfl))
  | ((with_reducible show BNs _ _ _ _ _ _); refine BNs_c ?_)
  | ((with_reducible show lle _ _); first | exact lle_e | refine lle_n ?_ | refine lle_s ?_))


theorem F_own_vector {w : World} {n : Nat} {b p : PV} {Δ : Led} {Q : PV → Led → Prop} (q : Q (.tup [b, .int 0, b, p]) Δ) : CSR pw w (KF w) (n + 1) 175 [b, p] Δ Q := by
  refine CSR_enter n (ho := rfl) rfl (by rfl) rfl rfl rfl (bind2 fun _ _ => by rfl) (by rfl) (by decide) rfl rfl rfl fun C hr hf => ?_
  repeat walk_at "s"
  exact ⟨rfl, q⟩

theorem F_with_cost {w : World} {n : Nat} {a b c : PV} {i k : Int} {Δ : Led} {Q : PV → Led → Prop} (q : Q (.tup [a, .int (i + k), b, c]) Δ) : CSR pw w (KF w) (n + 1) 154 [.tup [a, .int i, b, c], .int k] Δ Q := by
  refine CSR_enter n (ho := rfl) rfl (by rfl) rfl rfl rfl (bind2 fun _ _ => by rfl) (by rfl) (by decide) rfl rfl rfl fun C hr hf => ?_
  repeat walk_at "s"
  exact ⟨rfl, q⟩

theorem F_best_vector {w : World} {n : Nat} {p : PV} {ps : List PV} {Δ : Led} {Q : PV → Led → Prop} (hp : LstV Δ p ps) (hne : ps ≠ []) (hz : ps.length < 1000) (hs : ∀ x ∈ ps, ∀ y ∈ ps, Shp 2 x y) (q : Q (minP ps) Δ) : CSR pw w (KF w) (n + 1) 161 [p] Δ Q := by
  refine CSR_enter n (ho := rfl) rfl (by rfl) rfl rfl rfl (bind1 fun _ => by rfl) (by rfl) (by decide) rfl rfl rfl fun C hr hf => ?_
  repeat walk_at "s"
  refine EV_ifexp ?_
  repeat walk_at "s"
  refine BC_lenL hp ?_ (by omega)
  repeat walk_at "s"
  have : 0 < ps.length := List.length_pos_iff.mpr hne
  rw [if_pos (by simpa using this)]
  repeat walk_at "s"
  exact BC_min 2 hp q hne hs

theorem F_is_better {w : World} {n : Nat} {p o : PV} {Δ : Led} {Q : PV → Led → Prop} (hs : Shp 2 p o) (q : Q (.bool (plt p o)) Δ) : CSR pw w (KF w) (n + 1) 168 [p, o] Δ Q := by
  refine CSR_enter n (ho := rfl) rfl (by rfl) rfl rfl rfl (bind2 fun _ _ => by rfl) (by rfl) (by decide) rfl rfl rfl fun C hr hf => ?_
  repeat walk_at "s"
  refine EV_or ?_
  repeat walk_at "s"
  refine CO_is_none ⟨false, ?_, ?_⟩
  · rcases hs with ⟨a, b, rfl, rfl⟩ | ⟨_, _, rfl, rfl, _⟩ <;> rfl
  · rw [if_neg (by simp)]
    repeat walk_at "s"
    exact CO_lt 2 q hs



noncomputable abbrev pr (x : Int × Int) : PV := .tup [.int x.1, .int x.2]

theorem F_law_at {w : World} {n : Nat} {B P T : Addr} {e : Int × Int} {Δ : Led} {eb ep et : Nat} {kb : List (Int × PV)} {kp : List ((Int × Int) × PV)} {kt : List (Int × PV)} {b p x r c : PV} {vt vp : List PV} {Q : PV → Led → Prop}
    (hB : Δ B = some (.dictI eb kb)) (hP : Δ P = some (.dictT ep kp)) (hT : Δ T = some (.dictI et kt)) (h1 : kget kb e.1 = some b) (h2 : kget kp e = some (.tup (p :: vp))) (h3 : kget kt e.1 = some (.tup (r :: c :: vt)))
    (q : Q (.tup [r, c, b, p]) Δ) : CSR pw w (KF w) (n + 1) 225 [.obj B, .obj P, .obj T, pr e] Δ Q := by
  refine CSR_enter n (ho := rfl) rfl (by rfl) rfl rfl rfl (bind4 fun _ _ _ _ => by rfl) (by rfl) (by decide) rfl rfl rfl fun C hr hf => ?_
  repeat walk_at "s"
  exact ⟨rfl, q⟩

theorem F_told_at {w : World} {n : Nat} {o d B P A R K : Addr} {e : Int × Int} {Δ : Led} {eb ep er ek : Nat} {kb kr kk : List (Int × PV)} {kp : List ((Int × Int) × PV)} {b p r c : PV} {vp : List PV} {Q : PV → Led → Prop}
    (ht : TreeL Δ o d B P A R K)
    (hB : Δ B = some (.dictI eb kb)) (hP : Δ P = some (.dictT ep kp)) (hR : Δ R = some (.dictI er kr)) (hK : Δ K = some (.dictI ek kk)) (h1 : kget kb e.1 = some b) (h2 : kget kp e = some (.tup (p :: vp))) (h3 : kget kr e.1 = some r) (h4 : kget kk e.1 = some c)
    (q : Q (.tup [r, c, b, p]) Δ) : CSR pw w (KF w) (n + 1) 68 [.obj o, pr e] Δ Q := by
  refine CSR_enter n (ho := rfl) rfl (by rfl) rfl rfl rfl (bind2 fun _ _ => by rfl) (by rfl) (by decide) rfl rfl rfl fun C hr hf => ?_
  repeat walk_at "s"
  exact ⟨rfl, q⟩



theorem F_way_by {w : World} {n : Nat} {o d B P A R K : Addr} {e f : Int × Int} {Δ : Led} {eb ep er ek ea : Nat} {kb kr kk : List (Int × PV)} {kp ka : List ((Int × Int) × PV)} {b p p' r : PV} {c c' : Int} {vp : List PV} {Q : PV → Led → Prop}
    (ht : TreeL Δ o d B P A R K)
    (hB : Δ B = some (.dictI eb kb)) (hP : Δ P = some (.dictT ep kp)) (hR : Δ R = some (.dictI er kr)) (hK : Δ K = some (.dictI ek kk)) (hA : Δ A = some (.dictT ea ka)) (h0 : kget ka e = some (pr f)) (h1 : kget kb f.1 = some b) (h2 : kget kp f = some (.tup (p :: vp))) (h3 : kget kr f.1 = some r) (h4 : kget kk f.1 = some (.int c))
    (h5 : kget kp e = some (.tup [p', .int c']))
    (q : Q (.tup [r, .int (c + c'), b, p, p']) Δ) : CSR pw w (KF w) (n + 2) 75 [.obj o, pr e] Δ Q := by
  refine CSR_enter (n + 1) (ho := rfl) rfl (by rfl) rfl rfl rfl (bind2 fun _ _ => by rfl) (by rfl) (by decide) rfl rfl rfl fun C hr hf => ?_
  repeat walk_at "s"
  refine F_told_at ht hB hP hR hK h1 h2 h3 h4 ?_
  repeat walk_at "s"
  exact ⟨rfl, q⟩

noncomputable abbrev src (x y : Int) : MO := .list [.int x, .int y]
structure Src0 (x y : Int) : Prop where
  hx : 0 ≤ x
  hy : 0 ≤ y
  hm : y < 2147483648

theorem F_take {w : World} {n : Nat} {b : Addr} {x y t : Int} {Δ : Led} {Q : PV → Led → Prop} (hb : Δ b = some (src x y)) (h : Src0 x y) (h0 : 0 < t) (h1 : t < 1073741824)
    (q : ∀ d x' y', 0 ≤ d → d < t → Src0 x' y' → Q (.int d) (Δ.upd b (src x' y'))) : CSR pw w (KF w) (n + 1) 189 [.obj b, .int t] Δ Q := by
  refine CSR_enter n (ho := rfl) rfl (by rfl) rfl rfl rfl (bind2 fun _ _ => by rfl) (by rfl) (by decide) rfl rfl rfl fun C hr hf => ?_
  have hx := h.hx; have hy := h.hy; have hm := h.hm
  repeat walk_at "s"
  refine GI_olst hb ?_ (by decide) (by decide) (by rfl)
  repeat walk_at "s"
  by_cases hp : 0 < x
  · rw [if_pos (by simpa using hp)]
    repeat walk_at "s"
    refine GI_olst hb ?_ (by decide) (by decide) (by rfl)
    repeat walk_at "s"
    refine BO_mod ?_ h0
    repeat walk_at "s"
    refine GI_olst hb ?_ (by decide) (by decide) (by rfl)
    repeat walk_at "s"
    refine BO_fdiv ?_ h0 h1
    refine AS_sub ?_
    repeat walk_at "s"
    refine SI_lst hb ?_ (by decide) (by simp) (by simp)
    repeat walk_at "s"
    refine q _ _ _ (Int.emod_nonneg _ (by omega)) (Int.emod_lt_of_pos _ h0) ⟨Int.ediv_nonneg hx (by omega), hy, hm⟩
  · rw [if_neg (by simpa using hp)]
    repeat walk_at "s"
    refine GI_olst hb ?_ (by decide) (by decide) (by rfl)
    repeat walk_at "s"
    refine BO_mul ?_ (by decide)
    repeat walk_at "s"
    refine BO_mod ?_ (by decide)
    have k1 : 0 ≤ (y * 39373 + 7) % 2147483647 := Int.emod_nonneg _ (by omega)
    have k2 : (y * 39373 + 7) % 2147483647 < 2147483647 := Int.emod_lt_of_pos _ (by omega)
    generalize (y * 39373 + 7) % 2147483647 = z at k1 k2 ⊢
    refine AS_sub ?_
    repeat walk_at "s"
    refine SI_lst hb ?_ (by decide) (by simp) (by simp)
    have hb' : (Δ.upd b (src x z)) b = some (src x z) := Δ.upd_self b _
    show SV _ _ _ (Δ.upd b (src x z)) _ _
    repeat walk_at "s"
    refine GI_olst hb' ?_ (by decide) (by decide) (by rfl)
    repeat walk_at "s"
    refine GI_olst hb' ?_ (by decide) (by decide) (by rfl)
    refine BO_mul ?_ (by omega)
    repeat walk_at "s"
    refine BO_mod ?_ (by decide)
    repeat walk_at "s"
    refine BO_fdiv ?_ (by decide) (by decide)
    repeat walk_at "s"
    refine BO_mod ?_ h0
    exact q _ _ _ (Int.emod_nonneg _ (by omega)) (Int.emod_lt_of_pos _ h0) ⟨hx, k1, by omega⟩

theorem F_one {w : World} {n : Nat} {b : Addr} {x y : Int} {ps : List PV} {Δ : Led} {Q : PV → Led → Prop} (hb : Δ b = some (src x y)) (h : Src0 x y) (hne : ps ≠ []) (hz : ps.length < 1000)
    (q : ∀ p x' y', p ∈ ps → Src0 x' y' → Q p (Δ.upd b (src x' y'))) : CSR pw w (KF w) (n + 2) 196 [.obj b, .list ps] Δ Q := by
  refine CSR_enter (n + 1) (ho := rfl) rfl (by rfl) rfl rfl rfl (bind2 fun _ _ => by rfl) (by rfl) (by decide) rfl rfl rfl fun C hr hf => ?_
  repeat walk_at "s"
  refine BC_lenL (.f _ _) ?_ (by omega)
  repeat walk_at "s"
  have : 0 < ps.length := List.length_pos_iff.mpr hne
  refine F_take hb h (by omega) (by omega) fun d x' y' h1 h2 h3 => ?_
  have hlt : d.toNat < ps.length := by omega
  exact GI_lst (q _ _ _ (List.getElem_mem hlt) h3) h1 (by omega) (List.getElem?_eq_getElem hlt)


noncomputable def shortRows : List (Int × Int) := [(10000, 2), (1000, 4), (100, 19), (16, 62), (10, 100), (4, 250)]
noncomputable def shortCost : List (Int × Int) → Int → Int
  | [], _ => 250
  | x :: xs, s => if x.1 ≤ s then x.2 else shortCost xs s
noncomputable def costOf (s : Int) (b : Bool) : Int := if b then max 1 (min 200000000 (20000000 / s)) else shortCost shortRows s

theorem rowsV {w : World} {B : Store} (h : ∀ a o, (KF w).lookup a = some o → o.cls = .type "tuple" → B a = some o) : VR B (.tup (shortRows.map pr)) (.ref 140) := by
  have two : ∀ {i j : Int} {t u : Tok}, VRs B [.int i, .int j] [.int i t, .int j u] := fun {i j t u} => .cons .int (.cons .int .nil)
  refine VR_tup (h _ _ rfl rfl) (.cons (VR_tup (h _ _ rfl rfl) two) (.cons (VR_tup (h _ _ rfl rfl) two) (.cons (VR_tup (h _ _ rfl rfl) two) (.cons (VR_tup (h _ _ rfl rfl) two) (.cons (VR_tup (h _ _ rfl rfl) two) (.cons (VR_tup (h _ _ rfl rfl) two) .nil))))))

theorem F_cost_of {w : World} {n : Nat} {s : Int} {b : Bool} {Δ : Led} {Q : PV → Led → Prop} (h0 : 0 < s) (h1 : s < 1073741824)
    (q : Q (.int (costOf s b)) Δ) : CSR pw w (KF w) (n + 1) 147 [.int s, .bool b] Δ Q := by
  refine CSR_enter n (ho := rfl) rfl (by rfl) rfl rfl rfl (bind2 fun _ _ => by rfl) (by rfl) (by decide) rfl rfl rfl fun C hr hf => ?_
  repeat walk_at "s"
  rw [if_neg (by simp; omega)]
  repeat walk_at "s"
  refine TV_nm ?_
  cases b with
  | true =>
    rw [if_pos rfl]
    repeat walk_at "s"
    refine EV_gint ?_
    repeat walk_at "s"
    refine EV_gint ?_
    repeat walk_at "s"
    refine BO_fdiv ?_ h0 h1
    repeat walk_at "s"
    exact q
  | false =>
    rw [if_neg (by simp)]
    repeat walk_at "s"
    refine SV1_for ?_
    refine EV_gv ?_ fun B hB => rowsV hB
    refine ⟨_, _, .tup _, trivial, fun i l Δ' => ∃ x y, l = [some (.int s), some (.bool false), x, y, none, none, none, none, none, none] ∧ Δ' = Δ ∧ costOf s false = shortCost (shortRows.drop i) s, ⟨none, none, rfl, rfl, rfl⟩, fun _ _ _ _ => trivial, ?_, ?_⟩
    · rintro C' hC i p l₁ Δ₁ hi ⟨x, y, rfl, rfl, e⟩
      rw [List.getElem?_map] at hi
      obtain ⟨z, hz, rfl⟩ := Option.map_eq_some_iff.mp hi
      rw [List.drop_eq_getElem_cons (List.getElem?_eq_some_iff.mp hz).1, (List.getElem?_eq_some_iff.mp hz).2] at e
      unfold shortCost at e
      repeat walk_at "s"
      by_cases c : z.1 ≤ s
      · rw [if_pos (by simpa using c)]
        rw [if_pos c] at e
        repeat walk_at "s"
        rw [← e]; exact q
      · rw [if_neg (by simpa using c)]
        rw [if_neg c] at e
        repeat walk_at "s"
        exact ⟨_, _, rfl, rfl, e⟩
    · rintro l₁ Δ₁ ⟨x, y, rfl, rfl, e⟩
      repeat walk_at "s"
      rw [show (250 : Int) = costOf s false from e.symm]
      exact q
noncomputable def costUp : List (Int × Int) → Bool
  | [] => true
  | x :: xs => xs.all (fun y => decide (x.2 ≤ y.2)) && decide (x.2 ≤ 250) && costUp xs
theorem shortCost_lo {c : Int} (h : c ≤ 250) : ∀ {xs : List (Int × Int)} (s : Int), (∀ y ∈ xs, c ≤ y.2) → c ≤ shortCost xs s
  | [], _, _ => h
  | x :: xs, s, k => by
    unfold shortCost
    by_cases e : x.1 ≤ s
    · rw [if_pos e]; exact k x (.head _)
    · rw [if_neg e]; exact shortCost_lo h s fun y hy => k y (.tail _ hy)
theorem shortCost_anti {s t : Int} (h : s ≤ t) : ∀ {xs : List (Int × Int)}, costUp xs = true → shortCost xs t ≤ shortCost xs s
  | [], _ => Int.le_refl _
  | x :: xs, k => by
    obtain ⟨k1, k2⟩ := Bool.and_eq_true_iff.mp k
    obtain ⟨k3, k4⟩ := Bool.and_eq_true_iff.mp k1
    unfold shortCost
    by_cases e : x.1 ≤ s
    · rw [if_pos e, if_pos (Int.le_trans e h)]; exact Int.le_refl _
    · rw [if_neg e]
      by_cases e2 : x.1 ≤ t
      · rw [if_pos e2]; exact shortCost_lo (of_decide_eq_true k4) s fun y hy => of_decide_eq_true (List.all_eq_true.mp k3 y hy)
      · rw [if_neg e2]; exact shortCost_anti h k2
theorem costOf_pos {s : Int} {b : Bool} : 1 ≤ costOf s b := by
  unfold costOf
  cases b with
  | true => rw [if_pos rfl]; exact Int.le_max_left _ _
  | false => rw [if_neg Bool.false_ne_true]; exact shortCost_lo (by decide) s (by decide)

theorem costOf_anti {s t : Int} {b : Bool} (h0 : 0 < s) (h : s ≤ t) : costOf t b ≤ costOf s b := by
  unfold costOf
  cases b with
  | true =>
    rw [if_pos rfl, if_pos rfl]
    have h1 : 0 ≤ 20000000 / t := Int.ediv_nonneg (by omega) (by omega)
    have h2 : 20000000 / t * t ≤ 20000000 := Int.ediv_mul_le _ (by omega)
    have h3 : 20000000 / t * s ≤ 20000000 / t * t := Int.mul_le_mul_of_nonneg_left h h1
    have : 20000000 / t ≤ 20000000 / s := (Int.le_ediv_iff_mul_le h0).mpr (by omega)
    omega
  | false =>
    rw [if_neg Bool.false_ne_true, if_neg Bool.false_ne_true]
    exact shortCost_anti h (by decide)

theorem F_pool {w : World} {n : Nat} {ns : List Int} {k : Nat} {Δ : Led} {Q : PV → Led → Prop} (hk : k < 1000) (hz : ns.length < 1000)
    (q : ∀ b x y, Δ b = none → Src0 x y → Q (.obj b) (Δ.upd b (src x y))) : CSR pw w (KF w) (n + 1) 182 [.list (ns.map PV.int), .int k] Δ Q := by
  refine CSR_enter n (ho := rfl) rfl (by rfl) rfl rfl rfl (bind2 fun _ _ => by rfl) (by rfl) (by decide) rfl rfl rfl fun C hr hf => ?_
  have hk2 : (k : Int) < 2 ^ 62 := by omega
  refine SV_cons (SV1_a (EV.mono (Q := fun p Δ' => Δ' = Δ ∧ ∃ c : Int, p = .int c) ?_ ?_))
  · repeat walk_at "s"
    refine EV_ifexp ?_
    repeat walk_at "s"
    refine BC_lenL (.f _ _) ?_ (by simp; omega)
    repeat walk_at "s"
    by_cases c : k < ns.length
    · rw [if_pos (by simp; omega)]
      repeat walk_at "s"
      refine GI_lst (x := .int ns[k]) ⟨rfl, _, rfl⟩ (by omega) hk2 (by simp [c])
    · rw [if_neg (by simp; omega)]
      repeat walk_at "s"
      exact ⟨rfl, _, rfl⟩
  rintro p Δ' ⟨rfl, c, rfl⟩
  repeat walk_at "s"
  generalize hbig : max c (-1 - c) = big
  have hb0 : 0 ≤ big := by omega
  repeat walk_at "s"
  refine BO_mod ?_ (by decide)
  repeat walk_at "s"
  refine BO_mul ?_ (by omega)
  repeat walk_at "s"
  refine BO_mul ?_ (by omega)
  repeat walk_at "s"
  refine BO_mul ?_ (by omega)
  repeat walk_at "s"
  refine BO_mul ?_ (by decide)
  repeat walk_at "s"
  refine BO_mod ?_ (by decide)
  generalize hm : ((big % 2147483629 + 7919 * (k : Int) * k + 31 * k + 17) * 48271) % 2147483647 = m
  have hm0 : 0 ≤ m := by rw [← hm]; exact Int.emod_nonneg _ (by omega)
  have hm1 : m < 2147483648 := by rw [← hm]; have := Int.emod_lt_of_pos ((big % 2147483629 + 7919 * (k : Int) * k + 31 * k + 17) * 48271) (show (0 : Int) < 2147483647 by omega); omega
  repeat walk_at "s"
  refine EV_lsO ?_
  repeat walk_at "s"
  refine BO_pow ?_ (by decide) (by decide) (by decide)
  repeat walk_at "s"
  refine BO_mul ?_ (by split <;> omega)
  repeat walk_at "s"
  refine ⟨rfl, fun b hb => q b _ _ hb ⟨Int.mul_nonneg hb0 (by split <;> omega), hm0, hm1⟩⟩

structure Scn where
  brs : List (Int × (Int × Int))
  prt : List ((Int × Int) × ((Int × Int) × Int))
  web : List ((Int × Int) × (Int × Int))
noncomputable def kB (b : List (Int × (Int × Int))) : List (Int × PV) := b.map fun x => (x.1, pr x.2)
noncomputable def kP (p : List ((Int × Int) × ((Int × Int) × Int))) : List ((Int × Int) × PV) := p.map fun x => (x.1, .tup [pr x.2.1, .int x.2.2])
noncomputable def wP (x : (Int × Int) × (Int × Int)) : PV := .tup [pr x.1, pr x.2]
noncomputable def endsOf (web : List ((Int × Int) × (Int × Int))) : List (Int × Int) := web.flatMap fun x => [x.1, x.2]
theorem endsOf_length (web : List ((Int × Int) × (Int × Int))) : (endsOf web).length = 2 * web.length := by
  induction web with
  | nil => rfl
  | cons x xs ih => simp only [endsOf, List.flatMap_cons, List.length_append, List.length_cons, List.length_nil] at ih ⊢; omega
theorem endsOf_app (web : List ((Int × Int) × (Int × Int))) (x : (Int × Int) × (Int × Int)) : endsOf (web ++ [x]) = endsOf web ++ [x.1] ++ [x.2] := by simp [endsOf]
structure BrsOk (n : Nat) (b : List (Int × (Int × Int))) : Prop where
  keys : b.map (·.1) = (List.range n).map fun (i : Nat) => (i : Int)
  snd : ∀ x ∈ b, x.2.2 = 70 - x.1 ∨ x.2.2 = 50 + x.1
structure PrtOk (n : Nat) (cs : List Int) (es : List (Int × Int)) (p : List ((Int × Int) × ((Int × Int) × Int))) : Prop where
  keys : p.map (·.1) = es
  nd : es.Nodup
  num : ∀ x ∈ p, x.2.1.2 = x.1.2
  cost : ∀ x ∈ p, 1 ≤ x.2.2
  lo : ∀ x ∈ p, 0 ≤ x.1.1
  hi : ∀ x ∈ p, x.1.1 < n
  cnt : ∀ x ∈ p, ∀ c, cs[x.1.1.toNat]? = some c → x.1.2 ≤ c
structure Scn.Ok (n : Nat) (s : Scn) : Prop where
  n3 : 3 ≤ n
  n4 : n ≤ 4
  b : BrsOk n s.brs
  p : ∃ cs, PrtOk n cs (endsOf s.web) s.prt
  w3 : 3 ≤ s.web.length
  w6 : s.web.length ≤ 6
structure SceneL (Δ : Led) (B P W : Addr) (s : Scn) : Prop where
  b : ∃ ep, Δ B = some (.dictI ep (kB s.brs))
  p : ∃ ep, Δ P = some (.dictT ep (kP s.prt))
  w : Δ W = some (.list (s.web.map wP))
structure SrcL (Δ : Led) (S : Addr) (x y : Int) : Prop where
  h : Δ S = some (src x y)
  o : Src0 x y
theorem SceneL.upd {Δ : Led} {B P W : Addr} {s : Scn} (h : SceneL Δ B P W s) {a : Addr} {m : MO} (h1 : a ≠ B) (h2 : a ≠ P) (h3 : a ≠ W) : SceneL (Δ.upd a m) B P W s where
  b := by rw [Led.upd_ne (Ne.symm h1)]; exact h.b
  p := by rw [Led.upd_ne (Ne.symm h2)]; exact h.p
  w := by rw [Led.upd_ne (Ne.symm h3)]; exact h.w
theorem SceneL.new {Δ : Led} {B P W : Addr} {s : Scn} (h : SceneL Δ B P W s) {a : Addr} {m : MO} (ha : Δ a = none) : SceneL (Δ.upd a m) B P W s := by
  refine h.upd ?_ ?_ ?_
  · rintro rfl; obtain ⟨ep, e⟩ := h.b; rw [ha] at e; cases e
  · rintro rfl; obtain ⟨ep, e⟩ := h.p; rw [ha] at e; cases e
  · rintro rfl; have e := h.w; rw [ha] at e; cases e
theorem SrcL.upd {Δ : Led} {S : Addr} {x y : Int} (h : SrcL Δ S x y) {a : Addr} {m : MO} (ha : a ≠ S) : SrcL (Δ.upd a m) S x y := ⟨by rw [Led.upd_ne (Ne.symm ha)]; exact h.h, h.o⟩
theorem SrcL.new {Δ : Led} {S : Addr} {x y : Int} (h : SrcL Δ S x y) {a : Addr} {m : MO} (ha : Δ a = none) : SrcL (Δ.upd a m) S x y := h.upd (by rintro rfl; rw [h.h] at ha; cases ha)
theorem kput_new {K : Type} [DecidableEq K] {kvs : List (K × PV)} {k : K} {p : PV} (h : k ∉ kvs.map (·.1)) : kput kvs k p = kvs ++ [(k, p)] := by
  unfold kput
  rw [if_neg]
  rw [kget_isSome]; exact h
theorem kBmap (b : List (Int × (Int × Int))) : (kB b).map (·.1) = b.map (·.1) := by simp [kB]
theorem kPmap (b : List ((Int × Int) × ((Int × Int) × Int))) : (kP b).map (·.1) = b.map (·.1) := by simp [kP]
theorem TyO.list {Δ : Led} {a : Addr} {ps : List PV} (h : Δ a = some (.list ps)) : TyO Δ a "list" := .inl ⟨ps, h, rfl⟩
theorem TyO.dictI {Δ : Led} {a : Addr} {ep : Nat} {kvs : List (Int × PV)} (h : Δ a = some (.dictI ep kvs)) : TyO Δ a "dict" := .inr (.inl ⟨ep, kvs, h, rfl⟩)
theorem rng_at {n i : Nat} {p : PV} (h : ((List.range n).map fun i => PV.int (i : Nat))[i]? = some p) : i < n ∧ p = .int (i : Nat) := by
  rw [List.getElem?_map] at h
  obtain ⟨z, hz, rfl⟩ := Option.map_eq_some_iff.mp h
  obtain ⟨h1, h2⟩ := List.getElem?_eq_some_iff.mp hz
  simp at h1 h2
  exact ⟨h1, by rw [h2]⟩

theorem F_takeL {w : World} {n : Nat} {b : Addr} {x y t : Int} {Δ : Led} {Q : PV → Led → Prop} (hb : SrcL Δ b x y) (h0 : 0 < t) (h1 : t < 1073741824)
    (q : ∀ d x' y', 0 ≤ d → d < t → Src0 x' y' → Q (.int d) (Δ.upd b (src x' y'))) : CSR pw w (KF w) (n + 1) 189 [.obj b, .int t] Δ Q := F_take hb.h hb.o h0 h1 q
theorem F_oneL {w : World} {n : Nat} {b : Addr} {x y : Int} {ps : List PV} {Δ : Led} {Q : PV → Led → Prop} (hb : SrcL Δ b x y) (hne : ps ≠ []) (hz : ps.length < 1000)
    (q : ∀ p x' y', p ∈ ps → Src0 x' y' → Q p (Δ.upd b (src x' y'))) : CSR pw w (KF w) (n + 2) 196 [.obj b, .list ps] Δ Q := F_one hb.h hb.o hne hz q

structure Sc0 (Δ : Led) (S B P W : Addr) (s : Scn) : Prop extends SceneL Δ B P W s where
  sr : ∃ x y, SrcL Δ S x y
  BP : B ≠ P
  BW : B ≠ W
  PW : P ≠ W
  SB : S ≠ B
  SP : S ≠ P
  SW : S ≠ W
theorem Sc0.srcUpd {Δ : Led} {S B P W : Addr} {s : Scn} (h : Sc0 Δ S B P W s) {x y : Int} (o : Src0 x y) : Sc0 (Δ.upd S (src x y)) S B P W s :=
  ⟨h.toSceneL.upd h.SB h.SP h.SW, ⟨x, y, Led.upd_self _ _ _, o⟩, h.BP, h.BW, h.PW, h.SB, h.SP, h.SW⟩
theorem Sc0.new {Δ : Led} {S B P W : Addr} {s : Scn} (h : Sc0 Δ S B P W s) {a : Addr} {m : MO} (ha : Δ a = none) : Sc0 (Δ.upd a m) S B P W s :=
  ⟨h.toSceneL.new ha, by obtain ⟨x, y, e⟩ := h.sr; exact ⟨x, y, e.new ha⟩, h.BP, h.BW, h.PW, h.SB, h.SP, h.SW⟩
theorem Sc0.upd {Δ : Led} {S B P W : Addr} {s : Scn} (h : Sc0 Δ S B P W s) {a : Addr} {m : MO} (h1 : a ≠ B) (h2 : a ≠ P) (h3 : a ≠ W) (h4 : a ≠ S) : Sc0 (Δ.upd a m) S B P W s :=
  ⟨h.toSceneL.upd h1 h2 h3, by obtain ⟨x, y, e⟩ := h.sr; exact ⟨x, y, e.upd h4⟩, h.BP, h.BW, h.PW, h.SB, h.SP, h.SW⟩
theorem Sc0.setB {Δ : Led} {S B P W : Addr} {s : Scn} (h : Sc0 Δ S B P W s) (b : List (Int × (Int × Int))) (ep : Nat) : Sc0 (Δ.upd B (.dictI ep (kB b))) S B P W { s with brs := b } where
  b := ⟨ep, Led.upd_self _ _ _⟩
  p := by rw [Led.upd_ne (Ne.symm h.BP)]; exact h.p
  w := by rw [Led.upd_ne (Ne.symm h.BW)]; exact h.w
  sr := by obtain ⟨x, y, e⟩ := h.sr; exact ⟨x, y, e.upd (Ne.symm h.SB)⟩
  BP := h.BP
  BW := h.BW
  PW := h.PW
  SB := h.SB
  SP := h.SP
  SW := h.SW
theorem Sc0.setP {Δ : Led} {S B P W : Addr} {s : Scn} (h : Sc0 Δ S B P W s) (p : List ((Int × Int) × ((Int × Int) × Int))) (ep : Nat) : Sc0 (Δ.upd P (.dictT ep (kP p))) S B P W { s with prt := p } where
  b := by rw [Led.upd_ne h.BP]; exact h.b
  p := ⟨ep, Led.upd_self _ _ _⟩
  w := by rw [Led.upd_ne (Ne.symm h.PW)]; exact h.w
  sr := by obtain ⟨x, y, e⟩ := h.sr; exact ⟨x, y, e.upd (Ne.symm h.SP)⟩
  BP := h.BP
  BW := h.BW
  PW := h.PW
  SB := h.SB
  SP := h.SP
  SW := h.SW
theorem Sc0.setW {Δ : Led} {S B P W : Addr} {s : Scn} (h : Sc0 Δ S B P W s) (v : List ((Int × Int) × (Int × Int))) : Sc0 (Δ.upd W (.list (v.map wP))) S B P W { s with web := v } where
  b := by rw [Led.upd_ne h.BW]; exact h.b
  p := by rw [Led.upd_ne h.PW]; exact h.p
  w := Led.upd_self _ _ _
  sr := by obtain ⟨x, y, e⟩ := h.sr; exact ⟨x, y, e.upd (Ne.symm h.SW)⟩
  BP := h.BP
  BW := h.BW
  PW := h.PW
  SB := h.SB
  SP := h.SP
  SW := h.SW

structure Sc1 (Δ : Led) (S B P W K E : Addr) (s : Scn) (cs : List Int) (es : List (Int × Int)) : Prop extends Sc0 Δ S B P W s where
  hK : Δ K = some (.list (cs.map PV.int))
  hE : Δ E = some (.list (es.map pr))
  KB : K ≠ B
  KP : K ≠ P
  KW : K ≠ W
  KS : K ≠ S
  EB : E ≠ B
  EP : E ≠ P
  EW : E ≠ W
  ES : E ≠ S
  EK : E ≠ K
theorem Sc0.ne {Δ : Led} {S B P W : Addr} {s : Scn} (h : Sc0 Δ S B P W s) {K : Addr} (hK : Δ K = none) : K ≠ B ∧ K ≠ P ∧ K ≠ W ∧ K ≠ S := by
  refine ⟨?_, ?_, ?_, ?_⟩
  · rintro rfl; obtain ⟨ep, e⟩ := h.b; rw [hK] at e; cases e
  · rintro rfl; obtain ⟨ep, e⟩ := h.p; rw [hK] at e; cases e
  · rintro rfl; have e := h.w; rw [hK] at e; cases e
  · rintro rfl; obtain ⟨_, _, e⟩ := h.sr; rw [e.h] at hK; cases hK
theorem Sc1.mk' {Δ : Led} {S B P W K E : Addr} {s : Scn} {cs : List Int} (h : Sc0 Δ S B P W s) (hK : Δ K = some (.list (cs.map PV.int))) (hE : Δ E = none) (k : K ≠ B ∧ K ≠ P ∧ K ≠ W ∧ K ≠ S) : Sc1 (Δ.upd E (.list [])) S B P W K E s cs [] := by
  have e := h.ne hE
  have hEK : E ≠ K := by rintro rfl; rw [hE] at hK; cases hK
  exact ⟨h.new hE, by rw [Led.upd_ne (Ne.symm hEK)]; exact hK, Led.upd_self _ _ _, k.1, k.2.1, k.2.2.1, k.2.2.2, e.1, e.2.1, e.2.2.1, e.2.2.2, hEK⟩
theorem Sc1.srcUpd {Δ : Led} {S B P W K E : Addr} {s : Scn} {cs : List Int} {es : List (Int × Int)} (h : Sc1 Δ S B P W K E s cs es) {x y : Int} (o : Src0 x y) : Sc1 (Δ.upd S (src x y)) S B P W K E s cs es :=
  ⟨h.toSc0.srcUpd o, by rw [Led.upd_ne h.KS]; exact h.hK, by rw [Led.upd_ne h.ES]; exact h.hE, h.KB, h.KP, h.KW, h.KS, h.EB, h.EP, h.EW, h.ES, h.EK⟩
theorem Sc1.setK {Δ : Led} {S B P W K E : Addr} {s : Scn} {cs cs' : List Int} {es : List (Int × Int)} (h : Sc1 Δ S B P W K E s cs es) : Sc1 (Δ.upd K (.list (cs'.map PV.int))) S B P W K E s cs' es :=
  ⟨h.toSc0.upd h.KB h.KP h.KW h.KS, Led.upd_self _ _ _, by rw [Led.upd_ne h.EK]; exact h.hE, h.KB, h.KP, h.KW, h.KS, h.EB, h.EP, h.EW, h.ES, h.EK⟩
theorem Sc1.setE {Δ : Led} {S B P W K E : Addr} {s : Scn} {cs : List Int} {es es' : List (Int × Int)} (h : Sc1 Δ S B P W K E s cs es) : Sc1 (Δ.upd E (.list (es'.map pr))) S B P W K E s cs es' :=
  ⟨h.toSc0.upd h.EB h.EP h.EW h.ES, by rw [Led.upd_ne (Ne.symm h.EK)]; exact h.hK, Led.upd_self _ _ _, h.KB, h.KP, h.KW, h.KS, h.EB, h.EP, h.EW, h.ES, h.EK⟩
theorem Sc1.setP {Δ : Led} {S B P W K E : Addr} {s : Scn} {cs : List Int} {es : List (Int × Int)} (h : Sc1 Δ S B P W K E s cs es) (p : List ((Int × Int) × ((Int × Int) × Int))) (ep : Nat) : Sc1 (Δ.upd P (.dictT ep (kP p))) S B P W K E { s with prt := p } cs es :=
  ⟨h.toSc0.setP p ep, by rw [Led.upd_ne h.KP]; exact h.hK, by rw [Led.upd_ne h.EP]; exact h.hE, h.KB, h.KP, h.KW, h.KS, h.EB, h.EP, h.EW, h.ES, h.EK⟩
theorem PrtOk.add {n : Nat} {cs : List Int} {es : List (Int × Int)} {p : List ((Int × Int) × ((Int × Int) × Int))} (h : PrtOk n cs es p) {sw c pr co : Int} (h0 : 0 ≤ sw) (hn : sw < n) (hc : cs[sw.toNat]? = some c) (h1 : 1 ≤ co) :
    (sw, c + 1) ∉ es ∧ PrtOk n (cs.set sw.toNat (c + 1)) (es ++ [(sw, c + 1)]) (p ++ [((sw, c + 1), ((pr, c + 1), co))]) := by
  have hnew : (sw, c + 1) ∉ es := by
    rw [← h.keys]; intro hm
    obtain ⟨x, hx, e⟩ := List.mem_map.mp hm
    have := h.cnt x hx c (by rw [e]; exact hc)
    rw [e] at this; simp at this; omega
  have hlt := (List.getElem?_eq_some_iff.mp hc).1
  refine ⟨hnew, ?_, ?_, ?_, ?_, ?_, ?_, ?_⟩
  · simp [h.keys]
  · exact List.nodup_append.mpr ⟨h.nd, by simp, by intro a ha b hb; simp at hb; subst hb; rintro rfl; exact hnew ha⟩
  · intro x hx; rcases List.mem_append.mp hx with hx | hx
    · exact h.num x hx
    · simp at hx; subst hx; rfl
  · intro x hx; rcases List.mem_append.mp hx with hx | hx
    · exact h.cost x hx
    · simp at hx; subst hx; exact h1
  · intro x hx; rcases List.mem_append.mp hx with hx | hx
    · exact h.lo x hx
    · simp at hx; subst hx; exact h0
  · intro x hx; rcases List.mem_append.mp hx with hx | hx
    · exact h.hi x hx
    · simp at hx; subst hx; exact hn
  · intro x hx d hd; rcases List.mem_append.mp hx with hx | hx
    · by_cases e : sw.toNat = x.1.1.toNat
      · rw [List.getElem?_set, if_pos e, if_pos hlt] at hd
        cases hd
        have := h.cnt x hx c (by rw [← e]; exact hc)
        omega
      · rw [List.getElem?_set_ne e] at hd
        exact h.cnt x hx d hd
    · simp at hx; subst hx
      rw [List.getElem?_set, if_pos rfl, if_pos hlt] at hd
      cases hd; simp

inductive IvSc1 (S B P W : Addr) (m : Nat) (i : Nat) (l : List (Option PV)) (Δ' : Led) : Prop
  | mk (z : Option PV) (b : List (Int × (Int × Int))) (h0 : l = [some (.obj S), some (.obj B), some (.obj P), some (.obj W), some (.int m), z, none, none, none, none, none, none, none, none, none]) (h1 : BrsOk i b) (h2 : Sc0 Δ' S B P W ⟨b, [], []⟩)
inductive IvSc2 (S B P W K : Addr) (m : Nat) (il : Bool) (b : List (Int × (Int × Int))) (i : Nat) (l : List (Option PV)) (Δ' : Led) : Prop
  | mk (z1 z2 z3 z4 : Option PV) (cs : List Int) (p : List ((Int × Int) × ((Int × Int) × Int))) (v : List ((Int × Int) × (Int × Int))) (h0 : l = [some (.obj S), some (.obj B), some (.obj P), some (.obj W), some (.int m), z1, some (.bool il), some (.obj K), z2, z3, z4, none, none, none, none]) (h1 : Δ' K = some (.list (cs.map PV.int))) (h2 : cs.length = m) (h3 : Sc0 Δ' S B P W ⟨b, p, v⟩) (h4 : PrtOk m cs (endsOf v) p) (h5 : v.length = i)
inductive IvSc3 (S B P W K E : Addr) (m : Nat) (il : Bool) (i : Nat) (b : List (Int × (Int × Int))) (v : List ((Int × Int) × (Int × Int))) (j : Nat) (l : List (Option PV)) (Δ' : Led) : Prop
  | mk (z1 z2 : Option PV) (cs : List Int) (p : List ((Int × Int) × ((Int × Int) × Int))) (es : List (Int × Int)) (h0 : l = [some (.obj S), some (.obj B), some (.obj P), some (.obj W), some (.int m), z1, some (.bool il), some (.obj K), some (.int (i : Nat)), some (.obj E), z2, none, none, none, none]) (h1 : Sc1 Δ' S B P W K E ⟨b, p, v⟩ cs es) (h2 : cs.length = m) (h3 : PrtOk m cs (endsOf v ++ es) p) (h4 : es.length = j)
theorem F_scene {w : World} {n : Nat} {S : Addr} {x y : Int} {Δ : Led} {Q : PV → Led → Prop} (hs : SrcL Δ S x y)
    (q : ∀ Δ' B P W s m x' y', s.Ok m → SceneL Δ' B P W s → SrcL Δ' S x' y' → Q (.tup [.obj B, .obj P, .obj W]) Δ') : CSR pw w (KF w) (n + 3) 203 [.obj S] Δ Q := by
  refine CSR_enter (n + 2) (ho := rfl) rfl (by rfl) rfl rfl rfl (bind1 fun _ => by rfl) (by rfl) (by decide) rfl rfl rfl fun C hr hf => ?_
  repeat walk_at "s"
  refine EV_dict0 fun B hB => ?_
  repeat walk_at "s"
  refine EV_dict0T fun P hP => ?_
  repeat walk_at "s"
  refine EV_lsO ?_
  repeat walk_at "s"
  refine ⟨rfl, fun W hW => ?_⟩
  have hSB : S ≠ B := by rintro rfl; rw [hs.h] at hB; cases hB
  have hs1 : SrcL (Δ.upd B (MO.dictI 0 [])) S x y := hs.new hB
  have hs2 := hs1.new (m := MO.dictT 0 []) hP
  have hs3 := hs2.new (m := MO.list []) hW
  have hPB : B ≠ P := by rintro rfl; rw [Led.upd_self] at hP; cases hP
  have hSP : S ≠ P := by rintro rfl; rw [hs1.h] at hP; cases hP
  have hSW : S ≠ W := by rintro rfl; rw [hs2.h] at hW; cases hW
  have hPW : P ≠ W := by rintro rfl; rw [Led.upd_self] at hW; cases hW
  have hBW : B ≠ W := by rintro rfl; rw [Led.upd_ne hPB, Led.upd_self] at hW; cases hW
  have h0 : Sc0 (((Δ.upd B (MO.dictI 0 [])).upd P (MO.dictT 0 [])).upd W (MO.list [])) S B P W ⟨[], [], []⟩ :=
    ⟨⟨⟨0, by rw [Led.upd_ne hBW, Led.upd_ne hPB, Led.upd_self]; rfl⟩, ⟨0, by rw [Led.upd_ne hPW, Led.upd_self]; rfl⟩, Led.upd_self _ _ _⟩, ⟨x, y, hs3⟩, hPB, hBW, hPW, hSB, hSP, hSW⟩
  generalize ((Δ.upd B (MO.dictI 0 [])).upd P (MO.dictT 0 [])).upd W (MO.list []) = Δ1 at h0
  obtain ⟨x1, y1, hs4⟩ := h0.sr
  repeat walk_at "s"
  refine F_takeL (t := 2) hs4 (by decide) (by decide) fun d x2 y2 hd0 hd1 ho => ?_
  have h1 := h0.srcUpd ho
  generalize Δ1.upd S (src x2 y2) = Δ2 at h1
  obtain ⟨m, hm⟩ : ∃ m : Nat, 3 + d = m := ⟨(3 + d).toNat, by omega⟩
  have hm3 : 3 ≤ m := by omega
  have hm4 : m ≤ 4 := by omega
  repeat walk_at "s"
  rw [hm]
  refine ⟨rfl, ?_⟩
  repeat walk_at "s"
  refine SV1_for ?_
  repeat walk_at "s"
  refine ⟨_, _, .rng m (by omega), trivial, IvSc1 S B P W m, ?_, fun _ _ _ _ => trivial, ?_, ?_⟩
  · exact ⟨none, [], rfl, ⟨rfl, by simp⟩, h1⟩
  · rintro C' hC i p l₁ Δ₁ hi ⟨z, b, rfl, hb, h⟩
    have hr' : n + 2 ≤ C'.room := hC.1 ▸ hr
    obtain ⟨hin, rfl⟩ := rng_at hi
    obtain ⟨x1, y1, hs⟩ := h.sr
    repeat walk_at "s"
    refine EV_ls ?_
    repeat walk_at "s"
    refine ⟨rfl, ?_⟩
    repeat walk_at "s"
    refine F_oneL (ps := [.int 4, .int 4, .int 8]) hs (by simp) (by decide) fun p x2 y2 hp ho => ?_
    have h1 := h.srcUpd ho
    generalize Δ₁.upd S (src x2 y2) = Δ2 at h1
    obtain ⟨x3, y3, hs3⟩ := h1.sr
    obtain ⟨c1, rfl⟩ : ∃ c : Int, p = .int c := by simp at hp; rcases hp with rfl | rfl <;> exact ⟨_, rfl⟩
    repeat walk_at "s"
    refine EV.mono (Q := fun p Δ' => Sc0 Δ' S B P W ⟨b, [], []⟩ ∧ ∃ c : Int, p = .int c ∧ (c = 70 - i ∨ c = 50 + i)) (EV_ifexp ?_) ?_
    · repeat walk_at "s"
      refine F_takeL (t := 2) hs3 (by decide) (by decide) fun d x4 y4 hd0 hd1 ho => ?_
      repeat walk_at "s"
      have h2 := h1.srcUpd ho
      split
      · repeat walk_at "s"
        exact ⟨h2, _, rfl, .inl rfl⟩
      · repeat walk_at "s"
        exact ⟨h2, _, rfl, .inr rfl⟩
    rintro p Δ3 ⟨h2, c, rfl, hc⟩
    repeat walk_at "s"
    refine ⟨rfl, ?_⟩
    refine AS_sub ?_
    repeat walk_at "s"
    obtain ⟨ep, hB3⟩ := h2.b
    have hnew : (i : Int) ∉ (kB b).map (·.1) := by rw [kBmap, hb.keys]; simp; omega
    refine SI_dI hB3 (fun ep' => ?_) (by have := congrArg List.length hb.keys; simp at this; simp [kB]; omega)
    rw [kput_new hnew]
    repeat walk_at "s"
    refine ⟨some (.int i), b ++ [(((i : Nat) : Int), (c1, c))], rfl, ⟨?_, ?_⟩, ?_⟩
    · simp [hb.keys, List.range_succ]
    · intro x hx
      rcases List.mem_append.mp hx with hx | hx
      · exact hb.snd x hx
      · simp at hx; subst hx; exact hc
    · have := h2.setB (b ++ [(((i : Nat) : Int), (c1, c))]) ep'
      simpa [kB] using this
  · rintro l₁ Δ₁ ⟨z, b, rfl, hb, h⟩
    simp only [List.length_map, List.length_range] at hb
    obtain ⟨x3, y3, hs3⟩ := h.sr
    clear h1 h0 hs4 hs3
    repeat walk_at "s"
    obtain ⟨x3, y3, hs3⟩ := h.sr
    refine SV1_as ["is_long", "counts"] ?_
    repeat walk_at "s"
    refine F_takeL (t := 2) hs3 (by decide) (by decide) fun d x4 y4 hd0 hd1 ho => ?_
    have h2 := h.srcUpd ho
    generalize Δ₁.upd S (src x4 y4) = Δ2 at h2
    repeat walk_at "s"
    refine EV_ls ?_
    repeat walk_at "s"
    refine ⟨rfl, ?_⟩
    repeat walk_at "s"
    refine BO_mulL1 (.f _ _) (.inr fun K hK => ?_) (by omega) (by omega)
    have hKne := h2.ne hK
    have hKB : K ≠ B := by rintro rfl; obtain ⟨ep, e⟩ := h2.b; rw [hK] at e; cases e
    have hKP : K ≠ P := by rintro rfl; obtain ⟨ep, e⟩ := h2.p; rw [hK] at e; cases e
    have hKW : K ≠ W := by rintro rfl; have e := h2.w; rw [hK] at e; cases e
    have hKS : K ≠ S := by rintro rfl; obtain ⟨_, _, e⟩ := h2.sr; rw [e.h] at hK; cases hK
    have h3 := h2.new (m := MO.list (List.replicate (Int.toNat (m : Nat)) (PV.int 0))) hK
    have hK3 := Led.upd_self Δ2 K (MO.list (List.replicate (Int.toNat (m : Nat)) (PV.int 0)))
    generalize Δ2.upd K _ = Δ3 at h3 hK3
    repeat walk_at "s"
    refine ⟨rfl, _, rfl, rfl, ?_⟩
    repeat walk_at "s"
    obtain ⟨x5, y5, hs5⟩ := h3.sr
    refine SV1_for ?_
    repeat walk_at "s"
    refine F_takeL (t := 4) hs5 (by decide) (by decide) fun d2 x6 y6 hd2 hd3 ho2 => ?_
    have h4 := h3.srcUpd ho2
    have hK4 : (Δ3.upd S (src x6 y6)) K = some (.list (List.replicate (Int.toNat (m : Nat)) (PV.int 0))) := by rw [Led.upd_ne hKS]; exact hK3
    generalize Δ3.upd S (src x6 y6) = Δ4 at h4 hK4
    obtain ⟨t, ht⟩ : ∃ t : Nat, 3 + d2 = t := ⟨(3 + d2).toNat, by omega⟩
    repeat walk_at "s"
    rw [ht]
    generalize (d == 0) = il
    refine ⟨_, _, .rng t (by omega), trivial, IvSc2 S B P W K m il b, ?_, fun _ _ _ _ => trivial, ?_, ?_⟩
    · exact ⟨z, none, none, none, List.replicate m 0, [], [], rfl, by simpa using hK4, by simp, h4, ⟨rfl, List.nodup_nil, by simp, by simp, by simp, by simp, by simp⟩, rfl⟩
    · rintro C' hC i p l₁ Δ₁ hi ⟨z1, z2, z3, z4, cs, p, v, rfl, hKl, hcs, h, hp, hv⟩
      have hr' : n + 2 ≤ C'.room := hC.1 ▸ hr
      obtain ⟨hin, rfl⟩ := rng_at hi
      repeat walk_at "s"
      refine EV_lsO ?_
      repeat walk_at "s"
      refine ⟨rfl, fun E hE => ?_⟩
      repeat walk_at "s"
      have h5 := Sc1.mk' h hKl hE hKne
      generalize Δ₁.upd E (MO.list []) = Δ5 at h5
      clear hE hKl h
      obtain ⟨x8, y8, hs8⟩ := h5.sr
      refine SV1_for ?_
      refine EV_ls ?_
      repeat walk_at "s"
      refine F_takeL (t := m) hs8 (by omega) (by omega) fun e1 x9 y9 g1 g2 ho9 => ?_
      have h6 := h5.srcUpd ho9
      generalize Δ5.upd S (src x9 y9) = Δ6 at h6
      obtain ⟨x8, y8, hs8⟩ := h6.sr
      repeat walk_at "s"
      refine F_takeL (t := m) hs8 (by omega) (by omega) fun e2 x9 y9 g3 g4 ho9 => ?_
      have h7 := h6.srcUpd ho9
      generalize Δ6.upd S (src x9 y9) = Δ7 at h7
      repeat walk_at "s"
      refine ⟨rfl, ?_⟩
      refine ⟨_, _, .list [.int e1, .int e2], trivial, IvSc3 S B P W K E m il i b v, ⟨z1, z4, cs, p, [], rfl, h7, hcs, by simpa using hp, rfl⟩, fun _ _ _ _ => trivial, ?_, ?_⟩
      · clear h5 h6 h7 hs8 hcs hp
        rintro C'' hC'' j u l₂ Δ₂ hj ⟨z1, z2, cs, p, es, rfl, h, hcs, hp, hes⟩
        have hr'' : n + 2 ≤ C''.room := hC''.1 ▸ hr'
        obtain ⟨sw, rfl, hsw0, hsw1, hj2⟩ : ∃ sw : Int, u = .int sw ∧ 0 ≤ sw ∧ sw < m ∧ j < 2 := by
          rcases j with _ | _ | j
          · simp at hj; exact ⟨e1, hj.symm, g1, g2, by omega⟩
          · simp at hj; exact ⟨e2, hj.symm, g3, g4, by omega⟩
          · simp at hj
        have hlt : sw.toNat < cs.length := by omega
        obtain ⟨c, hc⟩ : ∃ c, cs[sw.toNat]? = some c := ⟨_, List.getElem?_eq_getElem hlt⟩
        repeat walk_at "s"
        refine GI_olst h.hK (x := .int c) ?_ hsw0 (by omega) (by simp [hc])
        repeat walk_at "s"
        refine AS_sub ?_
        repeat walk_at "s"
        refine SI_lst h.hK ?_ hsw0 (by simp; omega) (by simp; omega)
        have h1 := h.setK (cs' := cs.set sw.toNat (c + 1))
        rw [List.map_set] at h1
        generalize Δ₂.upd K _ = Δ3 at h1
        have hc1 : (cs.set sw.toNat (c + 1))[sw.toNat]? = some (c + 1) := by rw [List.getElem?_set, if_pos rfl, if_pos hlt]
        repeat walk_at "s"
        obtain ⟨x8, y8, hs8⟩ := h1.sr
        refine EV_ls ?_
        repeat walk_at "s"
        refine ⟨rfl, ?_⟩
        repeat walk_at "s"
        refine F_oneL (ps := [.int 10, .int 100, .int 1000, .int 10000]) hs8 (by simp) (by decide) fun q1 x9 y9 hq1 ho9 => ?_
        have h2 := h1.srcUpd ho9
        generalize Δ3.upd S (src x9 y9) = Δ4 at h2
        obtain ⟨sp, rfl, hsp0, hsp1⟩ : ∃ sp : Int, q1 = .int sp ∧ 0 < sp ∧ sp < 1073741824 := by
          simp at hq1; rcases hq1 with rfl | rfl | rfl | rfl <;> exact ⟨_, rfl, by decide, by decide⟩
        repeat walk_at "s"
        refine F_cost_of hsp0 hsp1 ?_
        have hco : 1 ≤ costOf sp il := costOf_pos
        generalize costOf sp il = co at hco
        repeat walk_at "s"
        refine EV_lapp _ ?_
        repeat walk_at "s"
        refine ⟨_, rfl, .list h2.hE, ?_⟩
        repeat walk_at "s"
        refine GI_olst h2.hK (x := .int (c + 1)) ?_ hsw0 (by omega) (by rw [List.getElem?_map, hc1]; rfl)
        repeat walk_at "s"
        refine ⟨rfl, ?_⟩
        repeat walk_at "s"
        refine BC_append h2.hE ?_ (by simp; omega)
        have h3 := h2.setE (es' := es ++ [(sw, c + 1)])
        rw [List.map_append] at h3
        show SV _ _ _ (Δ4.upd E (MO.list (List.map pr es ++ List.map pr [(sw, c + 1)]))) _ _
        generalize Δ4.upd E _ = Δ8 at h3
        repeat walk_at "s"
        refine EV_ls ?_
        repeat walk_at "s"
        refine ⟨rfl, ?_⟩
        repeat walk_at "s"
        obtain ⟨x8, y8, hs8⟩ := h3.sr
        refine F_oneL (ps := [.int 8, .int 8, .int 3]) hs8 (by simp) (by decide) fun q1 x9 y9 hq1 ho9 => ?_
        have h4 := h3.srcUpd ho9
        generalize Δ8.upd S (src x9 y9) = Δ9 at h4
        obtain ⟨pi, rfl⟩ : ∃ sp : Int, q1 = .int sp := by
          simp at hq1; rcases hq1 with rfl | rfl <;> exact ⟨_, rfl⟩
        repeat walk_at "s"
        refine GI_olst h4.hK (x := .int (c + 1)) ?_ hsw0 (by omega) (by rw [List.getElem?_map, hc1]; rfl)
        repeat walk_at "s"
        refine ⟨rfl, ?_⟩
        repeat walk_at "s"
        refine ⟨rfl, ?_⟩
        refine AS_sub ?_
        repeat walk_at "s"
        refine GI_olast h4.hE (x := pr (sw, c + 1)) ?_ (by simp) (by simp; omega)
        obtain ⟨ep, hP4⟩ := h4.p
        obtain ⟨hnew, hp'⟩ := hp.add (pr := pi) hsw0 hsw1 hc hco
        have hpl : p.length ≤ 100 := by have := congrArg List.length hp.keys; simp [endsOf_length] at this; omega
        refine SI_dT hP4 (fun ep' => ?_) (by simp [kP]; omega)
        rw [kput_new (by rw [kPmap, hp.keys]; exact hnew)]
        have h5 := h4.setP (p ++ [((sw, c + 1), ((pi, c + 1), co))]) ep'
        simp only [kP, List.map_append, List.map_cons, List.map_nil] at h5 ⊢
        repeat walk_at "s"
        refine ⟨_, _, _, _, _, rfl, h5, by simpa using hcs, ?_, by simp [hes]⟩
        simpa using hp'
      · rintro l₂ Δ₂ ⟨z1, z2, cs, p, es, rfl, h, hcs, hp, hes⟩
        obtain ⟨f1, f2, rfl⟩ : ∃ f1 f2, es = [f1, f2] := by
          match es, hes with
          | [f1, f2], _ => exact ⟨f1, f2, rfl⟩
        repeat walk_at "s"
        refine EV_lapp _ ?_
        repeat walk_at "s"
        refine ⟨_, rfl, .list h.w, ?_⟩
        repeat walk_at "s"
        refine GI_olst h.hE (x := pr f1) ?_ (by decide) (by decide) (by rfl)
        repeat walk_at "s"
        refine GI_olst h.hE (x := pr f2) ?_ (by decide) (by decide) (by rfl)
        repeat walk_at "s"
        refine ⟨rfl, ?_⟩
        repeat walk_at "s"
        refine BC_append h.w ?_ (by simp; omega)
        have h3 := h.toSc0.setW (v ++ [(f1, f2)])
        have hK3 : (Δ₂.upd W (MO.list ((v ++ [(f1, f2)]).map wP))) K = some (.list (cs.map PV.int)) := by rw [Led.upd_ne h.KW]; exact h.hK
        rw [List.map_append] at h3 hK3
        show SV _ _ _ (Δ₂.upd W (MO.list (List.map wP v ++ List.map wP [(f1, f2)]))) _ _
        generalize Δ₂.upd W _ = Δ8 at h3 hK3
        repeat walk_at "s"
        exact ⟨_, _, _, _, _, _, _, rfl, hK3, hcs, h3, by rw [endsOf_app]; simpa using hp, by simp [hv]⟩
    · rintro l₁ Δ₁ ⟨z1, z2, z3, z4, cs, p, v, rfl, hKl, hcs, h, hp, hv⟩
      simp only [List.length_map, List.length_range] at hv
      obtain ⟨x7, y7, hs7⟩ := h.sr
      repeat walk_at "s"
      refine ⟨rfl, ?_⟩
      exact q _ _ _ _ _ m _ _ ⟨hm3, hm4, hb, ⟨_, hp⟩, by simp only; omega, by simp only; omega⟩ h.toSceneL hs7

theorem filter_tt {α : Type} (xs : List α) : xs.filter (fun _ => true) = xs := List.filter_eq_self.mpr (by simp)

noncomputable def Scn.br (s : Scn) (v : Int) : Int × Int := ((s.brs.find? fun x => decide (x.1 = v)).map (·.2)).getD (0, 0)
noncomputable def Scn.po (s : Scn) (e : Int × Int) : (Int × Int) × Int := ((s.prt.find? fun x => decide (x.1 = e)).map (·.2)).getD ((0, 0), 0)
noncomputable def swp (x : (Int × Int) × (Int × Int)) : (Int × Int) × (Int × Int) := (x.2, x.1)
noncomputable def Scn.E (s : Scn) : List ((Int × Int) × (Int × Int)) := s.web ++ s.web.map swp

theorem F_sides {w : World} {n : Nat} {W : Addr} {v : List ((Int × Int) × (Int × Int))} {Δ : Led} {Q : PV → Led → Prop} (hW : Δ W = some (.list (v.map wP))) (hz : v.length ≤ 100)
    (q : Q (.list ((v ++ v.map swp).map wP)) Δ) : CSR pw w (KF w) (n + 1) 208 [.obj W] Δ Q := by
  refine CSR_enter n (ho := rfl) rfl (by rfl) rfl rfl rfl (bind1 fun _ => by rfl) (by rfl) (by decide) rfl rfl rfl fun C hr hf => ?_
  repeat walk_at "s"
  refine EV_compM hf v wP (fun _ => true) wP ?_
  repeat walk_at "s"
  refine ⟨_, .olist _ _, hW, by omega, ?_, ?_⟩
  · intro C' hC x hx
    repeat walk_at "s"
    refine ⟨?_, ?_⟩
    · repeat walk_at "s"
    · repeat walk_at "s"
      refine ⟨rfl, rfl, rfl, rfl⟩
  · refine .inl ?_
    repeat walk_at "s"
    refine EV_compM hf v wP (fun _ => true) (fun x => wP (swp x)) ?_
    repeat walk_at "s"
    refine ⟨_, .olist _ _, hW, by omega, ?_, ?_⟩
    · intro C' hC x hx
      repeat walk_at "s"
      refine ⟨?_, ?_⟩
      · repeat walk_at "s"
      · repeat walk_at "s"
        refine ⟨rfl, rfl, rfl, rfl⟩
    · refine .inl ?_
      refine BO_addL (.f _ _) (.f _ _) (.inl ?_) (by simp [filter_tt]; omega)
      simpa [filter_tt, Function.comp_def] using q

section
variable {prog : Program} {w : World} {Kf : Frag} {sc : Scope} {C : Cx prog w Kf sc} {l : List (Option PV)} {Δ : Led} {Q : PV → Led → Prop}
noncomputable def isI (k : Int) : Value → Bool
  | .int i _ => i == k
  | _ => false
theorem any_isI {B : Store} {k : Int} : ∀ {ns : List Int} {vs : List Value}, VRs B (ns.map PV.int) vs → vs.any (isI k) = decide (k ∈ ns)
  | [], _, h => by rw [h.nil_inv]; simp
  | n :: ns, _, h => by
    obtain ⟨v, vs', rfl, h1, h2⟩ := h.cons_inv
    obtain ⟨t, rfl⟩ := h1.int_inv
    rw [List.any_cons, any_isI h2]
    simp only [isI, List.mem_cons]
    by_cases e : n = k
    · simp [e]
    · simp [e, Ne.symm e]
theorem all_int {B : Store} : ∀ {ns : List Int} {vs : List Value}, VRs B (ns.map PV.int) vs → ∀ y ∈ vs, ∃ i t, y = Value.int i t
  | [], _, h => by rw [h.nil_inv]; simp
  | n :: ns, _, h => by
    obtain ⟨v, vs', rfl, h1, h2⟩ := h.cons_inv
    obtain ⟨t, rfl⟩ := h1.int_inv
    intro y hy
    rcases List.mem_cons.mp hy with rfl | hy
    · exact ⟨_, _, rfl⟩
    · exact all_int h2 y hy
theorem CO_ninL {k : Int} {ns : List Int} {Q : Bool → Led → Prop} (q : Q (!decide (k ∈ ns)) Δ) : CO C .NotIn (.int k) (.list (ns.map PV.int)) l Δ Q := fun B h tk u v a r2 r1 => by
  obtain ⟨b, vs, n, rfl, hb, hv⟩ := r1.list_inv
  obtain ⟨t, rfl⟩ := r2.int_inv
  refine PySem.SeqAt.notIn_listAt (s := { C.s with heap := h, toks := tk }) (items := vs.toArray) (isI k) ⟨_, a.base.keepB _ _ hb, rfl, n, rfl⟩ (fun y hy => ?_) ?_
  · obtain ⟨i, t', rfl⟩ := all_int hv y (by simpa using hy)
    exact PySem.SeqAt.EqAt.int_int _ _ _ _
  · refine .now a .bool ⟨_, rfl, ?_⟩
    rw [List.any_toArray, any_isI hv]; exact q
end

theorem find_nodup {K V : Type} [DecidableEq K] {xs : List (K × V)} {x : K × V} (hn : (xs.map (·.1)).Nodup) (hx : x ∈ xs) : xs.find? (fun y => decide (y.1 = x.1)) = some x := by
  induction xs with
  | nil => simp at hx
  | cons y ys ih =>
    simp only [List.map_cons, List.nodup_cons] at hn
    rcases List.mem_cons.mp hx with rfl | hx
    · simp
    · have hne : y.1 ≠ x.1 := fun e => hn.1 (e ▸ List.mem_map_of_mem hx)
      rw [List.find?_cons_of_neg (by simpa using hne)]
      exact ih hn.2 hx
theorem find_map {K V W : Type} [DecidableEq K] (g : V → W) (xs : List (K × V)) (k : K) : (xs.map fun x => (x.1, g x.2)).find? (fun y => decide (y.1 = k)) = (xs.find? (fun y => decide (y.1 = k))).map fun x => (x.1, g x.2) := by
  induction xs with
  | nil => rfl
  | cons x xs ih =>
    by_cases h : x.1 = k
    · simp [h]
    · simp [h, ih]
theorem kget_find {K V : Type} [DecidableEq K] (g : V → PV) (xs : List (K × V)) (k : K) : kget (xs.map fun x => (x.1, g x.2)) k = (xs.find? fun y => decide (y.1 = k)).map fun x => g x.2 := by
  unfold kget
  rw [find_map, Option.map_map]; rfl
section
variable {s : Scn} {n : Nat}
theorem BrsOk.nodup {b : List (Int × (Int × Int))} (h : BrsOk n b) : (b.map (·.1)).Nodup := by
  rw [h.keys]
  exact List.Pairwise.map _ (fun a b (hab : a ≠ b) => by intro e; exact hab (by exact_mod_cast e)) List.nodup_range
theorem BrsOk.mem {b : List (Int × (Int × Int))} (h : BrsOk n b) {v : Int} : v ∈ b.map (·.1) ↔ 0 ≤ v ∧ v < n := by
  rw [h.keys]
  simp only [List.mem_map, List.mem_range]
  constructor
  · rintro ⟨a, h1, rfl⟩; omega
  · rintro ⟨h1, h2⟩; exact ⟨v.toNat, by omega, by omega⟩
theorem Scn.Ok.br_mem (h : s.Ok n) {v : Int} (h0 : 0 ≤ v) (h1 : v < n) : (v, s.br v) ∈ s.brs := by
  have hm := h.b.mem.mpr ⟨h0, h1⟩
  obtain ⟨x, hx, rfl⟩ := List.mem_map.mp hm
  unfold Scn.br
  rw [find_nodup h.b.nodup hx]; exact hx
theorem Scn.Ok.kB (h : s.Ok n) {v : Int} (h0 : 0 ≤ v) (h1 : v < n) : kget (kB s.brs) v = some (pr (s.br v)) := by
  have hm := h.br_mem h0 h1
  unfold Mine.kB
  rw [kget_find, find_nodup h.b.nodup hm]; rfl
theorem Scn.Ok.br_inj (h : s.Ok n) {u v : Int} (h0 : 0 ≤ u) (h1 : u < n) (h2 : 0 ≤ v) (h3 : v < n) (e : s.br u = s.br v) : u = v := by
  have a := h.b.snd _ (h.br_mem h0 h1)
  have b := h.b.snd _ (h.br_mem h2 h3)
  have n4 := h.n4
  rw [e] at a
  simp only at a b
  omega
theorem mem_ends {web : List ((Int × Int) × (Int × Int))} {e : Int × Int} : e ∈ endsOf web ↔ ∃ x ∈ web, e = x.1 ∨ e = x.2 := by
  simp [endsOf]
theorem Scn.E_ends {x : (Int × Int) × (Int × Int)} (hx : x ∈ s.E) : x.1 ∈ endsOf s.web ∧ x.2 ∈ endsOf s.web := by
  rcases List.mem_append.mp hx with hx | hx
  · exact ⟨mem_ends.mpr ⟨x, hx, .inl rfl⟩, mem_ends.mpr ⟨x, hx, .inr rfl⟩⟩
  · obtain ⟨y, hy, rfl⟩ := List.mem_map.mp hx
    exact ⟨mem_ends.mpr ⟨y, hy, .inr rfl⟩, mem_ends.mpr ⟨y, hy, .inl rfl⟩⟩
theorem Scn.E_swp {x : (Int × Int) × (Int × Int)} (hx : x ∈ s.E) : swp x ∈ s.E := by
  rcases List.mem_append.mp hx with hx | hx
  · exact List.mem_append.mpr (.inr (List.mem_map_of_mem hx))
  · obtain ⟨y, hy, rfl⟩ := List.mem_map.mp hx
    exact List.mem_append.mpr (.inl hy)
theorem Scn.E_of_end {e : Int × Int} (h : e ∈ endsOf s.web) : ∃ f, (e, f) ∈ s.E := by
  obtain ⟨x, hx, rfl | rfl⟩ := mem_ends.mp h
  · exact ⟨x.2, List.mem_append.mpr (.inl hx)⟩
  · exact ⟨x.1, List.mem_append.mpr (.inr (List.mem_map.mpr ⟨x, hx, rfl⟩))⟩
theorem Scn.Ok.E_length (h : s.Ok n) : s.E.length ≤ 12 := by
  have := h.w6
  simp [Scn.E]; omega
theorem Scn.Ok.po_mem (h : s.Ok n) {e : Int × Int} (he : e ∈ endsOf s.web) : (e, s.po e) ∈ s.prt := by
  obtain ⟨cs, hp⟩ := h.p
  rw [← hp.keys] at he
  obtain ⟨x, hx, rfl⟩ := List.mem_map.mp he
  unfold Scn.po
  rw [find_nodup (by rw [hp.keys]; exact hp.nd) hx]; exact hx
theorem Scn.Ok.kP (h : s.Ok n) {e : Int × Int} (he : e ∈ endsOf s.web) : kget (kP s.prt) e = some (.tup [pr (s.po e).1, .int (s.po e).2]) := by
  have hm := h.po_mem he
  obtain ⟨cs, hp⟩ := h.p
  unfold Mine.kP
  rw [kget_find (fun v : (Int × Int) × Int => PV.tup [pr v.1, .int v.2]), find_nodup (by rw [hp.keys]; exact hp.nd) hm]; rfl
theorem Scn.Ok.end_lo (h : s.Ok n) {e : Int × Int} (he : e ∈ endsOf s.web) : 0 ≤ e.1 ∧ e.1 < n := by
  have hm := h.po_mem he
  obtain ⟨cs, hp⟩ := h.p
  exact ⟨hp.lo _ hm, hp.hi _ hm⟩
theorem Scn.Ok.cost_pos (h : s.Ok n) {e : Int × Int} (he : e ∈ endsOf s.web) : 1 ≤ (s.po e).2 := by
  have hm := h.po_mem he
  obtain ⟨cs, hp⟩ := h.p
  exact hp.cost _ hm
theorem Scn.Ok.num (h : s.Ok n) {e : Int × Int} (he : e ∈ endsOf s.web) : (s.po e).1.2 = e.2 := by
  have hm := h.po_mem he
  obtain ⟨cs, hp⟩ := h.p
  exact hp.num _ hm
end

inductive SPm (s : Scn) (g : Int) : List Int → Int → Int → Prop
  | nil (met : List Int) : SPm s g met g 0
  | cons (met : List Int) (x : (Int × Int) × (Int × Int)) (c : Int) (hx : x ∈ s.E) (hg : x.1.1 ≠ g) (hm : x.2.1 ∉ met) (t : SPm s g (met ++ [x.2.1]) x.2.1 c) : SPm s g met x.1.1 ((s.po x.1).2 + c)

theorem nodup_le {α : Type} [DecidableEq α] : ∀ {xs ys : List α}, xs.Nodup → (∀ x ∈ xs, x ∈ ys) → xs.length ≤ ys.length
  | [], _, _, _ => Nat.zero_le _
  | x :: xs, ys, hn, hs => by
    have hx := hs x (List.mem_cons_self ..)
    simp only [List.nodup_cons] at hn
    have := nodup_le (xs := xs) (ys := ys.erase x) hn.2 fun y hy => by
      rw [List.mem_erase_of_ne (by rintro rfl; exact hn.1 hy)]; exact hs y (List.mem_cons_of_mem _ hy)
    rw [List.length_erase_of_mem hx] at this
    have := List.length_pos_of_mem hx
    simp only [List.length_cons]; omega
theorem met_lt {n : Nat} {met : List Int} {v : Int} (hnd : met.Nodup) (hv : ∀ v ∈ met, 0 ≤ v ∧ v < n) (h : v ∉ met) (h0 : 0 ≤ v) (h1 : v < n) : met.length < n := by
  have := nodup_le (xs := v :: met) (ys := (List.range n).map fun (i : Nat) => (i : Int)) (List.nodup_cons.mpr ⟨h, hnd⟩) fun x hx => by
    have : 0 ≤ x ∧ x < n := by
      rcases List.mem_cons.mp hx with rfl | hx
      · exact ⟨h0, h1⟩
      · exact hv x hx
    exact List.mem_map.mpr ⟨x.toNat, by simp; omega, by omega⟩
  simp at this; omega

inductive IvWays (s : Scn) (P : Addr) (here g : Int) (met : List Int) (d : Nat) (Δ : Led) (i : Nat) (l : List (Option PV)) (Δ' : Led) : Prop
  | mk (z1 z2 z3 : Option PV) (cs : List Int) (h0 : l = [some (.obj P), some (.list (s.E.map wP)), some (.int here), some (.int g), some (.list (met.map PV.int)), some (.list (cs.map PV.int)), z1, z2, z3, none]) (h1 : Δ' = Δ) (h2 : cs.length ≤ i * 12 ^ (d - 1)) (h3 : ∀ c : Int, c ∈ cs ↔ ∃ x ∈ s.E.take i, x.1.1 = here ∧ x.2.1 ∉ met ∧ ∃ c', SPm s g (met ++ [x.2.1]) x.2.1 c' ∧ c = (s.po x.1).2 + c')
theorem F_ways {w : World} {s : Scn} {n : Nat} (ok : s.Ok n) {P : Addr} {ep : Nat} {g : Int} {Δ : Led} (hP : Δ P = some (.dictT ep (kP s.prt))) :
    ∀ (d : Nat) (here : Int) (met : List Int), d ≤ 3 → n ≤ met.length + d → met.Nodup → (∀ v ∈ met, 0 ≤ v ∧ v < n) →
      CSR pw w (KF w) (d + 1) 213 [.obj P, .list (s.E.map wP), .int here, .int g, .list (met.map PV.int)] Δ
        (fun p Δ' => Δ' = Δ ∧ ∃ cs : List Int, p = .list (cs.map PV.int) ∧ cs.length ≤ 12 ^ d ∧ ∀ c, c ∈ cs ↔ SPm s g met here c) := by
  intro d
  induction d using Nat.strongRecOn with
  | ind d ih =>
    intro here met hd3 hd hnd hv
    refine CSR_enter d (ho := rfl) rfl (by rfl) rfl rfl rfl (bind5 fun _ _ _ _ _ => by rfl) (by rfl) (by decide) rfl rfl rfl fun C hr hf => ?_
    repeat walk_at "s"
    by_cases hg : here = g
    · rw [if_pos (by simpa using hg)]
      subst hg
      repeat walk_at "s"
      refine EV_ls ?_
      repeat walk_at "s"
      refine ⟨rfl, rfl, [0], rfl, Nat.one_le_pow _ _ (by decide), fun c => ⟨fun h => ?_, fun h => ?_⟩⟩
      · simp at h; subst h; exact .nil _
      · generalize hh : here = h' at h
        cases h with
        | nil => simp
        | cons _ x c hx hg hm t => exact absurd rfl hg
    rw [if_neg (by simpa using hg)]
    repeat walk_at "s"
    refine EV_ls ?_
    repeat walk_at "s"
    refine ⟨rfl, ?_⟩
    repeat walk_at "s"
    refine SV1_for ?_
    repeat walk_at "s"
    refine ⟨_, _, .list _, trivial, IvWays s P here g met d Δ, ?_, fun _ _ _ _ => trivial, ?_, ?_⟩
    · exact ⟨none, none, none, [], rfl, rfl, by simp, by simp⟩
    · rintro C' hC i p l₁ Δ₁ hi ⟨z1, z2, z3, cs, rfl, rfl, hz, hcs⟩
      have hr' : d ≤ C'.room := hC.1 ▸ hr
      have hf' : C'.isFn = true := hC.2.1.trans hf
      rw [List.getElem?_map] at hi
      obtain ⟨x, hx, rfl⟩ := Option.map_eq_some_iff.mp hi
      repeat walk_at "s"
      have htk : s.E.take (i + 1) = s.E.take i ++ [x] := by rw [List.take_add_one, hx]; rfl
      have hxE : x ∈ s.E := List.mem_of_getElem? hx
      have hno : ¬ (x.1.1 = here ∧ x.2.1 ∉ met) → ∀ c : Int, c ∈ cs ↔ ∃ y ∈ s.E.take (i + 1), y.1.1 = here ∧ y.2.1 ∉ met ∧ ∃ c', SPm s g (met ++ [y.2.1]) y.2.1 c' ∧ c = (s.po y.1).2 + c' := by
        intro h c
        rw [hcs c, htk]
        constructor
        · rintro ⟨y, h1, h2⟩; exact ⟨y, List.mem_append.mpr (.inl h1), h2⟩
        · rintro ⟨y, h1, h2, h3, h4⟩
          rcases List.mem_append.mp h1 with h1 | h1
          · exact ⟨y, h1, h2, h3, h4⟩
          · simp at h1; subst h1; exact absurd ⟨h2, h3⟩ h
      have hz1 : cs.length ≤ (i + 1) * 12 ^ (d - 1) := Nat.le_trans hz (Nat.mul_le_mul_right _ (by omega))
      by_cases h1 : x.1.1 = here
      case neg =>
        rw [if_neg (by simpa using h1), if_neg Bool.false_ne_true]
        repeat walk_at "s"
        exact ⟨_, _, z3, cs, rfl, rfl, hz1, hno fun h => h1 h.1⟩
      rw [if_pos (by simpa using h1)]
      repeat walk_at "s"
      refine CO_ninL ?_
      by_cases h2 : x.2.1 ∈ met
      · rw [if_neg (by simp [h2])]
        repeat walk_at "s"
        exact ⟨_, _, z3, cs, rfl, rfl, hz1, hno fun h => h.2 h2⟩
      rw [if_pos (by simp [h2])]
      have hend := s.E_ends hxE
      have hlo := ok.end_lo hend.2
      have hlt := met_lt hnd hv h2 hlo.1 hlo.2
      obtain ⟨d', rfl⟩ : ∃ d', d = d' + 1 := ⟨d - 1, by omega⟩
      repeat walk_at "s"
      refine EV_ls ?_
      repeat walk_at "s"
      refine ⟨rfl, ?_⟩
      have hn4 := ok.n4
      refine BO_addL (.f _ _) (.f _ _) (.inl ?_) (by simp; omega)
      repeat walk_at "s"
      have hrec := ih d' (by omega) x.2.1 (met ++ [x.2.1]) (by omega) (by simp; omega) (List.nodup_append.mpr ⟨hnd, by simp, by intro a ha b hb; simp at hb; subst hb; rintro rfl; exact h2 ha⟩)
        (fun v hv' => by rcases List.mem_append.mp hv' with h | h; exact hv v h; simp at h; subst h; exact hlo)
      rw [List.map_append] at hrec
      refine CSR.mono hrec ?_
      rintro p Δ' ⟨rfl, cs', rfl, hz', hcs'⟩
      have h144 : cs'.length ≤ 144 := Nat.le_trans hz' (Nat.le_trans (Nat.pow_le_pow_right (by decide) (show d' ≤ 2 by omega)) (by decide))
      have hPe := ok.kP hend.1
      repeat walk_at "s"
      refine EV_compM hf' cs' PV.int (fun _ => true) (fun c => .int ((s.po x.1).2 + c)) ?_
      repeat walk_at "s"
      refine ⟨_, .list _, trivial, by omega, ?_, .inl ?_⟩
      · intro C'' hC'' c hc
        repeat walk_at "s"
        refine ⟨?_, ?_⟩
        · repeat walk_at "s"
        · repeat walk_at "s"
          exact ⟨rfl, rfl, rfl⟩
      · simp only [filter_tt]
        have hzz : cs.length ≤ 100000 := by
          have := (List.getElem?_eq_some_iff.mp hx).1
          have := ok.E_length
          have h1 : 12 ^ d' ≤ 144 := Nat.le_trans (Nat.pow_le_pow_right (by decide) (show d' ≤ 2 by omega)) (by decide)
          have h2 : i * 12 ^ (d' + 1 - 1) ≤ 12 * 144 := Nat.mul_le_mul (by omega) (by simpa using h1)
          omega
        refine BO_addL (.f _ _) (.f _ _) (.inl ?_) (by simp; omega)
        rw [show cs.map PV.int ++ cs'.map (fun c => PV.int ((s.po x.1).2 + c)) = (cs ++ cs'.map (fun c => (s.po x.1).2 + c)).map PV.int by rw [List.map_append, List.map_map]; rfl]
        repeat walk_at "s"
        refine ⟨_, _, _, cs ++ cs'.map (fun c => (s.po x.1).2 + c), rfl, rfl, ?_, ?_⟩
        · rw [List.length_append, List.length_map]
          simp only [Nat.add_sub_cancel] at hz ⊢
          rw [Nat.add_mul]; omega
        · intro c
          rw [htk, List.mem_append, hcs c]
          constructor
          · rintro (⟨y, h1, h2⟩ | h)
            · exact ⟨y, List.mem_append.mpr (.inl h1), h2⟩
            · obtain ⟨c', hc', rfl⟩ := List.mem_map.mp h
              exact ⟨x, List.mem_append.mpr (.inr (by simp)), h1, h2, c', (hcs' c').mp hc', rfl⟩
          · rintro ⟨y, h3, h4, h5, c', h6, rfl⟩
            rcases List.mem_append.mp h3 with h3 | h3
            · exact .inl ⟨y, h3, h4, h5, c', h6, rfl⟩
            · simp at h3; subst h3
              exact .inr (List.mem_map.mpr ⟨c', (hcs' c').mpr h6, rfl⟩)
    · rintro l₁ Δ₁ ⟨z1, z2, z3, cs, rfl, rfl, hz, hcs⟩
      rw [List.length_map] at hz hcs
      rw [List.take_length] at hcs
      repeat walk_at "s"
      refine ⟨rfl, cs, rfl, ?_, fun c => (hcs c).trans ⟨?_, ?_⟩⟩
      · have := ok.E_length
        rcases Nat.eq_zero_or_pos d with rfl | hd0
        · cases cs with
          | nil => simp
          | cons c cs =>
            obtain ⟨x, hx, h1, h2, _⟩ := (hcs c).mp (List.mem_cons_self ..)
            have hlo := ok.end_lo (s.E_ends hx).2
            have := met_lt hnd hv h2 hlo.1 hlo.2
            omega
        · obtain ⟨d', rfl⟩ : ∃ d', d = d' + 1 := ⟨d - 1, by omega⟩
          rw [Nat.pow_succ, Nat.mul_comm]
          exact Nat.le_trans hz (Nat.mul_le_mul_right _ this)
      · rintro ⟨x, hx, rfl, h2, c', h3, rfl⟩
        exact .cons met x c' hx hg h2 h3
      · intro h
        generalize hh : here = h' at h
        cases h with
        | nil => exact absurd hh hg
        | cons _ x c hx hg' hm t => exact ⟨x, hx, rfl, hm, c, t, rfl⟩

noncomputable def llt : List Int → List Int → Bool
  | x :: xs, y :: ys => if x = y then llt xs ys else decide (x < y)
  | _, _ => false
theorem llt_irrefl : ∀ a : List Int, llt a a = false
  | [] => rfl
  | x :: xs => by simp [llt, llt_irrefl xs]
theorem llt_trans : ∀ {a b c : List Int}, a.length = b.length → b.length = c.length → llt a b = true → llt b c = true → llt a c = true
  | [], [], _, _, _, h, _ => by simp [llt] at h
  | x :: xs, y :: ys, [], _, h, _, _ => by simp at h
  | x :: xs, y :: ys, z :: zs, h1, h2, h3, h4 => by
    simp only [List.length_cons, Nat.add_right_cancel_iff] at h1 h2
    simp only [llt] at h3 h4 ⊢
    split at h3 <;> split at h4 <;> split
    all_goals first
      | (subst_vars; exact llt_trans h1 h2 h3 h4)
      | (simp only [decide_eq_true_eq] at *; omega)
      | (subst_vars; simp only [decide_eq_true_eq] at *; omega)
theorem llt_tri : ∀ {a b : List Int}, a.length = b.length → llt a b = false → llt b a = false → a = b
  | [], [], _, _, _ => rfl
  | x :: xs, y :: ys, h, h1, h2 => by
    simp only [List.length_cons, Nat.add_right_cancel_iff] at h
    simp only [llt] at h1 h2
    by_cases e : x = y
    · subst e
      rw [if_pos rfl] at h1 h2
      rw [llt_tri h h1 h2]
    · rw [if_neg e] at h1
      rw [if_neg (Ne.symm e)] at h2
      simp only [decide_eq_false_iff_not] at h1 h2
      omega
theorem llt_asymm {a b : List Int} (h : a.length = b.length) (h1 : llt a b = true) : llt b a = false := by
  cases e : llt b a with
  | false => rfl
  | true =>
    have := llt_trans h h.symm h1 e
    rw [llt_irrefl] at this; cases this
noncomputable def ile (a b : List Int) : Prop := llt b a = false
theorem ile_refl (a : List Int) : ile a a := llt_irrefl a
theorem ile_trans {a b c : List Int} (h1 : a.length = b.length) (h2 : b.length = c.length) (x : ile a b) (y : ile b c) : ile a c := by
  unfold ile at *
  cases e : llt c a with
  | false => rfl
  | true =>
    cases e2 : llt a b with
    | true => rw [llt_trans (h2.symm.trans h1.symm) h1 e e2] at y; cases y
    | false =>
      have := llt_tri h1 e2 x
      subst this; rw [e] at y; cases y
theorem ile_anti {a b : List Int} (h : a.length = b.length) (x : ile a b) (y : ile b a) : a = b := llt_tri h y x
theorem ile_of_lt {a b : List Int} (h : a.length = b.length) (x : llt a b = true) : ile a b := llt_asymm h x
theorem ile_app {a b c d : List Int} (h : a.length = c.length) (x : ile (a ++ b) (c ++ d)) : ile a c := by
  unfold ile at *
  induction a generalizing c with
  | nil => cases c <;> simp [llt]
  | cons y ys ih =>
    cases c with
    | nil => simp at h
    | cons z zs =>
      simp only [List.cons_append, llt] at x ⊢
      split
      · rename_i e; rw [if_pos e] at x; exact ih (by simpa using h) x
      · rename_i e; rw [if_neg e] at x; exact x
theorem llt_app (b d : List Int) : ∀ {a c : List Int}, a.length = c.length → llt (a ++ b) (c ++ d) = if a = c then llt b d else llt a c
  | [], [], _ => by simp
  | y :: ys, z :: zs, h => by
    simp only [List.cons_append, llt, List.cons.injEq]
    have := llt_app b d (a := ys) (c := zs) (by simpa using h)
    split
    · rename_i e; rw [this]; simp [e]
    · rename_i e; simp [e]
mutual
noncomputable def flat : PV → List Int
  | .int i => [i]
  | .tup ps => flats ps
  | _ => []
noncomputable def flats : List PV → List Int
  | [] => []
  | p :: ps => flat p ++ flats ps
end
structure FlatOk (p q : PV) : Prop where
  len : (flat p).length = (flat q).length
  eq : PyData.eqv p.data q.data = true ↔ flat p = flat q
  lt : plt p q = llt (flat p) (flat q)
theorem FlatOk.int (a b : Int) : FlatOk (.int a) (.int b) := by
  refine ⟨by simp [flat], ?_, ?_⟩
  · simp [flat, PV.data, PyData.eqv]
  · simp only [plt, flat, llt]
    by_cases e : a = b
    · simp [e]
    · simp [e]
theorem FlatOk.tups : ∀ {xs ys : List PV}, All2 FlatOk xs ys → (flats xs).length = (flats ys).length ∧ (PyData.eqvAll (PV.datas xs) (PV.datas ys) = true ↔ flats xs = flats ys) ∧ plts xs ys = llt (flats xs) (flats ys)
  | [], [], _ => by simp [flats, PV.datas, PyData.eqvAll, plts, llt]
  | x :: xs, y :: ys, h => by
    obtain ⟨h1, h2⟩ := h
    obtain ⟨a, b, c⟩ := FlatOk.tups h2
    have l := h1.len
    refine ⟨by simp [flats, l, a], ?_, ?_⟩
    · simp only [PV.datas, PyData.eqvAll, flats, Bool.and_eq_true, b, h1.eq]
      exact ⟨fun ⟨e1, e2⟩ => by rw [e1, e2], fun e => List.append_inj e l⟩
    · simp only [plts, flats, h1.lt, c]
      rw [llt_app _ _ l]
      by_cases e : flat x = flat y
      · rw [if_pos e, if_pos (h1.eq.mpr e)]
      · rw [if_neg e, if_neg fun h => e (h1.eq.mp h)]
  | [], _ :: _, h => h.elim
  | _ :: _, [], h => h.elim
theorem All2.imp {α β : Type} {R S : α → β → Prop} (f : ∀ a b, R a b → S a b) : ∀ {xs : List α} {ys : List β}, All2 R xs ys → All2 S xs ys
  | [], [], _ => trivial
  | _ :: _, _ :: _, h => ⟨f _ _ h.1, All2.imp f h.2⟩
  | [], _ :: _, h => h.elim
  | _ :: _, [], h => h.elim
theorem Shp.flat : ∀ {n : Nat} {p q : PV}, Shp n p q → FlatOk p q := by
  intro n
  induction n with
  | zero => rintro p q ⟨a, b, rfl, rfl⟩; exact .int a b
  | succ n ih =>
    rintro p q (⟨a, b, rfl, rfl⟩ | ⟨xs, ys, rfl, rfl, h⟩)
    · exact .int a b
    · obtain ⟨a, b, c⟩ := FlatOk.tups (h.imp fun _ _ => ih)
      exact ⟨by simpa [Mine.flat] using a, by simpa [Mine.flat, PV.data, PyData.eqv] using b, by simpa [Mine.flat, plt] using c⟩
theorem foldl_mnf_le {n : Nat} {all : List PV} (hs : ∀ x ∈ all, ∀ y ∈ all, Shp n x y) : ∀ (xs : List PV) (b : PV), b ∈ all → (∀ x ∈ xs, x ∈ all) → ∀ x, (x = b ∨ x ∈ xs) → ile (flat (xs.foldl mnf b)) (flat x)
  | [], b, hb, _, x, hx => by
    rcases hx with rfl | hx
    · exact ile_refl _
    · cases hx
  | y :: ys, b, hb, hys, x, hx => by
    have hy := hys y (.head _)
    have hm := mnf_mem hb hy
    have ih := foldl_mnf_le hs ys (mnf b y) hm fun z hz => hys z (.tail _ hz)
    have hmall := foldl_mnf_mem ys (mnf b y) hm fun z hz => hys z (.tail _ hz)
    have l1 : ∀ z ∈ all, (flat ((y :: ys).foldl mnf b)).length = (flat z).length := fun z hz => (hs _ hmall z hz).flat.len
    have hkey : ile (flat (mnf b y)) (flat b) ∧ ile (flat (mnf b y)) (flat y) := by
      unfold mnf
      have hf := (hs y hy b hb).flat
      split
      · rename_i e; rw [hf.lt] at e; exact ⟨ile_of_lt hf.len e, ile_refl _⟩
      · rename_i e; rw [hf.lt] at e; exact ⟨ile_refl _, by simpa [ile] using e⟩
    rcases hx with rfl | hx
    · exact ile_trans (l1 _ hm) (hs _ hm _ hb).flat.len (ih _ (.inl rfl)) hkey.1
    · rcases List.mem_cons.mp hx with rfl | hx
      · exact ile_trans (l1 _ hm) (hs _ hm _ hy).flat.len (ih _ (.inl rfl)) hkey.2
      · exact ih x (.inr hx)
theorem minP_le {n : Nat} {ps : List PV} (hs : ∀ x ∈ ps, ∀ y ∈ ps, Shp n x y) {x : PV} (hx : x ∈ ps) : ile (flat (minP ps)) (flat x) := by
  cases ps with
  | nil => cases hx
  | cons p ps => exact foldl_mnf_le hs ps p (.head _) (fun z hz => .tail _ hz) x (by simpa using hx)

structure Vec where
  r : Int × Int
  c : Int
  b : Int × Int
  p : Int × Int
noncomputable abbrev vP (v : Vec) : PV := .tup [pr v.r, .int v.c, pr v.b, pr v.p]
noncomputable def vF (v : Vec) : List Int := [v.r.1, v.r.2, v.c, v.b.1, v.b.2, v.p.1, v.p.2]
theorem flat_vP (v : Vec) : flat (vP v) = vF v := rfl
theorem shp_pr (n : Nat) (a b : Int × Int) : Shp (n + 1) (pr a) (pr b) := .tup ⟨.int _ _ _, .int _ _ _, trivial⟩
theorem shp_vP (n : Nat) (a b : Vec) : Shp (n + 2) (vP a) (vP b) := .tup ⟨shp_pr _ _ _, .int _ _ _, shp_pr _ _ _, shp_pr _ _ _, trivial⟩
noncomputable def minV : List Vec → Vec
  | [] => ⟨(0, 0), 0, (0, 0), (0, 0)⟩
  | h :: hs => hs.foldl (fun b x => if plt (vP x) (vP b) then x else b) h
theorem minP_vP {hs : List Vec} (h : hs ≠ []) : minP (hs.map vP) = vP (minV hs) := by
  cases hs with
  | nil => exact absurd rfl h
  | cons x xs =>
    simp only [List.map_cons, minP, minV]
    clear h
    induction xs generalizing x with
    | nil => rfl
    | cons y ys ih =>
      simp only [List.map_cons, List.foldl_cons]
      have : mnf (vP x) (vP y) = vP (if plt (vP y) (vP x) then y else x) := by unfold mnf; split <;> rfl
      rw [this]; exact ih _
theorem vP_inj {a b : Vec} (h : vP a = vP b) : a = b := by
  obtain ⟨⟨a1, a2⟩, a3, ⟨a4, a5⟩, ⟨a6, a7⟩⟩ := a
  obtain ⟨⟨b1, b2⟩, b3, ⟨b4, b5⟩, ⟨b6, b7⟩⟩ := b
  simp [vP, pr] at h
  obtain ⟨⟨rfl, rfl⟩, rfl, ⟨rfl, rfl⟩, rfl, rfl⟩ := h
  rfl
theorem minV_mem {hs : List Vec} (h : hs ≠ []) : minV hs ∈ hs := by
  have := minP_mem (ps := hs.map vP) (by simpa using h)
  rw [minP_vP h] at this
  obtain ⟨x, hx, e⟩ := List.mem_map.mp this
  rw [← vP_inj e]; exact hx
theorem minV_le {hs : List Vec} {x : Vec} (hx : x ∈ hs) : ile (vF (minV hs)) (vF x) := by
  have := minP_le (n := 2) (ps := hs.map vP) (fun x hx y hy => by
    obtain ⟨a, _, rfl⟩ := List.mem_map.mp hx
    obtain ⟨b, _, rfl⟩ := List.mem_map.mp hy
    exact shp_vP 0 a b) (List.mem_map_of_mem hx)
  rw [minP_vP (List.ne_nil_of_mem hx)] at this
  exact this
noncomputable def Scn.own (s : Scn) (v : Int) : Vec := ⟨s.br v, 0, s.br v, (0, 0)⟩
noncomputable def Scn.hear (s : Scn) (T : Int → Vec) (x : (Int × Int) × (Int × Int)) : Vec := ⟨(T x.2.1).r, (T x.2.1).c + (s.po x.1).2, s.br x.2.1, (s.po x.2).1⟩
noncomputable def Scn.heard (s : Scn) (T : Int → Vec) (v : Int) (es : List ((Int × Int) × (Int × Int))) : List Vec := s.own v :: ((es.filter fun x => decide (x.1.1 = v)).map (s.hear T))
noncomputable def Scn.told (s : Scn) : Nat → Int → Vec
  | 0, v => s.own v
  | k + 1, v => minV (s.heard (s.told k) v s.E)
noncomputable def kT (kvs : List (Int × PV)) (T : Int → Vec) : List (Int × PV) := kvs.map fun x => (x.1, vP (T x.1))
theorem kT_keys (kvs : List (Int × PV)) (T : Int → Vec) : (kT kvs T).map (·.1) = kvs.map (·.1) := by simp [kT]
theorem kT_get {kvs : List (Int × PV)} {T : Int → Vec} {v : Int} (h : v ∈ kvs.map (·.1)) : kget (kT kvs T) v = some (vP (T v)) := by
  induction kvs with
  | nil => simp at h
  | cons x xs ih =>
    unfold kT at ih ⊢
    rw [List.map_cons, kget_cons]
    by_cases e : x.1 = v
    · rw [if_pos e, e]
    · rw [if_neg e]
      exact ih (by simpa [Ne.symm e] using h)
theorem take_new {V : Type} {xs : List (Int × V)} {j : Nat} {x : Int × V} (hn : (xs.map (·.1)).Nodup) (hx : xs[j]? = some x) : x.1 ∉ (xs.take j).map (·.1) := by
  have e : xs.take (j + 1) = xs.take j ++ [x] := by rw [List.take_add_one, hx]; rfl
  have : ((xs.take (j + 1)).map (·.1)).Nodup := by rw [List.map_take]; exact hn.sublist (List.take_sublist _ _)
  rw [e, List.map_append, List.nodup_append] at this
  intro h
  exact this.2.2 _ h x.1 (by simp) rfl
theorem Led.le.trans {a b c : Led} (x : a.le b) (y : b.le c) : a.le c := fun i m e => y i m (x i m e)
theorem Led.le_new {Δ : Led} {b : Addr} {m : MO} (h : Δ b = none) : Δ.le (Δ.upd b m) := fun i n e => by
  rw [Led.upd_ne]; exact e
  rintro rfl; rw [h] at e; cases e
theorem Led.le_upd {Δ Δ' : Led} {b : Addr} {m : MO} (h : Δ.le Δ') (hb : Δ b = none) : Δ.le (Δ'.upd b m) := fun i n e => by
  rw [Led.upd_ne]; exact h i n e
  rintro rfl; rw [hb] at e; cases e

section
variable {s : Scn} {n : Nat}
theorem Scn.Ok.keyv (h : s.Ok n) {v : Int} : v ∈ (Mine.kB s.brs).map (·.1) ↔ 0 ≤ v ∧ v < n := by rw [kBmap]; exact h.b.mem
theorem Scn.Ok.kBnd (h : s.Ok n) : ((Mine.kB s.brs).map (·.1)).Nodup := by rw [kBmap]; exact h.b.nodup
theorem Scn.Ok.kBlen (h : s.Ok n) : (Mine.kB s.brs).length = n := by
  have := congrArg List.length h.b.keys
  simpa [Mine.kB] using this
end
inductive IvTold1 (s : Scn) (B P : Addr) (Δ : Led) (i : Nat) (l : List (Option PV)) (Δ' : Led) : Prop
  | mk (z1 z2 z3 z4 z5 z6 z7 z8 : Option PV) (T : Addr) (et : Nat) (h0 : l = [some (.obj B), some (.obj P), some (.list (s.E.map wP)), z1, some (.obj T), z2, z3, z4, z5, z6, z7, z8, none, none, none, none, none, none]) (h1 : Δ.le Δ') (h2 : Δ' T = some (.dictI et (kT (kB s.brs) (s.told i))))
inductive IvTold2 (s : Scn) (B P T L : Addr) (et i : Nat) (Δ : Led) (j : Nat) (l : List (Option PV)) (Δ' : Led) : Prop
  | mk (z1 z2 z3 z4 z5 z6 z7 : Option PV) (el : Nat) (h0 : l = [some (.obj B), some (.obj P), some (.list (s.E.map wP)), z1, some (.obj T), z2, some (.obj L), z3, z4, z5, z6, z7, none, none, none, none, none, none]) (h1 : Δ.le Δ') (h2 : Δ' T = some (.dictI et (kT (kB s.brs) (s.told i)))) (h3 : Δ' L = some (.dictI el (kT ((kB s.brs).take j) (s.told (i + 1)))))
inductive IvTold3 (s : Scn) (B P T L H : Addr) (v : Int × PV) (z2 : Option PV) (et el i j : Nat) (Δ : Led) (k : Nat) (l : List (Option PV)) (Δ' : Led) : Prop
  | mk (z4 z5 z6 z7 : Option PV) (h0 : l = [some (.obj B), some (.obj P), some (.list (s.E.map wP)), some (.int v.1), some (.obj T), z2, some (.obj L), some (.obj H), z4, z5, z6, z7, none, none, none, none, none, none]) (h1 : Δ.le Δ') (h2 : Δ' T = some (.dictI et (kT (kB s.brs) (s.told i)))) (h3 : Δ' L = some (.dictI el (kT ((kB s.brs).take j) (s.told (i + 1))))) (h4 : Δ' H = some (.list ((s.heard (s.told i) v.1 (s.E.take k)).map vP)))
theorem F_told {w : World} {s : Scn} {n m : Nat} (ok : s.Ok n) {B P : Addr} {eb ep : Nat} {Δ : Led} {Q : PV → Led → Prop} (hB : Δ B = some (.dictI eb (kB s.brs))) (hP : Δ P = some (.dictT ep (kP s.prt)))
    (q : ∀ b et Δ', Δ.le Δ' → Δ' b = some (.dictI et (kT (kB s.brs) (s.told n))) → Q (.obj b) Δ') : CSR pw w (KF w) (m + 2) 218 [.obj B, .obj P, .list (s.E.map wP)] Δ Q := by
  refine CSR_enter (m + 1) (ho := rfl) rfl (by rfl) rfl rfl rfl (bind3 fun _ _ _ => by rfl) (by rfl) (by decide) rfl rfl rfl fun C hr hf => ?_
  have hlen := ok.kBlen
  have hn4 := ok.n4
  repeat walk_at "s"
  refine EV_compM hf (kB s.brs) (fun x => .int x.1) (fun _ => true) (fun x => .tup [.int x.1, vP (s.own x.1)]) ?_
  repeat walk_at "s"
  refine ⟨_, .dictI _ _ _, hB, by omega, ?_, .inl ?_⟩
  · intro C' hC' x hx
    have hx' := ok.keyv.mp (List.mem_map_of_mem hx)
    have hk := ok.kB hx'.1 hx'.2
    have hr' : m + 1 ≤ C'.room := hC' ▸ hr
    repeat walk_at "s"
    refine ⟨?_, ?_⟩
    · repeat walk_at "s"
    · repeat walk_at "s"
      refine ⟨rfl, ?_⟩
      repeat walk_at "s"
      refine F_own_vector ?_
      repeat walk_at "s"
      exact ⟨rfl, rfl, rfl, rfl⟩
  simp only [filter_tt]
  repeat walk_at "s"
  refine BC_dictL (kvs := kT (kB s.brs) s.own) (.inl (by simp [kT])) (by rw [kT_keys]; exact ok.kBnd) (fun T et hT => ?_) (by simp [kT]; omega)
  have hT' := Led.upd_self Δ T (MO.dictI et (kT (kB s.brs) s.own))
  have hle := Led.le_new (m := MO.dictI et (kT (kB s.brs) s.own)) hT
  generalize Δ.upd T _ = Δ1 at hT' hle
  clear hT
  repeat walk_at "s"
  refine SV1_for ?_
  repeat walk_at "s"
  refine BC_lenD (hle _ _ hB) ?_ (by omega)
  repeat walk_at "s"
  rw [hlen]
  refine ⟨_, _, .rng n (by omega), trivial, IvTold1 s B P Δ, ?_, fun _ _ _ _ => trivial, ?_, ?_⟩
  · exact ⟨none, none, none, none, none, none, none, none, T, et, rfl, hle, hT'⟩
  · clear hT' hle
    rintro C' hC i p l₁ Δ₁ hi ⟨z1, z2, z3, z4, z5, z6, z7, z8, T, et, rfl, hle, hT⟩
    have hr' : m + 1 ≤ C'.room := hC.1 ▸ hr
    have hf' : C'.isFn = true := hC.2.1.trans hf
    obtain ⟨hin, rfl⟩ := rng_at hi
    repeat walk_at "s"
    refine EV_dict0 fun L hL => ?_
    have hLn : L ≠ T := by rintro rfl; rw [hT] at hL; cases hL
    have hT1 : (Δ₁.upd L (.dictI 0 [])) T = some (.dictI et (kT (kB s.brs) (s.told i))) := by rw [Led.upd_ne (Ne.symm hLn)]; exact hT
    have hLΔ : Δ L = none := by
      cases e : Δ L with
      | none => rfl
      | some m => rw [hle _ _ e] at hL; cases hL
    have hle1 := Led.le_upd (m := .dictI 0 []) hle hLΔ
    have hL1 := Led.upd_self Δ₁ L (.dictI 0 [])
    generalize Δ₁.upd L _ = Δ2 at hT1 hle1 hL1
    clear hT hle hL
    repeat walk_at "s"
    refine SV1_for ?_
    repeat walk_at "s"
    refine ⟨_, _, .dictI _ _ _, hle1 _ _ hB, IvTold2 s B P T L et i Δ, ?_, fun _ _ _ h => ?_, ?_, ?_⟩
    · exact ⟨_, _, _, _, _, _, _, 0, rfl, hle1, hT1, hL1⟩
    · obtain ⟨_, _, _, _, _, _, _, _, _, h, _⟩ := h; exact h _ _ hB
    · clear hT1 hle1 hL1
      rintro C'' hC' j p l₁ Δ₁ hi ⟨z1, z2, z3, z4, z5, z6, z7, el, rfl, hle, hT, hL⟩
      have hr'' : m + 1 ≤ C''.room := hC'.1 ▸ hr'
      have hf'' : C''.isFn = true := hC'.2.1.trans hf'
      rw [List.getElem?_map] at hi
      obtain ⟨v, hv, rfl⟩ := Option.map_eq_some_iff.mp hi
      have hvk := ok.keyv.mp (List.mem_map_of_mem (List.mem_of_getElem? hv))
      have hk := ok.kB hvk.1 hvk.2
      have hB' := hle _ _ hB
      have hP' := hle _ _ hP
      repeat walk_at "s"
      refine EV_lsO ?_
      repeat walk_at "s"
      refine ⟨rfl, ?_⟩
      repeat walk_at "s"
      refine F_own_vector ?_
      repeat walk_at "s"
      refine ⟨rfl, fun H hH => ?_⟩
      have hHT : H ≠ T := by rintro rfl; rw [hT] at hH; cases hH
      have hHL : H ≠ L := by rintro rfl; rw [hL] at hH; cases hH
      have hHΔ : Δ H = none := by
        cases e : Δ H with
        | none => rfl
        | some m => rw [hle _ _ e] at hH; cases hH
      have e0 : (MO.list [PV.tup [pr (s.br v.1), .int 0, pr (s.br v.1), .tup [.int 0, .int 0]]]) = .list ((s.heard (s.told i) v.1 []).map vP) := rfl
      rw [e0]
      have hH1 := Led.upd_self Δ₁ H (MO.list ((s.heard (s.told i) v.1 []).map vP))
      have hle1 := Led.le_upd (m := MO.list ((s.heard (s.told i) v.1 []).map vP)) hle hHΔ
      have hT1 : (Δ₁.upd H (MO.list ((s.heard (s.told i) v.1 []).map vP))) T = _ := (Led.upd_ne (Ne.symm hHT)).trans hT
      have hL1 : (Δ₁.upd H (MO.list ((s.heard (s.told i) v.1 []).map vP))) L = _ := (Led.upd_ne (Ne.symm hHL)).trans hL
      clear hle hT hL
      generalize Δ₁.upd H _ = Δ3 at hH1 hle1 hT1 hL1
      repeat walk_at "s"
      refine SV1_for ?_
      repeat walk_at "s"
      refine ⟨_, _, .list _, trivial, IvTold3 s B P T L H v z2 et el i j Δ, ?_, fun _ _ _ _ => trivial, ?_, ?_⟩
      · exact ⟨_, _, _, _, rfl, hle1, hT1, hL1, by simpa using hH1⟩
      · clear hle1 hT1 hL1 hH1
        rintro D hD k p l₁ Δ₁ hi ⟨z4, z5, z6, z7, rfl, hle, hT, hL, hH⟩
        have hrD : m + 1 ≤ D.room := hD.1 ▸ hr''
        rw [List.getElem?_map] at hi
        obtain ⟨x, hx, rfl⟩ := Option.map_eq_some_iff.mp hi
        have hxE : x ∈ s.E := List.mem_of_getElem? hx
        have htk : s.E.take (k + 1) = s.E.take k ++ [x] := by rw [List.take_add_one, hx]; rfl
        repeat walk_at "s"
        by_cases hc : x.1.1 = v.1
        case neg =>
          rw [if_neg (by simpa using hc)]
          repeat walk_at "s"
          refine ⟨_, _, _, _, rfl, hle, hT, hL, ?_⟩
          rw [htk]; simpa [Scn.heard, hc] using hH
        rw [if_pos (by simpa using hc)]
        have hend := s.E_ends hxE
        have hlo := ok.end_lo hend.2
        have hto := kT_get (T := s.told i) (ok.keyv.mpr hlo)
        have hbo := ok.kB hlo.1 hlo.2
        have hpo := ok.kP hend.2
        have hpe := ok.kP hend.1
        have hB' := hle _ _ hB
        have hP' := hle _ _ hP
        repeat walk_at "s"
        refine ⟨rfl, ?_⟩
        repeat walk_at "s"
        refine EV_lapp _ ?_
        repeat walk_at "s"
        refine ⟨_, rfl, .list hH, ?_⟩
        repeat walk_at "s"
        refine F_with_cost ?_
        repeat walk_at "s"
        have hkE : k < 12 := by have := (List.getElem?_eq_some_iff.mp hx).1; have := ok.E_length; omega
        have hlenH : ((s.heard (s.told i) v.1 (s.E.take k)).map vP).length ≤ 1000 := by
          have h1 := List.length_filter_le (fun x : (Int × Int) × (Int × Int) => decide (x.1.1 = v.1)) (s.E.take k)
          have h2 : (s.E.take k).length ≤ k := List.length_take_le _ _
          simp only [Scn.heard, List.length_map, List.length_cons]; omega
        refine BC_append hH ?_ hlenH
        have hHΔ' : ∀ mm, Δ.le (Δ₁.upd H mm) := fun mm => Led.le_upd hle hHΔ
        have e1 : (s.heard (s.told i) v.1 (s.E.take k)).map vP ++ [PV.tup [pr (s.told i x.2.1).r, .int ((s.told i x.2.1).c + (s.po x.1).2), pr (s.br x.2.1), pr (s.po x.2).1]] = (s.heard (s.told i) v.1 (s.E.take (k + 1))).map vP := by
          rw [htk]; simp [Scn.heard, hc, Scn.hear]
        rw [e1]
        repeat walk_at "s"
        exact ⟨_, _, _, _, rfl, hHΔ' _, (Led.upd_ne (Ne.symm hHT)).trans hT, (Led.upd_ne (Ne.symm hHL)).trans hL, Led.upd_self _ _ _⟩
      · rintro l₁ Δ₁ ⟨z4, z5, z6, z7, rfl, hle, hT, hL, hH⟩
        rw [List.length_map, List.take_length] at hH
        repeat walk_at "s"
        have hne : (s.heard (s.told i) v.1 s.E) ≠ [] := by simp [Scn.heard]
        have hlenH : ((s.heard (s.told i) v.1 s.E).map vP).length < 1000 := by
          have h1 := List.length_filter_le (fun x : (Int × Int) × (Int × Int) => decide (x.1.1 = v.1)) s.E
          have := ok.E_length
          simp only [Scn.heard, List.length_map, List.length_cons]; omega
        refine F_best_vector (.o hH) (by simpa using hne) hlenH (fun a ha b hb => ?_) ?_
        · obtain ⟨a, _, rfl⟩ := List.mem_map.mp ha
          obtain ⟨b, _, rfl⟩ := List.mem_map.mp hb
          exact shp_vP 0 a b
        rw [minP_vP hne]
        refine AS_sub ?_
        repeat walk_at "s"
        refine SI_dI hL (fun el' => ?_) (by simp [kT]; omega)
        have hvn : v.1 ∉ (kT ((kB s.brs).take j) (s.told (i + 1))).map (·.1) := by rw [kT_keys]; exact take_new ok.kBnd hv
        rw [kput_new hvn]
        have htk : (kB s.brs).take (j + 1) = (kB s.brs).take j ++ [v] := by rw [List.take_add_one, hv]; rfl
        have e1 : kT ((kB s.brs).take j) (s.told (i + 1)) ++ [(v.1, vP (minV (s.heard (s.told i) v.1 s.E)))] = kT ((kB s.brs).take (j + 1)) (s.told (i + 1)) := by rw [htk]; simp [kT, Scn.told]
        rw [e1]
        repeat walk_at "s"
        exact ⟨_, _, _, _, _, _, _, _, rfl, Led.le_upd hle hLΔ, (Led.upd_ne (Ne.symm hLn)).trans hT, Led.upd_self _ _ _⟩
    · rintro l₁ Δ₁ ⟨z1, z2, z3, z4, z5, z6, z7, el, rfl, hle, hT, hL⟩
      rw [List.length_map, List.take_length] at hL
      repeat walk_at "s"
      exact ⟨_, _, _, _, _, _, _, _, _, _, rfl, hle, hL⟩
  · rintro l₁ Δ₁ ⟨z1, z2, z3, z4, z5, z6, z7, z8, T, et, rfl, hle, hT⟩
    simp only [List.length_map, List.length_range] at hT
    repeat walk_at "s"
    exact q _ _ _ hle hT

section
variable {prog : Program} {w : World} {Kf : Frag} {sc : Scope} {C : Cx prog w Kf sc} {l : List (Option PV)} {Δ : Led} {Q : PV → Led → Prop}
theorem TV_or3 {e₁ e₂ e₃ : Expr} {pos : Pos} {Q : Bool → Led → Prop} (h : TV C e₁ l Δ (fun b Δ' => if b = true then Q true Δ' else TV C e₂ l Δ' (fun b Δ'' => if b = true then Q true Δ'' else TV C e₃ l Δ'' Q))) : TV C (.BoolOp .Or [e₁, e₂, e₃] pos) l Δ Q := fun B hh tk a => by
  refine wpAny_isTrue_BoolOp (wpAny_allTrue_Or_cons (wpAny_mono (h B hh tk a) (fun b s' ⟨h', tk', B', Δ', e, hB, a', q⟩ => ?_) fun _ _ x => x))
  subst e
  cases b with
  | true => exact ⟨h', tk', B', Δ', rfl, hB, a', q⟩
  | false =>
    refine wpAny_allTrue_Or_cons (wpAny_mono (q B' h' tk' a') (fun b s' ⟨h'', tk'', B'', Δ'', e, hB', a'', q'⟩ => ?_) fun _ _ x => x)
    subst e
    cases b with
    | true => exact ⟨h'', tk'', B'', Δ'', rfl, Store.le_trans hB hB', a'', q'⟩
    | false =>
      refine wpAny_allTrue_Or_cons (wpAny_mono (q' B'' h'' tk'' a'') (fun b s' z => ?_) fun _ _ x => x)
      cases b with
      | true => exact (z.trans hB').trans hB
      | false => exact wpAny_allTrue_Or_nil ((z.trans hB').trans hB)
theorem CO_eqF {p q : PV} {Q : Bool → Led → Prop} (k : Q (decide (flat p = flat q)) Δ) (hf : FlatOk p q) (l1 : look Δ p = p) (l2 : look Δ q = q) (h1 : p.pure = true) (h2 : q.pure = true)
    (s1 : SeqAt.shaped p.data = true) (s2 : SeqAt.shaped q.data = true) : CO C .Eq p q l Δ Q := by
  refine CO_eqd ?_ (by rw [l1]; exact h1) (by rw [l2]; exact h2) (by rw [l1]; exact s1) (by rw [l2]; exact s2)
  rw [l1, l2]
  have : PyData.eqv p.data q.data = decide (flat p = flat q) := by
    by_cases e : flat p = flat q
    · rw [hf.eq.mpr e, decide_eq_true e]
    · rw [decide_eq_false e]
      cases h : PyData.eqv p.data q.data with
      | false => rfl
      | true => exact absurd (hf.eq.mp h) e
  rw [this]; exact k
end

noncomputable def Scn.kF (s : Scn) (T : Int → Vec) (x : (Int × Int) × (Int × Int)) : List Int := vF (s.hear T x) ++ [(s.po x.1).1.1, (s.po x.1).1.2]
noncomputable def candB (v : Int) (x : (Int × Int) × (Int × Int)) : Bool := decide (x.1.1 = v) && decide (x.2.1 ≠ v)
noncomputable def Best (s : Scn) (T : Int → Vec) (v : Int) (es : List ((Int × Int) × (Int × Int))) (x : (Int × Int) × (Int × Int)) : Prop := x ∈ es.filter (candB v) ∧ ∀ y ∈ es.filter (candB v), ile (s.kF T x) (s.kF T y)
noncomputable def BestP (s : Scn) (T : Int → Vec) (v : Int) (p : PV) : Prop := (p = .none ∧ s.E.filter (candB v) = []) ∨ ∃ x, p = pr x.1 ∧ Best s T v s.E x

inductive IvBest (s : Scn) (B P D : Addr) (v : Int) (T : Int → Vec) (Δ : Led) (i : Nat) (l : List (Option PV)) (Δ' : Led) : Prop
  | mk (z1 z2 z3 : Option PV) (f : PV) (h0 : l = [some (.obj B), some (.obj P), some (.list (s.E.map wP)), some (.obj D), some (.int v), some f, z1, z2, z3, none, none]) (h1 : Δ' = Δ) (h2 : ((f = .none ∧ (s.E.take i).filter (candB v) = []) ∨ ∃ x, f = .list [vP (s.hear T x), pr (s.po x.1).1, pr x.1] ∧ Best s T v (s.E.take i) x))
theorem F_best_port {w : World} {s : Scn} {n m : Nat} (ok : s.Ok n) {B P D : Addr} {eb ep et : Nat} {Δ : Led} {T : Int → Vec} {v : Int} {Q : PV → Led → Prop} (hB : Δ B = some (.dictI eb (kB s.brs))) (hP : Δ P = some (.dictT ep (kP s.prt)))
    (hT : Δ D = some (.dictI et (kT (kB s.brs) T))) (q : ∀ p, BestP s T v p → Q p Δ) : CSR pw w (KF w) (m + 2) 232 [.obj B, .obj P, .list (s.E.map wP), .obj D, .int v] Δ Q := by
  refine CSR_enter (m + 1) (ho := rfl) rfl (by rfl) rfl rfl rfl (bind5 fun _ _ _ _ _ => by rfl) (by rfl) (by decide) rfl rfl rfl fun C hr hf => ?_
  repeat walk_at "s"
  refine SV1_for ?_
  repeat walk_at "s"
  refine ⟨_, _, .list _, trivial, IvBest s B P D v T Δ, ?_, fun _ _ _ _ => trivial, ?_, ?_⟩
  · exact ⟨none, none, none, .none, rfl, rfl, .inl ⟨rfl, by simp⟩⟩
  · rintro C' hC i p l₁ Δ₁ hi ⟨z1, z2, z3, f, rfl, rfl, hinv⟩
    have hr' : m + 1 ≤ C'.room := hC.1 ▸ hr
    rw [List.getElem?_map] at hi
    obtain ⟨x, hx, rfl⟩ := Option.map_eq_some_iff.mp hi
    have hxE : x ∈ s.E := List.mem_of_getElem? hx
    have htk : s.E.take (i + 1) = s.E.take i ++ [x] := by rw [List.take_add_one, hx]; rfl
    have hno : candB v x = false → (s.E.take (i + 1)).filter (candB v) = (s.E.take i).filter (candB v) := fun h => by rw [htk]; simp [h]
    repeat walk_at "s"
    by_cases hc : x.1.1 = v
    case neg =>
      rw [if_neg (by simpa using hc), if_neg Bool.false_ne_true]
      repeat walk_at "s"
      refine ⟨_, _, z3, f, rfl, rfl, ?_⟩
      unfold Best
      rw [hno (by simp [candB, hc])]; exact hinv
    rw [if_pos (by simpa using hc)]
    repeat walk_at "s"
    by_cases hd : x.2.1 = v
    · rw [if_neg (by simpa using hd)]
      repeat walk_at "s"
      refine ⟨_, _, z3, f, rfl, rfl, ?_⟩
      unfold Best
      rw [hno (by simp [candB, hd])]; exact hinv
    rw [if_pos (by simpa using hd)]
    have hyes : (s.E.take (i + 1)).filter (candB v) = (s.E.take i).filter (candB v) ++ [x] := by rw [htk, List.filter_append]; simp [candB, hc, hd]
    have hend := s.E_ends hxE
    have hlo := ok.end_lo hend.2
    have hto := kT_get (T := T) (ok.keyv.mpr hlo)
    have hbo := ok.kB hlo.1 hlo.2
    have hpo := ok.kP hend.2
    have hpe := ok.kP hend.1
    repeat walk_at "s"
    refine EV_ls ?_
    repeat walk_at "s"
    refine F_law_at (r := pr (T x.2.1).r) (c := .int (T x.2.1).c) (x := .none) hB hP hT hbo hpo hto ?_
    repeat walk_at "s"
    refine F_with_cost ?_
    rw [show PV.tup [pr (T x.2.1).r, .int ((T x.2.1).c + (s.po x.1).2), pr (s.br x.2.1), pr (s.po x.2).1] = vP (s.hear T x) from rfl]
    repeat walk_at "s"
    refine ⟨rfl, ?_⟩
    repeat walk_at "s"
    refine TV.mono (Q := fun b Δ' => Δ' = Δ₁ ∧ ((b = true ∧ Best s T v (s.E.take (i + 1)) x) ∨ (b = false ∧ ∃ x', f = .list [vP (s.hear T x'), pr (s.po x'.1).1, pr x'.1] ∧ Best s T v (s.E.take (i + 1)) x'))) ?_ ?_
    · refine TV_or3 ?_
      rcases hinv with ⟨rfl, he⟩ | ⟨x', rfl, hb⟩
      · repeat walk_at "s"
        refine CO_is_none ?_
        rw [if_pos rfl]
        refine ⟨rfl, .inl ⟨rfl, ?_⟩⟩
        unfold Best
        rw [hyes, he]
        refine ⟨by simp, fun y hy => ?_⟩
        simp at hy; subst hy; exact ile_refl _
      · have hlenk : ∀ a b, (s.kF T a).length = (s.kF T b).length := fun _ _ => rfl
        have new : llt (s.kF T x) (s.kF T x') = true → Best s T v (s.E.take (i + 1)) x := fun h => by
          unfold Best
          rw [hyes]
          refine ⟨by simp, fun y hy => ?_⟩
          rcases List.mem_append.mp hy with hy | hy
          · exact ile_trans (hlenk _ _) (hlenk _ _) (ile_of_lt (hlenk _ _) h) (hb.2 y hy)
          · simp at hy; subst hy; exact ile_refl _
        have old : llt (s.kF T x) (s.kF T x') = false → Best s T v (s.E.take (i + 1)) x' := fun h => by
          unfold Best
          rw [hyes]
          refine ⟨List.mem_append.mpr (.inl hb.1), fun y hy => ?_⟩
          rcases List.mem_append.mp hy with hy | hy
          · exact hb.2 y hy
          · simp at hy; subst hy; exact h
        have hval : llt (s.kF T x) (s.kF T x') = if vF (s.hear T x) = vF (s.hear T x') then llt [(s.po x.1).1.1, (s.po x.1).1.2] [(s.po x'.1).1.1, (s.po x'.1).1.2] else llt (vF (s.hear T x)) (vF (s.hear T x')) := llt_app _ _ rfl
        repeat walk_at "s"
        refine CO_is_none ?_
        rw [if_neg Bool.false_ne_true]
        repeat walk_at "s"
        refine CO_lt 2 ?_ (shp_vP 0 (s.hear T x) (s.hear T x'))
        rw [(shp_vP 0 (s.hear T x) (s.hear T x')).flat.lt, flat_vP, flat_vP]
        by_cases h1 : llt (vF (s.hear T x)) (vF (s.hear T x')) = true
        · rw [if_pos h1]
          refine ⟨rfl, .inl ⟨rfl, new ?_⟩⟩
          rw [hval, if_neg (fun e => by rw [e, llt_irrefl] at h1; cases h1)]; exact h1
        · rw [if_neg h1]
          repeat walk_at "s"
          refine CO_eqF ?_ (shp_vP 0 (s.hear T x) (s.hear T x')).flat rfl rfl rfl rfl rfl rfl
          rw [flat_vP, flat_vP]
          by_cases h2 : vF (s.hear T x) = vF (s.hear T x')
          · rw [if_pos (by simpa using h2)]
            repeat walk_at "s"
            refine CO_lt 1 ?_ (shp_pr 0 _ _)
            rw [(shp_pr 0 _ _).flat.lt]
            rw [if_pos h2] at hval
            have e : llt (flat (pr (s.po x.1).1)) (flat (pr (s.po x'.1).1)) = llt (s.kF T x) (s.kF T x') := hval.symm
            rw [e]
            cases h3 : llt (s.kF T x) (s.kF T x') with
            | true => exact ⟨rfl, .inl ⟨rfl, new h3⟩⟩
            | false => exact ⟨rfl, .inr ⟨rfl, x', rfl, old h3⟩⟩
          · rw [if_neg (by simpa using h2)]
            rw [if_neg h2] at hval
            refine ⟨rfl, .inr ⟨rfl, x', rfl, old ?_⟩⟩
            rw [hval]; simpa using h1
    · rintro b Δ' ⟨rfl, ⟨rfl, hb⟩ | ⟨rfl, x', rfl, hb⟩⟩
      · rw [if_pos rfl]
        repeat walk_at "s"
        exact ⟨_, _, _, _, rfl, rfl, .inr ⟨x, rfl, hb⟩⟩
      · rw [if_neg Bool.false_ne_true]
        repeat walk_at "s"
        exact ⟨_, _, _, _, rfl, rfl, .inr ⟨x', rfl, hb⟩⟩
  · rintro l₁ Δ₁ ⟨z1, z2, z3, f, rfl, rfl, hinv⟩
    rw [List.length_map, List.take_length] at hinv
    repeat walk_at "s"
    refine EV_ifexp ?_
    repeat walk_at "s"
    refine CO_is_none ?_
    rcases hinv with ⟨rfl, he⟩ | ⟨x', rfl, hb⟩
    · rw [if_pos rfl]
      repeat walk_at "s"
      exact q _ (.inl ⟨rfl, he⟩)
    · rw [if_neg Bool.false_ne_true]
      repeat walk_at "s"
      exact q _ (.inr ⟨x', rfl, hb⟩)

section
variable {prog : Program} {w : World} {Kf : Frag} {sc : Scope} {C : Cx prog w Kf sc} {l : List (Option PV)} {Δ : Led} {Q : PV → Led → Prop}
theorem dict_ne_empty (a b : Addr) (es : Array DictEntry) (ep : Nat) (ha : (a == sysModules) = false) (hb : (b == sysModules) = false) :
    PySem.Meets (Builtin.«dict.__ne__» ⟨[.ref a, .ref b], []⟩) (fun A R s => (∃ o, s.heap.get? a = some o ∧ o.cls = .type "dict" ∧ o.data = .dict es ep) ∧ (∃ o ep', s.heap.get? b = some o ∧ o.cls = .type "dict" ∧ o.data = .dict #[] ep') ∧ R (.ok (.ret (.bool (es.size != 0)))) s) :=
  .of_wp fun prog w A R s ⟨⟨o, ho, hc, hd⟩, ⟨o', ep', ho', hc', hd'⟩, h⟩ => by
    unfold Builtin.«dict.__ne__»
    refine wpAny_bind ?_
    unfold Builtin.Dict.dictSlotArgs
    refine wpAny_bind (wpAny_notOrdered_dict ⟨o, ho, hc⟩ ?_)
    show wpAny _ _ (pure (Value.ref a, Value.ref b)) _ _ _
    refine wpAny_pure ?_
    refine wpAny_bind (wpAny_isInstance (b := true) ⟨o', ho', hc'⟩ (by rw [isSubtype_type]; kernel_rfl) ?_)
    rw [if_neg (by decide)]
    refine wpAny_bind (wpAny_pure ?_)
    refine wpAny_bind (wpAny_pure ?_)
    refine wpAny_bind ?_
    unfold Builtin.Dict.samePairs Builtin.Dict.showsAll
    rw [if_neg (by rw [ha]; exact Bool.false_ne_true), if_neg (by rw [hb]; exact Bool.false_ne_true)]
    refine wpAny_bind (wpAny_pure ?_)
    refine wpAny_bind (wpAny_pure ?_)
    refine wpAny_bind (wpAny_dictEntries ho hd ?_)
    refine wpAny_bind (wpAny_dictEntries ho' hd' ?_)
    by_cases hz : es.size = 0
    · rw [if_neg (by simp [hz])]
      refine wpAny_bind (wpAny_dictEpoch ho hd ?_)
      rw [hz, Std.Legacy.Range.forIn_eq_forIn_range']
      refine wpAny_bind ?_
      show wpAny _ _ (forIn ([] : List Nat) _ _) _ _ _
      rw [List.forIn_nil]
      refine wpAny_pure (wpAny_pure (wpAny_pure ⟨_, rfl, ?_⟩))
      rw [hz] at h; exact h
    · rw [if_pos (by simpa using hz)]
      refine wpAny_bind (wpAny_rule (wpAny_pure (wpAny_pure ⟨_, rfl, ?_⟩)))
      have e : (es.size != 0) = true := by simpa using hz
      rw [e] at h; exact h
theorem CO_neD0 {a b : Addr} {ep ep' : Nat} {kvs : List (Int × PV)} {Q : Bool → Led → Prop} (ha : Δ a = some (.dictI ep kvs)) (hb : Δ b = some (.dictI ep' [])) (q : Q (!kvs.isEmpty) Δ) : CO C .NotEq (.obj a) (.obj b) l Δ Q := fun B h tk u v x r1 r2 => by
  rw [r1.obj_inv, r2.obj_inv]
  obtain ⟨o, ho, r⟩ := x.base.owned a _ ha
  obtain ⟨o', ho', r'⟩ := x.base.owned b _ hb
  obtain ⟨es, kv', h1, h2, h3, h4, h5, h6⟩ := r
  obtain ⟨es', kv'', g1, g2, g3, g4, g5, g6⟩ := r'
  have e0 : es'.toList = [] := by
    rw [show kv'' = [] from g6] at g4
    exact List.length_eq_zero_iff.mp (Mine.Pairs.keysAt g4).1
  have e1 : es' = #[] := by simpa using e0
  subst e1
  refine richCompare_meets_room (s := { C.s with heap := h, toks := tk }) (op := .NotEq) ⟨o, ho, h1.1⟩ ⟨o', ho', g1.1⟩ PySem.F.slot_dict_ne PySem.F.entry_dict_ne (PySem.F.args_dict_ne_2 _ _) (dict_ne_empty a b es ep (x.base.big a _ ha) (x.base.big b _ hb))
    ⟨⟨o, ho, h1.1, h2⟩, ⟨o', ep', ho', g1.1, g2⟩, ⟨(fun x => nomatch x), .now x .bool ⟨_, rfl, ?_⟩⟩⟩ (by have := C.u64; omega)
  have e2 : es.size = kvs.length := by rw [← h6.length, ← (Mine.Pairs.keysAt h4).1]; simp
  have : (es.size != 0) = !kvs.isEmpty := by rw [e2]; cases kvs <;> rfl
  rw [this]; exact q
end

structure SidesL (Δ0 Δ : Led) (F : Addr) (adj : List (Int × Addr)) (g : Int → List (Int × Int)) : Prop where
  le : Δ0.le Δ
  F0 : Δ0 F = none
  fr : ∀ x ∈ adj, Δ0 x.2 = none
  d : ∃ ep, Δ F = some (.dictI ep (adj.map fun x => (x.1, PV.obj x.2)))
  l : ∀ x ∈ adj, Δ x.2 = some (.list ((g x.1).map pr))
  k : (adj.map (·.1)).Nodup
  a : (adj.map (·.2)).Nodup
  ne : ∀ x ∈ adj, x.2 ≠ F
  z : ∀ v, v ∉ adj.map (·.1) → g v = []
noncomputable def gadd (g : Int → List (Int × Int)) (v : Int) (y : Int × Int) : Int → List (Int × Int) := fun u => if u = v then g v ++ [y] else g u
theorem nodup_inj {α β : Type} {f : α → β} {xs : List α} (hn : (xs.map f).Nodup) {x y : α} (hx : x ∈ xs) (hy : y ∈ xs) (e : f x = f y) : x = y := by
  induction xs with
  | nil => cases hx
  | cons z zs ih =>
    simp only [List.map_cons, List.nodup_cons] at hn
    rcases List.mem_cons.mp hx with h1 | h1 <;> rcases List.mem_cons.mp hy with h2 | h2
    · rw [h1, h2]
    · exact absurd (List.mem_map.mpr ⟨y, h2, by rw [← e, h1]⟩) hn.1
    · exact absurd (List.mem_map.mpr ⟨x, h1, by rw [e, h2]⟩) hn.1
    · exact ih hn.2 h1 h2
section
variable {Δ0 Δ : Led} {F : Addr} {adj : List (Int × Addr)} {g : Int → List (Int × Int)}
theorem SidesL.grow (h : SidesL Δ0 Δ F adj g) {A : Addr} {m : MO} (hA : Δ A = none) : SidesL Δ0 (Δ.upd A m) F adj g where
  le := h.le.trans (Led.le_new hA)
  F0 := h.F0
  fr := h.fr
  d := by obtain ⟨ep, e⟩ := h.d; exact ⟨ep, Led.le_new hA _ _ e⟩
  l := fun x hx => Led.le_new hA _ _ (h.l x hx)
  k := h.k
  a := h.a
  ne := h.ne
  z := h.z
theorem SidesL.hit (h : SidesL Δ0 Δ F adj g) {v : Int} {A : Addr} (hv : (v, A) ∈ adj) (y : Int × Int) : SidesL Δ0 (Δ.upd A (.list ((g v ++ [y]).map pr))) F adj (gadd g v y) where
  le := Led.le_upd h.le (h.fr _ hv)
  F0 := h.F0
  fr := h.fr
  d := by obtain ⟨ep, e⟩ := h.d; exact ⟨ep, (Led.upd_ne (Ne.symm (h.ne _ hv))).trans e⟩
  l := fun x hx => by
    by_cases e : x.2 = A
    · have hx1 : x.1 = v := congrArg Prod.fst (nodup_inj h.a hx hv e)
      rw [e, Led.upd_self, hx1]; simp [gadd]
    · rw [Led.upd_ne e, h.l x hx]
      have : x.1 ≠ v := fun e1 => e (congrArg Prod.snd (nodup_inj h.k hx hv e1))
      simp [gadd, this]
  k := h.k
  a := h.a
  ne := h.ne
  z := fun u hu => by
    have : u ≠ v := by rintro rfl; exact hu (List.mem_map.mpr ⟨_, hv, rfl⟩)
    simp [gadd, this, h.z u hu]
theorem SidesL.miss (h : SidesL Δ0 Δ F adj g) {v : Int} {A : Addr} (hv : v ∉ adj.map (·.1)) (hA0 : Δ0 A = none) (hAF : A ≠ F) (hA : A ∉ adj.map (·.2)) (y : Int × Int) (ep : Nat) :
    SidesL Δ0 ((Δ.upd F (.dictI ep ((adj.map fun x => (x.1, PV.obj x.2)) ++ [(v, .obj A)]))).upd A (.list ([y].map pr))) F (adj ++ [(v, A)]) (gadd g v y) where
  le := Led.le_upd (Led.le_upd h.le h.F0) hA0
  F0 := h.F0
  fr := fun x hx => by
    rcases List.mem_append.mp hx with hx | hx
    · exact h.fr x hx
    · simp at hx; subst hx; exact hA0
  d := ⟨ep, by rw [Led.upd_ne (Ne.symm hAF), Led.upd_self]; simp⟩
  l := fun x hx => by
    rcases List.mem_append.mp hx with hx' | hx
    · have e1 : x.2 ≠ A := fun e => hA (List.mem_map.mpr ⟨x, hx', e⟩)
      have e2 : x.1 ≠ v := fun e => hv (List.mem_map.mpr ⟨x, hx', e⟩)
      rw [Led.upd_ne e1, Led.upd_ne (h.ne x hx'), h.l x hx']; simp [gadd, e2]
    · simp at hx; subst hx
      rw [Led.upd_self]; simp [gadd, h.z v hv]
  k := by
    rw [List.map_append, List.nodup_append]
    exact ⟨h.k, by simp, fun a ha b hb => by simp at hb; subst hb; rintro rfl; exact hv ha⟩
  a := by
    rw [List.map_append, List.nodup_append]
    exact ⟨h.a, by simp, fun a ha b hb => by simp at hb; subst hb; rintro rfl; exact hA ha⟩
  ne := fun x hx => by
    rcases List.mem_append.mp hx with hx | hx
    · exact h.ne x hx
    · simp at hx; subst hx; exact hAF
  z := fun u hu => by
    simp only [List.map_append, List.mem_append, not_or, List.map_cons, List.map_nil, List.mem_singleton] at hu
    simp [gadd, hu.2, h.z u hu.1]
theorem SidesL.get (h : SidesL Δ0 Δ F adj g) (v : Int) : (∃ A, (v, A) ∈ adj ∧ kget (adj.map fun x => (x.1, PV.obj x.2)) v = some (.obj A)) ∨ (v ∉ adj.map (·.1) ∧ kget (adj.map fun x => (x.1, PV.obj x.2)) v = none) := by
  by_cases hv : v ∈ adj.map (·.1)
  · obtain ⟨x, hx, rfl⟩ := List.mem_map.mp hv
    refine .inl ⟨x.2, hx, ?_⟩
    rw [kget_find (fun a => PV.obj a), find_nodup h.k hx]; rfl
  · refine .inr ⟨hv, ?_⟩
    rw [kget_none_iff]; simpa using hv
theorem SidesL.new (hF : Δ F = none) : SidesL Δ (Δ.upd F (.dictI 0 [])) F [] (fun _ => []) where
  le := Led.le_new hF
  F0 := hF
  fr := by simp
  d := ⟨0, Led.upd_self _ _ _⟩
  l := by simp
  k := by simp
  a := by simp
  ne := by simp
  z := by simp
noncomputable def GOk (es : List ((Int × Int) × (Int × Int))) (g : Int → List (Int × Int)) : Prop := ∀ v o, (∃ k, (k, o) ∈ g v) ↔ ∃ x ∈ es, (x.1.1 = v ∧ x.2.1 = o) ∨ (x.2.1 = v ∧ x.1.1 = o)
theorem mem_gadd {v u : Int} {y z : Int × Int} : z ∈ gadd g v y u ↔ z ∈ g u ∨ (u = v ∧ z = y) := by
  unfold gadd
  split
  · rename_i e; subst e; simp
  · rename_i e; simp [e]
theorem GOk.add {es : List ((Int × Int) × (Int × Int))} (h : GOk es g) (x : (Int × Int) × (Int × Int)) (a b : Int) : GOk (es ++ [x]) (gadd (gadd g x.1.1 (a, x.2.1)) x.2.1 (b, x.1.1)) := by
  intro v o
  have e : (∃ k, (k, o) ∈ gadd (gadd g x.1.1 (a, x.2.1)) x.2.1 (b, x.1.1) v) ↔ (∃ k, (k, o) ∈ g v) ∨ (x.1.1 = v ∧ x.2.1 = o) ∨ (x.2.1 = v ∧ x.1.1 = o) := by
    simp only [mem_gadd, Prod.mk.injEq]
    constructor
    · rintro ⟨k, (h1 | ⟨h1, _, h2⟩) | ⟨h1, _, h2⟩⟩
      · exact .inl ⟨k, h1⟩
      · exact .inr (.inl ⟨h1.symm, h2.symm⟩)
      · exact .inr (.inr ⟨h1.symm, h2.symm⟩)
    · rintro (⟨k, h1⟩ | ⟨h1, h2⟩ | ⟨h1, h2⟩)
      · exact ⟨k, .inl (.inl h1)⟩
      · exact ⟨a, .inl (.inr ⟨h1.symm, rfl, h2.symm⟩)⟩
      · exact ⟨b, .inr ⟨h1.symm, rfl, h2.symm⟩⟩
  rw [e, h v o]
  simp only [List.mem_append, List.mem_singleton]
  constructor
  · rintro (⟨y, hy, h1⟩ | h1)
    · exact ⟨y, .inl hy, h1⟩
    · exact ⟨x, .inr rfl, h1⟩
  · rintro ⟨y, hy | rfl, h1⟩
    · exact .inl ⟨y, hy, h1⟩
    · exact .inr h1
end

section
variable {w : World} {sc : Scope} {C : Cx pw w (KF w) sc} {l : List (Option PV)}
theorem BC_side {Δ0 Δ : Led} {F : Addr} {adj : List (Int × Addr)} {g : Int → List (Int × Int)} (hS : SidesL Δ0 Δ F adj g) {A : Addr} (hA : Δ A = none) {v : Int} {Q : PV → Led → Prop} (hz : adj.length ≤ 500)
    (q : ∀ E adj' Δ', (Δ' E = some (.list ((g v).map pr))) → adj'.length ≤ adj.length + 1 → (∀ y, SidesL Δ0 (Δ'.upd E (.list ((g v).map pr ++ [pr y]))) F adj' (gadd g v y)) → Q (.obj E) Δ') :
    BC C (.builtin "dict.setdefault") [.obj F, .int v, .obj A] l (Δ.upd A (.list [])) Q := by
  have hS1 := hS.grow (m := MO.list []) hA
  have hA0 : Δ0 A = none := by
    cases e : Δ0 A with
    | none => rfl
    | some m => rw [hS.le _ _ e] at hA; cases hA
  obtain ⟨ep, hd⟩ := hS.d
  have hAF : A ≠ F := by rintro rfl; rw [hd] at hA; cases hA
  have hAadj : A ∉ adj.map (·.2) := by
    intro h; obtain ⟨y, hy, rfl⟩ := List.mem_map.mp h
    rw [hS.l y hy] at hA; cases hA
  have hA1 := Led.upd_self Δ A (MO.list [])
  obtain ⟨ep1, hd1⟩ := hS1.d
  refine BC_setdefault hd1 ?_ (by simp; omega)
  rcases hS1.get v with ⟨E, hE, e⟩ | ⟨hv, e⟩
  · rw [e]
    refine q E adj _ (hS1.l _ hE) (by omega) fun y => ?_
    have := hS1.hit hE y
    rw [List.map_append] at this; exact this
  · rw [e]
    intro ep'
    have hz0 : g v = [] := hS.z v hv
    refine q A (adj ++ [(v, A)]) _ ?_ (by simp) fun y => ?_
    · rw [Led.upd_ne hAF, hA1, hz0]; rfl
    · have := hS1.miss hv hA0 hAF hAadj y ep'
      rw [hz0]; exact this
end

inductive IvSides (s : Scn) (W F : Addr) (Δ : Led) (i : Nat) (l : List (Option PV)) (Δ' : Led) : Prop
  | mk (z1 z2 z3 : Option PV) (adj : List (Int × Addr)) (g : Int → List (Int × Int)) (h0 : l = [some (.obj W), some (.obj F), z1, z2, z3, none]) (h1 : SidesL Δ Δ' F adj g) (h2 : GOk (s.web.take i) g) (h3 : adj.length ≤ 2 * i) (h4 : ∀ v, (g v).length ≤ 2 * i)
theorem F_sidesOf {w : World} {n m : Nat} {s : Scn} (ok : s.Ok n) {W : Addr} {Δ : Led} {Q : PV → Led → Prop} (hW : Δ W = some (.list (s.web.map wP)))
    (q : ∀ F adj g Δ', SidesL Δ Δ' F adj g → GOk s.web g → (∀ v, (g v).length ≤ 100) → Q (.obj F) Δ') : CSR pw w (KF w) (m + 1) 28 [.obj W] Δ Q := by
  refine CSR_enter m (ho := rfl) rfl (by rfl) rfl rfl rfl (bind1 fun _ => by rfl) (by rfl) (by decide) rfl rfl rfl fun C hr hf => ?_
  have hw6 := ok.w6
  repeat walk_at "s"
  refine EV_dict0 fun F hF => ?_
  have hS := SidesL.new hF
  generalize Δ.upd F (.dictI 0 []) = Δ1 at hS
  repeat walk_at "s"
  refine SV1_forEnum (k := 5) ?_ (by rfl) (by rfl)
  repeat walk_at "s"
  refine ⟨_, .o (hS.le _ _ hW), IvSides s W F Δ, ?_, ?_, ?_, ?_⟩
  · exact ⟨none, none, none, [], fun _ => [], rfl, hS, by intro v o; simp, by simp, by simp⟩
  · rintro i l₁ Δ₁ ⟨z1, z2, z3, adj, g, rfl, hS, _⟩
    exact .o (hS.le _ _ hW)
  · rintro C' hC i p l₁ Δ₁ hi ⟨z1, z2, z3, adj, g, rfl, hS, hg, hl, hgl⟩
    rw [List.getElem?_map] at hi
    obtain ⟨x, hx, rfl⟩ := Option.map_eq_some_iff.mp hi
    have hin := (List.getElem?_eq_some_iff.mp hx).1
    have htk : s.web.take (i + 1) = s.web.take i ++ [x] := by rw [List.take_add_one, hx]; rfl
    repeat walk_at "s"
    refine EV_lapp _ ?_
    refine EV_dsd _ ?_
    repeat walk_at "s"
    obtain ⟨ep, hd⟩ := hS.d
    refine ⟨_, rfl, .dictI hd, ?_⟩
    repeat walk_at "s"
    refine EV_lsO ?_
    repeat walk_at "s"
    refine ⟨rfl, fun A hA => ?_⟩
    repeat walk_at "s"
    refine BC_side hS hA (by omega) fun E adj1 Δ3 hE hl1 hS3 => ?_
    refine ⟨_, rfl, .list hE, ?_⟩
    repeat walk_at "s"
    refine ⟨rfl, ?_⟩
    repeat walk_at "s"
    refine BC_append hE ?_ (by have := hgl x.1.1; simp; omega)
    have hS4 := hS3 ((i : Nat), x.2.1)
    change SV _ _ _ (Δ3.upd E (MO.list (List.map pr (g x.1.1) ++ [pr ((i : Nat), x.2.1)]))) _ _
    generalize Δ3.upd E _ = Δ4 at hS4
    repeat walk_at "s"
    refine EV_lapp _ ?_
    refine EV_dsd _ ?_
    repeat walk_at "s"
    obtain ⟨ep, hd⟩ := hS4.d
    refine ⟨_, rfl, .dictI hd, ?_⟩
    repeat walk_at "s"
    refine EV_lsO ?_
    repeat walk_at "s"
    refine ⟨rfl, fun A hA => ?_⟩
    repeat walk_at "s"
    refine BC_side hS4 hA (by omega) fun E adj2 Δ5 hE hl2 hS5 => ?_
    refine ⟨_, rfl, .list hE, ?_⟩
    repeat walk_at "s"
    refine ⟨rfl, ?_⟩
    repeat walk_at "s"
    have hg1 : ∀ v, (gadd g x.1.1 ((i : Nat), x.2.1) v).length ≤ 2 * i + 1 := fun v => by
      unfold gadd; split
      · have := hgl x.1.1; simp; omega
      · have := hgl v; omega
    refine BC_append hE ?_ (by have := hg1 x.2.1; simp; omega)
    have hS6 := hS5 ((i : Nat), x.1.1)
    change SV _ _ _ (Δ5.upd E (MO.list (List.map pr (gadd g x.1.1 ((i : Nat), x.2.1) x.2.1) ++ [pr ((i : Nat), x.1.1)]))) _ _
    generalize Δ5.upd E _ = Δ6 at hS6
    repeat walk_at "s"
    refine ⟨_, _, _, adj2, _, rfl, hS6, by rw [htk]; exact hg.add x _ _, by omega, fun v => ?_⟩
    unfold gadd at hg1 ⊢; split
    · have := hg1 x.2.1; simp at this ⊢; omega
    · have := hg1 v; omega
  · rintro l₁ Δ₁ ⟨z1, z2, z3, adj, g, rfl, hS, hg, hl, hgl⟩
    rw [List.length_map] at hg hgl
    rw [List.take_length] at hg
    repeat walk_at "s"
    exact q _ _ _ _ hS hg fun v => by have := hgl v; omega

inductive Reach (s : Scn) (v : Int) : Int → Prop
  | refl : Reach s v v
  | step {x : (Int × Int) × (Int × Int)} (h : Reach s v x.1.1) (hx : x ∈ s.E) : Reach s v x.2.1
theorem Reach.trans {s : Scn} {a b c : Int} (h : Reach s a b) (k : Reach s b c) : Reach s a c := by
  induction k with
  | refl => exact h
  | step _ hx ih => exact .step ih hx
theorem Reach.symm {s : Scn} {a b : Int} (h : Reach s a b) : Reach s b a := by
  induction h with
  | refl => exact .refl
  | step _ hx ih => exact Reach.trans (.step (x := swp _) .refl (s.E_swp hx)) ih
theorem Reach.lo {s : Scn} {n : Nat} (ok : s.Ok n) {a b : Int} (h : Reach s a b) (ha : 0 ≤ a ∧ a < n) : 0 ≤ b ∧ b < n := by
  cases h with
  | refl => exact ha
  | step _ hx => exact ok.end_lo (s.E_ends hx).2
theorem GOk.E {s : Scn} {g : Int → List (Int × Int)} (h : GOk s.web g) (v o : Int) : (∃ k, (k, o) ∈ g v) ↔ ∃ x ∈ s.E, x.1.1 = v ∧ x.2.1 = o := by
  rw [h v o]
  constructor
  · rintro ⟨x, hx, ⟨h1, h2⟩ | ⟨h1, h2⟩⟩
    · exact ⟨x, List.mem_append.mpr (.inl hx), h1, h2⟩
    · exact ⟨swp x, List.mem_append.mpr (.inr (List.mem_map_of_mem hx)), h1, h2⟩
  · rintro ⟨x, hx, h1, h2⟩
    rcases List.mem_append.mp hx with hx | hx
    · exact ⟨x, hx, .inl ⟨h1, h2⟩⟩
    · obtain ⟨y, hy, rfl⟩ := List.mem_map.mp hx
      exact ⟨y, hy, .inr ⟨h1, h2⟩⟩
theorem pures_int : ∀ ns : List Int, PV.pures (ns.map PV.int) = true
  | [] => rfl
  | n :: ns => by simp [PV.pures, PV.pure, pures_int ns]
theorem ints_data : ∀ ns : List Int, PyData.canLayAll0 (PV.datas (ns.map PV.int)) = true ∧ PyData.depthAll (PV.datas (ns.map PV.int)) ≤ 1
  | [] => by simp [PV.datas, PyData.canLayAll0, PyData.depthAll]
  | n :: ns => by
    obtain ⟨h1, h2⟩ := ints_data ns
    simp only [List.map_cons, PV.datas, PV.data, PyData.canLayAll0, PyData.canLay0, PyData.depthAll, PyData.depth, h1]
    exact ⟨rfl, by omega⟩
theorem shaped_ints (ns : List Int) : SeqAt.shaped (PV.list (ns.map PV.int)).data = true := by
  obtain ⟨h1, h2⟩ := ints_data ns
  simp only [SeqAt.shaped, PV.data, PyData.canLay0, PyData.depth, h1, Bool.true_and, decide_eq_true_eq]
  omega
section
variable {prog : Program} {w : World} {Kf : Frag} {sc : Scope} {C : Cx prog w Kf sc} {l : List (Option PV)} {Δ : Led} {Q : PV → Led → Prop}
theorem CO_neI0 {b : Addr} {ns : List Int} {Q : Bool → Led → Prop} (hb : Δ b = some (.list (ns.map PV.int))) (q : Q (!ns.isEmpty) Δ) : CO C .NotEq (.obj b) (.list []) l Δ Q := by
  have e : look Δ (.obj b) = .list (ns.map PV.int) := by unfold look; simp only [hb]
  refine CO_ned ?_ (by rw [e]; exact pures_int ns) rfl (by rw [e]; exact shaped_ints ns) rfl
  rw [e]
  have : PyData.eqv (PV.list (ns.map PV.int)).data (look Δ (.list [])).data = ns.isEmpty := by cases ns <;> rfl
  rw [this]; exact q
end

structure RS (s : Scn) (n : Nat) (v : Int) (fs ls : List Int) (open_ : List Int) : Prop where
  nd : fs.Nodup
  re : ∀ u ∈ fs, Reach s v u
  lo : ∀ u ∈ fs, 0 ≤ u ∧ u < n
  sub : ∀ u ∈ ls, u ∈ fs
  v : v ∈ fs
  ln : ls.Nodup
  cl : ∀ u ∈ fs, u ∉ ls → u ∉ open_ → ∀ x ∈ s.E, x.1.1 = u → x.2.1 ∈ fs
noncomputable def kF (fs : List Int) : List (Int × PV) := fs.map fun u => (u, PV.bool true)
theorem kF_keys (fs : List Int) : (kF fs).map (·.1) = fs := by simp [kF, Function.comp_def]
theorem range_le {n : Nat} {fs : List Int} (hn : fs.Nodup) (h : ∀ u ∈ fs, 0 ≤ u ∧ u < n) : fs.length ≤ n := by
  have := nodup_le (ys := (List.range n).map fun (i : Nat) => (i : Int)) hn fun x hx => List.mem_map.mpr ⟨x.toNat, by have := h x hx; simp; omega, by have := h x hx; omega⟩
  simpa using this

theorem Has.le {Δ Δ' : Led} {mo : Option (Addr × MO)} (h : Has Δ mo) (k : Δ.le Δ') : Has Δ' mo := by
  cases mo with
  | none => trivial
  | some x => exact k _ _ h
inductive IvR1 (s : Scn) (n : Nat) (v : Int) (W F FO LO : Addr) (Δs : Led) (m : Nat) (l : List (Option PV)) (Δ' : Led) : Prop
  | mk (z1 z2 : Option PV) (ep : Nat) (fs ls : List Int) (h0 : l = [some (.obj W), some (.int v), some (.obj F), some (.obj FO), some (.obj LO), z1, z2, none, none]) (h1 : Δs.le Δ') (h2 : Δ' FO = some (.dictI ep (kF fs))) (h3 : Δ' LO = some (.list (ls.map PV.int))) (h4 : RS s n v fs ls []) (h5 : m = 2 * (n - fs.length) + ls.length)
inductive IvR2 (s : Scn) (n : Nat) (v u : Int) (W F FO LO : Addr) (fs ls : List Int) (g : Int → List (Int × Int)) (Δs : Led) (j : Nat) (l : List (Option PV)) (Δ' : Led) : Prop
  | mk (z1 z2 : Option PV) (ep : Nat) (fs' ls' : List Int) (h0 : l = [some (.obj W), some (.int v), some (.obj F), some (.obj FO), some (.obj LO), z1, z2, none, none]) (h1 : Δs.le Δ') (h2 : Δ' FO = some (.dictI ep (kF fs'))) (h3 : Δ' LO = some (.list (ls'.map PV.int))) (h4 : RS s n v fs' ls' [u]) (h5 : 2 * (n - fs'.length) + ls'.length ≤ 2 * (n - fs.length) + ls.length) (h6 : (∀ y ∈ (g u).take j, y.2 ∈ fs')) (h7 : u ∈ fs') (h8 : u ∉ ls')
theorem F_reached {w : World} {n m : Nat} {s : Scn} (ok : s.Ok n) {W : Addr} {v : Int} {Δ : Led} {Q : PV → Led → Prop} (hW : Δ W = some (.list (s.web.map wP))) (hv : 0 ≤ v ∧ v < n)
    (q : ∀ (ns : List Int) Δ', Δ.le Δ' → ns.Nodup → (∀ u, u ∈ ns ↔ Reach s v u) → Q (.list (ns.map PV.int)) Δ') : CSR pw w (KF w) (m + 2) 35 [.obj W, .int v] Δ Q := by
  refine CSR_enter (m + 1) (ho := rfl) rfl (by rfl) rfl rfl rfl (bind2 fun _ _ => by rfl) (by rfl) (by decide) rfl rfl rfl fun C hr hf => ?_
  have hn4 := ok.n4
  refine SV_cons (SV1_as ["sides", "found", "left"] ?_)
  repeat walk_at "s"
  refine F_sidesOf ok hW fun F adj g Δs hS hg hgl => ?_
  repeat walk_at "s"
  refine EV_dict1 fun C' hC' hf' => ?_
  repeat walk_at "s"
  refine ⟨_, rfl, ?_⟩
  repeat walk_at "s"
  intro FO ep hFO
  repeat walk_at "s"
  refine EV_lsO ?_
  repeat walk_at "s"
  refine ⟨rfl, fun LO hLO => ?_⟩
  repeat walk_at "s"
  refine ⟨rfl, _, rfl, rfl, ?_⟩
  have hFL : FO ≠ LO := by rintro rfl; rw [Led.upd_self] at hLO; cases hLO
  have hLOs : Δs LO = none := by rw [Led.upd_ne (Ne.symm hFL)] at hLO; exact hLO
  have hle : Δs.le ((Δs.upd FO (.dictI ep [(v, .bool true)])).upd LO (.list [.int v])) := Led.le_upd (Led.le_new hFO) hLOs
  have hF1 : ((Δs.upd FO (.dictI ep [(v, .bool true)])).upd LO (.list [.int v])) FO = some (.dictI ep (kF [v])) := by rw [Led.upd_ne hFL, Led.upd_self]; rfl
  have hL1 : ((Δs.upd FO (.dictI ep [(v, .bool true)])).upd LO (.list [.int v])) LO = some (.list ([v].map PV.int)) := Led.upd_self _ _ _
  generalize (Δs.upd FO (.dictI ep [(v, .bool true)])).upd LO (.list [.int v]) = Δ1 at hle hF1 hL1
  clear hLO
  repeat walk_at "s"
  refine SV1_while (IvR1 s n v W F FO LO Δs) (2 * (n - 1) + 1) ?_ ?_
  · exact ⟨none, none, ep, [v], [v], rfl, hle, hF1, hL1, ⟨by simp, by simp; exact .refl, by simpa using hv, by simp, by simp, by simp, by simp⟩, rfl⟩
  clear hF1 hL1 hle
  rintro mm l₁ Δ₁ ⟨z1, z2, ep, fs, ls, rfl, hle, hF1, hL1, rs, rfl⟩
  repeat walk_at "s"
  refine EV_ls ?_
  repeat walk_at "s"
  refine ⟨rfl, ?_⟩
  refine CO_neI0 hL1 ?_
  have hfl := range_le rs.nd rs.lo
  rcases List.eq_nil_or_concat ls with rfl | ⟨ls, u, rfl⟩
  · rw [if_neg (by decide)]
    repeat walk_at "s"
    refine BC_sortedI hF1 (fun ns hns => ?_) (by simp [kF]; omega)
    rw [kF_keys] at hns
    refine q ns _ (hS.le.trans hle) (hns.nodup_iff.mpr rs.nd) fun u => ?_
    rw [hns.mem_iff]
    refine ⟨rs.re u, fun h => ?_⟩
    induction h with
    | refl => exact rs.v
    | step _ hx ih => exact rs.cl _ ih (by simp) (by simp) _ hx rfl
  · rw [List.concat_eq_append] at *
    rw [if_pos (by simp)]
    repeat walk_at "s"
    refine SV1_for ?_
    refine EV_dget _ ?_
    repeat walk_at "s"
    obtain ⟨es, hd⟩ := hS.d
    refine ⟨_, rfl, .dictI (hle _ _ hd), ?_⟩
    repeat walk_at "s"
    refine EV_lpop _ ?_
    repeat walk_at "s"
    refine ⟨_, rfl, .list hL1, ?_⟩
    repeat walk_at "s"
    have hll : (ls ++ [u]).length ≤ n := range_le rs.ln fun w hw => rs.lo w (rs.sub w hw)
    refine BC_pop (by rw [List.map_append] at hL1; exact hL1) ?_ (by simp at hll ⊢; omega)
    have hle2 : Δs.le (Δ₁.upd LO (.list (ls.map PV.int))) := Led.le_upd hle hLOs
    have hF2 : (Δ₁.upd LO (.list (ls.map PV.int))) FO = some (.dictI ep (kF fs)) := (Led.upd_ne hFL).trans hF1
    have hL2 : (Δ₁.upd LO (.list (ls.map PV.int))) LO = some (.list (ls.map PV.int)) := Led.upd_self _ _ _
    generalize Δ₁.upd LO (.list (ls.map PV.int)) = Δ2 at hle2 hF2 hL2
    repeat walk_at "s"
    refine EV_ls ?_
    repeat walk_at "s"
    refine ⟨rfl, ?_⟩
    repeat walk_at "s"
    refine BC_get2 (hle2 _ _ hd) ?_
    obtain ⟨p, mo, e, hsrc, hmo⟩ : ∃ p mo, (kget (adj.map fun x => (x.1, PV.obj x.2)) u).getD (.list []) = p ∧ Src p mo ((g u).map pr) ∧ Has Δs mo := by
      rcases hS.get u with ⟨A, hA, e⟩ | ⟨hv, e⟩
      · rw [e]; exact ⟨_, _, rfl, .olist A _, hS.l _ hA⟩
      · rw [e, hS.z u hv]; exact ⟨_, _, rfl, .list [], trivial⟩
    rw [e]
    have hu : u ∈ fs := rs.sub u (by simp)
    have hlnd := List.nodup_append.mp rs.ln
    have huls : u ∉ ls := fun h => hlnd.2.2 u h u (by simp) rfl
    refine ⟨mo, _, hsrc, hmo.le hle2, IvR2 s n v u W F FO LO fs ls g Δs, ?_, fun _ _ _ h => ?_, ?_, ?_⟩
    · exact ⟨_, _, ep, fs, ls, rfl, hle2, hF2, hL2, ⟨rs.nd, rs.re, rs.lo, fun w hw => rs.sub w (by simp [hw]), rs.v, hlnd.1, fun w hw h1 h2 => rs.cl w hw (by simp at h2; simp [h1, h2]) (by simp)⟩, Nat.le_refl _, by simp, hu, huls⟩
    · obtain ⟨_, _, _, _, _, _, h, _⟩ := h; exact hmo.le h
    · clear hF2 hL2 hle2 hF1 hL1 hle hfl
      rintro C' hC j p l₁ Δ₃ hi ⟨z1, z2, ep, fs', ls', rfl, hle, hF1, hL1, rs', hms, hdone, hu', hul'⟩
      rw [List.getElem?_map] at hi
      obtain ⟨y, hy, rfl⟩ := Option.map_eq_some_iff.mp hi
      have htk : (g u).take (j + 1) = (g u).take j ++ [y] := by rw [List.take_add_one, hy]; rfl
      have hfl := range_le rs'.nd rs'.lo
      have hll' : ls'.length ≤ n := range_le rs'.ln fun w hw => rs'.lo w (rs'.sub w hw)
      repeat walk_at "s"
      refine CO_ninI hF1 ?_
      by_cases hin : y.2 ∈ fs'
      · rw [if_neg (by have := (kget_isSome (kF fs') y.2).mpr (by rw [kF_keys]; exact hin); simp [this])]
        repeat walk_at "s"
        refine ⟨_, _, ep, fs', ls', rfl, hle, hF1, hL1, rs', hms, fun z hz => ?_, hu', hul'⟩
        rw [htk] at hz
        rcases List.mem_append.mp hz with hz | hz
        · exact hdone z hz
        · simp at hz; subst hz; exact hin
      · have hk : kget (kF fs') y.2 = none := (kget_none_iff _ _).mpr (by rw [kF_keys]; exact hin)
        rw [if_pos (by simp [hk])]
        obtain ⟨x, hxE, hx1, hx2⟩ := (hg.E u y.2).mp ⟨y.1, List.mem_of_getElem? hy⟩
        have hrange := hx2 ▸ ok.end_lo (s.E_ends hxE).2
        have hreach : Reach s v y.2 := hx2 ▸ Reach.step (hx1 ▸ rs'.re u hu') hxE
        have hnd' : (fs' ++ [y.2]).Nodup := List.nodup_append.mpr ⟨rs'.nd, by simp, fun a ha b hb => by simp at hb; subst hb; rintro rfl; exact hin ha⟩
        have hnl : y.2 ∉ ls' := fun h => hin (rs'.sub _ h)
        have hln' : (ls' ++ [y.2]).Nodup := List.nodup_append.mpr ⟨rs'.ln, by simp, fun a ha b hb => by simp at hb; subst hb; rintro rfl; exact hnl ha⟩
        have hlo' : ∀ w ∈ fs' ++ [y.2], 0 ≤ w ∧ w < n := fun w hw => by
          rcases List.mem_append.mp hw with hw | hw
          · exact rs'.lo w hw
          · simp at hw; subst hw; exact hrange
        have hfl' := range_le hnd' hlo'
        repeat walk_at "s"
        refine AS_sub ?_
        repeat walk_at "s"
        refine SI_dI hF1 (fun ep' => ?_) (by simp [kF]; omega)
        rw [kput_new (by rw [kF_keys]; exact hin)]
        have hF2 : (Δ₃.upd FO (.dictI ep' (kF fs' ++ [(y.2, .bool true)]))) FO = some (.dictI ep' (kF (fs' ++ [y.2]))) := by rw [Led.upd_self]; simp [kF]
        have hL2 : (Δ₃.upd FO (.dictI ep' (kF fs' ++ [(y.2, .bool true)]))) LO = some (.list (ls'.map PV.int)) := (Led.upd_ne (Ne.symm hFL)).trans hL1
        have hle2 : Δs.le (Δ₃.upd FO (.dictI ep' (kF fs' ++ [(y.2, .bool true)]))) := Led.le_upd hle hFO
        generalize Δ₃.upd FO _ = Δ4 at hF2 hL2 hle2
        repeat walk_at "s"
        refine EV_lapp _ ?_
        repeat walk_at "s"
        refine ⟨_, rfl, .list hL2, ?_⟩
        repeat walk_at "s"
        refine BC_append hL2 ?_ (by simp; omega)
        have hL3 : (Δ4.upd LO (.list (ls'.map PV.int ++ [.int y.2]))) LO = some (.list ((ls' ++ [y.2]).map PV.int)) := by rw [Led.upd_self]; simp
        have hF3 : (Δ4.upd LO (.list (ls'.map PV.int ++ [.int y.2]))) FO = some (.dictI ep' (kF (fs' ++ [y.2]))) := (Led.upd_ne hFL).trans hF2
        have hle3 : Δs.le (Δ4.upd LO (.list (ls'.map PV.int ++ [.int y.2]))) := Led.le_upd hle2 hLOs
        generalize Δ4.upd LO _ = Δ5 at hL3 hF3 hle3
        repeat walk_at "s"
        simp only [List.length_append, List.length_singleton] at hfl'
        refine ⟨_, _, ep', fs' ++ [y.2], ls' ++ [y.2], rfl, hle3, hF3, hL3, ⟨hnd', fun w hw => ?_, hlo', fun w hw => ?_, by simp [rs'.v], hln', fun w hw h1 h2 x hx e => ?_⟩, by simp only [List.length_append, List.length_singleton]; omega, fun z hz => ?_, by simp [hu'], ?_⟩
        · rcases List.mem_append.mp hw with hw | hw
          · exact rs'.re w hw
          · simp at hw; subst hw; exact hreach
        · rcases List.mem_append.mp hw with hw | hw
          · exact List.mem_append.mpr (.inl (rs'.sub w hw))
          · exact List.mem_append.mpr (.inr hw)
        · simp only [List.mem_append, not_or] at h1
          rcases List.mem_append.mp hw with hw | hw
          · exact List.mem_append.mpr (.inl (rs'.cl w hw h1.1 h2 x hx e))
          · exact absurd hw h1.2
        · rw [htk] at hz
          rcases List.mem_append.mp hz with hz | hz
          · exact List.mem_append.mpr (.inl (hdone z hz))
          · simp at hz; subst hz; simp
        · simp only [List.mem_append, List.mem_singleton, not_or]
          exact ⟨hul', by rintro rfl; exact hin hu'⟩
    · rintro l₁ Δ₁ ⟨z1, z2, ep, fs', ls', rfl, hle, hF1, hL1, rs', hms, hdone, hu', hul'⟩
      rw [List.length_map, List.take_length] at hdone
      refine SV_nil ?_
      refine ⟨2 * (n - fs'.length) + ls'.length, by simp only [List.length_append, List.length_singleton]; omega, _, _, ep, fs', ls', rfl, hle, hF1, hL1, ⟨rs'.nd, rs'.re, rs'.lo, rs'.sub, rs'.v, rs'.ln, fun w hw h1 _ x hx e => ?_⟩, rfl⟩
      by_cases hwu : w = u
      · obtain ⟨k, hk⟩ := (hg.E u x.2.1).mpr ⟨x, hx, e.trans hwu, rfl⟩
        exact hdone _ hk
      · exact rs'.cl w hw h1 (by simpa using hwu) x hx e

structure PartsOk (s : Scn) (n : Nat) (parts : List (List Int)) : Prop where
  cls : ∀ ns ∈ parts, ns.Nodup ∧ ∃ v : Int, (0 ≤ v ∧ v < n) ∧ ∀ u, u ∈ ns ↔ Reach s v u
  dis : parts.Pairwise fun a b => ∀ u, u ∈ a → u ∉ b
noncomputable abbrev partP (ns : List Int) : PV := .list (ns.map PV.int)

inductive IvP1 (s : Scn) (n : Nat) (W L M : Addr) (p : PV) (ns : List Int) (Δ : Led) (i : Nat) (l : List (Option PV)) (Δ' : Led) : Prop
  | mk (z1 z2 z3 : Option PV) (em : Nat) (parts : List (List Int)) (ms : List Int) (h0 : l = [some (.obj W), some p, some (.obj L), some (.obj M), z1, z2, z3, none, none]) (h1 : Δ.le Δ') (h2 : Δ' L = some (.list (parts.map partP))) (h3 : Δ' M = some (.dictI em (kF ms))) (h4 : PartsOk s n parts) (h5 : parts.length ≤ i) (h6 : ms.Nodup) (h7 : (∀ u, u ∈ ms ↔ ∃ a ∈ parts, u ∈ a)) (h8 : ∀ v ∈ ns.take i, v ∈ ms)
inductive IvP2 (W L M : Addr) (p : PV) (v : Int) (parts : List (List Int)) (part ms : List Int) (Δ : Led) (j : Nat) (l : List (Option PV)) (Δ' : Led) : Prop
  | mk (z3 : Option PV) (em : Nat) (h0 : l = [some (.obj W), some p, some (.obj L), some (.obj M), some (.int v), some (partP part), z3, none, none]) (h1 : Δ.le Δ') (h2 : Δ' L = some (.list ((parts ++ [part]).map partP))) (h3 : Δ' M = some (.dictI em (kF (ms ++ part.take j))))
theorem F_parts {w : World} {n m : Nat} {s : Scn} (ok : s.Ok n) {W : Addr} {p : PV} {ks : List Int} {Δ : Led} {Q : PV → Led → Prop} (hW : Δ W = some (.list (s.web.map wP))) (hp : LstV Δ p (ks.map PV.int)) (hks : ∀ v, v ∈ ks ↔ 0 ≤ v ∧ v < n) (hz : ks.length < 64)
    (q : ∀ L parts Δ', Δ.le Δ' → Δ' L = some (.list (parts.map partP)) → PartsOk s n parts → (∀ v : Int, 0 ≤ v → v < n → ∃ ns ∈ parts, v ∈ ns) → Q (.obj L) Δ') : CSR pw w (KF w) (m + 3) 42 [.obj W, p] Δ Q := by
  refine CSR_enter (m + 2) (ho := rfl) rfl (by rfl) rfl rfl rfl (bind2 fun _ _ => by rfl) (by rfl) (by decide) rfl rfl rfl fun C hr hf => ?_
  have hn4 := ok.n4
  refine SV_cons (SV1_as ["found", "met"] ?_)
  repeat walk_at "s"
  refine EV_lsO ?_
  repeat walk_at "s"
  refine ⟨rfl, fun L hL => ?_⟩
  repeat walk_at "s"
  refine EV_dict0 fun M hM => ?_
  repeat walk_at "s"
  refine ⟨rfl, _, rfl, rfl, ?_⟩
  have hLM : L ≠ M := by rintro rfl; rw [Led.upd_self] at hM; cases hM
  have hM0 : Δ M = none := by rw [Led.upd_ne (Ne.symm hLM)] at hM; exact hM
  have hle : Δ.le ((Δ.upd L (.list [])).upd M (.dictI 0 [])) := Led.le_upd (Led.le_new hL) hM0
  have hL1 : ((Δ.upd L (.list [])).upd M (.dictI 0 [])) L = some (.list ([].map partP)) := by rw [Led.upd_ne hLM, Led.upd_self]; rfl
  have hM1 : ((Δ.upd L (.list [])).upd M (.dictI 0 [])) M = some (.dictI 0 (kF [])) := Led.upd_self _ _ _
  generalize (Δ.upd L (.list [])).upd M (.dictI 0 []) = Δ1 at hle hL1 hM1
  have hp1 : LstV Δ1 p (ks.map PV.int) := by
    rcases hp with rfl | ⟨b, rfl, hb⟩
    · exact .f _ _
    · exact .o (hle _ _ hb)
  clear hM
  repeat walk_at "s"
  refine SV1_for ?_
  repeat walk_at "s"
  refine BC_sortedL hp1 (fun ns hns => ?_) hz
  have hnsl : ns.length < 64 := by rw [hns.length_eq]; exact hz
  refine ⟨_, _, .list _, trivial, IvP1 s n W L M p ns Δ, ?_, fun _ _ _ _ => trivial, ?_, ?_⟩
  · exact ⟨none, none, none, 0, [], [], rfl, hle, hL1, hM1, ⟨by simp, .nil⟩, by simp, by simp, by simp, by simp⟩
  · clear hle hL1 hM1 hp1
    rintro C' hC i p' l₁ Δ₁ hi ⟨z1, z2, z3, em, parts, ms, rfl, hle, hL1, hM1, hok, hlen, hmn, hms, hdone⟩
    have hr' : m + 2 ≤ C'.room := hC.1 ▸ hr
    rw [List.getElem?_map] at hi
    obtain ⟨v, hv, rfl⟩ := Option.map_eq_some_iff.mp hi
    have hvr := (hks v).mp (hns.mem_iff.mp (List.mem_of_getElem? hv))
    have htk : ns.take (i + 1) = ns.take i ++ [v] := by rw [List.take_add_one, hv]; rfl
    have hil : i < 64 := Nat.lt_trans (List.getElem?_eq_some_iff.mp hv).1 hnsl
    repeat walk_at "s"
    refine CO_ninI hM1 ?_
    by_cases hin : v ∈ ms
    · rw [if_neg (by have := (kget_isSome (kF ms) v).mpr (by rw [kF_keys]; exact hin); simp [this])]
      repeat walk_at "s"
      refine ⟨_, _, _, em, parts, ms, rfl, hle, hL1, hM1, hok, by omega, hmn, hms, fun u hu => ?_⟩
      rw [htk] at hu
      rcases List.mem_append.mp hu with hu | hu
      · exact hdone u hu
      · simp at hu; subst hu; exact hin
    · have hk : kget (kF ms) v = none := (kget_none_iff _ _).mpr (by rw [kF_keys]; exact hin)
      rw [if_pos (by simp [hk])]
      repeat walk_at "s"
      refine F_reached ok (hle _ _ hW) hvr fun part Δ2 hle2 hpn hpm => ?_
      have hL2 := hle2 _ _ hL1
      have hM2 := hle2 _ _ hM1
      have hle' := hle.trans hle2
      clear hle hL1 hM1 hle2
      repeat walk_at "s"
      refine EV_lapp _ ?_
      repeat walk_at "s"
      refine ⟨_, rfl, .list hL2, ?_⟩
      repeat walk_at "s"
      refine BC_append hL2 ?_ (by simp; omega)
      have hL3 : (Δ2.upd L (.list (parts.map partP ++ [PV.list (part.map PV.int)]))) L = some (.list ((parts ++ [part]).map partP)) := by rw [Led.upd_self]; simp
      have hM3 : (Δ2.upd L (.list (parts.map partP ++ [PV.list (part.map PV.int)]))) M = some (.dictI em (kF ms)) := (Led.upd_ne (Ne.symm hLM)).trans hM2
      have hle3 : Δ.le (Δ2.upd L (.list (parts.map partP ++ [PV.list (part.map PV.int)]))) := Led.le_upd hle' hL
      generalize Δ2.upd L _ = Δ3 at hL3 hM3 hle3
      have hdis : ∀ a ∈ parts, ∀ u, u ∈ a → u ∉ part := fun a ha u hu hup => by
        obtain ⟨_, t, _, ht⟩ := hok.cls a ha
        exact hin ((hms v).mpr ⟨a, ha, (ht v).mpr (((ht u).mp hu).trans ((hpm u).mp hup).symm)⟩)
      have hvp : v ∈ part := (hpm v).mpr .refl
      have hprange : ∀ u ∈ part, 0 ≤ u ∧ u < n := fun u hu => ((hpm u).mp hu).lo ok hvr
      have hmrange : ∀ u ∈ ms, 0 ≤ u ∧ u < n := fun u hu => by
        obtain ⟨a, ha, h⟩ := (hms u).mp hu
        obtain ⟨_, t, ht0, ht⟩ := hok.cls a ha
        exact ((ht u).mp h).lo ok ht0
      have hnew : ∀ u ∈ part, u ∉ ms := fun u hu hm => by
        obtain ⟨a, ha, h⟩ := (hms u).mp hm
        exact hdis a ha u h hu
      clear hL2 hM2 hle'
      repeat walk_at "s"
      refine SV1_for ?_
      repeat walk_at "s"
      refine ⟨_, _, .list _, trivial, IvP2 W L M p v parts part ms Δ, ?_, fun _ _ _ _ => trivial, ?_, ?_⟩
      · exact ⟨_, _, rfl, hle3, hL3, by simpa using hM3⟩
      · clear hL3 hM3 hle3
        rintro C'' hC'' j u l₁ Δ₄ hj ⟨z3, em, rfl, hle, hL1, hM1⟩
        rw [List.getElem?_map] at hj
        obtain ⟨u, hu, rfl⟩ := Option.map_eq_some_iff.mp hj
        have hup := List.mem_of_getElem? hu
        have htk : part.take (j + 1) = part.take j ++ [u] := by rw [List.take_add_one, hu]; rfl
        have hut : u ∉ part.take j := by
          have : (part.take (j + 1)).Nodup := hpn.sublist (List.take_sublist _ _)
          rw [htk, List.nodup_append] at this
          exact fun h => this.2.2 u h u (by simp) rfl
        have hfresh : u ∉ ms ++ part.take j := by simp only [List.mem_append, not_or]; exact ⟨hnew u hup, hut⟩
        have hl1 := range_le hmn hmrange
        have hl2 := range_le hpn hprange
        have hl3 : (part.take j).length ≤ part.length := by simp; omega
        repeat walk_at "s"
        refine AS_sub ?_
        repeat walk_at "s"
        refine SI_dI hM1 (fun ep' => ?_) (by simp only [kF, List.length_map, List.length_append]; omega)
        rw [kput_new (by rw [kF_keys]; exact hfresh)]
        repeat walk_at "s"
        refine ⟨_, ep', rfl, Led.le_upd hle hM0, (Led.upd_ne hLM).trans hL1, ?_⟩
        rw [Led.upd_self, htk]; simp [kF]
      · rintro l₁ Δ₄ ⟨z3, em, rfl, hle, hL1, hM1⟩
        rw [List.length_map, List.take_length] at hM1
        repeat walk_at "s"
        refine ⟨_, _, _, em, parts ++ [part], ms ++ part, rfl, hle, hL1, hM1, ⟨fun a ha => ?_, ?_⟩, by simp; omega, ?_, fun u => ?_, fun u hu => ?_⟩
        · rcases List.mem_append.mp ha with ha | ha
          · exact hok.cls a ha
          · simp at ha; subst ha; exact ⟨hpn, v, hvr, hpm⟩
        · exact List.pairwise_append.mpr ⟨hok.dis, by simp, fun a ha b hb => by simp at hb; subst hb; exact hdis a ha⟩
        · exact List.nodup_append.mpr ⟨hmn, hpn, fun a ha b hb => by rintro rfl; exact hnew a hb ha⟩
        · simp only [List.mem_append, hms u, List.mem_singleton]
          constructor
          · rintro (⟨a, ha, h⟩ | h)
            · exact ⟨a, .inl ha, h⟩
            · exact ⟨part, .inr rfl, h⟩
          · rintro ⟨a, ha | rfl, h⟩
            · exact .inl ⟨a, ha, h⟩
            · exact .inr h
        · rw [htk] at hu
          rcases List.mem_append.mp hu with hu | hu
          · exact List.mem_append.mpr (.inl (hdone u hu))
          · simp at hu; subst hu; exact List.mem_append.mpr (.inr hvp)
  · rintro l₁ Δ₁ ⟨z1, z2, z3, em, parts, ms, rfl, hle, hL1, hM1, hok, hlen, hmn, hms, hdone⟩
    rw [List.length_map, List.take_length] at hdone
    repeat walk_at "s"
    exact q _ _ _ hle hL1 hok fun v h0 h1 => (hms v).mp (hdone v (hns.mem_iff.mpr ((hks v).mpr ⟨h0, h1⟩)))

noncomputable def kI (ws : List (Int × Int)) : List (Int × PV) := ws.map fun x => (x.1, PV.int x.2)
theorem kI_keys (ws : List (Int × Int)) : (kI ws).map (·.1) = ws.map (·.1) := by simp [kI]
theorem kI_get {ws : List (Int × Int)} (hn : (ws.map (·.1)).Nodup) {k c : Int} (h : (k, c) ∈ ws) : kget (kI ws) k = some (.int c) := by
  unfold kI
  rw [kget_find (fun c => PV.int c), find_nodup hn h]; rfl
theorem kI_none {ws : List (Int × Int)} {k : Int} (h : k ∉ ws.map (·.1)) : kget (kI ws) k = none := (kget_none_iff _ _).mpr (by rw [kI_keys]; exact h)
noncomputable def iput (ws : List (Int × Int)) (k c : Int) : List (Int × Int) := if k ∈ ws.map (·.1) then ws.map (fun x => if x.1 = k then (x.1, c) else x) else ws ++ [(k, c)]
theorem kput_kI (ws : List (Int × Int)) (k c : Int) : kput (kI ws) k (.int c) = kI (iput ws k c) := by
  unfold kput iput
  by_cases h : k ∈ ws.map (·.1)
  · rw [if_pos ((kget_isSome _ _).mpr (by rw [kI_keys]; exact h)), if_pos h]
    simp only [kI, List.map_map]
    refine List.map_congr_left fun x _ => ?_
    simp only [Function.comp]
    split <;> rfl
  · rw [if_neg (by rw [kget_isSome, kI_keys]; exact h), if_neg h]
    simp [kI]
theorem iput_keys (ws : List (Int × Int)) (k c : Int) : (iput ws k c).map (·.1) = if k ∈ ws.map (·.1) then ws.map (·.1) else ws.map (·.1) ++ [k] := by
  unfold iput
  split
  · rw [List.map_map]
    refine List.map_congr_left fun x _ => ?_
    simp only [Function.comp]; split <;> rfl
  · simp
theorem iput_nodup {ws : List (Int × Int)} (h : (ws.map (·.1)).Nodup) (k c : Int) : ((iput ws k c).map (·.1)).Nodup := by
  rw [iput_keys]
  split
  · exact h
  · rename_i hk
    exact List.nodup_append.mpr ⟨h, by simp, fun a ha b hb => by simp at hb; subst hb; rintro rfl; exact hk ha⟩
theorem iput_mem {ws : List (Int × Int)} {k c v d : Int} : (v, d) ∈ iput ws k c ↔ (v = k ∧ d = c) ∨ (v ≠ k ∧ (v, d) ∈ ws) := by
  unfold iput
  split
  · rename_i hk
    simp only [List.mem_map]
    constructor
    · rintro ⟨x, hx, e⟩
      split at e
      · rename_i h; cases e; exact .inl ⟨h, rfl⟩
      · rename_i h; subst e; exact .inr ⟨h, hx⟩
    · rintro (⟨rfl, rfl⟩ | ⟨h, hx⟩)
      · obtain ⟨x, hx, rfl⟩ := List.mem_map.mp hk
        exact ⟨x, hx, by rw [if_pos rfl]⟩
      · exact ⟨_, hx, by rw [if_neg h]⟩
  · rename_i hk
    simp only [List.mem_append, List.mem_singleton, Prod.mk.injEq]
    constructor
    · rintro (hx | ⟨rfl, rfl⟩)
      · exact .inr ⟨by rintro rfl; exact hk (List.mem_map.mpr ⟨_, hx, rfl⟩), hx⟩
      · exact .inl ⟨rfl, rfl⟩
    · rintro (⟨rfl, rfl⟩ | ⟨h, hx⟩)
      · exact .inr ⟨rfl, rfl⟩
      · exact .inl hx
noncomputable def idel (ws : List (Int × Int)) (k : Int) : List (Int × Int) := ws.filter fun x => decide (x.1 ≠ k)
theorem kdel_kI (ws : List (Int × Int)) (k : Int) : kdel (kI ws) k = kI (idel ws k) := by
  unfold kdel kI idel
  rw [List.filter_map]; rfl
theorem idel_mem {ws : List (Int × Int)} {k v d : Int} : (v, d) ∈ idel ws k ↔ v ≠ k ∧ (v, d) ∈ ws := by
  unfold idel; simp [and_comm]
theorem idel_nodup {ws : List (Int × Int)} (h : (ws.map (·.1)).Nodup) (k : Int) : ((idel ws k).map (·.1)).Nodup := h.sublist ((List.filter_sublist ..).map _)
theorem Src.kI (a : Addr) (ep : Nat) (ws : List (Int × Int)) : Src (.obj a) (some (a, .dictI ep (Mine.kI ws))) (ws.map fun x => PV.int x.1) := by
  have := Src.dictI a ep (Mine.kI ws)
  unfold Mine.kI at this ⊢
  rw [List.map_map] at this; exact this
theorem key_fun {ws : List (Int × Int)} (h : (ws.map (·.1)).Nodup) {v c d : Int} (h1 : (v, c) ∈ ws) (h2 : (v, d) ∈ ws) : c = d := congrArg Prod.snd (nodup_inj h h1 h2 rfl)

inductive Wk (s : Scn) (t : Int) : Nat → Int → Int → Prop
  | nil : Wk s t 0 t 0
  | cons {x : (Int × Int) × (Int × Int)} {k : Nat} {c : Int} (hx : x ∈ s.E) (h : Wk s t k x.2.1 c) : Wk s t (k + 1) x.1.1 ((s.po x.1).2 + c)
theorem Wk.reach {s : Scn} {t v c : Int} {k : Nat} (h : Wk s t k v c) : Reach s v t := by
  induction h with
  | nil => exact .refl
  | cons hx _ ih => exact Reach.trans (.step .refl hx) ih
theorem Reach.wk {s : Scn} {t v : Int} (h : Reach s v t) : ∃ k c, Wk s t k v c := by
  have h2 := h.symm
  clear h
  induction h2 with
  | refl => exact ⟨0, 0, .nil⟩
  | step _ hx ih =>
    obtain ⟨k, c, ih⟩ := ih
    exact ⟨_, _, .cons (s.E_swp hx) ih⟩
structure Dist (s : Scn) (t v c : Int) : Prop where
  ex : ∃ k, Wk s t k v c
  lb : ∀ k d, Wk s t k v d → c ≤ d
noncomputable def rcF (r : Int × Int) (c : Int) : List Int := [r.1, r.2, c]
structure IsBest (s : Scn) (v : Int) (r : Int × Int) (c : Int) : Prop where
  ex : ∃ t k, r = s.br t ∧ Wk s t k v c
  lb : ∀ t k d, Wk s t k v d → ile (rcF r c) (rcF (s.br t) d)
theorem IsBest.uniq {s : Scn} {v : Int} {r r' : Int × Int} {c c' : Int} (h : IsBest s v r c) (h' : IsBest s v r' c') : r = r' ∧ c = c' := by
  obtain ⟨t, k, rfl, hw⟩ := h.ex
  obtain ⟨t', k', rfl, hw'⟩ := h'.ex
  have := ile_anti (by rfl) (h.lb _ _ _ hw') (h'.lb _ _ _ hw)
  simp only [rcF, List.cons.injEq, and_true] at this
  exact ⟨Prod.ext this.1 this.2.1, this.2.2⟩

noncomputable def Scn.acr (s : Scn) : List ((Int × Int) × (Int × Int)) := s.web.flatMap fun x => [x, swp x]
noncomputable def kA (s : Scn) : List ((Int × Int) × PV) := s.acr.map fun x => (x.1, pr x.2)
theorem acr_mem {s : Scn} {x : (Int × Int) × (Int × Int)} : x ∈ s.acr ↔ x ∈ s.E := by
  unfold Scn.acr Scn.E
  simp only [List.mem_flatMap, List.mem_cons, List.not_mem_nil, or_false, List.mem_append, List.mem_map]
  constructor
  · rintro ⟨y, hy, rfl | rfl⟩
    · exact .inl hy
    · exact .inr ⟨y, hy, rfl⟩
  · rintro (h | ⟨y, hy, rfl⟩)
    · exact ⟨x, h, .inl rfl⟩
    · exact ⟨y, hy, .inr rfl⟩
theorem acr_keys (s : Scn) : s.acr.map (·.1) = endsOf s.web := by
  unfold Scn.acr endsOf
  rw [List.map_flatMap]; rfl
theorem Scn.Ok.ends_nd {s : Scn} {n : Nat} (ok : s.Ok n) : (endsOf s.web).Nodup := by obtain ⟨cs, h⟩ := ok.p; exact h.nd
theorem Scn.Ok.kA {s : Scn} {n : Nat} (ok : s.Ok n) {x : (Int × Int) × (Int × Int)} (hx : x ∈ s.E) : kget (kA s) x.1 = some (pr x.2) := by
  unfold Mine.kA
  rw [kget_find pr, find_nodup (by rw [acr_keys]; exact ok.ends_nd) (acr_mem.mpr hx)]; rfl
theorem Scn.Ok.acr_len {s : Scn} {n : Nat} (ok : s.Ok n) : 6 ≤ s.acr.length ∧ s.acr.length ≤ 12 := by
  have h := congrArg List.length (acr_keys s)
  rw [List.length_map, endsOf_length] at h
  have := ok.w3; have := ok.w6; omega
theorem Scn.Ok.E_uniq {s : Scn} {n : Nat} (ok : s.Ok n) {x y : (Int × Int) × (Int × Int)} (hx : x ∈ s.E) (hy : y ∈ s.E) (e : x.1 = y.1) : x = y :=
  nodup_inj (by rw [acr_keys]; exact ok.ends_nd) (acr_mem.mpr hx) (acr_mem.mpr hy) e
structure KOk (n : Nat) (kk : List (Int × PV)) : Prop where
  nd : (kk.map (·.1)).Nodup
  lo : ∀ v : Int, v ∈ kk.map (·.1) → 0 ≤ v ∧ v < n
theorem KOk.len {n : Nat} {kk : List (Int × PV)} (h : KOk n kk) : kk.length ≤ n := by
  have := range_le h.nd h.lo
  simpa using this
theorem KOk.put {n : Nat} {kk : List (Int × PV)} (h : KOk n kk) {v : Int} (hv : 0 ≤ v ∧ v < n) (p : PV) : KOk n (kput kk v p) where
  nd := kput_nodup h.nd _ _
  lo := by
    rw [kput_keys]; split
    · exact h.lo
    · intro u hu
      rcases List.mem_append.mp hu with hu | hu
      · exact h.lo u hu
      · simp at hu; subst hu; exact hv

structure TrL (Δ : Led) (s : Scn) (o d B P A R K : Addr) (kr kk : List (Int × PV)) : Prop where
  t : TreeL Δ o d B P A R K
  b : ∃ ep, Δ B = some (.dictI ep (kB s.brs))
  p : ∃ ep, Δ P = some (.dictT ep (kP s.prt))
  a : ∃ ep, Δ A = some (.dictT ep (kA s))
  r : ∃ ep, Δ R = some (.dictI ep kr)
  k : ∃ ep, Δ K = some (.dictI ep kk)
  BR : B ≠ R
  BK : B ≠ K
  RK : R ≠ K
section
variable {Δ : Led} {s : Scn} {o d B P A R K : Addr} {kr kk : List (Int × PV)}
theorem TreeL.of {Δ' : Led} (h : TreeL Δ o d B P A R K) (k : ∀ a m, (∀ ep kvs, m ≠ .dictI ep kvs) → Δ a = some m → Δ' a = some m) : TreeL Δ' o d B P A R K :=
  ⟨k _ _ (fun _ _ e => by cases e) h.i, k _ _ (fun _ _ e => by cases e) h.a⟩
theorem upd_of {ep : Nat} {kvs : List (Int × PV)} {a : Addr} {m : MO} (ha : Δ a = some (.dictI ep kvs)) : ∀ b m', (∀ ep kvs, m' ≠ .dictI ep kvs) → Δ b = some m' → (Δ.upd a m) b = some m' := fun b m' hm e => by
  rw [Led.upd_ne]; exact e
  rintro rfl; rw [ha] at e; cases e; exact hm _ _ rfl
theorem TrL.upd (h : TrL Δ s o d B P A R K kr kk) {a : Addr} {m : MO} {ep0 : Nat} {kv0 : List (Int × PV)} (ha : Δ a = some (.dictI ep0 kv0)) (aB : a ≠ B) (aR : a ≠ R) (aK : a ≠ K) : TrL (Δ.upd a m) s o d B P A R K kr kk where
  t := h.t.of (upd_of ha)
  b := by obtain ⟨ep, e⟩ := h.b; exact ⟨ep, (Led.upd_ne (Ne.symm aB)).trans e⟩
  p := by obtain ⟨ep, e⟩ := h.p; exact ⟨ep, upd_of ha _ _ (fun _ _ e => by cases e) e⟩
  a := by obtain ⟨ep, e⟩ := h.a; exact ⟨ep, upd_of ha _ _ (fun _ _ e => by cases e) e⟩
  r := by obtain ⟨ep, e⟩ := h.r; exact ⟨ep, (Led.upd_ne (Ne.symm aR)).trans e⟩
  k := by obtain ⟨ep, e⟩ := h.k; exact ⟨ep, (Led.upd_ne (Ne.symm aK)).trans e⟩
  BR := h.BR
  BK := h.BK
  RK := h.RK
theorem TrL.setR (h : TrL Δ s o d B P A R K kr kk) (kr' : List (Int × PV)) (ep' : Nat) : TrL (Δ.upd R (.dictI ep' kr')) s o d B P A R K kr' kk := by
  obtain ⟨er, hr⟩ := h.r
  exact ⟨h.t.of (upd_of hr), by obtain ⟨ep, e⟩ := h.b; exact ⟨ep, (Led.upd_ne h.BR).trans e⟩, by obtain ⟨ep, e⟩ := h.p; exact ⟨ep, upd_of hr _ _ (fun _ _ e => by cases e) e⟩,
    by obtain ⟨ep, e⟩ := h.a; exact ⟨ep, upd_of hr _ _ (fun _ _ e => by cases e) e⟩, ⟨ep', Led.upd_self _ _ _⟩, by obtain ⟨ep, e⟩ := h.k; exact ⟨ep, (Led.upd_ne (Ne.symm h.RK)).trans e⟩, h.BR, h.BK, h.RK⟩
theorem TrL.setK (h : TrL Δ s o d B P A R K kr kk) (kk' : List (Int × PV)) (ep' : Nat) : TrL (Δ.upd K (.dictI ep' kk')) s o d B P A R K kr kk' := by
  obtain ⟨er, hr⟩ := h.k
  exact ⟨h.t.of (upd_of hr), by obtain ⟨ep, e⟩ := h.b; exact ⟨ep, (Led.upd_ne h.BK).trans e⟩, by obtain ⟨ep, e⟩ := h.p; exact ⟨ep, upd_of hr _ _ (fun _ _ e => by cases e) e⟩,
    by obtain ⟨ep, e⟩ := h.a; exact ⟨ep, upd_of hr _ _ (fun _ _ e => by cases e) e⟩, by obtain ⟨ep, e⟩ := h.r; exact ⟨ep, (Led.upd_ne h.RK).trans e⟩, ⟨ep', Led.upd_self _ _ _⟩, h.BR, h.BK, h.RK⟩
theorem TrL.le (h : TrL Δ s o d B P A R K kr kk) {Δ' : Led} (k : Δ.le Δ') : TrL Δ' s o d B P A R K kr kk :=
  ⟨⟨k _ _ h.t.i, k _ _ h.t.a⟩, h.b.imp fun _ e => k _ _ e, h.p.imp fun _ e => k _ _ e, h.a.imp fun _ e => k _ _ e, h.r.imp fun _ e => k _ _ e, h.k.imp fun _ e => k _ _ e, h.BR, h.BK, h.RK⟩
end
noncomputable def Led.leX (R K : Addr) (Δ Δ' : Led) : Prop := ∀ a m, a ≠ R → a ≠ K → Δ a = some m → Δ' a = some m
theorem Led.leX.trans {R K : Addr} {a b c : Led} (x : Led.leX R K a b) (y : Led.leX R K b c) : Led.leX R K a c := fun i m h1 h2 e => y i m h1 h2 (x i m h1 h2 e)
theorem Led.le.leX {R K : Addr} {a b : Led} (x : a.le b) : Led.leX R K a b := fun i m _ _ e => x i m e
structure StL (Δ0 Δ : Led) (s : Scn) (o d B P A R K U : Addr) (kr kk : List (Int × PV)) (ws : List (Int × Int)) : Prop extends TrL Δ s o d B P A R K kr kk where
  w : ∃ ep, Δ U = some (.dictI ep (kI ws))
  UB : U ≠ B
  UR : U ≠ R
  UK : U ≠ K
  U0 : Δ0 U = none
  fr : Led.leX R K Δ0 Δ
section
variable {Δ0 Δ : Led} {s : Scn} {o d B P A R K U : Addr} {kr kk : List (Int × PV)} {ws : List (Int × Int)}
theorem StL.setR (h : StL Δ0 Δ s o d B P A R K U kr kk ws) (kr' : List (Int × PV)) (ep' : Nat) : StL Δ0 (Δ.upd R (.dictI ep' kr')) s o d B P A R K U kr' kk ws :=
  ⟨h.toTrL.setR kr' ep', by obtain ⟨ep, e⟩ := h.w; exact ⟨ep, (Led.upd_ne h.UR).trans e⟩, h.UB, h.UR, h.UK, h.U0, fun a m h1 h2 e => (Led.upd_ne h1).trans (h.fr a m h1 h2 e)⟩
theorem StL.setK (h : StL Δ0 Δ s o d B P A R K U kr kk ws) (kk' : List (Int × PV)) (ep' : Nat) : StL Δ0 (Δ.upd K (.dictI ep' kk')) s o d B P A R K U kr kk' ws :=
  ⟨h.toTrL.setK kk' ep', by obtain ⟨ep, e⟩ := h.w; exact ⟨ep, (Led.upd_ne h.UK).trans e⟩, h.UB, h.UR, h.UK, h.U0, fun a m h1 h2 e => (Led.upd_ne h2).trans (h.fr a m h1 h2 e)⟩
theorem StL.setU (h : StL Δ0 Δ s o d B P A R K U kr kk ws) (ws' : List (Int × Int)) (ep' : Nat) : StL Δ0 (Δ.upd U (.dictI ep' (kI ws'))) s o d B P A R K U kr kk ws' := by
  obtain ⟨ep, e⟩ := h.w
  exact ⟨h.toTrL.upd e h.UB h.UR h.UK, ⟨ep', Led.upd_self _ _ _⟩, h.UB, h.UR, h.UK, h.U0, fun a m h1 h2 e' => (Led.upd_ne (by rintro rfl; rw [h.U0] at e'; cases e')).trans (h.fr a m h1 h2 e')⟩
theorem StL.new (h : StL Δ0 Δ s o d B P A R K U kr kk ws) {b : Addr} {m : MO} (hb : Δ b = none) : StL Δ0 (Δ.upd b m) s o d B P A R K U kr kk ws :=
  ⟨h.toTrL.le (Led.le_new hb), by obtain ⟨ep, e⟩ := h.w; exact ⟨ep, Led.le_new hb _ _ e⟩, h.UB, h.UR, h.UK, h.U0, h.fr.trans (Led.le_new hb).leX⟩
theorem StL.mk' (h : TrL Δ s o d B P A R K kr kk) {U : Addr} (hU : Δ U = none) : StL Δ (Δ.upd U (.dictI 0 [])) s o d B P A R K U kr kk [] :=
  ⟨h.le (Led.le_new hU), ⟨0, Led.upd_self _ _ _⟩, (by rintro rfl; obtain ⟨_, e⟩ := h.b; rw [hU] at e; cases e), (by rintro rfl; obtain ⟨_, e⟩ := h.r; rw [hU] at e; cases e),
    (by rintro rfl; obtain ⟨_, e⟩ := h.k; rw [hU] at e; cases e), hU, (Led.le_new hU).leX⟩
end

structure Dj (s : Scn) (t : Int) (ns : List Int) (done : Int → Option Int) (ws : List (Int × Int)) (ex : (Int × Int) × (Int × Int) → Prop) : Prop where
  dn : ∀ v c, done v = some c → v ∈ ns ∧ Dist s t v c
  wn : (ws.map (·.1)).Nodup
  wk : ∀ v c, (v, c) ∈ ws → v ∈ ns ∧ done v = none ∧ ∃ k, Wk s t k v c
  cov : ∀ x ∈ s.E, ∀ cu, done x.2.1 = some cu → done x.1.1 = none → ¬ ex x → ∃ c, (x.1.1, c) ∈ ws ∧ c ≤ cu + (s.po x.1).2
  tt : done t = none → ∃ c, (t, c) ∈ ws ∧ c ≤ 0
noncomputable def dput (done : Int → Option Int) (u c : Int) : Int → Option Int := fun v => if v = u then some c else done v
section
variable {s : Scn} {n : Nat} {t : Int} {ns : List Int} {done : Int → Option Int} {ws : List (Int × Int)} {ex : (Int × Int) × (Int × Int) → Prop}
theorem Dj.low (h : Dj s t ns done ws fun _ => False) (ok : s.Ok n) {k : Nat} {v c : Int} (hw : Wk s t k v c) (hv : done v = none) : ∃ x ∈ ws, x.2 ≤ c := by
  induction hw with
  | nil => obtain ⟨c, h1, h2⟩ := h.tt hv; exact ⟨_, h1, h2⟩
  | cons hx hw ih =>
    rename_i x k c
    have hp := ok.cost_pos (s.E_ends hx).1
    cases e : done x.2.1 with
    | none => obtain ⟨y, h1, h2⟩ := ih e; exact ⟨y, h1, by omega⟩
    | some cu =>
      obtain ⟨d, h1, h2⟩ := h.cov x hx cu e hv (fun h => h)
      have := (h.dn _ _ e).2.lb _ _ hw
      exact ⟨_, h1, by simp only; omega⟩
theorem Dj.pop (h : Dj s t ns done ws fun _ => False) (ok : s.Ok n) {u c : Int} (hu : (u, c) ∈ ws) (hm : ∀ x ∈ ws, c ≤ x.2) : Dj s t ns (dput done u c) (idel ws u) fun x => x.2.1 = u where
  dn := fun v d hd => by
    unfold dput at hd
    split at hd
    · rename_i e; cases hd; subst e
      obtain ⟨h1, h2, h3⟩ := h.wk _ _ hu
      exact ⟨h1, h3, fun k d hw => by obtain ⟨x, hx, hd⟩ := h.low ok hw h2; have := hm x hx; omega⟩
    · exact h.dn v d hd
  wn := idel_nodup h.wn _
  wk := fun v d hd => by
    obtain ⟨h1, h2⟩ := idel_mem.mp hd
    obtain ⟨a, b, c⟩ := h.wk v d h2
    exact ⟨a, by unfold dput; rw [if_neg h1]; exact b, c⟩
  cov := fun x hx cu h1 h2 h3 => by
    unfold dput at h1 h2
    rw [if_neg h3] at h1
    split at h2
    · cases h2
    · rename_i e
      obtain ⟨d, h4, h5⟩ := h.cov x hx cu h1 h2 (fun h => h)
      exact ⟨d, idel_mem.mpr ⟨e, h4⟩, h5⟩
  tt := fun h1 => by
    unfold dput at h1
    split at h1
    · cases h1
    · rename_i e
      obtain ⟨d, h4, h5⟩ := h.tt h1
      exact ⟨d, idel_mem.mpr ⟨e, h4⟩, h5⟩
theorem Dj.imp (h : Dj s t ns done ws ex) {ex' : (Int × Int) × (Int × Int) → Prop} (hx : ∀ x ∈ s.E, done x.1.1 = none → ex x → ex' x) : Dj s t ns done ws ex' :=
  ⟨h.dn, h.wn, h.wk, fun x hx' cu h1 h2 h3 => h.cov x hx' cu h1 h2 fun h4 => h3 (hx x hx' h2 h4), h.tt⟩
theorem Dj.relax (h : Dj s t ns done ws ex) {x : (Int × Int) × (Int × Int)} (hx : x ∈ s.E) {cu nc : Int} (hu : done x.2.1 = some cu) (hv : done x.1.1 = none) (hin : x.1.1 ∈ ns)
    (h1 : nc = cu + (s.po x.1).2 ∨ (x.1.1, nc) ∈ ws) (h2 : nc ≤ cu + (s.po x.1).2) (h3 : ∀ c, (x.1.1, c) ∈ ws → nc ≤ c) : Dj s t ns done (iput ws x.1.1 nc) fun y => ex y ∧ y ≠ x where
  dn := h.dn
  wn := iput_nodup h.wn _ _
  wk := fun v d hd => by
    rcases iput_mem.mp hd with ⟨rfl, rfl⟩ | ⟨_, hd⟩
    · refine ⟨hin, hv, ?_⟩
      rcases h1 with rfl | h1
      · obtain ⟨k, hw⟩ := (h.dn _ _ hu).2.ex
        have := Wk.cons hx hw
        rw [Int.add_comm] at this
        exact ⟨_, this⟩
      · exact (h.wk _ _ h1).2.2
    · exact h.wk v d hd
  cov := fun y hy cy h4 h5 h6 => by
    by_cases e : y = x
    · subst e
      rw [hu] at h4; cases h4
      exact ⟨nc, iput_mem.mpr (.inl ⟨rfl, rfl⟩), h2⟩
    · obtain ⟨c, h7, h8⟩ := h.cov y hy cy h4 h5 fun h => h6 ⟨h, e⟩
      by_cases e2 : y.1.1 = x.1.1
      · exact ⟨nc, iput_mem.mpr (.inl ⟨e2, rfl⟩), Int.le_trans (h3 c (e2 ▸ h7)) h8⟩
      · exact ⟨c, iput_mem.mpr (.inr ⟨e2, h7⟩), h8⟩
  tt := fun h4 => by
    obtain ⟨c, h5, h6⟩ := h.tt h4
    by_cases e : t = x.1.1
    · exact ⟨nc, iput_mem.mpr (.inl ⟨e, rfl⟩), Int.le_trans (h3 c (e ▸ h5)) h6⟩
    · exact ⟨c, iput_mem.mpr (.inr ⟨e, h5⟩), h6⟩
end
theorem filter_lt {α : Type} {xs : List α} {p q : α → Bool} (h : ∀ x ∈ xs, q x = true → p x = true) {u : α} (hu : u ∈ xs) (h1 : p u = true) (h2 : q u = false) : (xs.filter q).length < (xs.filter p).length := by
  have e : xs.filter q = (xs.filter p).filter q := by
    rw [List.filter_filter]
    refine List.filter_congr fun x hx => ?_
    cases hq : q x with
    | false => simp
    | true => simp [h x hx hq]
  rw [e]
  exact List.length_filter_lt_length_iff_exists.mpr ⟨u, List.mem_filter.mpr ⟨hu, h1⟩, by simp [h2]⟩

theorem perm_map {α β : Type} {f : α → β} {ps qs : List β} (h : ps.Perm qs) : ∀ L : List α, qs = L.map f → ∃ L' : List α, L'.Perm L ∧ ps = L'.map f := by
  induction h with
  | nil => intro L e; exact ⟨L, .refl _, e⟩
  | cons x _ ih =>
    intro L e
    cases L with
    | nil => cases e
    | cons y ys =>
      simp only [List.map_cons, List.cons.injEq] at e
      obtain ⟨L', h1, rfl⟩ := ih ys e.2
      exact ⟨y :: L', h1.cons y, by rw [e.1]; rfl⟩
  | swap x y l =>
    intro L e
    cases L with
    | nil => cases e
    | cons a L =>
      cases L with
      | nil => cases e
      | cons b L =>
        simp only [List.map_cons, List.cons.injEq] at e
        obtain ⟨rfl, rfl, rfl⟩ := e
        exact ⟨b :: a :: L, .swap .., rfl⟩
  | trans _ _ ih1 ih2 =>
    intro L e
    obtain ⟨L2, h2, rfl⟩ := ih2 L e
    obtain ⟨L1, h1, rfl⟩ := ih1 L2 rfl
    exact ⟨L1, h1.trans h2, rfl⟩
structure Settled (s : Scn) (n : Nat) (ns : List Int) (kr kk kr' kk' : List (Int × PV)) : Prop where
  ok : ∃ t ∈ ns, (∀ u ∈ ns, ile [(s.br t).1, (s.br t).2] [(s.br u).1, (s.br u).2]) ∧ (∀ u ∈ ns, kget kr' u = some (pr (s.br t))) ∧ ∀ u ∈ ns, ∃ c, kget kk' u = some (.int c) ∧ Dist s t u c
  r : ∀ u, u ∉ ns → kget kr' u = kget kr u
  k : ∀ u, u ∉ ns → kget kk' u = kget kk u

inductive IvSt1 (s : Scn) (n : Nat) (o d B P A R K U : Addr) (ns : List Int) (t : Int) (kr kk : List (Int × PV)) (Δ : Led) (i : Nat) (l : List (Option PV)) (Δ' : Led) : Prop
  | mk (z1 z2 z3 z4 z5 : Option PV) (kr' : List (Int × PV)) (h0 : l = [some (.obj o), some (partP ns), z1, some (pr (s.br t)), some (.obj U), z2, z3, z4, z5, none, none]) (h1 : StL Δ Δ' s o d B P A R K U kr' kk (if t ∈ ns.take i then [(t, 0)] else [])) (h2 : KOk n kr') (h3 : ∀ u, kget kr' u = if u ∈ ns.take i then some (pr (s.br t)) else kget kr u)
inductive IvSt2 (s : Scn) (n : Nat) (o d B P A R K U : Addr) (ns : List Int) (t : Int) (kr' kk : List (Int × PV)) (Δ : Led) (m : Nat) (l : List (Option PV)) (Δ' : Led) : Prop
  | mk (z1 z2 z3 z4 z5 : Option PV) (kk' : List (Int × PV)) (done : Int → Option Int) (ws : List (Int × Int)) (h0 : l = [some (.obj o), some (partP ns), z1, some (pr (s.br t)), some (.obj U), z2, z3, z4, z5, none, none]) (h1 : StL Δ Δ' s o d B P A R K U kr' kk' ws) (h2 : KOk n kk') (h3 : (∀ u, kget kk' u = if u ∈ ns then (done u).map PV.int else kget kk u)) (h4 : Dj s t ns done ws (fun _ => False)) (h5 : m = (ns.filter fun v => (done v).isNone).length)
inductive IvSt3 (s : Scn) (n : Nat) (o d B P A R K U : Addr) (ns : List Int) (t u : Int) (kr' kk2 : List (Int × PV)) (done2 : Int → Option Int) (es : List (Int × Int)) (Δ : Led) (j : Nat) (l : List (Option PV)) (Δ' : Led) : Prop
  | mk (z1 z3 z4 z5 : Option PV) (ws' : List (Int × Int)) (h0 : l = [some (.obj o), some (partP ns), z1, some (pr (s.br t)), some (.obj U), some (.int u), z3, z4, z5, none, none]) (h1 : StL Δ Δ' s o d B P A R K U kr' kk2 ws') (h2 : Dj s t ns done2 ws' (fun x => x.2.1 = u ∧ x.1 ∉ es.take j))
theorem F_settle {w : World} {n m : Nat} {s : Scn} (ok : s.Ok n) {o d B P A R K : Addr} {kr kk : List (Int × PV)} {Δ : Led} {ns : List Int} {v0 : Int} {Q : PV → Led → Prop} (h : TrL Δ s o d B P A R K kr kk) (hnd : ns.Nodup) (hv0 : 0 ≤ v0 ∧ v0 < n)
    (hcl : ∀ u, u ∈ ns ↔ Reach s v0 u) (hkr : KOk n kr) (hkk : KOk n kk) (hfresh : ∀ u ∈ ns, kget kk u = none)
    (q : ∀ Δ' kr' kk', TrL Δ' s o d B P A R K kr' kk' → Led.leX R K Δ Δ' → KOk n kr' → KOk n kk' → Settled s n ns kr kk kr' kk' → Q .none Δ') : CSR pw w (KF w) (m + 1) 61 [.obj o, partP ns] Δ Q := by
  refine CSR_enter m (ho := rfl) rfl (by rfl) rfl rfl rfl (bind2 fun _ _ => by rfl) (by rfl) (by decide) rfl rfl rfl fun C hr hf => ?_
  have hn4 := ok.n4
  have hns : ∀ u ∈ ns, 0 ≤ u ∧ u < n := fun u hu => ((hcl u).mp hu).lo ok hv0
  have hlen : ns.length ≤ n := range_le hnd hns
  have hv0n : v0 ∈ ns := (hcl v0).mpr .refl
  have ht := h.t
  obtain ⟨eb, hB⟩ := h.b
  repeat walk_at "s"
  refine EV_compM hf ns PV.int (fun _ => true) (fun v => pr (s.br v)) ?_
  repeat walk_at "s"
  refine ⟨_, .list _, trivial, by omega, ?_, .inl ?_⟩
  · intro C' hC' x hx
    have hk := ok.kB (hns x hx).1 (hns x hx).2
    repeat walk_at "s"
    refine ⟨?_, ?_⟩
    · repeat walk_at "s"
    · repeat walk_at "s"
      exact ⟨rfl, rfl, rfl⟩
  simp only [filter_tt]
  repeat walk_at "s"
  have hne : ns.map (fun v => pr (s.br v)) ≠ [] := by simpa using List.ne_nil_of_mem hv0n
  have hsh : ∀ x ∈ ns.map (fun v => pr (s.br v)), ∀ y ∈ ns.map (fun v => pr (s.br v)), Shp 1 x y := fun x hx y hy => by
    obtain ⟨a, _, rfl⟩ := List.mem_map.mp hx
    obtain ⟨b, _, rfl⟩ := List.mem_map.mp hy
    exact shp_pr 0 _ _
  refine BC_min 1 (.f _ _) ?_ hne hsh
  obtain ⟨t, htn, et⟩ := List.mem_map.mp (minP_mem hne)
  have htmin : ∀ u ∈ ns, ile [(s.br t).1, (s.br t).2] [(s.br u).1, (s.br u).2] := fun u hu => by
    have := minP_le hsh (List.mem_map_of_mem (f := fun v => pr (s.br v)) hu)
    rw [← et] at this; exact this
  rw [← et]
  clear et hne hsh
  repeat walk_at "s"
  refine EV_dict0 fun U hU => ?_
  have hst := StL.mk' h hU
  generalize Δ.upd U (.dictI 0 []) = Δ1 at hst
  repeat walk_at "s"
  refine SV1_for ?_
  repeat walk_at "s"
  refine ⟨_, _, .list _, trivial, IvSt1 s n o d B P A R K U ns t kr kk Δ, ?_, fun _ _ _ _ => trivial, ?_, ?_⟩
  · exact ⟨none, none, none, none, none, kr, rfl, by simpa using hst, hkr, by simp⟩
  · clear hst
    rintro C' hC i p l₁ Δ₁ hi ⟨z1, z2, z3, z4, z5, kr', rfl, hst, hkr', hget⟩
    rw [List.getElem?_map] at hi
    obtain ⟨v, hv, rfl⟩ := Option.map_eq_some_iff.mp hi
    have hvn := List.mem_of_getElem? hv
    have htk : ns.take (i + 1) = ns.take i ++ [v] := by rw [List.take_add_one, hv]; rfl
    have hvt : v ∉ ns.take i := by
      have : (ns.take (i + 1)).Nodup := hnd.sublist (List.take_sublist _ _)
      rw [htk, List.nodup_append] at this
      exact fun h => this.2.2 v h v (by simp) rfl
    have ht := hst.t
    obtain ⟨er, hR⟩ := hst.r
    repeat walk_at "s"
    refine AS_sub ?_
    repeat walk_at "s"
    refine SI_dI hR (fun ep' => ?_) (by have := hkr'.len; omega)
    have hst2 := hst.setR (kput kr' v (pr (s.br t))) ep'
    generalize Δ₁.upd R _ = Δ2 at hst2
    have hkr2 := hkr'.put (hns v hvn) (pr (s.br t))
    have hget2 : ∀ u, kget (kput kr' v (pr (s.br t))) u = if u ∈ ns.take (i + 1) then some (pr (s.br t)) else kget kr u := fun u => by
      rw [kget_put, hget u, htk]
      by_cases e : u = v
      · simp [e]
      · simp [e]
    generalize kput kr' v (pr (s.br t)) = kr2 at hst2 hkr2 hget2
    have ht := hst2.t
    obtain ⟨eb, hB⟩ := hst2.b
    have hk := ok.kB (hns v hvn).1 (hns v hvn).2
    repeat walk_at "s"
    refine CO_eqF ?_ (shp_pr 0 (s.br v) (s.br t)).flat rfl rfl rfl rfl rfl rfl
    by_cases hvt2 : v = t
    · subst hvt2
      rw [if_pos (by simp)]
      rw [if_neg hvt] at hst2
      obtain ⟨ew, hw⟩ := hst2.w
      repeat walk_at "s"
      refine AS_sub ?_
      repeat walk_at "s"
      refine SI_dI hw (fun ep' => ?_) (by simp [kI])
      rw [kput_kI]
      have hst3 := hst2.setU (iput [] v 0) ep'
      generalize Δ2.upd U _ = Δ3 at hst3
      repeat walk_at "s"
      refine ⟨_, _, _, _, _, kr2, rfl, ?_, hkr2, hget2⟩
      rw [if_pos (by rw [htk]; simp)]
      exact hst3
    · have hneq : s.br v ≠ s.br t := fun e => hvt2 (ok.br_inj (hns v hvn).1 (hns v hvn).2 (hns t htn).1 (hns t htn).2 e)
      rw [if_neg (by
        simp only [decide_eq_true_eq]
        intro e
        simp only [flat, flats, List.append_nil, List.cons_append, List.nil_append, List.cons.injEq, and_true] at e
        exact hneq (Prod.ext e.1 e.2))]
      repeat walk_at "s"
      refine ⟨_, _, _, _, _, kr2, rfl, ?_, hkr2, hget2⟩
      have : (t ∈ ns.take (i + 1)) ↔ t ∈ ns.take i := by rw [htk]; simp [Ne.symm hvt2]
      simp only [this]; exact hst2
  · clear hst
    rintro l₁ Δ₁ ⟨z1, z2, z3, z4, z5, kr', rfl, hst, hkr', hget⟩
    rw [List.length_map, List.take_length] at hst
    simp only [List.length_map, List.take_length] at hget
    rw [if_pos htn] at hst
    repeat walk_at "s"
    refine SV1_while (IvSt2 s n o d B P A R K U ns t kr' kk Δ) (ns.filter fun v => ((fun _ => none : Int → Option Int) v).isNone).length ?_ ?_
    · refine ⟨z1, z2, z3, z4, z5, kk, fun _ => none, [(t, 0)], rfl, hst, hkk, fun u => ?_, ⟨by simp, by simp, ?_, by simp, fun _ => ⟨0, by simp, Int.le_refl _⟩⟩, rfl⟩
      · split
        · rename_i hu; rw [hfresh u hu]; rfl
        · rfl
      · intro v c hvc
        simp at hvc
        obtain ⟨rfl, rfl⟩ := hvc
        exact ⟨htn, rfl, 0, .nil⟩
    clear hst
    rintro mm l₁ Δ₂ ⟨z1, z2, z3, z4, z5, kk', done, ws, rfl, hst, hkk', hkg, dj, rfl⟩
    repeat walk_at "s"
    refine EV_dict0 fun Em hE => ?_
    have hst1 := hst.new (m := .dictI 0 []) hE
    have hEm := Led.upd_self Δ₂ Em (.dictI 0 [])
    generalize Δ₂.upd Em _ = Δ3 at hst1 hEm
    obtain ⟨ew, hw⟩ := hst1.w
    refine CO_neD0 hw hEm ?_
    cases ws with
    | nil =>
      rw [if_neg (by decide)]
      repeat walk_at "s"
      refine q Δ3 kr' kk' hst1.toTrL hst1.fr hkr' hkk' ⟨⟨t, htn, htmin, fun u hu => by rw [hget u, if_pos hu], fun u hu => ?_⟩, fun u hu => by rw [hget u, if_neg hu], fun u hu => by rw [hkg, if_neg hu]⟩
      cases e : done u with
      | none =>
        obtain ⟨k, c, hw⟩ := Reach.wk (((hcl u).mp hu).symm.trans ((hcl t).mp htn))
        obtain ⟨x, hx, _⟩ := dj.low ok hw e
        cases hx
      | some c => exact ⟨c, by rw [hkg, if_pos hu, e]; rfl, (dj.dn u c e).2⟩
    | cons x0 ws0 =>
      rw [if_pos (by rfl)]
      have hne : x0 :: ws0 ≠ [] := by simp
      generalize x0 :: ws0 = ws at hne hst dj hst1 hw
      clear hst
      have hwlen : ws.length ≤ n := by
        have := range_le dj.wn fun v hv => by
          obtain ⟨x, hx, rfl⟩ := List.mem_map.mp hv
          exact hns _ (dj.wk x.1 x.2 hx).1
        simpa using this
      repeat walk_at "s"
      refine EV_compM hf ws (fun x => .int x.1) (fun _ => true) (fun x => .tup [.int x.2, .int x.1]) ?_
      repeat walk_at "s"
      refine ⟨_, Src.kI U ew ws, hw, by omega, ?_, .inl ?_⟩
      · intro C' hC' x hx
        have hk := kI_get dj.wn hx
        repeat walk_at "s"
        refine ⟨?_, ?_⟩
        · repeat walk_at "s"
        · repeat walk_at "s"
          exact ⟨rfl, rfl, rfl, rfl⟩
      simp only [filter_tt]
      repeat walk_at "s"
      have hne1 : ws.map (fun x => PV.tup [.int x.2, .int x.1]) ≠ [] := by simpa using hne
      have hsh : ∀ x ∈ ws.map (fun x => PV.tup [.int x.2, .int x.1]), ∀ y ∈ ws.map (fun x => PV.tup [.int x.2, .int x.1]), Shp 1 x y := fun x hx y hy => by
        obtain ⟨a, _, rfl⟩ := List.mem_map.mp hx
        obtain ⟨b, _, rfl⟩ := List.mem_map.mp hy
        exact shp_pr 0 (a.2, a.1) (b.2, b.1)
      refine BC_min 1 (.f _ _) ?_ hne1 hsh
      obtain ⟨⟨u, c⟩, hux, et⟩ := List.mem_map.mp (minP_mem hne1)
      have hmin : ∀ x ∈ ws, c ≤ x.2 := fun x hx => by
        have := minP_le hsh (List.mem_map_of_mem (f := fun x => PV.tup [.int x.2, .int x.1]) hx)
        rw [← et] at this
        simp only [ile, flat, flats, List.append_nil, List.cons_append, List.nil_append, llt] at this
        split at this
        · rename_i e; omega
        · simp at this; exact this
      rw [← et]
      clear et hne1 hsh
      have dj2 := dj.pop ok hux hmin
      obtain ⟨hun, hdu, _⟩ := dj.wk _ _ hux
      have hcount : (ns.filter fun v => (dput done u c v).isNone).length < (ns.filter fun v => (done v).isNone).length :=
        filter_lt (fun x _ hx => by unfold dput at hx; split at hx; simp at hx; exact hx) hun (by rw [hdu]; rfl) (by unfold dput; rw [if_pos rfl]; rfl)
      repeat walk_at "s"
      refine EV_dpop _ ?_
      repeat walk_at "s"
      refine ⟨_, rfl, .dictI hw, ?_⟩
      repeat walk_at "s"
      refine BC_dpop hw (kI_get dj.wn hux) (fun ep' => ?_) (by simp [kI]; omega)
      rw [kdel_kI]
      have hst2 := hst1.setU (idel ws u) ep'
      generalize Δ3.upd U _ = Δ4 at hst2
      clear hst1 hw hEm hE
      refine AS_sub ?_
      have ht := hst2.t
      obtain ⟨ek, hK⟩ := hst2.k
      repeat walk_at "s"
      refine SI_dI hK (fun ep' => ?_) (by have := hkk'.len; omega)
      have hst3 := hst2.setK (kput kk' u (.int c)) ep'
      generalize Δ4.upd K _ = Δ5 at hst3
      have hkk2 := hkk'.put (hns u hun) (.int c)
      have hkg2 : ∀ v, kget (kput kk' u (.int c)) v = if v ∈ ns then (dput done u c v).map PV.int else kget kk v := fun v => by
        rw [kget_put, hkg v]
        unfold dput
        by_cases e : v = u
        · subst e; simp [hun]
        · simp [e]
      generalize kput kk' u (.int c) = kk2 at hst3 hkk2 hkg2
      have hd2u : dput done u c u = some c := by unfold dput; rw [if_pos rfl]
      generalize hdone2 : dput done u c = done2 at dj2 hcount hkg2 hd2u
      generalize idel ws u = ws2 at dj2 hst3
      clear hst2 dj hkg hkk' hK ht
      have ht := hst3.t
      obtain ⟨ea, hA⟩ := hst3.a
      have halen := ok.acr_len
      repeat walk_at "s"
      refine SV1_for ?_
      repeat walk_at "s"
      refine BC_sortedT hA (fun ps hps => ?_) (by simp [kA]; omega) (by simp [kA]; omega)
      obtain ⟨es, hes, rfl⟩ := perm_map (f := pr) hps (endsOf s.web) (by rw [← acr_keys]; simp [kA])
      refine ⟨_, _, .list _, trivial, IvSt3 s n o d B P A R K U ns t u kr' kk2 done2 es Δ, ?_, fun _ _ _ _ => trivial, ?_, ?_⟩
      · exact ⟨_, _, _, _, ws2, rfl, hst3, dj2.imp fun x _ _ h => ⟨h, by simp⟩⟩
      · clear hst3 dj2 ht hA
        rintro C' hC j p l₁ Δ₁ hj ⟨z1, z3, z4, z5, ws', rfl, hst, dj⟩
        have hf' : C'.isFn = true := hC.2.1.trans hf
        rw [List.getElem?_map] at hj
        obtain ⟨e, he, rfl⟩ := Option.map_eq_some_iff.mp hj
        have hend : e ∈ endsOf s.web := hes.mem_iff.mp (List.mem_of_getElem? he)
        obtain ⟨f, hxE⟩ := s.E_of_end hend
        have htk : es.take (j + 1) = es.take j ++ [e] := by rw [List.take_add_one, he]; rfl
        have ht := hst.t
        obtain ⟨ea, hA⟩ := hst.a
        obtain ⟨ek, hK⟩ := hst.k
        obtain ⟨ep, hP⟩ := hst.p
        obtain ⟨ew, hw⟩ := hst.w
        have hka : kget (kA s) e = some (pr f) := ok.kA hxE
        have hpe := ok.kP hend
        repeat walk_at "s"
        by_cases h1 : f.1 = u
        case neg =>
          rw [if_neg (by simpa using h1), if_neg Bool.false_ne_true]
          repeat walk_at "s"
          refine ⟨_, _, _, _, ws', rfl, hst, dj.imp fun y hy _ hex => ⟨hex.1, fun hm => ?_⟩⟩
          rw [htk] at hm
          rcases List.mem_append.mp hm with hm | hm
          · exact hex.2 hm
          · simp at hm
            have : y = (e, f) := ok.E_uniq hy hxE hm
            subst this; exact h1 hex.1
        rw [if_pos (by simpa using h1)]
        have hein : e.1 ∈ ns := (hcl e.1).mpr (Reach.step (x := (f, e)) (by rw [show ((f, e) : (Int × Int) × (Int × Int)).1.1 = u from h1]; exact (hcl u).mp hun) (s.E_swp hxE))
        have hke := hkg2 e.1
        rw [if_pos hein] at hke
        repeat walk_at "s"
        refine CO_ninI hK ?_
        cases hd : done2 e.1 with
        | some ce =>
          rw [hd] at hke
          rw [if_neg (by rw [hke]; simp)]
          repeat walk_at "s"
          refine ⟨_, _, _, _, ws', rfl, hst, dj.imp fun y hy hdn hex => ⟨hex.1, fun hm => ?_⟩⟩
          rw [htk] at hm
          rcases List.mem_append.mp hm with hm | hm
          · exact hex.2 hm
          · simp at hm; rw [hm, hd] at hdn; cases hdn
        | none =>
          rw [hd] at hke
          rw [if_pos (by rw [hke]; rfl)]
          have hkc : kget kk2 f.1 = some (.int c) := by rw [h1, hkg2 u, if_pos hun, hd2u]; rfl
          repeat walk_at "s"
          refine EV_dget _ ?_
          repeat walk_at "s"
          refine ⟨_, rfl, .dictI hw, ?_⟩
          repeat walk_at "s"
          refine BC_get2 hw ?_
          have hwlen : ws'.length ≤ n := by
            have := range_le dj.wn fun v hv => by
              obtain ⟨x, hx, rfl⟩ := List.mem_map.mp hv
              exact hns _ (dj.wk x.1 x.2 hx).1
            simpa using this
          obtain ⟨old, hold, hnc1, hnc2⟩ : ∃ old, (kget (kI ws') e.1).getD (.int (c + (s.po e).2)) = .int old ∧ (old = c + (s.po e).2 ∨ (e.1, old) ∈ ws') ∧ ∀ d, (e.1, d) ∈ ws' → old ≤ d := by
            by_cases hk : e.1 ∈ ws'.map (·.1)
            · obtain ⟨⟨v, d⟩, hx, hv⟩ := List.mem_map.mp hk
              simp only at hv; subst hv
              exact ⟨d, by rw [kI_get dj.wn hx]; rfl, .inr hx, fun d' h' => by rw [key_fun dj.wn hx h']; exact Int.le_refl _⟩
            · exact ⟨_, by rw [kI_none hk]; rfl, .inl rfl, fun d h' => absurd (List.mem_map.mpr ⟨_, h', rfl⟩) hk⟩
          rw [hold]
          repeat walk_at "s"
          refine AS_sub ?_
          repeat walk_at "s"
          refine SI_dI hw (fun ep' => ?_) (by simp [kI]; omega)
          rw [kput_kI]
          have hst2 := hst.setU (iput ws' e.1 (min (c + (s.po e).2) old)) ep'
          have dj2 := dj.relax (x := (e, f)) (cu := c) (nc := min (c + (s.po e).2) old) hxE (by simp only [h1]; exact hd2u) hd hein (by
            rcases Int.le_total (c + (s.po e).2) old with h | h
            · left; simp only; omega
            · rcases hnc1 with h2 | h2
              · left; simp only; omega
              · right; rw [Int.min_eq_right h]; exact h2) (by simp only; omega) (fun d hd => by have := hnc2 d hd; omega)
          generalize Δ₁.upd U _ = Δ6 at hst2
          repeat walk_at "s"
          refine ⟨_, _, _, _, _, rfl, hst2, dj2.imp fun y hy hdn hex => ⟨hex.1.1, fun hm => ?_⟩⟩
          rw [htk] at hm
          rcases List.mem_append.mp hm with hm | hm
          · exact hex.1.2 hm
          · simp at hm; exact hex.2 (ok.E_uniq hy hxE hm)
      · rintro l₁ Δ₁ ⟨z1, z3, z4, z5, ws', rfl, hst, dj⟩
        rw [List.length_map, List.take_length] at dj
        refine SV_nil ⟨_, hcount, _, _, _, _, _, kk2, done2, ws', rfl, hst, hkk2, hkg2, dj.imp fun x hx _ h => h.2 (hes.mem_iff.mpr (s.E_ends hx).1), rfl⟩

section
variable {w : World} {sc : Scope} {C : Cx pw w (KF w) sc} {l : List (Option PV)} {Δ : Led} {Q : PV → Led → Prop} {Qn : List (Option PV) → Led → Prop}
theorem AS_selfNew {value : Expr} {x : Str} {pos : Pos} {y : PV} {o d : Addr} {at_ : List (Str × PV)} (hi : InstL Δ o 97 d at_) (hv : EV C value l Δ (fun p Δ' => p = .obj o ∧ Δ' = Δ)) (q : Qn l (Δ.upd d (.attrs (at_ ++ [(x, y)]))))
    (hz : at_.length ≤ 900) (hl : at_.lookup x = none := by rfl) (g3 : takerIn (KF w) 97 x = some none := by rfl)
    (g1 : findIn (KF w) (.ref 97) "__setattr__" = some (some (.builtin "object.__setattr__")) := by rfl) (g2 : plainOver (KF w) 97 = true := by rfl) (g4 : hasDictIn (KF w) 97 = true := by rfl) : AS C (.Attribute value x pos) y l Δ Qn :=
  AS_attr (hv.mono fun p Δ' ⟨e1, e2⟩ => ⟨o, 97, d, at_, e1, e2 ▸ hi, hl, g1, g2, g3, g4, hz, e2 ▸ q⟩)
theorem EV_selfA {value : Expr} {x : Str} {pos : Pos} {o d : Addr} {at_ : List (Str × PV)} {q : PV} (hi : InstL Δ o 97 d at_) (hv : EV C value l Δ (fun p Δ' => p = .obj o ∧ Δ' = Δ)) (k : Q q Δ)
    (hl : at_.lookup x = some q := by rfl) (g1 : plainGet (KF w) 97 x = true := by rfl) (g2 : hasDictIn (KF w) 97 = true := by rfl) (g3 : findIn (KF w) (.ref 97) x = some none := by rfl)
    (he : eval (.Attribute value x pos) C.env = (do
      let o ← eval value C.env
      standAt pos.atName
      let r ← holding [o] (getAttr o x true)
      letTemporaryGo value o r
      pure r) := by rfl) : EV C (.Attribute value x pos) l Δ Q :=
  EV_attr (hv.mono fun p Δ' ⟨e1, e2⟩ => ⟨o, 97, d, _, q, e1, e2 ▸ hi, hl, g1, g2, g3, e2 ▸ k⟩) he
end
noncomputable def Led.leD (d : Addr) (Δ Δ' : Led) : Prop := ∀ a m, a ≠ d → Δ a = some m → Δ' a = some m
theorem Led.leD.new {d : Addr} {Δ Δ' : Led} (h : Led.leD d Δ Δ') {b : Addr} {m : MO} (hb : Δ b = none) : Led.leD d Δ (Δ'.upd b m) := fun a n h1 e => by
  rw [Led.upd_ne (by rintro rfl; rw [hb] at e; cases e)]; exact h a n h1 e
theorem Led.leD.self {d : Addr} {Δ Δ' : Led} (h : Led.leD d Δ Δ') {m : MO} : Led.leD d Δ (Δ'.upd d m) := fun a n h1 e => by
  rw [Led.upd_ne h1]; exact h a n h1 e
noncomputable def acrL (web : List ((Int × Int) × (Int × Int))) : List ((Int × Int) × PV) := (web.flatMap fun x => [x, swp x]).map fun x => (x.1, pr x.2)
theorem acrL_keys (web : List ((Int × Int) × (Int × Int))) : (acrL web).map (·.1) = endsOf web := by
  unfold acrL endsOf
  rw [List.map_map, List.map_flatMap]; rfl
theorem acrL_app (web : List ((Int × Int) × (Int × Int))) (x : (Int × Int) × (Int × Int)) : acrL (web ++ [x]) = acrL web ++ [(x.1, pr x.2)] ++ [(x.2, pr x.1)] := by simp [acrL, swp]
structure TreesOk (s : Scn) (n : Nat) (kr kk : List (Int × PV)) : Prop where
  best : ∀ v : Int, 0 ≤ v → v < n → ∃ r c, kget kr v = some (pr r) ∧ kget kk v = some (.int c) ∧ IsBest s v r c
theorem ile_snoc {a c : List Int} {b d : Int} (hl : a.length = c.length) (h : ile a c) (hb : a = c → b ≤ d) : ile (a ++ [b]) (c ++ [d]) := by
  unfold ile at *
  rw [llt_app _ _ hl.symm]
  split
  · rename_i e
    have := hb e.symm
    simp only [llt]; split <;> simp; omega
  · exact h
theorem Settled.best {s : Scn} {n : Nat} (ok : s.Ok n) {ns : List Int} {kr kk kr' kk' : List (Int × PV)} (h : Settled s n ns kr kk kr' kk') {v0 : Int} (hv0 : 0 ≤ v0 ∧ v0 < n) (hcl : ∀ u, u ∈ ns ↔ Reach s v0 u) {u : Int} (hu : u ∈ ns) :
    ∃ r c, kget kr' u = some (pr r) ∧ kget kk' u = some (.int c) ∧ IsBest s u r c := by
  obtain ⟨t, htn, hmin, h1, h2⟩ := h.ok
  obtain ⟨c, h3, h4⟩ := h2 u hu
  have hr : ∀ x ∈ ns, 0 ≤ x ∧ x < n := fun x hx => ((hcl x).mp hx).lo ok hv0
  obtain ⟨k, hk⟩ := h4.ex
  refine ⟨s.br t, c, h1 u hu, h3, ⟨t, k, rfl, hk⟩, fun t' k' d hw => ?_⟩
  have ht' : t' ∈ ns := (hcl t').mpr (((hcl u).mp hu).trans hw.reach)
  refine ile_snoc (a := [(s.br t).1, (s.br t).2]) (c := [(s.br t').1, (s.br t').2]) rfl (hmin t' ht') fun e => ?_
  simp only [List.cons.injEq, and_true] at e
  have : t = t' := ok.br_inj (hr t htn).1 (hr t htn).2 (hr t' ht').1 (hr t' ht').2 (Prod.ext e.1 e.2)
  subst this
  exact h4.lb _ _ hw

inductive IvI1 (s : Scn) (o d B P W A : Addr) (Δ : Led) (i : Nat) (l : List (Option PV)) (Δ' : Led) : Prop
  | mk (z1 z2 z3 : Option PV) (ea : Nat) (h0 : l = [some (.obj o), some (.obj B), some (.obj P), some (.obj W), z1, z2, z3, none, none]) (h1 : InstL Δ' o 97 d [("bridges", .obj B), ("ports", .obj P), ("across", .obj A)]) (h2 : Led.leD d Δ Δ') (h3 : Δ' A = some (.dictT ea (acrL (s.web.take i))))
inductive IvI2 (s : Scn) (n : Nat) (o d B P W A R K L : Addr) (z1 z2 : Option PV) (parts : List (List Int)) (Δ : Led) (i : Nat) (l : List (Option PV)) (Δ' : Led) : Prop
  | mk (z3 : Option PV) (kr kk : List (Int × PV)) (h0 : l = [some (.obj o), some (.obj B), some (.obj P), some (.obj W), z1, z2, z3, none, none]) (h1 : TrL Δ' s o d B P A R K kr kk) (h2 : Led.leD d Δ Δ') (h3 : Δ' L = some (.list (parts.map partP))) (h4 : KOk n kr) (h5 : KOk n kk) (h6 : (∀ ns ∈ parts.take i, ∀ v ∈ ns, ∃ r c, kget kr v = some (pr r) ∧ kget kk v = some (.int c) ∧ IsBest s v r c)) (h7 : ∀ v, (∀ ns ∈ parts.take i, v ∉ ns) → kget kk v = none)
theorem F_init {w : World} {n m : Nat} {s : Scn} (ok : s.Ok n) {o d B P W : Addr} {Δ : Led} {Q : PV → Led → Prop} (hi : InstL Δ o 97 d []) (hs : SceneL Δ B P W s)
    (q : ∀ Δ' A R K kr kk, TrL Δ' s o d B P A R K kr kk → Led.leD d Δ Δ' → TreesOk s n kr kk → Q .none Δ') : CSR pw w (KF w) (m + 4) 56 [.obj o, .obj B, .obj P, .obj W] Δ Q := by
  refine CSR_enter (m + 3) (ho := rfl) rfl (by rfl) rfl rfl rfl (bind4 fun _ _ _ _ => by rfl) (by rfl) (by decide) rfl rfl rfl fun C hr hf => ?_
  have hn4 := ok.n4
  obtain ⟨hio, hia⟩ := hi
  have hod : o ≠ d := by rintro rfl; rw [hio] at hia; cases hia
  have step : ∀ {Δ1 : Led} {at1 : List (Str × PV)}, InstL Δ1 o 97 d at1 → ∀ at2, InstL (Δ1.upd d (.attrs at2)) o 97 d at2 := fun h at2 => ⟨(Led.upd_ne hod).trans h.1, Led.upd_self _ _ _⟩
  have hi : InstL Δ o 97 d [] := ⟨hio, hia⟩
  refine SV_cons (SV1_a ?_)
  repeat walk_at "s"
  refine AS_selfNew hi (EV_nm ⟨rfl, rfl⟩) ?_ (by simp)
  have hi1 := step hi [("bridges", .obj B)]
  have f1 : Led.leD d Δ (Δ.upd d (.attrs [("bridges", .obj B)])) := Led.leD.self fun _ _ _ e => e
  change SV C _ _ (Δ.upd d (.attrs [("bridges", .obj B)])) _ _
  generalize Δ.upd d (.attrs [("bridges", .obj B)]) = Δ1 at hi1 f1
  refine SV_cons (SV1_a ?_)
  repeat walk_at "s"
  refine AS_selfNew hi1 (EV_nm ⟨rfl, rfl⟩) ?_ (by simp)
  have hi2 := step hi1 [("bridges", .obj B), ("ports", .obj P)]
  have f2 : Led.leD d Δ (Δ1.upd d (.attrs [("bridges", .obj B), ("ports", .obj P)])) := f1.self
  change SV C _ _ (Δ1.upd d (.attrs [("bridges", .obj B), ("ports", .obj P)])) _ _
  generalize Δ1.upd d (.attrs [("bridges", .obj B), ("ports", .obj P)]) = Δ2 at hi2 f2
  refine SV_cons (SV1_a ?_)
  refine EV_dict0T fun A hA => ?_
  have hAd : A ≠ d := by rintro rfl; rw [hi2.2] at hA; cases hA
  have hAo : A ≠ o := by rintro rfl; rw [hi2.1] at hA; cases hA
  have hA0 : Δ A = none := by
    cases e : Δ A with
    | none => rfl
    | some mm => rw [f2 A mm hAd e] at hA; cases hA
  have hi3 : InstL (Δ2.upd A (.dictT 0 [])) o 97 d [("bridges", .obj B), ("ports", .obj P)] := ⟨(Led.upd_ne (Ne.symm hAo)).trans hi2.1, (Led.upd_ne (Ne.symm hAd)).trans hi2.2⟩
  refine AS_selfNew hi3 (EV_nm ⟨rfl, rfl⟩) ?_ (by simp)
  have hi4 := step hi3 [("bridges", .obj B), ("ports", .obj P), ("across", .obj A)]
  have f4 : Led.leD d Δ ((Δ2.upd A (.dictT 0 [])).upd d (.attrs [("bridges", .obj B), ("ports", .obj P), ("across", .obj A)])) := (f2.new hA0).self
  have hA4 : ((Δ2.upd A (.dictT 0 [])).upd d (.attrs [("bridges", .obj B), ("ports", .obj P), ("across", .obj A)])) A = some (.dictT 0 (acrL (s.web.take 0))) := by rw [Led.upd_ne hAd, Led.upd_self]; simp [acrL]
  change SV C _ _ ((Δ2.upd A (.dictT 0 [])).upd d (.attrs [("bridges", .obj B), ("ports", .obj P), ("across", .obj A)])) _ _
  generalize (Δ2.upd A (.dictT 0 [])).upd d (.attrs [("bridges", .obj B), ("ports", .obj P), ("across", .obj A)]) = Δ4 at hi4 f4 hA4
  clear hi1 f1 hi2 f2 hA hi3
  have keepW : ∀ {Δ' : Led}, Led.leD d Δ Δ' → SceneL Δ' B P W s := fun {Δ'} f => by
    have nb : ∀ {a : Addr} {mm : MO}, Δ a = some mm → (∀ x, mm ≠ .attrs x) → Δ' a = some mm := fun e hne => f _ _ (by rintro rfl; rw [hia] at e; cases e; exact hne _ rfl) e
    obtain ⟨eb, h1⟩ := hs.b
    obtain ⟨ep, h2⟩ := hs.p
    exact ⟨⟨eb, nb h1 fun _ e => by cases e⟩, ⟨ep, nb h2 fun _ e => by cases e⟩, nb hs.w fun _ e => by cases e⟩
  refine SV_cons (SV1_for ?_)
  repeat walk_at "s"
  refine ⟨_, _, .olist _ _, (keepW f4).w, IvI1 s o d B P W A Δ, ?_, fun _ _ _ h => ?_, ?_, ?_⟩
  · exact ⟨none, none, none, 0, rfl, hi4, f4, hA4⟩
  · obtain ⟨_, _, _, _, _, _, f, _⟩ := h; exact (keepW f).w
  · clear hi4 f4 hA4
    rintro C' hC i p l₁ Δ₁ hi' ⟨z1, z2, z3, ea, rfl, hi4, f4, hA4⟩
    rw [List.getElem?_map] at hi'
    obtain ⟨x, hx, rfl⟩ := Option.map_eq_some_iff.mp hi'
    have htk : s.web.take (i + 1) = s.web.take i ++ [x] := by rw [List.take_add_one, hx]; rfl
    have hlen : (acrL (s.web.take i)).length ≤ 12 := by
      have h1 := congrArg List.length (acrL_keys (s.web.take i))
      rw [List.length_map, endsOf_length] at h1
      have := ok.w6
      have : (s.web.take i).length ≤ s.web.length := List.length_take_le' _ _
      omega
    have hnd : (endsOf (s.web.take i) ++ [x.1] ++ [x.2]).Nodup := by
      rw [← endsOf_app, ← htk]
      have h1 := ok.ends_nd
      rw [← List.take_append_drop (i + 1) s.web] at h1
      simp only [endsOf, List.flatMap_append, List.nodup_append] at h1
      exact h1.1
    have hn1 : x.1 ∉ (acrL (s.web.take i)).map (·.1) := by
      rw [acrL_keys]
      intro h
      rw [List.append_assoc, List.nodup_append] at hnd
      exact hnd.2.2 _ h x.1 (by simp) rfl
    have hn2 : x.2 ∉ (acrL (s.web.take i) ++ [(x.1, pr x.2)]).map (·.1) := by
      rw [List.map_append, acrL_keys]
      intro h
      rw [List.nodup_append] at hnd
      exact hnd.2.2 _ h x.2 (by simp) rfl
    repeat walk_at "s"
    refine AS_sub ?_
    refine EV_selfA hi4 (EV_nm ⟨rfl, rfl⟩) ?_
    repeat walk_at "s"
    refine SI_dT hA4 (fun e1 => ?_) (by omega)
    rw [kput_new hn1]
    have hi5 : InstL (Δ₁.upd A (.dictT e1 (acrL (s.web.take i) ++ [(x.1, pr x.2)]))) o 97 d [("bridges", .obj B), ("ports", .obj P), ("across", .obj A)] := ⟨(Led.upd_ne (Ne.symm hAo)).trans hi4.1, (Led.upd_ne (Ne.symm hAd)).trans hi4.2⟩
    have f5 : Led.leD d Δ (Δ₁.upd A (.dictT e1 (acrL (s.web.take i) ++ [(x.1, pr x.2)]))) := f4.new hA0
    have hA5 := Led.upd_self Δ₁ A (.dictT e1 (acrL (s.web.take i) ++ [(x.1, pr x.2)]))
    generalize Δ₁.upd A (.dictT e1 (acrL (s.web.take i) ++ [(x.1, pr x.2)])) = Δ5 at hi5 f5 hA5
    repeat walk_at "s"
    refine AS_sub ?_
    refine EV_selfA hi5 (EV_nm ⟨rfl, rfl⟩) ?_
    repeat walk_at "s"
    refine SI_dT hA5 (fun e2 => ?_) (by simp; omega)
    rw [kput_new hn2, ← acrL_app, ← htk]
    repeat walk_at "s"
    exact ⟨_, _, _, e2, rfl, ⟨(Led.upd_ne (Ne.symm hAo)).trans hi5.1, (Led.upd_ne (Ne.symm hAd)).trans hi5.2⟩, f5.new hA0, Led.upd_self _ _ _⟩
  · clear hi4 f4 hA4
    rintro l₁ Δ₁ ⟨z1, z2, z3, ea, rfl, hi4, f4, hA4⟩
    rw [List.length_map, List.take_length] at hA4
    refine SV_cons (SV1_a ?_)
    refine EV_dict0 fun R hR => ?_
    have ne3 : ∀ {X : Addr} {Δ' : Led}, InstL Δ' o 97 d [("bridges", .obj B), ("ports", .obj P), ("across", .obj A)] → Δ' X = none → X ≠ o ∧ X ≠ d := fun hi hX => ⟨(by rintro rfl; rw [hi.1] at hX; cases hX), (by rintro rfl; rw [hi.2] at hX; cases hX)⟩
    have fr0 : ∀ {X : Addr} {Δ' : Led}, Led.leD d Δ Δ' → X ≠ d → Δ' X = none → Δ X = none := fun {X Δ'} f hX h => by
      cases e : Δ X with
      | none => rfl
      | some mm => rw [f X mm hX e] at h; cases h
    obtain ⟨hRo, hRd⟩ := ne3 hi4 hR
    have hR0 := fr0 f4 hRd hR
    have hi5 : InstL (Δ₁.upd R (.dictI 0 [])) o 97 d [("bridges", .obj B), ("ports", .obj P), ("across", .obj A)] := ⟨(Led.upd_ne (Ne.symm hRo)).trans hi4.1, (Led.upd_ne (Ne.symm hRd)).trans hi4.2⟩
    refine AS_selfNew hi5 (EV_nm ⟨rfl, rfl⟩) ?_ (by simp)
    have hAR : A ≠ R := by rintro rfl; rw [hA4] at hR; cases hR
    have hi6 := step hi5 [("bridges", .obj B), ("ports", .obj P), ("across", .obj A), ("roots", .obj R)]
    have f6 : Led.leD d Δ ((Δ₁.upd R (.dictI 0 [])).upd d (.attrs [("bridges", .obj B), ("ports", .obj P), ("across", .obj A), ("roots", .obj R)])) := (f4.new hR0).self
    have hA6 : ((Δ₁.upd R (.dictI 0 [])).upd d (.attrs [("bridges", .obj B), ("ports", .obj P), ("across", .obj A), ("roots", .obj R)])) A = some (.dictT ea (acrL s.web)) := by rw [Led.upd_ne hAd, Led.upd_ne hAR]; exact hA4
    have hR6 : ((Δ₁.upd R (.dictI 0 [])).upd d (.attrs [("bridges", .obj B), ("ports", .obj P), ("across", .obj A), ("roots", .obj R)])) R = some (.dictI 0 []) := by rw [Led.upd_ne hRd, Led.upd_self]
    change SV C _ _ ((Δ₁.upd R (.dictI 0 [])).upd d (.attrs [("bridges", .obj B), ("ports", .obj P), ("across", .obj A), ("roots", .obj R)])) _ _
    generalize (Δ₁.upd R (.dictI 0 [])).upd d (.attrs [("bridges", .obj B), ("ports", .obj P), ("across", .obj A), ("roots", .obj R)]) = Δ6 at hi6 f6 hA6 hR6
    clear hi4 f4 hA4 hR hi5
    refine SV_cons (SV1_a ?_)
    refine EV_dict0 fun K hK => ?_
    have hKo : K ≠ o := by rintro rfl; rw [hi6.1] at hK; cases hK
    have hKd : K ≠ d := by rintro rfl; rw [hi6.2] at hK; cases hK
    have hK0 := fr0 f6 hKd hK
    have hKA : A ≠ K := by rintro rfl; rw [hA6] at hK; cases hK
    have hKR : R ≠ K := by rintro rfl; rw [hR6] at hK; cases hK
    have hi7 : InstL (Δ6.upd K (.dictI 0 [])) o 97 d [("bridges", .obj B), ("ports", .obj P), ("across", .obj A), ("roots", .obj R)] := ⟨(Led.upd_ne (Ne.symm hKo)).trans hi6.1, (Led.upd_ne (Ne.symm hKd)).trans hi6.2⟩
    refine AS_selfNew hi7 (EV_nm ⟨rfl, rfl⟩) ?_ (by simp)
    have hi8 := step hi7 [("bridges", .obj B), ("ports", .obj P), ("across", .obj A), ("roots", .obj R), ("costs", .obj K)]
    have f8 : Led.leD d Δ ((Δ6.upd K (.dictI 0 [])).upd d (.attrs [("bridges", .obj B), ("ports", .obj P), ("across", .obj A), ("roots", .obj R), ("costs", .obj K)])) := (f6.new hK0).self
    have hA8 : ((Δ6.upd K (.dictI 0 [])).upd d (.attrs [("bridges", .obj B), ("ports", .obj P), ("across", .obj A), ("roots", .obj R), ("costs", .obj K)])) A = some (.dictT ea (acrL s.web)) := by rw [Led.upd_ne hAd, Led.upd_ne hKA]; exact hA6
    have hR8 : ((Δ6.upd K (.dictI 0 [])).upd d (.attrs [("bridges", .obj B), ("ports", .obj P), ("across", .obj A), ("roots", .obj R), ("costs", .obj K)])) R = some (.dictI 0 []) := by rw [Led.upd_ne hRd, Led.upd_ne hKR]; exact hR6
    have hK8 : ((Δ6.upd K (.dictI 0 [])).upd d (.attrs [("bridges", .obj B), ("ports", .obj P), ("across", .obj A), ("roots", .obj R), ("costs", .obj K)])) K = some (.dictI 0 []) := by rw [Led.upd_ne hKd, Led.upd_self]
    change SV C _ _ ((Δ6.upd K (.dictI 0 [])).upd d (.attrs [("bridges", .obj B), ("ports", .obj P), ("across", .obj A), ("roots", .obj R), ("costs", .obj K)])) _ _
    generalize (Δ6.upd K (.dictI 0 [])).upd d (.attrs [("bridges", .obj B), ("ports", .obj P), ("across", .obj A), ("roots", .obj R), ("costs", .obj K)]) = Δ8 at hi8 f8 hA8 hR8 hK8
    have hsc := keepW f8
    have hBR : B ≠ R := by rintro rfl; obtain ⟨_, e⟩ := hs.b; rw [hR0] at e; cases e
    have hBK : B ≠ K := by rintro rfl; obtain ⟨_, e⟩ := hs.b; rw [hK0] at e; cases e
    have htr : TrL Δ8 s o d B P A R K [] [] := ⟨⟨hi8.1, hi8.2⟩, hsc.b, hsc.p, ⟨ea, hA8⟩, ⟨0, hR8⟩, ⟨0, hK8⟩, hBR, hBK, hKR⟩
    clear hi6 f6 hA6 hR6 hK hi7 hi8 hA8 hR8 hK8
    obtain ⟨eb, hB8⟩ := htr.b
    have hkl := ok.kBlen
    refine SV_cons (SV1_for ?_)
    repeat walk_at "s"
    refine BC_listD hB8 (.inl ?_) (by omega)
    repeat walk_at "s"
    have hkint : (kB s.brs).map (fun x => PV.int x.1) = ((kB s.brs).map (·.1)).map PV.int := by simp
    rw [hkint]
    refine F_parts ok hsc.w (.f _ _) (fun v => ok.keyv) (by simp; omega) fun L parts Δ9 hle hL hpok hpall => ?_
    have htr := htr.le hle
    have f9 : Led.leD d Δ Δ9 := fun a mm h1 e => hle _ _ (f8 a mm h1 e)
    clear f8 hsc hle hB8
    have hplen : True := trivial
    refine ⟨_, _, .olist _ _, hL, IvI2 s n o d B P W A R K L z1 z2 parts Δ, ?_, fun _ _ _ h => ?_, ?_, ?_⟩
    · exact ⟨z3, [], [], rfl, htr, f9, hL, ⟨by simp, by simp⟩, ⟨by simp, by simp⟩, by simp, fun v _ => rfl⟩
    · obtain ⟨_, _, _, _, _, _, h, _⟩ := h; exact h
    · clear htr f9 hL
      rintro C' hC i p l₁ Δ₂ hi' ⟨z3, kr, kk, rfl, htr, f9, hL, hkr, hkk, hbest, hnone⟩
      have hr' : m + 3 ≤ C'.room := hC.1 ▸ hr
      rw [List.getElem?_map] at hi'
      obtain ⟨ns, hns, rfl⟩ := Option.map_eq_some_iff.mp hi'
      have hnsp := List.mem_of_getElem? hns
      have htk : parts.take (i + 1) = parts.take i ++ [ns] := by rw [List.take_add_one, hns]; rfl
      obtain ⟨hnd, v0, hv0, hcl⟩ := hpok.cls ns hnsp
      have hdis : ∀ a ∈ parts.take i, ∀ u, u ∈ a → u ∉ ns := fun a ha => by
        have : (parts.take (i + 1)).Pairwise fun a b => ∀ u, u ∈ a → u ∉ b := hpok.dis.sublist (List.take_sublist _ _)
        rw [htk, List.pairwise_append] at this
        exact this.2.2 a ha ns (by simp)
      have ht := htr.t
      repeat walk_at "s"
      refine (F_settle (m := m + 2) ok htr hnd hv0 hcl hkr hkk (fun u hu => hnone u fun a ha hua => hdis a ha u hua hu) fun Δ3 kr' kk' htr' hX hkr' hkk' hse => ?_)
      have hLR : L ≠ R := by rintro rfl; obtain ⟨_, e⟩ := htr.r; rw [hL] at e; cases e
      have hLK : L ≠ K := by rintro rfl; obtain ⟨_, e⟩ := htr.k; rw [hL] at e; cases e
      repeat walk_at "s"
      refine ⟨_, kr', kk', rfl, htr', fun a mm h1 e => hX a mm (by rintro rfl; rw [hR0] at e; cases e) (by rintro rfl; rw [hK0] at e; cases e) (f9 a mm h1 e), hX _ _ hLR hLK hL, hkr', hkk', fun a ha v hv => ?_, fun v hv => ?_⟩
      · rw [htk] at ha
        rcases List.mem_append.mp ha with ha | ha
        · have hvn : v ∉ ns := hdis a ha v hv
          rw [hse.r v hvn, hse.k v hvn]; exact hbest a ha v hv
        · simp at ha; subst ha
          exact hse.best ok hv0 hcl hv
      · rw [htk] at hv
        have hvn : v ∉ ns := hv ns (by simp)
        rw [hse.k v hvn]
        exact hnone v fun a ha => hv a (List.mem_append.mpr (.inl ha))
    · rintro l₁ Δ₂ ⟨z3, kr, kk, rfl, htr, f9, hL, hkr, hkk, hbest, hnone⟩
      rw [List.length_map, List.take_length] at hbest
      repeat walk_at "s"
      exact q _ A R K kr kk htr f9 ⟨fun v h0 h1 => by obtain ⟨ns, hn, hv⟩ := hpall v h0 h1; exact hbest ns hn v hv⟩

theorem pairs_data {α : Type} (f : α → Int × Int) : ∀ xs : List α, PyData.canLayAll0 (PV.datas (xs.map fun x => pr (f x))) = true ∧ PyData.depthAll (PV.datas (xs.map fun x => pr (f x))) ≤ 2 ∧ PV.pures (xs.map fun x => pr (f x)) = true
  | [] => by simp [PV.datas, PyData.canLayAll0, PyData.depthAll, PV.pures]
  | x :: xs => by
    obtain ⟨h1, h2, h3⟩ := pairs_data f xs
    simp only [List.map_cons, PV.datas, PV.data, PyData.canLayAll0, PyData.canLay0, PyData.depthAll, PyData.depth, PV.pures, PV.pure, h1, h3]
    exact ⟨rfl, by omega, rfl⟩
section
variable {prog : Program} {w : World} {Kf : Frag} {sc : Scope} {C : Cx prog w Kf sc} {l : List (Option PV)} {Δ : Led} {Q : PV → Led → Prop}
theorem CO_eqP0 {α : Type} {f : α → Int × Int} {xs : List α} {Q : Bool → Led → Prop} (q : Q xs.isEmpty Δ) : CO C .Eq (.list (xs.map fun x => pr (f x))) (.list []) l Δ Q := by
  obtain ⟨h1, h2, h3⟩ := pairs_data f xs
  refine CO_eqd ?_ h3 rfl ?_ rfl
  · have : PyData.eqv (PV.list (xs.map fun x => pr (f x))).data (PV.list []).data = xs.isEmpty := by cases xs <;> rfl
    show Q (PyData.eqv (PV.list (xs.map fun x => pr (f x))).data (PV.list []).data) Δ
    rw [this]; exact q
  · show SeqAt.shaped (PV.list (xs.map fun x => pr (f x))).data = true
    simp only [SeqAt.shaped, PV.data, PyData.canLay0, PyData.depth, h1, Bool.true_and, decide_eq_true_eq]
    omega
theorem Src.kA (a : Addr) (ep : Nat) (s : Scn) : Src (.obj a) (some (a, .dictT ep (Mine.kA s))) (s.acr.map fun x => pr x.1) := by
  have := Src.dictT a ep (Mine.kA s)
  unfold Mine.kA at this ⊢
  rw [List.map_map] at this; exact this
end
structure TOk (s : Scn) (n : Nat) (kr kk : List (Int × PV)) (T : Int → Vec) : Prop where
  r : ∀ v : Int, 0 ≤ v → v < n → kget kr v = some (pr (T v).r)
  c : ∀ v : Int, 0 ≤ v → v < n → kget kk v = some (.int (T v).c)
noncomputable abbrev wayP (s : Scn) (T : Int → Vec) (x : (Int × Int) × (Int × Int)) : PV := .tup [pr (T x.2.1).r, .int ((T x.2.1).c + (s.po x.1).2), pr (s.br x.2.1), pr (s.po x.2).1, pr (s.po x.1).1]
theorem flat_way (s : Scn) (T : Int → Vec) (x : (Int × Int) × (Int × Int)) : flat (.tup [wayP s T x, pr x.1]) = s.kF T x ++ [x.1.1, x.1.2] := rfl
theorem shp_way (s : Scn) (T : Int → Vec) (x y : (Int × Int) × (Int × Int)) : Shp 3 (.tup [wayP s T x, pr x.1]) (.tup [wayP s T y, pr y.1]) :=
  .tup ⟨.tup ⟨shp_pr 0 _ _, .int _ _ _, shp_pr 0 _ _, shp_pr 0 _ _, shp_pr 0 _ _, trivial⟩, shp_pr 1 _ _, trivial⟩
theorem Best.acr {s : Scn} {T : Int → Vec} {v : Int} {x : (Int × Int) × (Int × Int)} (h : Best s T v s.acr x) : Best s T v s.E x := by
  have e : ∀ y, y ∈ s.acr.filter (candB v) ↔ y ∈ s.E.filter (candB v) := fun y => by simp only [List.mem_filter, acr_mem]
  exact ⟨(e x).mp h.1, fun y hy => h.2 y ((e y).mpr hy)⟩

theorem F_root_port {w : World} {n m : Nat} {s : Scn} (ok : s.Ok n) {o d B P A R K : Addr} {kr kk : List (Int × PV)} {Δ : Led} {T : Int → Vec} {v : Int} {Q : PV → Led → Prop} (h : TrL Δ s o d B P A R K kr kk) (hT : TOk s n kr kk T) (hv : 0 ≤ v ∧ v < n)
    (q : ∀ p, (s.br v = (T v).r ∧ p = .none) ∨ (s.br v ≠ (T v).r ∧ BestP s T v p) → Q p Δ) : CSR pw w (KF w) (m + 3) 80 [.obj o, .int v] Δ Q := by
  refine CSR_enter (m + 2) (ho := rfl) rfl (by rfl) rfl rfl rfl (bind2 fun _ _ => by rfl) (by rfl) (by decide) rfl rfl rfl fun C hr hf => ?_
  have hn4 := ok.n4
  have ht := h.t
  obtain ⟨eb, hB⟩ := h.b
  obtain ⟨ep, hP⟩ := h.p
  obtain ⟨ea, hA⟩ := h.a
  obtain ⟨er, hR⟩ := h.r
  obtain ⟨ek, hK⟩ := h.k
  have halen := ok.acr_len
  refine SV_cons (SV1_compM hf s.acr (fun x => pr x.1) (candB v) (fun x => pr x.1) ?_)
  repeat walk_at "s"
  refine ⟨_, Src.kA A ea s, hA, by omega, ?_, ?_⟩
  · intro C' hC' x hx
    have hxE := acr_mem.mp hx
    have hka := ok.kA hxE
    repeat walk_at "s"
    refine ⟨?_, ?_⟩
    · repeat walk_at "s"
    · repeat walk_at "s"
      by_cases h1 : x.1.1 = v
      · rw [if_pos (by simpa using h1)]
        repeat walk_at "s"
        by_cases h2 : x.2.1 = v
        · rw [if_neg (by simpa using h2)]
          exact ⟨rfl, by simp [candB, h1, h2]⟩
        · rw [if_pos (by simpa using h2)]
          repeat walk_at "s"
          exact ⟨rfl, by simp [candB, h1, h2], rfl⟩
      · rw [if_neg (by simpa using h1), if_neg Bool.false_ne_true]
        exact ⟨rfl, by simp [candB, h1]⟩
  have hkb := ok.kB hv.1 hv.2
  have hkr := hT.r v hv.1 hv.2
  repeat walk_at "s"
  refine CO_eqF ?_ (shp_pr 0 _ _).flat rfl rfl rfl rfl rfl rfl
  by_cases h1 : s.br v = (T v).r
  · rw [if_pos (by rw [h1]; simp), if_pos rfl]
    repeat walk_at "s"
    exact q _ (.inl ⟨h1, rfl⟩)
  rw [if_neg (by
    simp only [decide_eq_true_eq]
    intro e
    simp only [flat, flats, List.append_nil, List.cons_append, List.nil_append, List.cons.injEq, and_true] at e
    exact h1 (Prod.ext e.1 e.2))]
  repeat walk_at "s"
  refine EV_ls ?_
  repeat walk_at "s"
  refine ⟨rfl, ?_⟩
  refine CO_eqP0 (f := fun x : (Int × Int) × (Int × Int) => x.1) ?_
  cases he : s.acr.filter (candB v) with
  | nil =>
    rw [if_pos (by rfl)]
    repeat walk_at "s"
    refine q _ (.inr ⟨h1, .inl ⟨rfl, ?_⟩⟩)
    refine List.eq_nil_iff_forall_not_mem.mpr fun x hx => ?_
    have : x ∈ s.acr.filter (candB v) := by
      rw [List.mem_filter] at hx ⊢; exact ⟨acr_mem.mpr hx.1, hx.2⟩
    rw [he] at this; cases this
  | cons x0 xs0 =>
    rw [if_neg (by simp)]
    have hne : x0 :: xs0 ≠ [] := by simp
    rw [← he] at hne ⊢
    clear he
    repeat walk_at "s"
    refine EV_compM hf (s.acr.filter (candB v)) (fun x => pr x.1) (fun _ => true) (fun x => .tup [wayP s T x, pr x.1]) ?_
    repeat walk_at "s"
    have hfl := List.length_filter_le (candB v) s.acr
    refine ⟨_, .list _, trivial, by omega, ?_, .inl ?_⟩
    · intro C' hC' x hx
      have hr' : m + 2 ≤ C'.room := hC' ▸ hr
      have hxE := acr_mem.mp (List.mem_filter.mp hx).1
      have hend := s.E_ends hxE
      have hlo := ok.end_lo hend.2
      repeat walk_at "s"
      refine ⟨?_, ?_⟩
      · repeat walk_at "s"
      · repeat walk_at "s"
        refine F_way_by (n := m) ht hB hP hR hK hA (ok.kA hxE) (ok.kB hlo.1 hlo.2) (ok.kP hend.2) (hT.r _ hlo.1 hlo.2) (hT.c _ hlo.1 hlo.2) (ok.kP hend.1) ?_
        repeat walk_at "s"
        exact ⟨rfl, rfl, rfl, rfl⟩
    simp only [filter_tt]
    repeat walk_at "s"
    have hne1 : (s.acr.filter (candB v)).map (fun x => PV.tup [wayP s T x, pr x.1]) ≠ [] := by simpa using hne
    have hsh : ∀ x ∈ (s.acr.filter (candB v)).map (fun x => PV.tup [wayP s T x, pr x.1]), ∀ y ∈ (s.acr.filter (candB v)).map (fun x => PV.tup [wayP s T x, pr x.1]), Shp 3 x y := fun x hx y hy => by
      obtain ⟨a, _, rfl⟩ := List.mem_map.mp hx
      obtain ⟨b, _, rfl⟩ := List.mem_map.mp hy
      exact shp_way s T a b
    refine BC_min 3 (.f _ _) ?_ hne1 hsh
    obtain ⟨x, hx, et⟩ := List.mem_map.mp (minP_mem hne1)
    have hbest : Best s T v s.acr x := ⟨hx, fun y hy => by
      have := minP_le hsh (List.mem_map_of_mem (f := fun x => PV.tup [wayP s T x, pr x.1]) hy)
      rw [← et, flat_way, flat_way] at this
      exact ile_app rfl this⟩
    rw [← et]
    repeat walk_at "s"
    exact q _ (.inr ⟨h1, .inr ⟨x, rfl, Best.acr hbest⟩⟩)

noncomputable def Scn.atV (s : Scn) (T : Int → Vec) (e : Int × Int) : Vec := ⟨(T e.1).r, (T e.1).c, s.br e.1, (s.po e).1⟩
section
variable {prog : Program} {w : World} {Kf : Frag} {sc : Scope} {C : Cx prog w Kf sc} {l : List (Option PV)} {Δ : Led} {Q : PV → Led → Prop}
theorem CO_eqO {s : Scn} {T : Int → Vec} {v : Int} {p : PV} (hp : p = .none ∨ ∃ e, p = pr e) {e : Int × Int} {Q : Bool → Led → Prop} (q : ∀ b, (b = true ↔ p = pr e) → Q b Δ) : CO C .Eq p (pr e) l Δ Q := by
  rcases hp with rfl | ⟨f, rfl⟩
  · refine CO_eqd ?_ rfl rfl rfl rfl
    exact q _ ⟨fun h => (by cases h), fun h => (by cases h)⟩
  · refine CO_eqF ?_ (shp_pr 0 _ _).flat rfl rfl rfl rfl rfl rfl
    refine q _ ?_
    simp [flat, flats, pr]
end

theorem F_role {w : World} {n m : Nat} {s : Scn} (ok : s.Ok n) {o d B P A R K : Addr} {kr kk : List (Int × PV)} {Δ : Led} {T : Int → Vec} {x : (Int × Int) × (Int × Int)} {Q : PV → Led → Prop} (h : TrL Δ s o d B P A R K kr kk) (hT : TOk s n kr kk T) (hx : x ∈ s.E)
    (q : ∀ t : Str, (t == "designated") = llt (vF (s.atV T x.1)) (vF (s.atV T x.2)) → Q (.str t) Δ) : CSR pw w (KF w) (m + 4) 87 [.obj o, pr x.1] Δ Q := by
  refine CSR_enter (m + 3) (ho := rfl) rfl (by rfl) rfl rfl rfl (bind2 fun _ _ => by rfl) (by rfl) (by decide) rfl rfl rfl fun C hr hf => ?_
  have hn4 := ok.n4
  have ht := h.t
  obtain ⟨eb, hB⟩ := h.b
  obtain ⟨ep, hP⟩ := h.p
  obtain ⟨ea, hA⟩ := h.a
  obtain ⟨er, hR⟩ := h.r
  obtain ⟨ek, hK⟩ := h.k
  have hka := ok.kA hx
  have hend := s.E_ends hx
  have hlo1 := ok.end_lo hend.1
  have hlo2 := ok.end_lo hend.2
  repeat walk_at "s"
  refine F_told_at (n := m + 2) ht hB hP hR hK (ok.kB hlo1.1 hlo1.2) (ok.kP hend.1) (hT.r _ hlo1.1 hlo1.2) (hT.c _ hlo1.1 hlo1.2) ?_
  repeat walk_at "s"
  refine F_told_at (n := m + 2) ht hB hP hR hK (ok.kB hlo2.1 hlo2.2) (ok.kP hend.2) (hT.r _ hlo2.1 hlo2.2) (hT.c _ hlo2.1 hlo2.2) ?_
  refine CO_lt 2 ?_ (shp_vP 0 (s.atV T x.1) (s.atV T x.2))
  change if plt (vP (s.atV T x.1)) (vP (s.atV T x.2)) = true then _ else _
  rw [(shp_vP 0 (s.atV T x.1) (s.atV T x.2)).flat.lt, flat_vP, flat_vP]
  cases hc : llt (vF (s.atV T x.1)) (vF (s.atV T x.2)) with
  | true =>
    rw [hc] at q
    rw [if_pos rfl]
    repeat walk_at "s"
    exact EV_gstr (i := "designated") (q _ (by decide))
  | false =>
    rw [hc] at q
    rw [if_neg Bool.false_ne_true]
    repeat walk_at "s"
    refine F_root_port (m := m) ok h hT hlo1 fun p hp => ?_
    repeat walk_at "s"
    refine CO_eqO (s := s) (T := T) (v := 0) (by
      rcases hp with ⟨_, rfl⟩ | ⟨_, ⟨rfl, _⟩ | ⟨y, rfl, _⟩⟩
      · exact .inl rfl
      · exact .inl rfl
      · exact .inr ⟨_, rfl⟩) fun b _ => ?_
    cases b with
    | true =>
      rw [if_pos rfl]
      repeat walk_at "s"
      exact EV_gstr (i := "root") (q _ (by decide))
    | false =>
      rw [if_neg Bool.false_ne_true]
      repeat walk_at "s"
      refine EV_ifexp ?_
      repeat walk_at "s"
      split
      · exact EV_gstr (i := "backup") (q _ (by decide))
      · exact EV_gstr (i := "alternate") (q _ (by decide))

section
variable {s : Scn} {n : Nat}
inductive Av (s : Scn) (t : Int) (met : List Int) : Nat → Int → Int → Prop
  | nil : Av s t met 0 t 0
  | cons {x : (Int × Int) × (Int × Int)} {k : Nat} {c : Int} (hx : x ∈ s.E) (hm : x.2.1 ∉ met) (h : Av s t met k x.2.1 c) : Av s t met (k + 1) x.1.1 ((s.po x.1).2 + c)
theorem Wk.av {t v c : Int} {k : Nat} (h : Wk s t k v c) : Av s t [] k v c := by
  induction h with
  | nil => exact .nil
  | cons hx _ ih => exact .cons hx (by simp) ih
theorem Av.pos (ok : s.Ok n) {t v c : Int} {k : Nat} {met : List Int} (h : Av s t met k v c) : 0 ≤ c := by
  induction h with
  | nil => exact Int.le_refl _
  | cons hx _ _ ih => have := ok.cost_pos (s.E_ends hx).1; omega
theorem Av.cut (ok : s.Ok n) {t v c : Int} {k : Nat} {met : List Int} (h : Av s t met k v c) (u : Int) : (∃ k' d, k' ≤ k ∧ d ≤ c ∧ Av s t (met ++ [u]) k' u d) ∨ Av s t (met ++ [u]) k v c := by
  induction h with
  | nil => exact .inr .nil
  | cons hx hm h ih =>
    have hp := ok.cost_pos (s.E_ends hx).1
    rcases ih with ⟨k', d, h1, h2, h3⟩ | h3
    · exact .inl ⟨k', d, by omega, by omega, h3⟩
    · rename_i x k c
      by_cases e : x.2.1 = u
      · rw [e] at h3; exact .inl ⟨k, c, by omega, by omega, h3⟩
      · exact .inr (.cons hx (by simp only [List.mem_append, List.mem_singleton, not_or]; exact ⟨hm, e⟩) h3)
theorem Av.spm (ok : s.Ok n) {t : Int} : ∀ (k : Nat) (met : List Int) (v d : Int), Av s t met k v d → ∃ c, c ≤ d ∧ SPm s t met v c := by
  intro k
  induction k using Nat.strongRecOn with
  | ind k ih =>
    intro met v d h
    by_cases e : v = t
    · subst e; exact ⟨0, h.pos ok, .nil _⟩
    · cases h with
      | nil => exact absurd rfl e
      | cons hx hm h =>
        rename_i x k c
        have : ∃ k' d, k' ≤ k ∧ d ≤ c ∧ Av s t (met ++ [x.2.1]) k' x.2.1 d := by
          rcases h.cut ok x.2.1 with h | h
          · exact h
          · exact ⟨k, c, Nat.le_refl _, Int.le_refl _, h⟩
        obtain ⟨k', d, h1, h2, h3⟩ := this
        obtain ⟨c', h4, h5⟩ := ih k' (by omega) _ _ _ h3
        exact ⟨_, by omega, .cons met x c' hx e hm h5⟩
theorem SPm.wk (ok : s.Ok n) {t : Int} {met : List Int} {v c : Int} (h : SPm s t met v c) : met.Nodup → (∀ u ∈ met, 0 ≤ u ∧ u < n) → ∃ j, j + met.length ≤ n ∧ Wk s t j v c := by
  induction h with
  | nil met => intro h1 h2; exact ⟨0, by have := range_le h1 h2; omega, .nil⟩
  | cons met x c hx hg hm t ih =>
    intro h1 h2
    obtain ⟨j, h3, h4⟩ := ih (List.nodup_append.mpr ⟨h1, by simp, fun a ha b hb => by simp at hb; subst hb; rintro rfl; exact hm ha⟩) (fun u hu => by
      rcases List.mem_append.mp hu with hu | hu
      · exact h2 u hu
      · simp at hu; subst hu; exact ok.end_lo (s.E_ends hx).2)
    simp only [List.length_append, List.length_singleton] at h3
    exact ⟨j + 1, by omega, .cons hx h4⟩
theorem Wk.spm (ok : s.Ok n) {t v d : Int} {k : Nat} (h : Wk s t k v d) : ∃ c, c ≤ d ∧ SPm s t [v] v c := by
  rcases h.av.cut ok v with ⟨k', d', _, h2, h3⟩ | h3
  · obtain ⟨c, h4, h5⟩ := h3.spm ok; exact ⟨c, by omega, h5⟩
  · exact h3.spm ok
theorem ile_add {r r' : Int × Int} {c d e : Int} (h : ile (rcF r c) (rcF r' d)) : ile (rcF r (c + e)) (rcF r' (e + d)) := by
  simp only [ile, rcF, llt] at h ⊢
  split
  · rename_i h1; rw [if_pos h1] at h
    split
    · rename_i h2; rw [if_pos h2] at h
      split
      · rfl
      · simp only [decide_eq_false_iff_not]
        split at h
        · omega
        · simp at h; omega
    · rename_i h2; rw [if_neg h2] at h; exact h
  · rename_i h1; rw [if_neg h1] at h; exact h
theorem ile_c {r : Int × Int} {c d : Int} (h : c ≤ d) : ile (rcF r c) (rcF r d) := ile_snoc (a := [r.1, r.2]) (c := [r.1, r.2]) rfl (ile_refl _) fun _ => h
structure TB (s : Scn) (k : Nat) (v : Int) (r : Int × Int) (c : Int) : Prop where
  ex : ∃ t j, r = s.br t ∧ Wk s t j v c
  lb : ∀ t j d, j ≤ k → Wk s t j v d → ile (rcF r c) (rcF (s.br t) d)
theorem told_TB (ok : s.Ok n) : ∀ (k : Nat) (v : Int), TB s k v (s.told k v).r (s.told k v).c
  | 0, v => ⟨⟨v, 0, rfl, .nil⟩, fun t j d hj h => by
      cases h with
      | nil => exact ile_refl _
      | cons _ _ => omega⟩
  | k + 1, v => by
    have ih := told_TB ok k
    have hne : s.heard (s.told k) v s.E ≠ [] := by simp [Scn.heard]
    have le : ∀ h ∈ s.heard (s.told k) v s.E, ile (rcF (s.told (k + 1) v).r (s.told (k + 1) v).c) (rcF h.r h.c) := fun h hh => by
      have := minV_le hh
      exact ile_app (a := rcF _ _) (b := [_, _, _, _]) (c := rcF h.r h.c) (d := [_, _, _, _]) rfl this
    refine ⟨?_, fun t j d hj h => ?_⟩
    · have hm := minV_mem hne
      change s.told (k + 1) v ∈ _ at hm
      rcases List.mem_cons.mp hm with e | e
      · rw [e]; exact ⟨v, 0, rfl, .nil⟩
      · obtain ⟨x, hx, e⟩ := List.mem_map.mp e
        rw [← e]
        obtain ⟨h1, h2⟩ := List.mem_filter.mp hx
        obtain ⟨t, j, h3, h4⟩ := (ih x.2.1).ex
        have h5 := Wk.cons h1 h4
        simp only [decide_eq_true_eq] at h2
        rw [h2, Int.add_comm] at h5
        exact ⟨t, j + 1, h3, h5⟩
    · cases h with
      | nil => exact le (s.own _) (List.mem_cons_self ..)
      | cons hx h =>
        rename_i x j c
        have h1 := le (s.hear (s.told k) x) (List.mem_cons_of_mem _ (List.mem_map_of_mem (List.mem_filter.mpr ⟨hx, by simp⟩)))
        have h2 := (ih x.2.1).lb t j c (by omega) h
        exact ile_trans (by rfl) (by rfl) h1 (ile_add h2)
theorem told_best (ok : s.Ok n) {v : Int} (hv : 0 ≤ v ∧ v < n) : IsBest s v (s.told n v).r (s.told n v).c := by
  have h := told_TB ok n v
  refine ⟨h.ex, fun t j d hw => ?_⟩
  obtain ⟨c, h1, h2⟩ := hw.spm ok
  obtain ⟨j', h3, h4⟩ := h2.wk ok (by simp) (by simpa using hv)
  exact ile_trans (by rfl) (by rfl) (h.lb t j' c (by omega) h4) (ile_c h1)
theorem ways_best (ok : s.Ok n) {v t c : Int} (hv : 0 ≤ v ∧ v < n) (hc : SPm s t [v] v c) (hmin : ∀ d, SPm s t [v] v d → c ≤ d)
    (hroot : ∀ t' d, SPm s t' [v] v d → ile [(s.br t).1, (s.br t).2] [(s.br t').1, (s.br t').2]) : IsBest s v (s.br t) c := by
  obtain ⟨j, _, h1⟩ := hc.wk ok (by simp) (by simpa using hv)
  refine ⟨⟨t, j, rfl, h1⟩, fun t' k d hw => ?_⟩
  obtain ⟨c', h2, h3⟩ := hw.spm ok
  refine ile_snoc (a := [(s.br t).1, (s.br t).2]) (c := [(s.br t').1, (s.br t').2]) rfl (hroot t' c' h3) fun e => ?_
  simp only [List.cons.injEq, and_true] at e
  have ht := h1.reach.lo ok hv
  have ht' := hw.reach.lo ok hv
  have : t = t' := ok.br_inj ht.1 ht.2 ht'.1 ht'.2 (Prod.ext e.1 e.2)
  subst this
  exact Int.le_trans (hmin _ h3) h2
theorem BestP.uniq (ok : s.Ok n) {T : Int → Vec} {v : Int} {p p' : PV} (h : BestP s T v p) (h' : BestP s T v p') : p = p' := by
  rcases h with ⟨rfl, e⟩ | ⟨x, rfl, hx⟩ <;> rcases h' with ⟨rfl, e'⟩ | ⟨y, rfl, hy⟩
  · rfl
  · exact absurd hy.1 (by rw [e]; simp)
  · exact absurd hx.1 (by rw [e']; simp)
  · have h1 := ile_anti (by rfl) (hx.2 y hy.1) (hy.2 x hx.1)
    have h2 : (s.po x.1).1.2 = (s.po y.1).1.2 := by
      simp only [Scn.kF, vF, List.cons_append, List.nil_append, List.cons.injEq, and_true] at h1
      exact h1.2.2.2.2.2.2.2.2
    obtain ⟨hxE, hxc⟩ := List.mem_filter.mp hx.1
    obtain ⟨hyE, hyc⟩ := List.mem_filter.mp hy.1
    simp only [candB, Bool.and_eq_true, decide_eq_true_eq] at hxc hyc
    rw [ok.num (s.E_ends hxE).1, ok.num (s.E_ends hyE).1] at h2
    have : x.1 = y.1 := Prod.ext (hxc.1.trans hyc.1.symm) h2
    rw [this]
end

theorem All2.snoc {α β : Type} {R : α → β → Prop} {x : α} {y : β} (h : R x y) : ∀ {xs : List α} {ys : List β}, All2 R xs ys → All2 R (xs ++ [x]) (ys ++ [y])
  | [], [], _ => ⟨h, trivial⟩
  | _ :: _, _ :: _, k => ⟨k.1, All2.snoc h k.2⟩
  | [], _ :: _, k => k.elim
  | _ :: _, [], k => k.elim
theorem All2.right {α β : Type} {R : α → β → Prop} : ∀ {xs : List α} {ys : List β}, All2 R xs ys → ∀ y ∈ ys, ∃ x ∈ xs, R x y
  | [], [], _, y, hy => by cases hy
  | x :: xs, z :: zs, k, y, hy => by
    rcases List.mem_cons.mp hy with rfl | hy
    · exact ⟨x, .head _, k.1⟩
    · obtain ⟨x', h1, h2⟩ := All2.right k.2 y hy; exact ⟨x', .tail _ h1, h2⟩
  | [], _ :: _, k, _, _ => k.elim
  | _ :: _, [], k, _, _ => k.elim
theorem All2.maps {α β γ : Type} {R : α → β → Prop} {f : α → γ} {g : β → γ} (h : ∀ a b, R a b → f a = g b) : ∀ {xs : List α} {ys : List β}, All2 R xs ys → xs.map f = ys.map g
  | [], [], _ => rfl
  | x :: xs, z :: zs, k => by rw [List.map_cons, List.map_cons, h _ _ k.1, All2.maps h k.2]
  | [], _ :: _, k => k.elim
  | _ :: _, [], k => k.elim
section
variable {prog : Program} {w : World} {Kf : Frag} {sc : Scope} {C : Cx prog w Kf sc} {l : List (Option PV)} {Δ : Led} {Q : PV → Led → Prop}
inductive CompRH {α β : Type} (C : Cx prog w Kf sc) (scope : Scope) (target elt : Expr) (l : List (Option PV)) (xs : List α) (g : α → PV) (R : α → β → Prop) (v : β → PV) (Q : PV → Led → Prop) (p : PV) (Δ' : Led) : Prop
  | mk (mo : Option (Addr × MO)) (hs : Src p mo (xs.map g)) (hm : Has Δ' mo) (hlen : xs.length ≤ 1000)
    (turn : ∀ C' : Cx prog w Kf (compSc sc scope), C'.room = C.room → ∀ x ∈ xs, AS C' target (g x) (compL sc l scope) Δ' (fun l₂ Δ₂ => lle (compL sc l scope) l₂ ∧ EV C' elt l₂ Δ₂ (fun y Δ₄ => Δ₄ = Δ' ∧ ∃ b, R x b ∧ y = v b)))
    (fin : ∀ bs, All2 R xs bs → MadeL Δ' (bs.map v) Q)
theorem EV_compR {α β : Type} {target iter elt : Expr} {scope : Scope} {pos : Pos} (hf : C.isFn = true) (xs : List α) (g : α → PV) (R : α → β → Prop) (v : β → PV)
    (h : EV C iter l Δ (CompRH C scope target elt l xs g R v Q))
    (ok : compOkB sc scope = true := by rfl) (hs : ∀ x, foldedSetIterable iter C.env x = pure x := by intro _; rfl) : EV C (.ListComp elt [⟨target, iter, [], 0⟩] scope pos) l Δ Q :=
  EV_comp (compOk_of ok) (.inl hf) (h.mono fun p Δ' ⟨mo, h1, h2, h3, h4, h5⟩ => ⟨mo, xs.map g, h1, h2, by simpa using h3, fun i acc Δ₁ => Δ₁ = Δ' ∧ ∃ bs, acc = bs.map v ∧ All2 R (xs.take i) bs, ⟨rfl, [], rfl, by simp [All2]⟩, fun i acc Δ₁ q => q.1 ▸ h2, fun C' hr => by
      rintro i p acc Δ₁ hx ⟨rfl, bs, rfl, hb⟩
      rw [List.getElem?_map] at hx
      obtain ⟨x, hx2, rfl⟩ := Option.map_eq_some_iff.mp hx
      refine AS.mono (h4 C' hr x (List.mem_of_getElem? hx2)) fun l₂ Δ₂ ⟨q1, q2⟩ => ⟨q1, ?_⟩
      refine tests_nil ?_
      refine EV.mono q2 fun y Δ₄ ⟨e1, b, hR, e2⟩ => ⟨e1, bs ++ [b], by rw [e2]; simp, ?_⟩
      rw [show xs.take (i + 1) = xs.take i ++ [x] by rw [List.take_add_one, hx2]; rfl]
      exact hb.snoc hR,
    fun acc Δ₁ ⟨e1, bs, e2, hb⟩ => by subst e1; subst e2; rw [List.length_map, List.take_length] at hb; exact h5 bs hb⟩) hs
theorem CO_neIL0 {ns : List Int} {Q : Bool → Led → Prop} (q : Q (!ns.isEmpty) Δ) : CO C .NotEq (.list (ns.map PV.int)) (.list []) l Δ Q := by
  refine CO_ned ?_ (pures_int ns) rfl (shaped_ints ns) rfl
  have : PyData.eqv (look Δ (PV.list (ns.map PV.int))).data (look Δ (.list [])).data = ns.isEmpty := by cases ns <;> rfl
  rw [this]; exact q
theorem CO_neS {p : PV} {Q : Bool → Led → Prop} (q : Q false Δ) (he : PyData.eqv p.data p.data = true) (l1 : look Δ p = p) (h1 : p.pure = true) (s1 : SeqAt.shaped p.data = true) : CO C .NotEq p p l Δ Q := by
  refine CO_ned ?_ (by rw [l1]; exact h1) (by rw [l1]; exact h1) (by rw [l1]; exact s1) (by rw [l1]; exact s1)
  rw [l1, he]; exact q
end
noncomputable abbrev rcP (r : Int × Int) (c : Int) : PV := .tup [pr r, .int c]
theorem rcP_same (r : Int × Int) (c : Int) : PyData.eqv (rcP r c).data (rcP r c).data = true := (Shp.tup (n := 1) (xs := [pr r, .int c]) (ys := [pr r, .int c]) ⟨shp_pr 0 r r, .int 1 c c, trivial⟩).flat.eq.mpr rfl
theorem pr_same (r : Int × Int) : PyData.eqv (pr r).data (pr r).data = true := (shp_pr 0 r r).flat.eq.mpr rfl

structure LawL (Δ : Led) (s : Scn) (n : Nat) (S o d B P W A R K T : Addr) (kr kk : List (Int × PV)) : Prop where
  tr : TrL Δ s o d B P A R K kr kk
  ok : TOk s n kr kk (s.told n)
  w : Δ W = some (.list (s.web.map wP))
  src : ∃ x y, SrcL Δ S x y
  t : ∃ et, Δ T = some (.dictI et (kT (kB s.brs) (s.told n)))
theorem LawL.le {Δ Δ' : Led} {s : Scn} {n : Nat} {S o d B P W A R K T : Addr} {kr kk : List (Int × PV)} (h : LawL Δ s n S o d B P W A R K T kr kk) (k : Δ.le Δ') : LawL Δ' s n S o d B P W A R K T kr kk :=
  ⟨h.tr.le k, h.ok, k _ _ h.w, by obtain ⟨x, y, e⟩ := h.src; exact ⟨x, y, k _ _ e.h, e.o⟩, by obtain ⟨et, e⟩ := h.t; exact ⟨et, k _ _ e⟩⟩
theorem TreesOk.tok {s : Scn} {n : Nat} (ok : s.Ok n) {kr kk : List (Int × PV)} (h : TreesOk s n kr kk) : TOk s n kr kk (s.told n) where
  r := fun v h0 h1 => by
    obtain ⟨r, c, h2, h3, h4⟩ := h.best v h0 h1
    rw [h2, ((told_best ok ⟨h0, h1⟩).uniq h4).1]
  c := fun v h0 h1 => by
    obtain ⟨r, c, h2, h3, h4⟩ := h.best v h0 h1
    rw [h3, ((told_best ok ⟨h0, h1⟩).uniq h4).2]

inductive IvTr1 (s : Scn) (S B P W o T : Addr) (Δ4 : Led) (i : Nat) (l : List (Option PV)) (Δ' : Led) : Prop
  | mk (z1 z2 z3 z4 z5 z6 z7 z8 : Option PV) (h0 : l = [some (.obj S), some (.obj B), some (.obj P), some (.obj W), some (.obj o), some (.list (s.E.map wP)), some (.obj T), z1, z2, z3, z4, z5, z6, z7, z8, none, none, none, none, none, none, none, none, none]) (h1 : Δ4.le Δ')
inductive IvTr2 (s : Scn) (S B P W o T : Addr) (Δ₁ : Led) (i : Nat) (l : List (Option PV)) (Δ' : Led) : Prop
  | mk (z1 z2 z3 z4 z5 z6 z7 z8 : Option PV) (h0 : l = [some (.obj S), some (.obj B), some (.obj P), some (.obj W), some (.obj o), some (.list (s.E.map wP)), some (.obj T), z1, z2, z3, z4, z5, z6, z7, z8, none, none, none, none, none, none, none, none, none]) (h1 : Δ' = Δ₁)
theorem F_tree_right {w : World} {m : Nat} {S : Addr} {x y : Int} {Δ : Led} {Q : PV → Led → Prop} (hs : SrcL Δ S x y) (q : ∀ Δ' x' y', SrcL Δ' S x' y' → Q (.bool true) Δ') : CSR pw w (KF w) (m + 6) 237 [.obj S] Δ Q := by
  refine CSR_enter (m + 5) (ho := rfl) rfl (by rfl) rfl rfl rfl (bind1 fun _ => by rfl) (by rfl) (by decide) rfl rfl rfl fun C hr hf => ?_
  repeat walk_at "s"
  refine F_scene (n := m + 2) hs fun Δ1 B P W s n x1 y1 ok hsc hsrc => ?_
  iterate 12 walk_at "s"
  obtain ⟨r, hroom⟩ : ∃ r, C.room = r + 1 := ⟨C.room - 1, by omega⟩
  refine EV_new (k := 16) 97 56 hroom ?_ (by rfl) (by rfl) (by rfl) (by rfl) (by rfl) (by rfl)
  repeat walk_at "s"
  intro o d ho hd hod
  have hdB : d ≠ B := by rintro rfl; obtain ⟨_, e⟩ := hsc.b; rw [hd] at e; cases e
  have hdP : d ≠ P := by rintro rfl; obtain ⟨_, e⟩ := hsc.p; rw [hd] at e; cases e
  have hdW : d ≠ W := by rintro rfl; have e := hsc.w; rw [hd] at e; cases e
  have hdS : d ≠ S := by rintro rfl; have e := hsrc.h; rw [hd] at e; cases e
  have ho' : (Δ1.upd d (.attrs [])) o = none := by rw [Led.upd_ne hod]; exact ho
  have hsc2 : SceneL ((Δ1.upd d (.attrs [])).upd o (.inst 97 d)) B P W s := (hsc.new hd).new ho'
  have hsrc2 : SrcL ((Δ1.upd d (.attrs [])).upd o (.inst 97 d)) S x1 y1 := (hsrc.new hd).new ho'
  have hi2 : InstL ((Δ1.upd d (.attrs [])).upd o (.inst 97 d)) o 97 d [] := ⟨Led.upd_self _ _ _, by rw [Led.upd_ne (Ne.symm hod), Led.upd_self]⟩
  generalize (Δ1.upd d (.attrs [])).upd o (.inst 97 d) = Δ2 at hsc2 hsrc2 hi2
  refine CSR.le (n := (m + 4)) ?_ (by omega)
  refine F_init (m := m) ok hi2 hsc2 fun Δ3 A R K kr kk htr hfr hto => ?_
  have hw3 := hfr _ _ (Ne.symm hdW) hsc2.w
  have hs3 : SrcL Δ3 S x1 y1 := ⟨hfr _ _ (Ne.symm hdS) hsrc2.h, hsrc2.o⟩
  clear hfr hi2 hsc2 hsrc2 ho' ho hd hsc hsrc hs
  refine ⟨rfl, ?_⟩
  repeat walk_at "s"
  refine F_sides (n := m + 4) hw3 (by have := ok.w6; omega) ?_
  have htok := hto.tok ok
  obtain ⟨eb, hB⟩ := htr.b
  obtain ⟨ep, hP⟩ := htr.p
  repeat walk_at "s"
  refine ⟨rfl, ?_⟩
  repeat walk_at "s"
  refine F_told (m := m + 3) ok hB hP fun T et Δ4 hle hT => ?_
  have hl : LawL Δ4 s n S o d B P W A R K T kr kk := ⟨htr.le hle, htok, hle _ _ hw3, ⟨x1, y1, hle _ _ hs3.h, hs3.o⟩, et, hT⟩
  clear hle hT hB hP htok hs3 hw3 htr hto
  repeat walk_at "s"
  have hn4 := ok.n4
  have hkl := ok.kBlen
  obtain ⟨eb, hB⟩ := hl.tr.b
  refine SV1_for ?_
  repeat walk_at "s"
  refine ⟨_, _, .dictI _ _ _, hB, IvTr1 s S B P W o T Δ4, ?_, fun _ _ _ h => ?_, ?_, ?_⟩
  · exact ⟨none, none, none, none, none, none, none, none, rfl, Led.le_refl _⟩
  · obtain ⟨_, _, _, _, _, _, _, _, _, h⟩ := h; exact h _ _ hB
  · rintro C' hC i p l₁ Δ₁ hi ⟨z1, z2, z3, z4, z5, z6, z7, z8, rfl, hle⟩
    have hr' : m + 5 ≤ C'.room := hC.1 ▸ hr
    have hf' : C'.isFn = true := hC.2.1.trans hf
    rw [List.getElem?_map] at hi
    obtain ⟨vx, hvx, rfl⟩ := Option.map_eq_some_iff.mp hi
    have hv := ok.keyv.mp (List.mem_map_of_mem (List.mem_of_getElem? hvx))
    generalize vx.1 = v at hv
    clear hvx hi
    have hl1 := hl.le hle
    obtain ⟨eb1, hB1⟩ := hl1.tr.b
    obtain ⟨ep1, hP1⟩ := hl1.tr.p
    repeat walk_at "s"
    refine EV_compR hf' (kB s.brs) (fun x => .int x.1) (fun x (b : Int × List Int) => b.1 = x.1 ∧ ∀ c, c ∈ b.2 ↔ SPm s b.1 [v] v c) (fun b => .tup [.int b.1, .list (b.2.map PV.int)]) ?_
    repeat walk_at "s"
    refine ⟨_, .dictI _ _ _, hB1, by omega, ?_, fun bs hbs => .inl ?_⟩
    · intro C'' hC'' x hx
      have hr'' : m + 5 ≤ C''.room := hC'' ▸ hr'
      repeat walk_at "s"
      refine ⟨?_, ?_⟩
      · repeat walk_at "s"
      · repeat walk_at "s"
        refine EV_ls ?_
        repeat walk_at "s"
        refine ⟨rfl, ?_⟩
        repeat walk_at "s"
        refine CSR.le (n := 3 + 1) ?_ (by omega)
        refine CSR.mono (F_ways ok hP1 3 v [v] (by omega) (by simp; omega) (by simp) (by simpa using hv)) ?_
        rintro p Δ' ⟨rfl, cs, rfl, _, hcs⟩
        repeat walk_at "s"
        exact ⟨rfl, rfl, (x.1, cs), ⟨rfl, hcs⟩, rfl⟩
    repeat walk_at "s"
    have hkeys : bs.map (·.1) = (kB s.brs).map (·.1) := (All2.maps (f := fun x : Int × PV => x.1) (g := fun b : Int × List Int => b.1) (fun a b h => h.1.symm) hbs).symm
    have hbnd : (bs.map (·.1)).Nodup := by rw [hkeys]; exact ok.kBnd
    have hblen : bs.length = n := by
      have := congrArg List.length hkeys
      simpa [hkl] using this
    refine BC_dictL (kvs := bs.map fun b => (b.1, PV.list (b.2.map PV.int))) (.inl (by simp)) (by rw [List.map_map]; exact hbnd) (fun cd ec hcd => ?_) (by simp; omega)
    have hcd1 := Led.upd_self Δ₁ cd (MO.dictI ec (bs.map fun b => (b.1, PV.list (b.2.map PV.int))))
    have hle1 := hle.trans (Led.le_new (m := MO.dictI ec (bs.map fun b => (b.1, PV.list (b.2.map PV.int)))) hcd)
    generalize Δ₁.upd cd _ = Δ5 at hcd1 hle1
    clear hcd hl1 hB1 hP1 hle
    have hl1 := hl.le hle1
    obtain ⟨eb1, hB1⟩ := hl1.tr.b
    obtain ⟨ep1, hP1⟩ := hl1.tr.p
    obtain ⟨er1, hR1⟩ := hl1.tr.r
    obtain ⟨ek1, hK1⟩ := hl1.tr.k
    obtain ⟨et1, hT1⟩ := hl1.t
    have ht1 := hl1.tr.t
    obtain ⟨CS, hCS⟩ : ∃ CS : Int → List Int, ∀ o : Int, 0 ≤ o → o < n → kget (bs.map fun b => (b.1, PV.list (b.2.map PV.int))) o = some (.list ((CS o).map PV.int)) ∧ ∀ c, c ∈ CS o ↔ SPm s o [v] v c := by
      refine ⟨fun o => ((bs.find? fun y => decide (y.1 = o)).map (·.2)).getD [], fun o h0 h1 => ?_⟩
      have hm : o ∈ bs.map (·.1) := by rw [hkeys]; exact ok.keyv.mpr ⟨h0, h1⟩
      obtain ⟨b, hb, rfl⟩ := List.mem_map.mp hm
      have e : ((bs.find? fun y => decide (y.1 = b.1)).map (·.2)).getD [] = b.2 := by rw [find_nodup hbnd hb]; rfl
      dsimp only
      rw [e, kget_find (fun cs : List Int => PV.list (cs.map PV.int)), find_nodup hbnd hb]
      obtain ⟨_, _, h2⟩ := All2.right hbs b hb
      exact ⟨rfl, h2.2⟩
    have hown : CS v ≠ [] := List.ne_nil_of_mem (((hCS v hv.1 hv.2).2 0).mpr (.nil _))
    repeat walk_at "s"
    refine EV_compM hf' (kB s.brs) (fun x => .int x.1) (fun x => !(CS x.1).isEmpty) (fun x => pr (s.br x.1)) ?_
    repeat walk_at "s"
    refine ⟨_, .dictI _ _ _, hB1, by omega, ?_, .inl ?_⟩
    · intro C'' hC'' x hx
      have hx' := ok.keyv.mp (List.mem_map_of_mem hx)
      have hcx := (hCS x.1 hx'.1 hx'.2).1
      have hbx := ok.kB hx'.1 hx'.2
      repeat walk_at "s"
      refine ⟨?_, ?_⟩
      · repeat walk_at "s"
      · repeat walk_at "s"
        refine EV_ls ?_
        repeat walk_at "s"
        refine ⟨rfl, ?_⟩
        refine CO_neIL0 ?_
        cases hce : (CS x.1).isEmpty with
        | true => exact ⟨rfl, by simp [hce]⟩
        | false =>
          rw [if_pos (by rfl)]
          repeat walk_at "s"
          exact ⟨rfl, by simp [hce], rfl⟩
    have hvk : v ∈ (kB s.brs).map (·.1) := ok.keyv.mpr hv
    obtain ⟨vx, hvx, hvx1⟩ := List.mem_map.mp hvk
    have hne : ((kB s.brs).filter fun x => !(CS x.1).isEmpty).map (fun x => pr (s.br x.1)) ≠ [] := by
      refine List.ne_nil_of_mem (List.mem_map_of_mem (List.mem_filter.mpr ⟨hvx, ?_⟩))
      rw [hvx1]; cases e : CS v with
      | nil => exact absurd e hown
      | cons => rfl
    have hsh : ∀ x ∈ ((kB s.brs).filter fun x => !(CS x.1).isEmpty).map (fun x => pr (s.br x.1)), ∀ y ∈ ((kB s.brs).filter fun x => !(CS x.1).isEmpty).map (fun x => pr (s.br x.1)), Shp 1 x y := fun x hx y hy => by
      obtain ⟨a, _, rfl⟩ := List.mem_map.mp hx
      obtain ⟨b, _, rfl⟩ := List.mem_map.mp hy
      exact shp_pr 0 _ _
    repeat walk_at "s"
    refine BC_min 1 (.f _ _) ?_ hne hsh
    obtain ⟨tx, htx, et⟩ := List.mem_map.mp (minP_mem hne)
    obtain ⟨htx1, htx2⟩ := List.mem_filter.mp htx
    have htr := ok.keyv.mp (List.mem_map_of_mem htx1)
    have htmin : ∀ u d, SPm s u [v] v d → ile [(s.br tx.1).1, (s.br tx.1).2] [(s.br u).1, (s.br u).2] := fun u d hd => by
      have hu : 0 ≤ u ∧ u < n := by
        obtain ⟨j, _, hw⟩ := hd.wk ok (by simp) (by simpa using hv)
        exact hw.reach.lo ok hv
      obtain ⟨ux, hux, hux1⟩ := List.mem_map.mp (ok.keyv.mpr hu)
      have := minP_le hsh (List.mem_map_of_mem (f := fun x : Int × PV => pr (s.br x.1)) (List.mem_filter.mpr ⟨hux, (by
        rw [hux1]; have := ((hCS u hu.1 hu.2).2 d).mpr hd
        cases e : CS u with
        | nil => rw [e] at this; cases this
        | cons => rfl)⟩))
      rw [← et, hux1] at this
      exact this
    have hCt : CS tx.1 ≠ [] := by intro e; rw [e] at htx2; cases htx2
    rw [← et]
    generalize tx.1 = t at htr htmin hCt
    clear et htx htx1 htx2 hne hsh hvx hvx1
    repeat walk_at "s"
    refine EV_compM hf' (kB s.brs) (fun x => .int x.1) (fun x => decide (x.1 = t)) (fun x => .int x.1) ?_
    repeat walk_at "s"
    refine ⟨_, .dictI _ _ _, hB1, by omega, ?_, .inl ?_⟩
    · intro C'' hC'' x hx
      have hx' := ok.keyv.mp (List.mem_map_of_mem hx)
      have hbx := ok.kB hx'.1 hx'.2
      repeat walk_at "s"
      refine ⟨?_, ?_⟩
      · repeat walk_at "s"
      · repeat walk_at "s"
        refine CO_eqF ?_ (shp_pr 0 _ _).flat rfl rfl rfl rfl rfl rfl
        by_cases e : x.1 = t
        · rw [if_pos (by rw [e]; simp)]
          repeat walk_at "s"
          exact ⟨rfl, by simp [e], rfl⟩
        · rw [if_neg (by
            simp only [decide_eq_true_eq]
            intro e2
            simp only [flat, flats, List.append_nil, List.cons_append, List.nil_append, List.cons.injEq, and_true] at e2
            exact e (ok.br_inj hx'.1 hx'.2 htr.1 htr.2 (Prod.ext e2.1 e2.2)))]
          exact ⟨rfl, by simp [e]⟩
    have hgl : ((((kB s.brs).filter fun x => decide (x.1 = t)).map fun x => PV.int x.1))[(0 : Int).toNat]? = some (.int t) := by
      obtain ⟨tx, htx, htx1⟩ := List.mem_map.mp (ok.keyv.mpr htr)
      have hm : tx ∈ (kB s.brs).filter fun x => decide (x.1 = t) := List.mem_filter.mpr ⟨htx, by simpa using htx1⟩
      have hall : ∀ y ∈ (kB s.brs).filter fun x => decide (x.1 = t), y.1 = t := fun y hy => by simpa using (List.mem_filter.mp hy).2
      generalize (kB s.brs).filter (fun x => decide (x.1 = t)) = fl at hm hall
      cases fl with
      | nil => cases hm
      | cons y ys => simp [hall y (List.mem_cons_self ..)]
    repeat walk_at "s"
    refine GI_lst (x := .int t) ?_ (by decide) (by decide) hgl
    clear hgl
    have htv := kT_get (T := s.told n) hvk
    have hct := (hCS t htr.1 htr.2).1
    iterate 4 walk_at "s"
    refine EV_slice2 ?_
    repeat walk_at "s"
    refine ⟨_, _, _, _, rfl, ?_⟩
    repeat walk_at "s"
    have hsh0 : ∀ x ∈ (CS t).map PV.int, ∀ y ∈ (CS t).map PV.int, Shp 0 x y := fun x hx y hy => by
      obtain ⟨a, _, rfl⟩ := List.mem_map.mp hx
      obtain ⟨b, _, rfl⟩ := List.mem_map.mp hy
      exact .int 0 a b
    refine BC_min 0 (.f _ _) ?_ (by simpa using hCt) hsh0
    obtain ⟨c0, hc0, ec⟩ := List.mem_map.mp (minP_mem (ps := (CS t).map PV.int) (by simpa using hCt))
    have hc0min : ∀ d, SPm s t [v] v d → c0 ≤ d := fun d hd => by
      have := minP_le hsh0 (List.mem_map_of_mem (f := PV.int) (((hCS t htr.1 htr.2).2 d).mpr hd))
      rw [← ec] at this
      simp only [ile, flat, llt] at this
      split at this
      · omega
      · simp at this; exact this
    have hbest := ways_best ok hv (((hCS t htr.1 htr.2).2 c0).mp hc0) hc0min htmin
    obtain ⟨er2, ec2⟩ := (told_best ok hv).uniq hbest
    rw [← ec]
    repeat walk_at "s"
    refine ⟨rfl, ?_⟩
    rw [er2, ec2]
    refine CO_neS ?_ (rcP_same _ _) rfl rfl rfl
    rw [if_neg Bool.false_ne_true]
    have hkr := hl.ok.r v hv.1 hv.2
    have hkk := hl.ok.c v hv.1 hv.2
    rw [er2] at hkr
    rw [ec2] at hkk
    clear ec hsh0
    repeat walk_at "s"
    refine ⟨rfl, ?_⟩
    refine EV_slice2 ?_
    repeat walk_at "s"
    refine ⟨_, _, _, _, rfl, ?_⟩
    rw [er2, ec2]
    refine CO_neS ?_ (rcP_same _ _) rfl rfl rfl
    rw [if_neg Bool.false_ne_true]
    refine SV_nil ?_
    refine SV_cons (SV1_a ?_)
    refine EV.mono (Q := fun p Δ' => Δ' = Δ5 ∧ ((s.br v = (s.told n v).r ∧ p = .none) ∨ (s.br v ≠ (s.told n v).r ∧ BestP s (s.told n) v p))) (EV_ifexp ?_) ?_
    · repeat walk_at "s"
      by_cases e : t = v
      · rw [if_pos (by simpa using e)]
        repeat walk_at "s"
        exact ⟨rfl, .inl ⟨by rw [er2, e], rfl⟩⟩
      · rw [if_neg (by simpa using e)]
        repeat walk_at "s"
        refine F_best_port (m := m + 3) ok hB1 hP1 hT1 fun p hp => ⟨rfl, .inr ⟨fun e2 => e ?_, hp⟩⟩
        exact (ok.br_inj hv.1 hv.2 htr.1 htr.2 (e2.trans er2)).symm
    rintro p Δ' ⟨rfl, hp⟩
    have ht1 := hl1.tr.t
    repeat walk_at "s"
    refine F_root_port (m := m + 2) ok hl1.tr hl1.ok hv fun p' hp' => ?_
    repeat walk_at "s"
    have hpp : p' = p := by
      rcases hp with ⟨h1, rfl⟩ | ⟨h1, h2⟩ <;> rcases hp' with ⟨h3, rfl⟩ | ⟨h3, h4⟩
      · rfl
      · exact absurd h1 h3
      · exact absurd h3 h1
      · exact BestP.uniq ok h4 h2
    subst hpp
    have hform : p' = .none ∨ ∃ e, p' = pr e := by
      rcases hp with ⟨_, rfl⟩ | ⟨_, ⟨rfl, _⟩ | ⟨y, rfl, _⟩⟩
      · exact .inl rfl
      · exact .inl rfl
      · exact .inr ⟨_, rfl⟩
    rcases hform with rfl | ⟨e, rfl⟩
    · refine CO_neS ?_ rfl rfl rfl rfl
      rw [if_neg Bool.false_ne_true]
      repeat walk_at "s"
      exact ⟨_, _, _, _, _, _, _, _, rfl, hle1⟩
    · refine CO_neS ?_ (pr_same e) rfl rfl rfl
      rw [if_neg Bool.false_ne_true]
      repeat walk_at "s"
      exact ⟨_, _, _, _, _, _, _, _, rfl, hle1⟩
  · rintro l₁ Δ₁ ⟨z1, z2, z3, z4, z5, z6, z7, z8, rfl, hle⟩
    have hl1 := hl.le hle
    repeat walk_at "s"
    refine SV1_for ?_
    repeat walk_at "s"
    refine ⟨_, _, .list _, trivial, IvTr2 s S B P W o T Δ₁, ?_, fun _ _ _ _ => trivial, ?_, ?_⟩
    · exact ⟨_, _, _, _, _, _, _, _, rfl, rfl⟩
    · rintro C' hC i p l₁ Δ₂ hi ⟨z1, z2, z3, z4, z5, z6, z7, z8, rfl, rfl⟩
      have hr' : m + 5 ≤ C'.room := hC.1 ▸ hr
      rw [List.getElem?_map] at hi
      obtain ⟨x, hx, rfl⟩ := Option.map_eq_some_iff.mp hi
      have hxE : x ∈ s.E := List.mem_of_getElem? hx
      have hend := s.E_ends hxE
      have hlo1 := ok.end_lo hend.1
      have hlo2 := ok.end_lo hend.2
      obtain ⟨eb1, hB1⟩ := hl1.tr.b
      obtain ⟨ep1, hP1⟩ := hl1.tr.p
      obtain ⟨et1, hT1⟩ := hl1.t
      have ht1 := hl1.tr.t
      repeat walk_at "s"
      refine F_law_at (n := m + 4) (r := pr (s.told n x.1.1).r) (c := .int (s.told n x.1.1).c) (x := .none) hB1 hP1 hT1 (ok.kB hlo1.1 hlo1.2) (ok.kP hend.1) (kT_get (ok.keyv.mpr hlo1)) ?_
      repeat walk_at "s"
      refine F_law_at (n := m + 4) (r := pr (s.told n x.2.1).r) (c := .int (s.told n x.2.1).c) (x := .none) hB1 hP1 hT1 (ok.kB hlo2.1 hlo2.2) (ok.kP hend.2) (kT_get (ok.keyv.mpr hlo2)) ?_
      repeat walk_at "s"
      refine F_is_better (n := m + 4) (shp_vP 0 (s.atV (s.told n) x.1) (s.atV (s.told n) x.2)) ?_
      rw [show plt (PV.tup [pr (s.told n x.1.1).r, .int (s.told n x.1.1).c, pr (s.br x.1.1), pr (s.po x.1).1]) (PV.tup [pr (s.told n x.2.1).r, .int (s.told n x.2.1).c, pr (s.br x.2.1), pr (s.po x.2).1]) = llt (vF (s.atV (s.told n) x.1)) (vF (s.atV (s.told n) x.2)) from (shp_vP 0 (s.atV (s.told n) x.1) (s.atV (s.told n) x.2)).flat.lt]
      repeat walk_at "s"
      refine F_role (m := m + 1) ok hl1.tr hl1.ok hxE fun tt htt => ?_
      repeat walk_at "s"
      refine CO_eq_str ?_
      repeat walk_at "s"
      refine CO_ne_bool ?_
      rw [if_neg (by
        have e : (tt == Str.ofString "designated") = llt (vF (s.atV (s.told n) x.1)) (vF (s.atV (s.told n) x.2)) := htt
        rw [e]; simp)]
      repeat walk_at "s"
      exact ⟨_, _, _, _, _, _, _, _, rfl, rfl⟩
    · rintro l₁ Δ₂ ⟨z1, z2, z3, z4, z5, z6, z7, z8, rfl, rfl⟩
      obtain ⟨x9, y9, hsr⟩ := hl1.src
      repeat walk_at "s"
      exact q _ _ _ hsr

section
variable {prog : Program} {w : World} {A : Around} {E : Value → Shared → Prop} {h : Heap} {g : Array GenState} {d : Drawn} {t : Nat} {os : OsState}
variable {nm q : Str} {C N : Addr} {bs bm : List Value} {hdct : Bool} {sn : List Str} {sub : List Value} {ab : Bool} {col : Option Bool} {dd : Option Addr} {k0 k1 k2 k3 k5 : Option Value}

set_option maxHeartbeats 2000000 in
theorem exc_call {rest : List Value} {fI : Addr} {Q : Value → Shared → Prop}
    (hC : h.get? C = some (excClassObj nm q C N bs bm hdct sn sub ab col dd k0 k1 k2 k3 k5 "Exception.__new__"))
    (c1 : bm.contains (.type "Exception") = true) (c2 : bm.contains (.type "AttributeError") = false) (c3 : bm.contains (.type "NameError") = false)
    (hi : Looks (model prog w) h (typeLookup (.ref C) "__init__") (some (.ref fI))) (hb : ∀ self, Looks (model prog w) h (bindSpecial (.ref fI) self) (.ref fI, [self])) (hrest : rest.length ≤ sizeLine)
    (hq : ∀ h' e, Heap.MadeExcOf h h' e (.ref C) rest →
      wpAny (model prog w) (A.under (.builtin "type.__call__" ⟨.ref C :: rest, []⟩)) (call (.ref fI) (.ref e :: rest)) (fun r s' => r = .none ∧ Q (.ref e) s') E ⟨h', g, d, t, os⟩) :
    wpAny (model prog w) A (call (.ref C) rest) Q E ⟨h, g, d, t, os⟩ := by
  have F := PySem.F.excBase_Exception
  have f1 := tc_lookup
  have f2 := tc_bind (.ref C)
  have hT : (⟨h, g, d, t, os⟩ : Shared).TypeIs (.ref C) "type" := ⟨_, hC, rfl⟩
  have hcB : (Value.ref C :: bm).contains (.type "Exception") = true := by rw [List.contains_cons, c1, Bool.or_true]
  have hcA : (Value.ref C :: bm).contains (.type "AttributeError") = false := by rw [List.contains_cons, c2]; rfl
  have hcN : (Value.ref C :: bm).contains (.type "NameError") = false := by rw [List.contains_cons, c3]; rfl
  have hcC : (Value.ref C :: bm).contains (.ref C) = true := by simp
  refine wpAny_call (codeAny_of_tree ?_)
  show wpAny _ _ (callAny (.ref C) _) _ _ _
  repeat (any_goals (first | assumption | with_reducible refine wpAny_loadPart_at hC ?_ | wp_step))
  refine ⟨rfl, ?_⟩
  refine codeAny_call_builtin_at (Code.quiet_builtin _ (by decide +kernel)) entry_typeCall (wpAny_check_type_call_sub hC ?_)
  repeat (first | with_reducible refine wpAny_loadPart_at hC ?_ | with_reducible refine wpAny_madeBy_exc hC ?_ | wp_step)
  refine codeAny_call_builtin_code (Code.quiet_builtin _ F.quiet) ?_
  have hstar := F.noStar
  simp only [checkBuiltinCall, F.newKind, F.newSplit, F.newRow]
  repeat (first | refine wpAny_loadPart_at hC ?_ | (refine wpAny_isSubtype_exc hC ?_; rw [hcB]) | refine wpAny_staticBase_exc hC ?_ | refine wpAny_madeBy_exc hC ?_ | simp only [bne_self_eq_false, Bool.false_eq_true, if_false] | wp_step)
  have hends := F.ends
  refine PySem.codeAny_builtinAt F.entry ?_
  unfold Builtin.«BaseException.__new__»
  refine PySem.wpAt_bind ?_
  show PySem.wpAt _ _ _ (stack >>= _) _ _ _
  refine PySem.wpAt_bind (PySem.wpAt_stack fun p below => PySem.wpAt_of_wpAny ?_)
  wp_walk
  refine PySem.wpAt_of_wpAny ?_
  rw [F.owner]
  repeat (first | with_reducible refine wpAny_madeHere_exc F.canon hC ?_ | with_reducible refine wpAny_loadPart_at hC ?_ | (with_reducible refine wpAny_isSubtype_exc hC ?_; first | rw [hcB] | rw [hcA] | rw [hcN]) | wp_step)
  have k2 : ∀ b o, h.get? b = some o → ((h.push { cls := .type "tuple", data := .seq rest.toArray }).push { cls := .ref C, data := .fields #[.ref h.objs.size, .none, .none, .none, .bool false, .none] }).get? b = some o :=
    fun b o e => Heap.get?_push_of_some _ (Heap.get?_push_of_some _ e)
  have hC₁ := k2 _ _ hC
  have hget : ((h.push { cls := .type "tuple", data := .seq rest.toArray }).push
      { cls := .ref C, data := .fields #[.ref h.objs.size, .none, .none, .none, .bool false, .none] }).get? (h.objs.size + 1) = some
      { cls := .ref C, data := .fields #[.ref h.objs.size, .none, .none, .none, .bool false, .none] } := by heap_get
  refine wpAny_isSubtype_exc hC₁ ?_
  rw [hcC]
  rw [if_neg (by decide)]
  dsimp only [List.append]
  rw [show (h.push { cls := .type "tuple", data := .seq rest.toArray }).objs.size = h.objs.size + 1 from Heap.size_push ..]
  have t1 : Looks (model prog w) ((h.push { cls := .type "tuple", data := .seq rest.toArray }).push { cls := .ref C, data := .fields #[.ref h.objs.size, .none, .none, .none, .bool false, .none] }) (typeOf (.ref (h.objs.size + 1))) (.ref C) := (Looks.ld hget).andThen .now
  have i1 := hi.keeps k2
  have b1 := (hb (.ref (h.objs.size + 1))).keeps k2
  have hm : Heap.MadeExcOf h ((h.push { cls := .type "tuple", data := .seq rest.toArray }).push { cls := .ref C, data := .fields #[.ref h.objs.size, .none, .none, .none, .bool false, .none] }) (h.objs.size + 1) (.ref C) rest :=
    ⟨k2, Heap.get?_none_of_le (Nat.le_succ _), h.objs.size, hget, Heap.get?_none_of_le (Nat.le_refl _), Heap.get?_push_of_some _ (Heap.get?_push_at rfl rfl)⟩
  have hqq := hq _ _ hm
  unfold callSpecial? specialOf
  refine wpAny_bind (wpAny_holding ?_)
  refine wpAny_bind (wpAny_bind (t1.at ?_))
  refine i1.at ?_
  refine wpAny_holding (wpAny_bind (b1.at ?_))
  refine wpAny_bind (wpAny_mono hqq (fun r s' ⟨hr, hQ⟩ => ?_) fun _ _ x => x)
  subst hr
  refine wpAny_pure ?_
  wp_walk
  exact hQ
end

section
variable {prog : Program} {w : World} {A : Around} {E : Value → Shared → Prop} {s : Shared} {K : Frag}
theorem getMethod_Exc {pl : Sem Bool} {Q : Value × List Value → Shared → Prop} (X : K.In s.heap)
    (e : findCls K (.type "Exception") (.type "type") "__init__" = some (.val (.builtin "Exception.__init__"))) (h : Q (.builtin "Exception.__init__", []) { s with toks := s.toks + 1 }) :
    wpAny (model prog w) A (getMethod (.type "Exception") "__init__" pl) Q E s := by
  have ht : typeOf (.type "Exception") = pure (.type "type") := by first | rfl | kernel_rfl
  have hstub : opaqueClassAbove (.type "Exception") = pure none := by unfold opaqueClassAbove; dsimp only; rw [show Manifest.isStub "Exception" = false by decide +kernel]; rfl
  have L0 : Looks (model prog w) s.heap (typeOf (.type "Exception")) (.type "type") := Looks.of_pure ht
  have LO : Looks (model prog w) s.heap (opaqueClassAbove (.type "Exception")) none := Looks.of_pure hstub
  have hg : findIn K (.type "type") "__getattribute__" = some (some (.builtin "type.__getattribute__")) := type_tga
  unfold getMethod specialOf
  refine wpAny_bind (wpAny_bind (L0.here ((looks_findIn X hg).here ?_)))
  dsimp only
  rw [if_pos canon_tga]
  refine wpAny_bind (wpAny_mono (Q := fun v => Q (v, [])) (E := E) ?_ (fun _ _ z => wpAny_pure z) fun _ _ z => z)
  exact cls_open X LO L0 hg (looks_hook X (r := none) (by rfl)) (by show subIn K _ _ = _; rfl) e
    (wpAny_pure (by show wpAny _ _ (handedOut _) _ _ _; rw [handedOut_of (by rfl)]; exact wpAny_pure h))

variable {h : Heap} {g : Array GenState} {d : Drawn} {t : Nat} {os : OsState}
variable {nm q : Str} {C N : Addr} {bs bm : List Value} {hdct : Bool} {sn : List Str} {sub : List Value} {ab : Bool} {col : Option Bool} {dd : Option Addr} {k0 k1 k2 k3 k5 : Option Value}
theorem excInit_call {e : Addr} {rest : List Value} {Q : Value → Shared → Prop} {t0 : Addr}
    (hC : h.get? C = some (excClassObj nm q C N bs bm hdct sn sub ab col dd k0 k1 k2 k3 k5 "Exception.__new__")) (c1 : bm.contains (.type "Exception") = true)
    (he : h.get? e = some { cls := .ref C, data := .fields #[.ref t0, .none, .none, .none, .bool false, .none] }) (hrest : rest.length ≤ sizeLine)
    (hq : ∀ h' T, h'.get? e = some { cls := .ref C, data := .fields #[.ref T, .none, .none, .none, .bool false, .none] } → (∀ b o, b ≠ e → h.get? b = some o → h'.get? b = some o) → Q .none ⟨h', g, d, t, os⟩) :
    wpAny (model prog w) A (call (.builtin "Exception.__init__") (.ref e :: rest)) Q E ⟨h, g, d, t, os⟩ := by
  have F := PySem.F.excBase_Exception
  have hcB : (Value.ref C :: bm).contains (.type "Exception") = true := by rw [List.contains_cons, c1, Bool.or_true]
  refine wpAny_call (codeAny_call_builtin F.init.plain F.initEntry ?_)
  have hshort := F.noStar
  simp only [checkBuiltinCall, F.initKind, F.initSplit, F.initRow]
  repeat (first | with_reducible refine wpAny_loadPart_at he ?_ | with_reducible refine wpAny_loadPart_at hC ?_ | (with_reducible refine wpAny_isSubtype_exc hC ?_; rw [hcB]) | wp_step)
  refine wpAny_onRaise ?_
  rw [show ∀ (a b : String) (n : Nat), Bind.check ⟨.positional, "*", "Exception", .self, [⟨"args", .varPos, false⟩]⟩ a b n (List.map (fun x => x.fst) ({ pos := Value.ref e :: rest } : Args).kw) = pure () from
    fun a b n => check_star_args _ _ _ _ _ _]
  refine wpAny_pure ?_
  wp_walk
  refine hq _ h.objs.size ?_ (fun b o hb ho => ?_)
  · rw [Heap.get?_update_self _ (Heap.get?_push_of_some _ he) rfl]; rfl
  · rw [Heap.get?_update_other _ _ (Ne.symm hb)]; exact Heap.get?_push_of_some _ ho
end

section
variable {w : World} {A : Around} {E : Value → Shared → Prop} {s : Shared}
theorem excSet {e : Addr} {vs : Array Value} {v : Value} {Q : Unit → Shared → Prop} (X : (KF w).In s.heap) (he : s.heap.get? e = some { cls := .ref 131, data := .fields vs })
    (hq : ∀ h' tk' d', h'.get? e = some { cls := .ref 131, dict := some d', data := .fields vs } → (∀ b o, b ≠ e → s.heap.get? b = some o → h'.get? b = some o) → Q () { s with heap := h', toks := tk' }) :
    wpAny (model pw w) A (setAttr (.ref e) "message" v) Q E s := by
  have SF := PySem.F.store_object
  have SE := PySem.F.store_Exception
  have I : InstAt s.heap e { cls := .ref 131, data := .fields vs } 131 none := ⟨he, rfl, rfl, trivial⟩
  refine set_plain X I (by rfl) ?_
  obtain ⟨hh, g, d, tk, os⟩ := s
  dsimp only at X he hq I ⊢
  have hm : Looks (model pw w) hh (mroOf (.ref 131)) [.ref 131, .ref 118, .type "Exception", .type "BaseException", .type "object"] := (looks_clsIn X (C := 131) (by rfl)).andThen .now
  have sub : Looks (model pw w) hh (isInstance (.ref e) (.type "object")) true := I.type.andThen (looks_mroIn X (by rfl))
  have ha : findIn (KF w) (.ref 131) "message" = some none := by rfl
  refine codeAny_call_builtin SF.slot.plain SF.entry (@check_slot (model pw w) _ _ ⟨hh, g, d, tk + 1, os⟩ "object.__setattr__" "object" "__setattr__" (.ref e) [.str "message" tk, v] [] _ SF.kind SF.split sub (SF.args (.ref e) (.str "message" tk) v) ?_)
  rw [osa_eq, refuse_eq]
  refine wpAny_bind (wpAny_bind (I.type.here (wpAny_bind (hm.here ?_))))
  rw [refuseLoop_ref, refuseLoop_ref, SE.passes]
  refine wpAny_pure (wpAny_bind (I.type.here (wpAny_bind ((looks_findIn X ha).here (wpAny_bind (wpAny_pure ?_))))))
  dsimp only
  refine wpAny_bind (wpAny_pure (wpAny_bind ?_))
  show wpAny _ _ (instanceDict e true) _ _ _
  unfold instanceDict
  refine wpAny_bind (wpAny_loadPart he ?_)
  dsimp only
  refine wpAny_bind ((looks_clsIn X (C := 131) (by rfl)).here ?_)
  rw [if_neg (by decide)]
  rw [if_neg (by decide)]
  have hes : e ≠ hh.objs.size := Nat.ne_of_lt (Heap.lt_size he)
  have he₁ : (hh.push { cls := .type "dict", data := .dict #[] }).get? e = some { cls := .ref 131, data := .fields vs } := Heap.get?_push_of_some _ he
  refine wpAny_bind (wpAny_alloc' ?_)
  refine wpAny_bind (wpAny_update' he₁ ?_)
  refine wpAny_pure ?_
  have hgd : ((hh.push { cls := .type "dict", data := .dict #[] }).update e fun o => { cls := o.cls, dict := some hh.objs.size, data := o.data, slots := o.slots }).get? hh.objs.size
      = some { cls := .type "dict", data := .dict #[] } :=
    (Heap.get?_update_ne _ _ _ _ hes.symm).trans (Heap.get?_push_at rfl rfl)
  have hnd : ((hh.push { cls := .type "dict", data := .dict #[] }).update e fun o => { cls := o.cls, dict := some hh.objs.size, data := o.data, slots := o.slots }).Ns hh.objs.size (fun _ => none) :=
    ⟨_, #[], _, hgd, rfl, fun e he => absurd he (by simp), fun _ => rfl⟩
  dsimp only
  unfold Builtin.ObjectAttr.storeInDict Builtin.ObjectAttr.newKeyGuard
  refine wpAny_bind (wpAny_pure (wpAny_bind (wpAny_nsSet1 (Heap.Ns1.of_empty hnd) fun h' hn' hs => ?_)))
  obtain ⟨oD, esD, epD, hoD, hdD, hcD⟩ := hn'.count (Within.cons (Str.ofString "message") v Within.nil)
  refine wpAny_bind (wpAny_lookBehind hoD (by rw [hdD]; exact pastItsLine_dict (Nat.le_trans hcD (by rw [List.length_cons, List.length_nil, sizeLine_eq]; omega))) ?_)
  refine wpAny_pure ?_
  refine hq h' _ hh.objs.size ?_ (fun b o hb ho => ?_)
  · refine (hs.2 e hes).trans (Heap.get?_update_self _ he₁ rfl)
  · exact (hs.2 b (Nat.ne_of_lt (Heap.lt_size ho))).trans ((Heap.get?_update_ne _ _ _ _ hb).trans (Heap.get?_push_of_some _ ho))
end

section
variable {prog : Program} {w : World} {Kf : Frag} {sc : Scope} {C : Cx prog w Kf sc} {l : List (Option PV)} {Δ : Led}
theorem callWith_bX {id : String} {first : List Value} {e : Expr} {es : List Expr} {pos : Pos} {B : Store} {h : Heap} {tk : Nat} {Qs : List PV → Led → Prop} {Q : Value → Shared → Prop} {E : Value → Shared → Prop} (a : Abs C B l Δ h) (hs : (e :: es).all noStar = true)
    (k : LV C (e :: es) l Δ Qs) (fin : ∀ vs s', PostL C B l Qs vs s' → wpAny (model prog w) C.A (call (.builtin id) (first ++ vs)) Q E s') :
    wpAny (model prog w) C.A (callWith pos (.builtin id) first (backTo pos (starEach (e :: es) C.env)) []) Q E { C.s with heap := h, toks := tk } := by
  refine Calls.callWith_builtin (anyStar' hs) ?_
  rw [List.all_cons, Bool.and_eq_true] at hs
  have := k B h tk pos a
  rw [starEach_cons hs.1] at this ⊢
  exact Calls.evalArgs_plain (wpAny_mono this (fun vs s' z => fin vs s' z) fun _ _ x => x.elim)
end
section
variable {prog : Program} {w : World} {Kf : Frag} {sc : Scope} {C : Cx prog w Kf sc} {l : List (Option PV)} {Δ : Led}
theorem EV_at {e : Expr} {Q : PV → Led → Prop} {B : Store} {h : Heap} {tk : Nat} (x : EV C e l Δ Q) (a : Abs C B l Δ h) : wpAny (model prog w) C.A (eval e C.env) (Post C B l Q) (fun _ _ => False) { C.s with heap := h, toks := tk } := x B h tk a
theorem TV_at {e : Expr} {Q : Bool → Led → Prop} {B : Store} {h : Heap} {tk : Nat} (x : TV C e l Δ Q) (a : Abs C B l Δ h) : wpAny (model prog w) C.A (isTrue e C.env (eval e C.env)) (PostB C B l Q) (fun _ _ => False) { C.s with heap := h, toks := tk } := x B h tk a
end
theorem switch_init {w : World} {D : Bx pw w (KF w)} {B : Store} {Δ : Led} {hh : Heap} {tk : Nat} {e t0 : Addr} {msg : Str} {mv : Value} {R : Result → Shared → Prop} (a : Abs0 D [] B Δ hh) (hK : D.K e = none) (hB : B e = none) (hΔ : Δ e = none)
    (he : hh.get? e = some { cls := .ref 131, data := .fields #[.ref t0, .none, .none, .none, .bool false, .none] }) (hr : 1 ≤ D.room) (rm : VR B (.str msg) mv)
    (hq : ∀ h' tk' B' T d', h'.get? e = some { cls := .ref 131, dict := some d', data := .fields #[.ref T, .none, .none, .none, .bool false, .none] } → B.le B' → Abs0 D [] B' Δ h' → R (.ok (.ret .none)) { D.s with heap := h', toks := tk' }) :
    codeAny (model pw w) D.A (.call (.ref 115) ⟨[.ref e, mv], []⟩) R { D.s with heap := hh, toks := tk } := by
  obtain ⟨n, hn⟩ : ∃ n, D.room = n + 1 := ⟨D.room - 1, by omega⟩
  refine codeAny_enter (ps := [.obj e, .str msg]) (n := n) (B := B) _ _ a (.cons .obj (.cons rm .nil)) (ho := rfl) rfl (by rfl) rfl rfl rfl (bind2 fun _ _ => by rfl) (by rfl) (by decide) hn rfl rfl rfl fun C hC1 hF hA hfr hs hlo dn hCK hown h₁ tk₁ hkeep a₁ => ?_
  have e1 := hkeep _ _ he
  have heo : e ∉ C.own := fun hm => absurd (Heap.lt_size he) (Nat.not_lt.mpr (hown e hm))
  have fo : Off C B Δ e := ⟨by rw [hCK]; exact hK, hB, hΔ, heo⟩
  have ap := a₁.prot fo e1
  refine wpAny_execs_cons (wpAny_Expr_any ?_ (by unfold interactive; rw [C.ekind]; rfl) ((swaps_env C _ _ _).trans (by rfl)))
  refine MethodCall_ (pl := _) ?_ (by rfl)
  refine wpAny_mono (built_at (C := C.prot e _) ap (x := "Exception") (by rfl) (by rfl) PyProof.Rows.Boot.«Exception» (by decide) (P := fun v s' => v = .type "Exception" ∧ s' = { C.s with heap := h₁, toks := tk₁ }) ⟨rfl, rfl⟩ (by rfl)) (fun v s' ⟨ev, es⟩ => ?_) (fun _ _ x => x.elim)
  subst ev; subst es
  refine getMethod_Exc (s := { C.s with heap := h₁, toks := tk₁ }) a₁.kin (by rfl) ?_
  refine callWith_bX (C := C.prot e _) (tk := tk₁ + 1) ap (by rfl) (Qs := fun ps Δ' => ps = [.obj e, .str msg] ∧ Δ' = Δ) (LV_c (EV_nm (LV_c (EV_nm (LV_nil ⟨rfl, rfl⟩))))) ?_
  rintro vs s' ⟨h2, tk2, B2, Δ2, ps, rfl, hB2, a2, r2, rfl, rfl⟩
  obtain ⟨a2', f2, e2⟩ := Abs.unprot fo a₁.base.s0 a2
  obtain ⟨v1, vs1, rfl, r3, r4⟩ := r2.cons_inv
  obtain ⟨v2, vs2, rfl, r5, r6⟩ := r4.cons_inv
  rw [r6.nil_inv, r3.obj_inv]
  have hC2 : h2.get? 131 = _ := a2'.kin 131 _ rfl
  refine excInit_call (rest := [v2]) (bm := [.ref 118, .type "Exception", .type "BaseException", .type "object"]) hC2 (by rfl) e2 (by rw [sizeLine_eq]; simp) fun h3 T e3 k3 => ?_
  have a3 : Abs C B2 _ Δ2 h3 := a2'.other f2 k3
  have ap3 := a3.prot f2 e3
  dsimp only
  change wpAny _ _ _ _ _ { C.s with heap := h3, toks := tk2 }
  refine wpAny_execs_cons (wpAny_Assign_stores (wpAny_mono (EV_at (C := C.prot e _) (EV_nm (Q := fun p Δ' => p = .str msg ∧ Δ' = Δ2) ⟨rfl, rfl⟩) ap3) (fun v s' ⟨h4, tk4, B4, Δ4, p, es, hB4, a4, r7, ep, eΔ⟩ => ?_) fun _ _ x => x.elim) ((swapsSole_env C _ _ _).trans (by rfl)) ((swapped_env C _ _).trans (by rfl)))
  subst es; subst ep; subst eΔ
  show wpAny _ _ (assign (.Attribute _ _ _) C.env v) _ _ _
  refine kas_attr (wpAny_mono (EV_at (C := C.prot e _) (EV_nm (Q := fun p Δ' => p = .obj e ∧ Δ' = Δ4) ⟨rfl, rfl⟩) a4) (fun u s' ⟨h5, tk5, B5, Δ5, p, es, hB5, a5, r8, ep, eΔ⟩ => ?_) fun _ _ x => x.elim)
  subst es; subst ep; subst eΔ
  rw [r8.obj_inv]
  obtain ⟨a5', f5, e5⟩ := Abs.unprot f2 a2'.base.s0 (a5)
  refine excSet (s := { C.s with heap := h5, toks := tk5 }) a5'.kin e5 fun h6 tk6 d6 e6 k6 => ?_
  have a6 : Abs C B5 _ Δ5 h6 := a5'.other f5 k6
  refine wpAny_execs_nil ?_
  dsimp only
  rw [hs]
  exact hq h6 tk6 B5 T d6 e6 (Store.le_trans hB2 (Store.le_trans hB4 hB5)) (dn _ _ _ _ a6)


section
variable {M : Model} {A : Around} {E : Value → Shared → Prop} {env : Env}
variable {C : Addr} {bm : List Value}
noncomputable def IsExcCls (h : Heap) (C : Addr) (bm : List Value) : Prop := ∃ (nm q : Str) (N : Addr) (bs : List Value) (hdct : Bool) (sn : List Str) (sub : List Value) (ab : Bool) (col : Option Bool) (dd : Option Addr) (k0 k1 k2 k3 k5 : Option Value),
  h.get? C = some (excClassObj nm q C N bs bm hdct sn sub ab col dd k0 k1 k2 k3 k5 "Exception.__new__")
theorem raise_made {s : Shared} {x : Sem Value} {Q : Flow → Shared → Prop} (hbase : bm.contains (.type "BaseException") = true) (hh : A.handled = none)
    (h : wpAny M A x (fun v s₁ => ∃ e d T, v = .ref e ∧ IsExcCls s₁.heap C bm ∧
      s₁.heap.get? e = some { cls := .ref C, dict := some d, data := .fields #[.ref T, .none, .none, .none, .bool false, .none] } ∧ E (.ref e) s₁) E s) :
    wpAny M A (raiseStmt env (some x) none) Q E s := by
  have hcB : (Value.ref C :: bm).contains (.type "BaseException") = true := by rw [List.contains_cons, hbase, Bool.or_true]
  unfold raiseStmt
  refine wpAny_bind (wpAny_mono h (fun v s₁ h₁ => ?_) fun _ _ x => x)
  obtain ⟨e, d, T, rfl, ⟨nm, q, N, bs, hdct, sn, sub, ab, col, dd, k0, k1, k2, k3, k5, hC⟩, he, hE⟩ := h₁
  obtain ⟨hp, g, dr, tk, os⟩ := s₁
  repeat (first | with_reducible refine wpAny_loadPart_at he ?_ | with_reducible refine wpAny_loadPart_at hC ?_ | (with_reducible refine wpAny_isSubtype_exc hC ?_; rw [hcB]) | wp_step)
  exact wpAny_raiseNew_none hh hE
end

theorem cost_raise {w : World} {D : Bx pw w (KF w)} {B : Store} {hh : Heap} {tk : Nat} {v0 v1 : Value} {outer : List Env} {base : Heap} {R : Result → Shared → Prop} (a : Abs0 D [] B (fun _ => none) hh) (hall : ∀ b o, hh.get? b = some o → D.K b = some o) (hr : 3 ≤ D.room)
    (r0 : VR B (.int 0) v0) (r1 : VR B (.bool true) v1) (hst : D.A.frames = some outer) (hbase : base.StaysIn hh) (hfun : hh.FunFrames base outer)
    (hq : ∀ h' tk' e a0, Heap.FlyingW base outer e (.ref 131) a0 h' → hh.UpToSlots h' → R (.error (.ref e)) { D.s with heap := h', toks := tk' }) :
    codeAny (model pw w) D.A (.call (.ref 147) ⟨[v0, v1], []⟩) R { D.s with heap := hh, toks := tk } := by
  obtain ⟨n, hn⟩ : ∃ n, D.room = n + 2 := ⟨D.room - 2, by omega⟩
  refine codeAny_enter (ps := [.int 0, .bool true]) (n := n + 1) (B := B) (Δ := fun _ => none) _ _ a (.cons r0 (.cons r1 .nil)) (ho := rfl) rfl (by rfl) rfl rfl rfl (bind2 fun _ _ => by rfl) (by rfl) (by decide) hn rfl rfl rfl fun C hC1 hF hA hfr hs hlo dn hCK hown h₁ tk₁ hkeep a₁ => ?_
  refine wpAny_execs_cons (wpAny_If (wpAny_mono (TV_at (Q := fun b Δ' => b = true ∧ Δ' = fun _ => none) ?_ a₁) (fun c s' z => ?_) fun _ _ x => x.elim))
  · repeat walk_at "s"
    exact ⟨rfl, rfl⟩
  obtain ⟨h2, tk2, B2, Δ2, es, hB2, a2, hc, hΔ2⟩ := z
  subst es; subst hc; subst hΔ2
  rw [if_pos rfl]
  refine wpAny_execs_cons ?_
  rw [arm_exec_Raise]
  have hC2 : h2.get? 131 = _ := a2.kin 131 _ rfl
  refine wpAny_bind (wpAny_standAt (raise_made (C := 131) (bm := [.ref 118, .type "Exception", .type "BaseException", .type "object"]) (by rfl) C.hand (wpAny_bind (wpAny_mono (Call_ (wpAny_mono (glob_at a2 (x := "SizeError") (by rfl) (by rfl) (P := fun v s' => v = .ref 131 ∧ s' = { C.s with heap := h2, toks := tk2 }) ⟨rfl, rfl⟩ (by rfl)) (fun v s' ⟨ev, es⟩ => ?_) fun _ _ x => x.elim)) (fun v s₃ h₃ => wpAny_bind (wpAny_standAt (wpAny_pure h₃))) fun _ _ x => x))))
  subst ev; subst es
  refine callWith_K (h₀ := h2) a2.kin (by rfl) (wpAny_mono (LV_c (Q := fun ps Δ' => ps = [.str "a port without a speed"] ∧ Δ' = fun _ => none) (EV_str (LV_nil ⟨rfl, rfl⟩)) (by rfl) B2 h2 tk2 _ a2) (fun vs s' z => ?_) fun _ _ x => x.elim) (starEach_cons (by rfl)) (anyStar (es := []) (by rfl))
  obtain ⟨h3, tk3, B3, Δ3, ps, es, hB3, a3, r3, rfl, rfl⟩ := z
  subst es
  refine ⟨a3.kin, ?_⟩
  obtain ⟨mv, vs', rfl, r4, r5⟩ := r3.cons_inv
  rw [r5.nil_inv]
  have hC3 : h3.get? 131 = _ := a3.kin 131 _ rfl
  refine exc_call (C := 131) (fI := 115) (rest := [mv]) (bm := [.ref 118, .type "Exception", .type "BaseException", .type "object"]) hC3 (by rfl) (by rfl) (by rfl) (looks_findIn a3.kin (by rfl)) (fun self => bind_fn a3.kin self (by rfl)) (by rw [sizeLine_eq]; simp) fun h4 e hm => ?_
  obtain ⟨T0, he4, hT0, hT04⟩ := hm.there
  have hnew := hm.new
  have kh3 : ∀ b o, hh.get? b = some o → h3.get? b = some o := fun b o hb => a3.base.keepK b o (by rw [hCK]; exact hall b o hb)
  have hb3 : B3 e = none := by
    cases q : B3 e with
    | none => rfl
    | some o => have := a3.base.keepB e o q; rw [hnew] at this; cases this
  have hW : (Code.builtin "type.__call__" ⟨.ref 131 :: [mv], []⟩).weight = 1 := by
    kernel_rfl
  have hU : (Code.builtin "type.__call__" ⟨.ref 131 :: [mv], []⟩).cUnits = 1 := by
    kernel_rfl
  let D2 : Bx pw w (KF w) := { C.toBx with
    A := C.A.under (.builtin "type.__call__" ⟨.ref 131 :: [mv], []⟩)
    K := fun b => if b = e then none else h4.get? b
    S0 := B3
    room := n
    hand := C.hand
    depth := by have := C.depth; rw [hC1] at this; show C.A.depth + Code.weight _ + n < _; rw [hW]; omega
    units := by have := C.units; rw [hC1] at this; show C.A.units + Code.cUnits _ + 10 * n + 200 < _; rw [hU]; omega
    hK := fun b o hb => by
      have h3b := a3.H b o hb
      show (if b = e then none else h4.get? b) = some o
      rw [if_neg (by rintro rfl; rw [hnew] at h3b; cases h3b)]
      exact hm.keeps b o h3b
    tups := fun b o hb hc => a3.base.s0 _ _ (C.tups b o hb hc) }
  have aD : Abs0 D2 [] B3 (fun _ => none) h4 := by
    refine ⟨fun b o hb => ?_, fun b o hb => hm.keeps b o (a3.base.keepB b o hb), fun b m hb => (by cases hb), fun b m hb => (by cases hb), fun b m hb => (by cases hb), (fun b hb => nomatch hb), fun b o hb => .inr hb, Store.le_refl _⟩
    have hb : (if b = e then none else h4.get? b) = some o := hb
    split at hb
    · cases hb
    · exact hb
  have hn1 : 1 ≤ n := by omega
  refine wpAny_call (switch_init (D := D2) (tk := tk3) (msg := "a port without a speed") (mv := mv) aD (if_pos rfl) hb3 rfl he4 hn1 r4 fun h5 tk5 B5 T d5 e5 hB5 a5 => ?_)
  have k45 : ∀ b o, b ≠ e → h4.get? b = some o → h5.get? b = some o := fun b o hb ho => a5.keepK b o (by show (if b = e then none else h4.get? b) = some o; rw [if_neg hb]; exact ho)
  have ne_e : ∀ b o, h3.get? b = some o → b ≠ e := fun b o hb => by rintro rfl; rw [hnew] at hb; cases hb
  have k35 : ∀ b o, h3.get? b = some o → h5.get? b = some o := fun b o hb => k45 b o (ne_e b o hb) (hm.keeps b o hb)
  refine ⟨rfl, e, d5, T, rfl, ⟨_, _, _, _, _, _, _, _, _, _, _, _, _, _, _, k35 _ _ hC3⟩, e5, ?_⟩
  have hAfr : C.A.frames = some (C.env :: outer) := by rw [hA]; exact Around.frames_deeper hst
  have hen : base.get? e = none := by
    cases q : base.get? e with
    | none => rfl
    | some o => have := kh3 e o (hbase e o q); rw [hnew] at this; cases this
  have hLnew : base.get? C.env.locals = none := by
    cases q : base.get? C.env.locals with
    | none => rfl
    | some o => have := Heap.lt_size (hbase _ o q); rw [hlo] at this; exact absurd this (Nat.lt_irrefl _)
  have hNs : ∃ m, h5.Ns C.env.locals m := by
    obtain ⟨m, cm, ⟨o, es, ep, e1, e2, e3⟩, _⟩ := a3.frame
    exact ⟨m, o, es, ep, k35 _ _ e1, e2, e3⟩
  obtain ⟨m, hNs⟩ := hNs
  have hl : h5.FunFrames base (C.env :: outer) := .cons (by rw [C.hsc, C.kind]; decide) hfr hNs hLnew (hfun.of_keeps fun b o hb _ => ⟨o, k35 _ _ (kh3 b o hb), rfl⟩)
  refine wpAny_leaving_firstW (base := base) (outer := outer) (a0 := .ref T) hAfr hl hfr e5 (fun b o hb => k35 _ _ (kh3 b o (hbase b o hb))) hen rfl rfl rfl fun h6 hL => ?_
  obtain ⟨k1, ⟨_, _, k2⟩, k3, k4⟩ := hL
  have := hq h6 tk5 e (.ref T) ⟨k1, hen, k2, k3⟩ (fun b o hb hnf => k4 b o (k35 _ _ (kh3 b o hb)) hnf)
  rw [← hs] at this
  exact this

noncomputable def UpF (fs : List Addr) (h1 h2 : Heap) : Prop := (∀ b o, b ∉ fs → h1.get? b = some o → h2.get? b = some o) ∧ ∀ b o, b ∈ fs → h1.get? b = some o → ∃ sl, h2.get? b = some { o with slots := sl }
theorem UpF.refl (fs : List Addr) (h : Heap) : UpF fs h h := ⟨fun _ _ _ e => e, fun _ o _ e => ⟨o.slots, e⟩⟩
noncomputable def fsOf (l : List Env) : List Addr := l.filterMap (·.frame)
noncomputable def FrK (K : Store) (outer : List Env) : Prop := ∀ env ∈ outer, env.scope.kind ≠ .module ∧ ∃ L o, env.frame = some L ∧ K L = some o ∧ ∀ vs, o.data ≠ .fields vs
theorem FrK.fun {K : Store} {h : Heap} {base : Heap} (k : ∀ b o, K b = some o → h.get? b = some o) : ∀ {outer : List Env}, FrK K outer → (∀ b ∈ fsOf outer, base.get? b = none) → h.FunFrames base outer
  | [], _, _ => trivial
  | env :: outer, x, hb => by
    obtain ⟨h1, L, o, h2, h3, h4⟩ := x env (.head _)
    exact ⟨h1, ⟨L, o, h2, hb L (List.mem_filterMap.mpr ⟨env, .head _, h2⟩), k _ _ h3, h4⟩, FrK.fun k (fun e he => x e (.tail _ he)) fun b hb' => hb b (by
      obtain ⟨e, he, hf⟩ := List.mem_filterMap.mp hb'
      exact List.mem_filterMap.mpr ⟨e, .tail _ he, hf⟩)⟩
section
variable {prog : Program} {w : World} {Kf : Frag} {sc : Scope} {C : Cx prog w Kf sc} {l : List (Option PV)} {Δ : Led} {Q : PV → Led → Prop}
inductive PostX (C : Cx prog w Kf sc) (fs : List Addr) (B : Store) (Q : PV → Led → Prop) (f : Flow) (s' : Shared) : Prop
  | mk (v : Value) (p : PV) (h1 h2 : Heap) (tk : Nat) (B' : Store) (Δ' : Led) (l' : List (Option PV)) (e : f = .ret v) (es : s' = { C.s with heap := h2, toks := tk }) (u : UpF fs h1 h2) (hB : B.le B') (a : Abs C B' l' Δ' h1) (r : VR B' p v) (q : Q p Δ')
noncomputable def SVX (C : Cx prog w Kf sc) (fs : List Addr) (ss : List Stmt) (l : List (Option PV)) (Δ : Led) (Q : PV → Led → Prop) : Prop :=
  ∀ B h tk, Abs C B l Δ h → wpAny (model prog w) C.A (execs ss C.env) (PostX C fs B Q) (fun _ _ => False) { C.s with heap := h, toks := tk }
theorem SVX_cons {fs : List Addr} {st : Stmt} {ss : List Stmt} (h : SV1 C st l Δ (fun l' Δ' => SVX C fs ss l' Δ' Q) Q) : SVX C fs (st :: ss) l Δ Q := fun B hh tk a => by
  refine wpAny_execs_cons (wpAny_mono (h B hh tk a) (fun f s' ⟨h', tk', B', Δ', l', e, hB, a', q⟩ => ?_) fun _ _ x => x)
  subst e
  cases f with
  | next =>
    refine wpAny_mono (q B' h' tk' a') (fun f s' ⟨v, p, h1, h2, tk2, B2, Δ2, l2, e1, e2, u, hB', a2, rv, q2⟩ => ?_) fun _ _ x => x
    exact ⟨v, p, h1, h2, tk2, B2, Δ2, l2, e1, e2, u, Store.le_trans hB hB', a2, rv, q2⟩
  | ret v => obtain ⟨p, rp, qp⟩ := q; exact ⟨v, p, h', h', tk', B', Δ', l', rfl, rfl, UpF.refl _ _, hB, a', rp, qp⟩
  | brk => exact q.elim
  | cont => exact q.elim
theorem Abs.upF {fs : List Addr} {B : Store} {h1 h2 : Heap} (a : Abs C B l Δ h1) (u : UpF fs h1 h2) (hf : ∀ b ∈ fs, b = C.env.locals ∨ (C.K b = none ∧ B b = none ∧ Δ b = none ∧ b ∉ C.own)) : Abs C B l Δ h2 := by
  have own := a.base.offO _ C.locOwn
  have nK : ∀ b o, C.K b = some o → b ∉ fs := fun b o e hm => by
    rcases hf b hm with rfl | ⟨q, _⟩
    · rw [own.1] at e; cases e
    · rw [q] at e; cases e
  have nB : ∀ b o, B b = some o → b ∉ fs := fun b o e hm => by
    rcases hf b hm with rfl | ⟨_, q, _⟩
    · rw [own.2.1] at e; cases e
    · rw [q] at e; cases e
  have nD : ∀ b m, Δ b = some m → b ∉ fs := fun b m e hm => by
    rcases hf b hm with rfl | ⟨_, _, q, _⟩
    · exact (a.base.offΔ _ _ e).2.2 C.locOwn
    · rw [q] at e; cases e
  refine ⟨⟨fun b o e => u.1 b o (nK b o e) (a.base.keepK b o e), fun b o e => u.1 b o (nB b o e) (a.base.keepB b o e), fun b m e => ?_, a.base.offΔ, a.base.big, fun b hb => ?_, a.base.apart, a.base.s0⟩, ?_⟩
  · obtain ⟨o, e1, e2⟩ := a.base.owned b m e; exact ⟨o, u.1 b o (nD b m e) e1, e2⟩
  · obtain ⟨e1, e2, o, e3, e4⟩ := a.base.offO b hb
    by_cases hm : b ∈ fs
    · obtain ⟨sl, e5⟩ := u.2 b o hm e3
      exact ⟨e1, e2, _, e5, e4⟩
    · exact ⟨e1, e2, o, u.1 b o hm e3, e4⟩
  · obtain ⟨m, cm, ⟨o, es, ep, e1, e2, e3⟩, e4, e5⟩ := a.frame
    refine ⟨m, cm, ?_, fun y c e => ?_, e5⟩
    · by_cases hm : C.env.locals ∈ fs
      · obtain ⟨sl, e6⟩ := u.2 _ o hm e1
        exact ⟨_, es, ep, e6, e2, e3⟩
      · exact ⟨o, es, ep, u.1 _ o hm e1, e2, e3⟩
    · obtain ⟨o', e6, e7⟩ := e4 y c e
      refine ⟨o', u.1 c o' (fun hm => ?_) e6, e7⟩
      rcases hf c hm with rfl | ⟨q1, _, _, q4⟩
      · exact C.locCell y _ e rfl
      · rcases C.cellKept y c e with q | q
        · exact q4 q
        · rw [q1] at q; cases q
end

theorem SVX_try {w : World} {sc : Scope} {C : Cx pw w (KF w) sc} {l : List (Option PV)} {Δ : Led} {Q : PV → Led → Prop} {outer : List Env} {rest : List Stmt} {p1 p2 p3 p4 p5 p6 p7 p8 p9 p10 : Pos} {k1 k2 k3 : Nat}
    (hst : C.A.frames = some (C.env :: outer)) (hfr : C.env.frame = some C.env.locals) (hfk : FrK C.K outer) {H0 : Heap} (g0 : Gnd pw w (KF w) H0) (h0 : ∀ b o, H0.get? b = some o → C.K b = some o) (hH : ∀ b ∈ fsOf outer, H0.get? b = none) (hr : 3 ≤ C.room) (hx1 : sc.names.lookup ("cost_of" : Str) = some .globalImplicit) (hx2 : sc.names.lookup ("SizeError" : Str) = some .globalImplicit)
    (hsw : swapsWith (.Call (.Name "cost_of" p1) [.Constant (.int 0) k1 p2, .Constant (.bool true) k2 p3] [] p4) none p5.line (envS sc) = pure false) (q : Q (.bool true) Δ) :
    SVX C (fsOf (C.env :: outer)) (.Try [.Expr (.Call (.Name "cost_of" p1) [.Constant (.int 0) k1 p2, .Constant (.bool true) k2 p3] [] p4) p5] [.ExceptHandler (some (.Name "SizeError" p6)) none [.Return (some (.Constant (.bool true) k3 p7)) p8] p9] [] [] p10 :: rest) l Δ Q := fun B h tk a => by
  refine wpAny_execs_cons (wpAny_Try_except ?_)
  refine wpAny_execs_cons (wpAny_Expr_any ?_ (by unfold interactive; rw [C.ekind]; rfl) ((swaps_env C _ _ _).trans hsw))
  refine Call_ (wpAny_mono (glob_at a (x := "cost_of") hx1 (by rfl) (P := fun v s' => v = .ref 147 ∧ s' = { C.s with heap := h, toks := tk }) ⟨rfl, rfl⟩ (by rfl)) (fun v s' ⟨ev, es⟩ => ?_) fun _ _ x => x.elim)
  subst ev; subst es
  refine callWith_K (h₀ := h) a.kin (by rfl) (wpAny_mono (LV_c (Q := fun ps Δ' => ps = [.int 0, .bool true] ∧ Δ' = Δ) (EV_int (LV_c (EV_bool (LV_nil ⟨rfl, rfl⟩)) (by rfl))) (by rfl) B h tk _ a) (fun vs s' z => ?_) fun _ _ x => x.elim) (starEach_cons (by rfl)) (anyStar (es := [.Constant (.bool true) k2 p3]) (by rfl))
  obtain ⟨h1, tk1, B1, Δ1, ps, es, hB1, a1, r1, rfl, rfl⟩ := z
  subst es
  obtain ⟨v0, vs1, rfl, r2, r3⟩ := r1.cons_inv
  obtain ⟨v1, vs2, rfl, r4, r5⟩ := r3.cons_inv
  rw [r5.nil_inv]
  let D1 : Bx pw w (KF w) := { C.toBx with K := fun b => h1.get? b, S0 := B1, hK := a1.H, tups := fun b o hb hc => a1.base.s0 _ _ (C.tups b o hb hc) }
  have aD : Abs0 D1 [] B1 (fun _ => none) h1 := ⟨fun b o hb => hb, a1.base.keepB, fun b m hb => (by cases hb), fun b m hb => (by cases hb), fun b m hb => (by cases hb), (fun b hb => nomatch hb), fun b o hb => .inr hb, Store.le_refl _⟩
  have hNs : ∃ m, h1.Ns C.env.locals m := by obtain ⟨m, cm, e1, _⟩ := a1.frame; exact ⟨m, e1⟩
  obtain ⟨m, hNs⟩ := hNs
  have hin : C.env.locals ∈ fsOf (C.env :: outer) := List.mem_filterMap.mpr ⟨C.env, .head _, hfr⟩
  have hsub : ∀ b ∈ fsOf outer, b ∈ fsOf (C.env :: outer) := fun b hb => by
    obtain ⟨e, he, hf⟩ := List.mem_filterMap.mp hb
    exact List.mem_filterMap.mpr ⟨e, .tail _ he, hf⟩
  have hfun : h1.FunFrames (hideAll h1 (fsOf (C.env :: outer))) (C.env :: outer) :=
    .cons (by rw [C.hsc, C.kind]; decide) hfr hNs (hideAll_none _ hin) (FrK.fun a1.base.keepK hfk fun b hb => hideAll_none _ (hsub b hb))
  have hHn : ∀ b ∈ fsOf (C.env :: outer), H0.get? b = none := fun b hb => by
    obtain ⟨e, he, hf⟩ := List.mem_filterMap.mp hb
    rcases List.mem_cons.mp he with rfl | he
    · rw [hfr] at hf; cases hf
      cases q : H0.get? C.env.locals with
      | none => rfl
      | some o => have := h0 _ _ q; rw [(a1.base.offO _ C.locOwn).1] at this; cases this
    · exact hH b (List.mem_filterMap.mpr ⟨e, he, hf⟩)
  have kH : ∀ {h' : Heap}, (hideAll h1 (fsOf (C.env :: outer))).StaysIn h' → ∀ b o, H0.get? b = some o → h'.get? b = some o := fun k b o hb =>
    k b o (hideAll_get _ (a1.base.keepK b o (h0 b o hb)) fun hm => by rw [hHn b hm] at hb; cases hb)
  refine ⟨a1.kin, wpAny_call (cost_raise (D := D1) (tk := tk1) (outer := C.env :: outer) (base := hideAll h1 (fsOf (C.env :: outer))) aD (fun b o hb => hb) hr r2 r4 hst (fun b o e => of_hideAll _ e) hfun fun h2 tk2 e a0 hfl hups => ?_)⟩
  dsimp only
  refine wpAny_looks_onW (s := { C.s with heap := h2, toks := tk2 }) hst hfr hfl fun h3 hheld hs3 => ?_
  refine wpAny_landsW hheld fun h4 hfl4 hs4 => ?_
  change wpAny _ _ _ _ _ { C.s with heap := h4, toks := tk2 }
  have kH4 := kH hfl4.1
  have hC4 : h4.get? 131 = _ := kH4 131 _ (g0.kin 131 _ rfl)
  obtain ⟨ob, hob, hobc⟩ := hfl4.there
  obtain ⟨mg, mb, hng, hnb, hb⟩ := g0.ns
  have hname : ∀ {P : Value → Shared → Prop} {E' : Value → Shared → Prop}, P (.ref 131) { C.s with heap := h4, toks := tk2 } → wpAny (model pw w) (C.A.mark (some (.ref e))) (eval (.Name "SizeError" p6) C.env) P E' { C.s with heap := h4, toks := tk2 } := fun hP =>
    Calls.Name_function_global C.ekind ((C.kindOf _).trans hx2) (Calls.loadGlobal_global (mg := mg) (by rw [C.globals]; exact hng.keeps kH4) (mg_of g0.kin hng (by rfl)) hP) (by rfl)
  refine wpAny_handleBy_cons (codeAny_handlers_test (hname ?_)) (by intro q; cases q)
  refine wpAny_excMatches_sub_self (bm := [.ref 118, .type "Exception", .type "BaseException", .type "object"]) hC4 hob hobc (by rfl) ?_
  dsimp only
  rw [if_pos rfl]
  dsimp only
  refine codeAny_handlers_suite (lands_againW (s := { C.s with heap := h4, toks := tk2 }) hfl4 fun h5 hfl5 hs5 => ?_)
  refine wpAny_execs_cons (wpAny_Return_some (wpAny_Constant_bool ?_))
  dsimp only
  have hU : UpF (fsOf (C.env :: outer)) h1 h5 := by
    refine ⟨fun b o hb ho => hfl5.1 b o (hideAll_get _ ho hb), fun b o hb ho => ?_⟩
    obtain ⟨_, o', ho', hnf⟩ := hfun.mem hb
    rw [ho] at ho'; cases ho'
    exact ((hups.trans hs3).trans (hs4.trans hs5)) b o ho hnf
  exact ⟨.bool true, .bool true, h1, h5, tk2, B1, Δ1, l, rfl, rfl, hU, hB1, a1, .bool, q⟩


theorem SVX_at {prog : Program} {w : World} {Kf : Frag} {sc : Scope} {C : Cx prog w Kf sc} {l : List (Option PV)} {Δ : Led} {Q : PV → Led → Prop} {fs : List Addr} {ss : List Stmt} {B : Store} {h : Heap} {tk : Nat} (x : SVX C fs ss l Δ Q) (a : Abs C B l Δ h) :
    wpAny (model prog w) C.A (execs ss C.env) (PostX C fs B Q) (fun _ _ => False) { C.s with heap := h, toks := tk } := x B h tk a

section
variable {w : World} {sc : Scope} {C : Cx pw w (KF w) sc} {l : List (Option PV)} {Δ : Led} {Q : PV → Led → Prop}
theorem call_speeds {B : Store} {h : Heap} {tk : Nat} {S : Addr} {x y : Int} {vs : List Value} (a : Abs C B l Δ h) (r : VRs B [.obj S] vs) (hS : SrcL Δ S x y)
    (hst : C.A.frames = some [C.env]) (hfr : C.env.frame = some C.env.locals) (hr : 5 ≤ C.room) (q : ∀ Δ' x y, SrcL Δ' S x y → Q (.bool true) Δ') :
    wpAny (model pw w) C.A (call (.ref 244) vs) (Post C B l Q) (fun _ _ => False) { C.s with heap := h, toks := tk } := by
  obtain ⟨n, hn⟩ : ∃ n, C.room = n + 1 := ⟨C.room - 1, by omega⟩
  refine wpAny_call (codeAny_enter (D := C.down h) (ps := [.obj S]) (n := n) (B := B) (Δ := Δ) _ _ a.down r (ho := rfl) rfl (by rfl) rfl rfl rfl (bind1 fun _ => by rfl) (by rfl) (by decide) hn rfl rfl rfl fun C2 hC1 hF hA hfr2 hs hlo dn hCK hown h₁ tk₁ hkeep a₁ => ?_)
  have hst2 : C2.A.frames = some [C2.env, C.env] := by rw [hA]; exact Around.frames_deeper hst
  have hr2 : 4 ≤ C2.room := by omega
  obtain ⟨oK, oB, oL, oh, oN⟩ := a.base.offO _ C.locOwn
  have hdat : ∀ us, oL.data ≠ .fields us := by
    obtain ⟨m, cm, ⟨o, es, ep, e1, e2, e3⟩, _⟩ := a.frame
    rw [oh] at e1; cases e1
    intro us e; rw [e2] at e; cases e
  have hfk : FrK C2.K [C.env] := by
    intro env he
    rw [List.mem_singleton] at he; subst he
    refine ⟨by rw [C.hsc, C.kind]; decide, C.env.locals, oL, hfr, ?_, hdat⟩
    rw [hCK]
    show downK C.K C.own h C.env.locals = some oL
    rw [downK_own oK C.locOwn]; exact oh
  have h0 : ∀ b o, C.H.get? b = some o → C2.K b = some o := fun b o e => by
    rw [hCK]; exact downK_of (C.hK b o e)
  have hH : ∀ b ∈ fsOf [C.env], C.H.get? b = none := by
    intro b hb
    obtain ⟨env, he, hf⟩ := List.mem_filterMap.mp hb
    rw [List.mem_singleton] at he; subst he
    rw [hfr] at hf; cases hf
    cases q : C.H.get? C.env.locals with
    | none => rfl
    | some o => have := C.hK _ _ q; rw [oK] at this; cases this
  refine wpAny_mono (SVX_at (fs := fsOf [C2.env, C.env]) (Q := fun p Δ' => p = .bool true ∧ ∃ x y, SrcL Δ' S x y) ?_ a₁) (fun fl s' ⟨v, p, h1, h2, tk2, B2, Δ2, l2, e1, e2, u, hB, a2, rv, ep, x2, y2, q2⟩ => ?_) fun _ _ z => z.elim
  · clear dn hkeep
    refine SVX_cons ?_
    repeat walk_at "s"
    refine EV_ls ?_
    repeat walk_at "s"
    refine F_takeL (t := 20) hS (by decide) (by decide) fun d1 x1 y1 d1a d1b o1 => ?_
    have hs1 : SrcL (Δ.upd S (src x1 y1)) S x1 y1 := ⟨Led.upd_self _ _ _, o1⟩
    generalize Δ.upd S (src x1 y1) = Δ1 at hs1
    repeat walk_at "s"
    refine F_takeL (t := 2000) hs1 (by decide) (by decide) fun d2 x2 y2 d2a d2b o2 => ?_
    have hs2 : SrcL (Δ1.upd S (src x2 y2)) S x2 y2 := ⟨Led.upd_self _ _ _, o2⟩
    generalize Δ1.upd S (src x2 y2) = Δ2 at hs2
    repeat walk_at "s"
    refine BO_pow ?_ (by decide) (by decide) (by decide)
    repeat walk_at "s"
    refine F_takeL (t := 10 ^ 8) hs2 (by decide) (by decide) fun d3 x3 y3 d3a d3b o3 => ?_
    have hs3 : SrcL (Δ2.upd S (src x3 y3)) S x3 y3 := ⟨Led.upd_self _ _ _, o3⟩
    generalize Δ2.upd S (src x3 y3) = Δ3 at hs3
    repeat walk_at "s"
    refine ⟨rfl, ?_⟩
    repeat walk_at "s"
    refine CSR.le (n := 2 + 2) ?_ (by omega)
    refine F_oneL (ps := [.int d1, .int d2, .int d3]) hs3 (by simp) (by simp) fun p x4 y4 hp o4 => ?_
    have hs4 : SrcL (Δ3.upd S (src x4 y4)) S x4 y4 := ⟨Led.upd_self _ _ _, o4⟩
    generalize Δ3.upd S (src x4 y4) = Δ4 at hs4
    obtain ⟨d, rfl, hd0, hd1⟩ : ∃ d : Int, p = .int d ∧ 0 ≤ d ∧ d < 10 ^ 8 := by
      simp at hp; rcases hp with rfl | rfl | rfl
      · exact ⟨_, rfl, by omega, by omega⟩
      · exact ⟨_, rfl, by omega, by omega⟩
      · exact ⟨_, rfl, by omega, by omega⟩
    repeat walk_at "s"
    refine SVX_cons ?_
    refine SV1_for ?_
    refine EV_ls ?_
    repeat walk_at "s"
    refine ⟨rfl, ?_⟩
    refine ⟨_, _, .list _, trivial, fun i l Δ' => ∃ z, l = [some (.obj S), some (.int (1 + d)), z, none, none, none, none] ∧ ∃ x y, SrcL Δ' S x y, ⟨none, rfl, _, _, hs4⟩, fun _ _ _ _ => trivial, ?_, ?_⟩
    · rintro C' hC i p l₁ Δ₁ hi ⟨z, rfl, x5, y5, hs5⟩
      have hr3 : 4 ≤ C'.room := hC.1 ▸ hr2
      obtain ⟨b, rfl⟩ : ∃ b, p = .bool b := by
        have := List.mem_of_getElem? hi
        simp at this; rcases this with rfl | rfl <;> exact ⟨_, rfl⟩
      repeat walk_at "s"
      refine CSR.le (n := 3 + 1) ?_ (by omega)
      refine F_cost_of (by omega) (by omega) ?_
      repeat walk_at "s"
      refine F_takeL (t := 1000) hs5 (by decide) (by decide) fun d6 x6 y6 d6a d6b o6 => ?_
      have hs6 : SrcL (Δ₁.upd S (src x6 y6)) S x6 y6 := ⟨Led.upd_self _ _ _, o6⟩
      generalize Δ₁.upd S (src x6 y6) = Δ6 at hs6
      repeat walk_at "s"
      refine CSR.le (n := 3 + 1) ?_ (by omega)
      refine F_cost_of (by omega) (by omega) ?_
      repeat walk_at "s"
      have hle : costOf (1 + d + 1 + d6) b ≤ costOf (1 + d) b := costOf_anti (by omega) (by omega)
      rw [if_neg (by simp; omega)]
      repeat walk_at "s"
      exact ⟨_, rfl, _, _, hs6⟩
    · rintro l₁ Δ₁ ⟨z, rfl, x5, y5, hs5⟩
      refine SVX_try hst2 hfr2 hfk C.gnd h0 hH (by omega) (by rfl) (by rfl) (by rfl) ⟨rfl, _, _, hs5⟩
  subst e1; subst e2; subst ep
  have a3 := dn _ _ _ _ a2
  have a4 : Abs C B2 l Δ2 h1 := a.up hB a3
  obtain ⟨pK, pB, _⟩ := a2.base.offO _ C2.locOwn
  have hz : C2.env.locals = h.objs.size := hlo
  refine ⟨h2, tk2, B2, Δ2, _, by rw [hs]; rfl, hB, a4.upF u (fun b hb => ?_), rv, q _ _ _ q2⟩
  obtain ⟨env, he, hf⟩ := List.mem_filterMap.mp hb
  rcases List.mem_cons.mp he with rfl | he
  · rw [hfr2] at hf; cases hf
    refine .inr ⟨?_, pB, ?_, ?_⟩
    · cases e : C.K C2.env.locals with
      | none => rfl
      | some o => have := Heap.lt_size (a.base.keepK _ _ e); rw [hz] at this; exact absurd this (Nat.lt_irrefl _)
    · cases e : Δ2 C2.env.locals with
      | none => rfl
      | some m => exact absurd C2.locOwn (a2.base.offΔ _ _ e).2.2
    · intro hm
      obtain ⟨_, _, o, e, _⟩ := a.base.offO _ hm
      have := Heap.lt_size e; rw [hz] at this; exact absurd this (Nat.lt_irrefl _)
  · rw [List.mem_singleton] at he; subst he
    rw [hfr] at hf; cases hf
    exact .inl rfl
end


section
variable {w : World} {sc : Scope} {C : Cx pw w (KF w) sc} {l : List (Option PV)} {Δ : Led} {Q : PV → Led → Prop}
theorem EV_speeds {xp pos : Pos} {e : Expr} {k : Nat} (hst : C.A.frames = some [C.env]) (hfr : C.env.frame = some C.env.locals) (hr : 5 ≤ C.room)
    (h : LV C [e] l Δ (fun ps Δ' => ∃ S, ps = [.obj S] ∧ (∃ x y, SrcL Δ' S x y) ∧ ∀ Δ'' x y, SrcL Δ'' S x y → Q (.bool true) Δ''))
    (hx : nidx sc (Str.ofString "_law_speeds_right") = some (k, .globalImplicit) := by rfl) (hs : [e].all noStar = true := by rfl) : EV C (.Call (.Name (Str.ofString "_law_speeds_right") xp) [e] [] pos) l Δ Q := fun B hh tk a => by
  refine Call_ (glob_at a (lookup_at C.nodup (nidx_at hx)) (v := .ref 244) (by rfl) ?_ (by rfl))
  rw [List.all_cons, Bool.and_eq_true] at hs
  refine callWith_K (h₀ := hh) a.kin (by rfl) (wpAny_mono (h B hh tk pos a) (fun vs s' ⟨h', tk', B', Δ', ps, e', hB, a', r, S, ep, ⟨x1, y1, hS⟩, q⟩ => ?_) fun _ _ x => x) (starEach_cons hs.1) (anyStar (es := []) hs.2)
  subst e'; subst ep
  refine ⟨a'.kin, ?_⟩
  exact wpAny_mono (call_speeds a' r hS hst hfr hr q) (fun _ _ z => z.trans hB) fun _ _ x => x
end

theorem ints_of_well {P : Params} {h : Heap} {B : Store} : ∀ {ns : List Int} {vs : List Value}, WellAll P h vs (ofPys (ns.map PyData.int)) → VRs B (ns.map PV.int) vs
  | [], _, x => by cases x; exact .nil
  | n :: ns, _, x => by
    cases x with
    | cons a b =>
      cases a with
      | int _ t => exact .cons .int (ints_of_well b)

theorem top_enter {w : World} {s₁ : Shared} {mg mb : Str → Option Value} {fa a : Addr} {cd : Value} {ns : List Int} {h₁ : Heap} {tk : Nat} {name : Str} {scope : Scope} {body : List Stmt} {loose : List Str} {mean : ExcName → Option Value} {p : Program} {m0 : Str → Option Value}
    {Q : Flow → Shared → Prop} {E : Value → Shared → Prop}
    (T : Top p loose mean mg mb s₁.heap) (KX : (KF w).In s₁.heap) (hw : Well w.params s₁.heap (.ref a) (ofPy (PyData.list (ns.map PyData.int))))
    (hc : ¬ ((63 : Nat) : Int) < ((ns.length : Nat) : Int)) (F : Fr s₁.heap s₁.heap.objs.size h₁ m0) (hm : m0 "script" = some (.ref a))
    (hk : scope.kind = .function) (hnd : (scope.names.map (·.1)).Nodup) (hnc : scope.names.all (fun y => y.2 != NameKind.cell) = true) (hn0 : scope.names[0]? = some (Str.ofString "script", NameKind.local))
    (h : ∀ ns : List Int, ns.length ≤ 63 → ∀ C : Cx pw w (KF w) scope, C.room = 20 → C.isFn = true → C.A.frames = some [C.env] → C.env.frame = some C.env.locals → SV C body (startL scope [.list (ns.map PV.int)]) (fun _ => none) (fun _ _ => False) (fun p _ => p = .bool true))
    (q : ∀ h' tk' m, Fr s₁.heap s₁.heap.objs.size h' m → Q (.ret (.bool true)) { s₁ with heap := h', toks := tk' }) :
    wpAny (model pw w) (callerA.deeper (envOf name scope s₁.heap.objs.size fa cd)) (execs body (envOf name scope s₁.heap.objs.size fa cd)) Q E { s₁ with heap := h₁, toks := tk } := by
  have G : Gnd pw w (KF w) s₁.heap := ⟨KX, ⟨mg, mb, T.g, T.b, T.builtins⟩, T.nolimit⟩
  obtain ⟨oL, esL, epL, hoL, hdL, hmL⟩ := F.ns
  have hfresh : s₁.heap.get? s₁.heap.objs.size = none := Heap.get?_none_of_le (Nat.le_refl _)
  let C : Cx pw w (KF w) scope := {
    A := callerA.deeper (envOf name scope s₁.heap.objs.size fa cd)
    s := s₁
    K := fun b => s₁.heap.get? b
    S0 := fun b => s₁.heap.get? b
    H := s₁.heap
    room := 20
    hand := rfl
    depth := by show 1 + claimMargin + 1 + 20 < recursionLimit; decide +kernel
    units := by show 4 + 3 + 10 * 20 + 200 < cLine; decide +kernel
    gnd := G
    hK := fun _ _ e => e
    tups := fun _ _ e _ => e
    env := envOf name scope s₁.heap.objs.size fa cd
    own := [s₁.heap.objs.size]
    hsc := rfl
    kind := hk
    globals := rfl
    builtins := rfl
    nodup := hnd
    isFn := true
    cellsOwn := fun _ x e => by have := List.all_eq_true.mp hnc _ (PySem.mem_of_lookup e); simp at this
    locOwn := List.mem_cons_self
    locCell := fun x c e => by cases e
    cellApart := fun x y c e => by cases e
    cellKept := fun x c e => by cases e }
  have a₁ : Abs C (fun b => s₁.heap.get? b) (startL scope [.list (ns.map PV.int)]) (fun _ => none) h₁ := by
    refine ⟨⟨F.keep, F.keep, fun b m e => (by cases e), fun b m e => (by cases e), fun b m e => (by cases e), fun b hb => ?_, fun b o e => .inr e, Store.le_refl _⟩, ?_⟩
    · rw [List.mem_singleton] at hb; subst hb
      exact ⟨hfresh, hfresh, oL, hoL, notSeq_dict hdL⟩
    · refine ⟨m0, fun _ => none, F.ns, fun y c e => (by cases e), fun i y k p e1 e2 => ?_⟩
      have hi : i = 0 ∧ p = .list (ns.map PV.int) := by
        unfold startL at e2
        cases i with
        | zero => simp at e2; exact ⟨rfl, e2.symm⟩
        | succ i =>
          rw [List.getElem?_append_right (by simp), List.getElem?_replicate] at e2
          split at e2 <;> cases e2
      obtain ⟨rfl, rfl⟩ := hi
      rw [hn0] at e1; cases e1
      refine ⟨.ref a, hm, ?_⟩
      cases hw with
      | list e x =>
        unfold VR
        exact ⟨a, _, 0, rfl, e, ints_of_well x⟩
  refine wpAny_mono (h ns (by omega) C rfl rfl rfl rfl _ h₁ tk a₁) (fun f s' ⟨h', tk', B', Δ', l', es, hB, a', z⟩ => ?_) fun _ _ x => x.elim
  subst es
  cases f with
  | next => exact z.elim
  | brk => exact z.elim
  | cont => exact z.elim
  | ret v =>
    obtain ⟨p, rp, rfl⟩ := z
    rw [rp.bool_inv]
    obtain ⟨m, cm, hns, _⟩ := a'.frame
    exact q h' tk' m ⟨hns, fun b o e => a'.base.keepK b o e, Nat.le_refl _⟩

local macro_rules | `(tactic| k_qdec) => `(tactic| decide +kernel)
theorem law_holds : PySem.Challenge.rw_pc0367_01.Holds :=
  hd (by
    intro w s₀ s₁ mg mb G Y fa o pm cd doc dV kV ho hdat hcd hD hmg hg args vals as hpre hlay hrd hwl hlo
    have KX := kIn_of Y
    refine Ground.open G ?_
    intro T B D TE TW
    clear B D TE TW G Y
    wrow_args hpre hlay hrd hwl hlo
    refine enter_call ?_
    w_top on
    try refine codeAny_mono ?_ (fun _ _ g => GoodW.toG g)
    w_call any ho hdat hcd hD T F
    clear hdat
    k_drop
    refine top_enter (by assumption) (by assumption) (by assumption) (by assumption) (by assumption) (by rfl) rfl (by decide) (by decide) rfl ?_ ?_
    · intro ns hz C hroom hf hst hfr
      refine SV_cons ?_
      refine SV1_for ?_
      repeat walk_at "s"
      refine BC_lenL (.f _ _) ?_ (by simp; omega)
      repeat walk_at "s"
      obtain ⟨n, hn, hn2⟩ : ∃ n : Nat, max 1 (min ((ns.map PV.int).length : Int) 2) = n ∧ n ≤ 2 := ⟨(max 1 (min ((ns.map PV.int).length : Int) 2)).toNat, by omega, by omega⟩
      rw [hn]
      repeat walk_at "s"
      refine ⟨_, _, .rng n (by omega), trivial, fun i l Δ' => ∃ z1 z2, l = [some (.list (ns.map PV.int)), z1, z2, none, none, none, none, none, none, none, none, none], ⟨none, none, rfl⟩, fun _ _ _ _ => trivial, ?_, ?_⟩
      · rintro C' hC i p l₁ Δ₁ hi ⟨z1, z2, rfl⟩
        obtain ⟨hin, rfl⟩ := rng_at hi
        have hr' : 20 ≤ C'.room := by rw [hC.1, hroom]; exact Nat.le_refl _
        have hst' : C'.A.frames = some [C'.env] := by rw [hC.2.2.2.1, hC.2.2.2.2]; exact hst
        have hfr' : C'.env.frame = some C'.env.locals := by rw [hC.2.2.2.2]; exact hfr
        repeat walk_at "s"
        refine F_pool (n := 19) (by omega) (by omega) fun S x y hS ho => ?_
        have hs : SrcL (Δ₁.upd S (src x y)) S x y := ⟨Led.upd_self _ _ _, ho⟩
        generalize Δ₁.upd S (src x y) = Δ2 at hs
        repeat walk_at "s"
        refine TV_of ?_ rfl
        repeat walk_at "s"
        refine CSR.le (n := 13 + 6) ?_ (by omega)
        refine F_tree_right hs fun Δ3 x3 y3 hs3 => ⟨true, rfl, ?_⟩
        rw [if_neg (by decide)]
        repeat walk_at "s"
        refine TV_of ?_ rfl
        refine EV_speeds hst' hfr' (by omega) ?_
        repeat walk_at "s"
        refine ⟨S, rfl, ⟨_, _, hs3⟩, fun Δ4 x4 y4 hs4 => ⟨true, rfl, ?_⟩⟩
        rw [if_neg (by decide)]
        repeat walk_at "s"
        exact ⟨_, _, rfl⟩
      · rintro l₁ Δ₁ ⟨z1, z2, rfl⟩
        have hr : 20 ≤ C.room := by omega
        repeat walk_at "s"
        refine ⟨rfl, ?_⟩
        repeat walk_at "s"
        refine ⟨rfl, ?_⟩
        repeat walk_at "s"
        refine F_own_vector (n := 19) ?_
        repeat walk_at "s"
        refine F_with_cost (n := 19) ?_
        repeat walk_at "s"
        refine F_with_cost (n := 19) ?_
        repeat walk_at "s"
        rfl
    · intro h' tk' m F'
      refine' goodW_bool F' (by assumption) (raisesW_false (by wrow_none_raised)) (postW_of ?pshape ?pvalue ?pend)
      (case pshape => rfl)
      (case pvalue => wtm_val)
      (case pend => rfl))
end Mine
theorem PySem.Challenge.cw_pc0367_01_holds : PySem.Challenge.rw_pc0367_01.Holds :=
  Mine.law_holds
